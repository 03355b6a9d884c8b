import PyProof.Rows.All
import Wide.All
import OpenK.AllK
import Wide.FinOn
import HandS.ForMost
import HandS.IsInst
import HandS.Evl
import HandS.More
import HandS.Defaults
import HandS.HeadHook4
import HandS.Star
import HandS.SlotsOwn
import HandS.ClsMeth
import HandS.TupLe
import HandS.Property
import KE.KOpsOwn
import PyProof.InstNe
import PyProof.FactsAll.object
import PyProof.SeqIndex
import HandS.HeadNt
import HandS.Dict
import HandS.Deep
import HandS.Nested
import HandS.ExcInit
import HandS.ExcField
import HandS.ExcIs
import HandS.ExcOwn
import KE.KExcSuper
import HandS.HotCalls
import HandS.ExcInitHot
import KE.KExcIs
import HandS.TryMany
import HandS.Iter
import KE.KStateDown
import HandS.HeadEnd
import HandS.Head0
import HandS.Head1
import HandS.Head2
import PySem.Challenge.RW_forkwaits_k07_products_of_kins
set_option Elab.async false
set_option linter.all false
set_option maxRecDepth 100000
set_option maxHeartbeats 4000000
namespace Fw
open PySem PySem.Spec PyProof.Rows L2

/-! ### the drawing state, the order of heaps -/
/-- a drawing state at st, its numbers at l -/
def Drw (H : Hp) (st l : Addr) : Prop := ∃ (ns : List Int) (p c n b : Int), H st = some (.lst [.ref l, .int p, .int c, .int n, .int b]) ∧ 0 ≤ p ∧ H l = some (.lst (ns.map V.int))
/-- where a drawing state stands, if there is one -/
abbrev Dst := Option (Addr × Addr)
def Sx (S : Dst) (b : Addr) : Prop := ∃ p, S = some p ∧ (b = p.1 ∨ b = p.2)
/-- what may happen: new objects; at the places of S the drawing goes on -/
def Lx (S : Dst) (H H' : Hp) : Prop := (∀ b o, ¬ Sx S b → H b = some o → H' b = some o) ∧ ∀ p, S = some p → Drw H' p.1 p.2
theorem sx_none {b : Addr} : ¬ Sx none b := fun ⟨_, h, _⟩ => nomatch h
section
variable {S : Dst} {H H1 H2 H' : Hp}
theorem Lx.refl (h : Lx S H H1) : Lx S H1 H1 := ⟨fun _ _ _ e => e, h.2⟩
theorem Lx.rfl0 : Lx none H H := ⟨fun _ _ _ e => e, fun _ h => nomatch h⟩
theorem Lx.trans (a : Lx S H H1) (b : Lx S H1 H2) : Lx S H H2 := ⟨fun c o n e => b.1 c o n (a.1 c o n e), b.2⟩
theorem Lx.ns (h : Lx S H H1) {p : Addr} (e : H1 p = none) : ¬ Sx S p := fun ⟨q, hq, hp⟩ => by
  obtain ⟨_, _, _, _, _, h1, _, h2⟩ := h.2 q hq
  rcases hp with rfl | rfl
  · rw [e] at h1; cases h1
  · rw [e] at h2; cases h2
theorem Drw.put {st l p : Addr} {o : HO} (h : Drw H st l) (h1 : st ≠ p) (h2 : l ≠ p) : Drw (upd H p o) st l := by
  obtain ⟨ns, x, c, n, d, q, h0, hl⟩ := h
  exact ⟨ns, x, c, n, d, by rw [upd_ne h1]; exact q, h0, by rw [upd_ne h2]; exact hl⟩
/-- an own object is laid or changed -/
theorem Lx.put (h : Lx S H H1) {p : Addr} (n : ¬ Sx S p) (f : ∀ u, H p = some u → False) {o : HO} : Lx S H (upd H1 p o) := by
  refine ⟨fun b u nb q => ?_, fun q hq => ?_⟩
  · have z : b ≠ p := fun z => by subst z; exact f u q
    rw [upd_ne z]; exact h.1 b u nb q
  · exact (h.2 q hq).put (fun z => n ⟨q, hq, .inl z.symm⟩) (fun z => n ⟨q, hq, .inr z.symm⟩)
theorem Lx.new (h : Lx S H H1) {p : Addr} (e : H1 p = none) {o : HO} : Lx S H1 (upd H1 p o) := h.refl.put (h.ns e) fun u q => by rw [e] at q; cases q
theorem Lx.fresh (h : Lx S H H1) {p : Addr} (e : H1 p = none) : H p = none := by
  cases q : H p with
  | none => rfl
  | some o =>
    have z := h.1 p o (h.ns e) q
    rw [e] at z; cases z
theorem Lx.of0 (w : Lx S H H1) (h : Lx none H1 H2) : Lx S H1 H2 := by
  refine ⟨fun b o _ e => h.1 b o sx_none e, fun q hq => ?_⟩
  obtain ⟨ns, x, c, n, d, q, h0, hl⟩ := w.2 q hq
  exact ⟨ns, x, c, n, d, h.1 _ _ sx_none q, h0, h.1 _ _ sx_none hl⟩
theorem Lx.same (h : Lx none H H1) : Same H H1 := fun b o e => h.1 b o sx_none e
theorem lx_same (h : Same H H1) : Lx none H H1 := ⟨fun b o _ e => h b o e, fun _ z => nomatch z⟩
/-- an own object is changed, the heap goes on -/
theorem Lx.upd (e : Lx S H H1) {l : Addr} {o : HO} (n : ¬ Sx S l) : Lx S (upd H l o) (upd H1 l o) := by
  refine ⟨fun b u nb q => ?_, fun q hq => ?_⟩
  · by_cases hb : b = l
    · subst hb
      rw [upd_same] at q ⊢
      exact q
    · rw [upd_ne hb] at q ⊢
      exact e.1 b u nb q
  · exact (e.2 q hq).put (fun z => n ⟨q, hq, .inl z.symm⟩) (fun z => n ⟨q, hq, .inr z.symm⟩)
end
/-- a list, a tuple to be read at a; it stays -/
structure LA (K : PySem.W.Frag) (S : Dst) (H : Hp) (a : Addr) (xs : List V) : Prop where
  q : SqL K H a xs
  n : ¬ Sx S a
structure UA (K : PySem.W.Frag) (S : Dst) (H : Hp) (a : Addr) (xs : List V) : Prop where
  q : SqT K H a xs
  n : ¬ Sx S a
section
variable {K : PySem.W.Frag} {S : Dst} {H H1 H2 H' : Hp} {a : Addr} {xs : List V}
theorem Rd.mono {u : HO} (e : Lx S H H1) (n : ¬ Sx S a) (h : Rd H a u) : Rd H1 a u := by
  rcases h with h | ⟨o, h⟩
  · exact Or.inl (e.1 a _ n h)
  · exact Or.inr ⟨o, e.1 a _ n h⟩
theorem LA.mono (h : LA K S H a xs) (e : Lx S H H1) : LA K S H1 a xs := ⟨h.q.imp (Rd.mono e h.n) id, h.n⟩
theorem UA.mono (h : UA K S H a xs) (e : Lx S H H1) : UA K S H1 a xs := ⟨h.q.imp (Rd.mono e h.n) id, h.n⟩
theorem LA.of (h : H a = some (.lst xs)) (n : ¬ Sx S a) : LA K S H a xs := ⟨SqL.of h, n⟩
theorem UA.of (h : H a = some (.tup xs)) (n : ¬ Sx S a) : UA K S H a xs := ⟨SqT.of h, n⟩
theorem LA.of0 (h : SqL K H a xs) : LA K none H a xs := ⟨h, sx_none⟩
theorem UA.of0 (h : SqT K H a xs) : UA K none H a xs := ⟨h, sx_none⟩
end

/-! ### what evaluates to what -/
def Ev (K : PySem.W.Frag) (S : Dst) (te : TE) (σ : L2.St) (H : Hp) (v : V) : Prop := ∀ H1, Lx S H H1 → ∀ Q : VK, (∀ H2, Lx S H1 H2 → Q v H2) → te σ H1 Q
def EvX (K : PySem.W.Frag) (S : Dst) (te : TE) (σ : L2.St) (H : Hp) (P : V → Hp → Prop) : Prop := ∀ H1, Lx S H H1 → ∀ Q : VK, (∀ v H2, Lx S H1 H2 → P v H2 → Q v H2) → te σ H1 Q
def EvT (K : PySem.W.Frag) (S : Dst) (tt : TT) (σ : L2.St) (H : Hp) (b : Bool) : Prop := ∀ H1, Lx S H H1 → ∀ Q : Bool → Hp → Prop, (∀ H2, Lx S H1 H2 → Q b H2) → tt σ H1 Q
def EvA (K : PySem.W.Frag) (S : Dst) (ta : TA) (σ : L2.St) (H : Hp) (vs : List V) : Prop := ∀ H1, Lx S H H1 → ∀ Q : List V → Hp → Prop, (∀ H2, Lx S H1 H2 → Q vs H2) → ta σ H1 Q
def EvAX (K : PySem.W.Frag) (S : Dst) (ta : TA) (σ : L2.St) (H : Hp) (P : List V → Hp → Prop) : Prop := ∀ H1, Lx S H H1 → ∀ Q : List V → Hp → Prop, (∀ vs H2, Lx S H1 H2 → P vs H2 → Q vs H2) → ta σ H1 Q
def EvTX (K : PySem.W.Frag) (S : Dst) (tt : TT) (σ : L2.St) (H : Hp) (P : Bool → Hp → Prop) : Prop := ∀ H1, Lx S H H1 → ∀ Q : Bool → Hp → Prop, (∀ b H2, Lx S H1 H2 → P b H2 → Q b H2) → tt σ H1 Q
/-- a new list with items xs; a new tuple -/
abbrev NewL (S : Dst) (H : Hp) (xs : List V) : V → Hp → Prop := fun v H2 => ∃ p, v = .ref p ∧ H p = none ∧ ¬ Sx S p ∧ H2 p = some (.lst xs)
abbrev NewU (S : Dst) (H : Hp) (xs : List V) : V → Hp → Prop := fun v H2 => ∃ p, v = .ref p ∧ H p = none ∧ ¬ Sx S p ∧ H2 p = some (.tup xs)
/-- a two-place operation on values; a one-place one; a call on values -/
def RV (K : PySem.W.Frag) (S : Dst) (r : R2) (x y : V) (H : Hp) (z : V) : Prop := ∀ H1, Lx S H H1 → ∀ Q : VK, (∀ H2, Lx S H1 H2 → Q z H2) → r x y H1 Q
def RVX (K : PySem.W.Frag) (S : Dst) (r : R2) (x y : V) (H : Hp) (P : V → Hp → Prop) : Prop := ∀ H1, Lx S H H1 → ∀ Q : VK, (∀ z H2, Lx S H1 H2 → P z H2 → Q z H2) → r x y H1 Q
def RU (K : PySem.W.Frag) (S : Dst) (r : V → Hp → VK → Prop) (x : V) (H : Hp) (z : V) : Prop := ∀ H1, Lx S H H1 → ∀ Q : VK, (∀ H2, Lx S H1 H2 → Q z H2) → r x H1 Q
def RC (K : PySem.W.Frag) (S : Dst) (r : List V → Hp → VK → Prop) (vs : List V) (H : Hp) (z : V) : Prop := ∀ H1, Lx S H H1 → ∀ Q : VK, (∀ H2, Lx S H1 H2 → Q z H2) → r vs H1 Q
def RCX (K : PySem.W.Frag) (S : Dst) (r : List V → Hp → VK → Prop) (vs : List V) (H : Hp) (P : V → Hp → Prop) : Prop := ∀ H1, Lx S H H1 → ∀ Q : VK, (∀ z H2, Lx S H1 H2 → P z H2 → Q z H2) → r vs H1 Q
def SpX (K : PySem.W.Frag) (S : Dst) (sp : Sp) (vs : List V) (H : Hp) (E : XK) (P : V → Hp → Prop) : Prop := ∀ H1, Lx S H H1 → ∀ Q : VK, (∀ z H2, Lx S H1 H2 → P z H2 → Q z H2) → sp vs H1 Q E
/-- a block from heaps that go on from H -/
def St (K : PySem.W.Frag) (S : Dst) (ts : TS) (D : Ends) (σ : L2.St) (H : Hp) : Prop := ∀ H1, Lx S H H1 → ts D σ H1

section
variable {K : PySem.W.Frag} {S : Dst} {σ : L2.St} {H H' : Hp} {ta tb tc te tx : TE} {tas : TA} {t u : TT} {x y z v : V} {r : R2} {P P' : V → Hp → Prop} {b c : Bool} {vs : List V}
theorem Ev.toX (h : Ev K S te σ H v) : EvX K S te σ H (fun w _ => w = v) := fun H1 e Q q => h H1 e Q fun H2 e2 => q v H2 e2 rfl
theorem EvX.imp (h : EvX K S te σ H P) (i : ∀ w H2, Lx S H H2 → P w H2 → P' w H2) : EvX K S te σ H P' := fun H1 e Q q => h H1 e Q fun w H2 e2 p => q w H2 e2 (i w H2 (e.trans e2) p)
theorem EvX.ev (h : EvX K S te σ H P) (i : ∀ w H2, Lx S H H2 → P w H2 → w = v) : Ev K S te σ H v := fun H1 e Q q => h H1 e Q fun w H2 e2 p => by
  have z := i w H2 (e.trans e2) p
  subst z
  exact q H2 e2
theorem EvA.toX (h : EvA K S tas σ H vs) : EvAX K S tas σ H (fun w _ => w = vs) := fun H1 e Q q => h H1 e Q fun H2 e2 => q vs H2 e2 rfl
theorem EvT.toX (h : EvT K S t σ H b) : EvTX K S t σ H (fun w _ => w = b) := fun H1 e Q q => h H1 e Q fun H2 e2 => q b H2 e2 rfl
theorem Ev.mono (e : Lx S H H') (h : Ev K S te σ H v) : Ev K S te σ H' v := fun H1 a Q q => h H1 (e.trans a) Q q
theorem St.mono {ts : TS} {D : Ends} (e : Lx S H H') (h : St K S ts D σ H) : St K S ts D σ H' := fun H1 a => h H1 (e.trans a)

theorem ev_var {i : Nat} (h : σ[i]? = some (some v)) : Ev K S (tVar i) σ H v := fun H1 e _ q => ⟨v, h, q H1 e.refl⟩
theorem ev_c : Ev K S (tC v) σ H v := fun H1 e _ q => q H1 e.refl
theorem ev_op (ha : Ev K S ta σ H x) (hb : Ev K S tb σ H y) (hr : RV K S r x y H z) : Ev K S (tOp r ta tb) σ H z := fun H1 e Q q =>
  ha H1 e _ fun H2 e2 => hb H2 (e.trans e2) _ fun H3 e3 => hr H3 ((e.trans e2).trans e3) Q fun H4 e4 => q H4 ((e2.trans e3).trans e4)
theorem ex_op (ha : Ev K S ta σ H x) (hb : Ev K S tb σ H y) (hr : RVX K S r x y H P) : EvX K S (tOp r ta tb) σ H P := fun H1 e Q q =>
  ha H1 e _ fun H2 e2 => hb H2 (e.trans e2) _ fun H3 e3 => hr H3 ((e.trans e2).trans e3) Q fun z H4 e4 p => q z H4 ((e2.trans e3).trans e4) p
theorem ex_op1 (ha : EvX K S ta σ H P') (k : ∀ x H1, Lx S H H1 → P' x H1 → EvX K S (tOp r (tC x) tb) σ H1 P) : EvX K S (tOp r ta tb) σ H P := fun H1 e Q q =>
  ha H1 e _ fun x H2 e2 p => k x H2 (e.trans e2) p H2 (e.trans e2).refl Q fun z H3 e3 p => q z H3 (e2.trans e3) p
theorem ex_op2 (ha : Ev K S ta σ H x) (hb : EvX K S tb σ H P') (k : ∀ y H1, Lx S H H1 → P' y H1 → EvX K S (tOp r (tC x) (tC y)) σ H1 P) : EvX K S (tOp r ta tb) σ H P := fun H1 e Q q =>
  ha H1 e _ fun H2 e2 => hb H2 (e.trans e2) _ fun y H3 e3 p => k y H3 ((e.trans e2).trans e3) p H3 ((e.trans e2).trans e3).refl Q fun z H4 e4 p => q z H4 ((e2.trans e3).trans e4) p
theorem ev_un {r : V → Hp → VK → Prop} (ha : Ev K S ta σ H x) (hr : RU K S r x H z) : Ev K S (tUn r ta) σ H z := fun H1 e Q q =>
  ha H1 e _ fun H2 e2 => hr H2 (e.trans e2) Q fun H3 e3 => q H3 (e2.trans e3)

/-! operations by values -/
theorem rv_I0 {g : Int → Int → V} {i j : Int} : RV K S (rI0 g) (.int i) (.int j) H (g i j) := fun H1 e _ q => ⟨i, j, rfl, rfl, q H1 e.refl⟩
theorem rv_I {C : Int → Int → Prop} {g : Int → Int → V} {i j : Int} (hc : C i j) : RV K S (rI C g) (.int i) (.int j) H (g i j) := fun H1 e _ q => ⟨i, j, rfl, rfl, hc, q H1 e.refl⟩
theorem ru_U {g : Int → V} {i : Int} : RU K S (rU g) (.int i) H (g i) := fun H1 e _ q => ⟨i, rfl, q H1 e.refl⟩
theorem rv_eq (h : scal x y = true) : RV K S rEq x y H (.bl (decide (x = y))) := fun H1 e _ q => ⟨h, q H1 e.refl⟩
theorem rv_ne (h : scal x y = true) : RV K S rNe x y H (.bl (!decide (x = y))) := fun H1 e _ q => ⟨h, q H1 e.refl⟩
theorem rv_isN : RV K S (fun x y H Q => y = .non ∧ Q (.bl (decide (x = .non))) H) x .non H (.bl (decide (x = .non))) := fun H1 e _ q => ⟨rfl, q H1 e.refl⟩
theorem rv_notN : RV K S (fun x y H Q => y = .non ∧ Q (.bl (!decide (x = .non))) H) x .non H (.bl (!decide (x = .non))) := fun H1 e _ q => ⟨rfl, q H1 e.refl⟩
theorem rv_ixL {p : Addr} {xs : List V} {i : Int} (h : LA K S H p xs) (ha : atI xs i = some v) : RV K S (rIxL K) (.ref p) (.int i) H v := fun H1 e _ q => ⟨p, xs, i, v, rfl, rfl, (h.mono e).q, ha, q H1 e.refl⟩
theorem rv_ixT {p : Addr} {xs : List V} {i : Int} (h : UA K S H p xs) (ha : atI xs i = some v) : RV K S (rIxT K) (.ref p) (.int i) H v := fun H1 e _ q => ⟨p, xs, i, v, rfl, rfl, (h.mono e).q, ha, q H1 e.refl⟩
theorem rv_inL {neg : Bool} {p : Addr} {xs : List V} (h : LA K S H p xs) (hx : flatV x = true) (ha : xs.all flatV = true) : RV K S (rIn K neg) x (.ref p) H (.bl (if neg then !inV x xs else inV x xs)) :=
  fun H1 e _ q => ⟨p, xs, rfl, Or.inl (h.mono e).q, hx, ha, q H1 e.refl⟩
theorem rv_inT {neg : Bool} {p : Addr} {xs : List V} (h : UA K S H p xs) (hx : flatV x = true) (ha : xs.all flatV = true) : RV K S (rIn K neg) x (.ref p) H (.bl (if neg then !inV x xs else inV x xs)) :=
  fun H1 e _ q => ⟨p, xs, rfl, Or.inr (h.mono e).q, hx, ha, q H1 e.refl⟩

/-! tests -/
theorem et_test (h : Ev K S te σ H (.bl b)) : EvT K S (tTest te) σ H b := fun H1 e _ q => h H1 e _ fun H2 e2 => ⟨b, rfl, q H2 e2⟩
theorem et_B (h : Ev K S te σ H (.bl b)) : EvT K S (tB te) σ H b := fun H1 e _ q => h H1 e _ fun H2 e2 => ⟨b, rfl, q H2 e2⟩
theorem et_and (h1 : EvT K S t σ H b) (h2 : b = true → EvT K S u σ H c) : EvT K S (tAnd t u) σ H (b && c) := fun H1 e Q q => h1 H1 e _ fun H2 e2 => by
  cases b with
  | true =>
    show u σ H2 Q
    exact h2 rfl H2 (e.trans e2) Q fun H3 e3 => q H3 (e2.trans e3)
  | false =>
    show Q false H2
    exact q H2 e2
theorem et_or (h1 : EvT K S t σ H b) (h2 : b = false → EvT K S u σ H c) : EvT K S (tOr t u) σ H (b || c) := fun H1 e Q q => h1 H1 e _ fun H2 e2 => by
  cases b with
  | true =>
    show Q true H2
    exact q H2 e2
  | false =>
    show u σ H2 Q
    exact h2 rfl H2 (e.trans e2) Q fun H3 e3 => q H3 (e2.trans e3)
theorem et_not (h1 : EvT K S t σ H b) : EvT K S (tNot t) σ H (!b) := fun H1 e _ q => h1 H1 e _ fun H2 e2 => q H2 e2
theorem etx_test {PB : Bool → Hp → Prop} (h : EvX K S te σ H fun v H2 => ∃ b, v = .bl b ∧ PB b H2) : EvTX K S (tTest te) σ H PB := fun H1 e Q q => h H1 e _ fun v H2 e2 ⟨b, hv, p⟩ => ⟨b, hv, q b H2 e2 p⟩
theorem etx_B {PB : Bool → Hp → Prop} (h : EvX K S te σ H fun v H2 => ∃ b, v = .bl b ∧ PB b H2) : EvTX K S (tB te) σ H PB := fun H1 e Q q => h H1 e _ fun v H2 e2 ⟨b, hv, p⟩ => ⟨b, hv, q b H2 e2 p⟩
theorem etx_and {PB : Bool → Hp → Prop} (h1 : EvT K S t σ H b) (h2 : b = true → EvTX K S u σ H PB) (h3 : b = false → ∀ H2, Lx S H H2 → PB false H2) : EvTX K S (tAnd t u) σ H PB := fun H1 e Q q => h1 H1 e _ fun H2 e2 => by
  cases b with
  | true =>
    show u σ H2 Q
    exact h2 rfl H2 (e.trans e2) Q fun b H3 e3 p => q b H3 (e2.trans e3) p
  | false =>
    show Q false H2
    exact q false H2 e2 (h3 rfl H2 (e.trans e2))
theorem etx_or {PB : Bool → Hp → Prop} (h1 : EvT K S t σ H b) (h2 : b = false → EvTX K S u σ H PB) (h3 : b = true → ∀ H2, Lx S H H2 → PB true H2) : EvTX K S (tOr t u) σ H PB := fun H1 e Q q => h1 H1 e _ fun H2 e2 => by
  cases b with
  | false =>
    show u σ H2 Q
    exact h2 rfl H2 (e.trans e2) Q fun b H3 e3 p => q b H3 (e2.trans e3) p
  | true =>
    show Q true H2
    exact q true H2 e2 (h3 rfl H2 (e.trans e2))
theorem etx_not {PB : Bool → Hp → Prop} (h : EvTX K S t σ H fun b H2 => PB (!b) H2) : EvTX K S (tNot t) σ H PB := fun H1 e Q q => h H1 e _ fun b H2 e2 p => q (!b) H2 e2 p
theorem EvTX.imp {PB PB' : Bool → Hp → Prop} (h : EvTX K S t σ H PB) (i : ∀ b H2, Lx S H H2 → PB b H2 → PB' b H2) : EvTX K S t σ H PB' := fun H1 e Q q => h H1 e Q fun b H2 e2 p => q b H2 e2 (i b H2 (e.trans e2) p)
/-- one after the other, what is known so far carried on -/
theorem etx_and2 {PA PB : Bool → Hp → Prop} (h1 : EvTX K S t σ H PA) (h2 : ∀ H1, Lx S H H1 → PA true H1 → EvTX K S u σ H1 PB) (h3 : ∀ H2, Lx S H H2 → PA false H2 → PB false H2) : EvTX K S (tAnd t u) σ H PB := fun H1 e Q q => h1 H1 e _ fun b H2 e2 p => by
  cases b with
  | true =>
    show u σ H2 Q
    exact h2 H2 (e.trans e2) p H2 (e.trans e2).refl Q fun b H3 e3 p => q b H3 (e2.trans e3) p
  | false =>
    show Q false H2
    exact q false H2 e2 (h3 H2 (e.trans e2) p)
theorem etx_or2 {PA PB : Bool → Hp → Prop} (h1 : EvTX K S t σ H PA) (h2 : ∀ H1, Lx S H H1 → PA false H1 → EvTX K S u σ H1 PB) (h3 : ∀ H2, Lx S H H2 → PA true H2 → PB true H2) : EvTX K S (tOr t u) σ H PB := fun H1 e Q q => h1 H1 e _ fun b H2 e2 p => by
  cases b with
  | false =>
    show u σ H2 Q
    exact h2 H2 (e.trans e2) p H2 (e.trans e2).refl Q fun b H3 e3 p => q b H3 (e2.trans e3) p
  | true =>
    show Q true H2
    exact q true H2 e2 (h3 H2 (e.trans e2) p)
theorem et_is (h : EvT K S t σ H b) (e : b = c) : EvT K S t σ H c := e ▸ h
theorem ev_is {w : V} (h : Ev K S te σ H v) (e : v = w) : Ev K S te σ H w := e ▸ h
theorem ev_andV (h1 : Ev K S ta σ H (.bl b)) (h2 : b = true → Ev K S tb σ H (.bl c)) : Ev K S (tAndV ta tb) σ H (.bl (b && c)) := fun H1 e Q q => h1 H1 e _ fun H2 e2 => ⟨b, rfl, by
  cases b with
  | true =>
    show tb σ H2 Q
    exact h2 rfl H2 (e.trans e2) Q fun H3 e3 => q H3 (e2.trans e3)
  | false =>
    show Q (.bl false) H2
    exact q H2 e2⟩
theorem ev_orV (h1 : Ev K S ta σ H (.bl b)) (h2 : b = false → Ev K S tb σ H (.bl c)) : Ev K S (tOrV ta tb) σ H (.bl (b || c)) := fun H1 e Q q => h1 H1 e _ fun H2 e2 => ⟨b, rfl, by
  cases b with
  | true =>
    show Q (.bl true) H2
    exact q H2 e2
  | false =>
    show tb σ H2 Q
    exact h2 rfl H2 (e.trans e2) Q fun H3 e3 => q H3 (e2.trans e3)⟩
theorem ev_notV (h1 : Ev K S ta σ H (.bl b)) : Ev K S (tNotV ta) σ H (.bl (!b)) := fun H1 e _ q => h1 H1 e _ fun H2 e2 => ⟨b, rfl, q H2 e2⟩
theorem ex_if (h : EvT K S t σ H b) (h1 : b = true → EvX K S ta σ H P) (h2 : b = false → EvX K S tb σ H P) : EvX K S (tIf t ta tb) σ H P := fun H1 e Q q => h H1 e _ fun H2 e2 => by
  cases b with
  | true =>
    show ta σ H2 Q
    exact h1 rfl H2 (e.trans e2) Q fun z H3 e3 p => q z H3 (e2.trans e3) p
  | false =>
    show tb σ H2 Q
    exact h2 rfl H2 (e.trans e2) Q fun z H3 e3 p => q z H3 (e2.trans e3) p
theorem ev_if {w : V} (h : EvT K S t σ H b) (h1 : b = true → Ev K S ta σ H v) (h2 : b = false → Ev K S tb σ H w) : Ev K S (tIf t ta tb) σ H (if b = true then v else w) :=
  (ex_if (P := fun z _ => z = if b = true then v else w) h (fun e => (h1 e).toX.imp fun z _ _ q => by rw [q, if_pos e]) fun e => (h2 e).toX.imp fun z _ _ q => by rw [q, if_neg (by rw [e]; decide)]).ev fun _ _ _ q => q

/-! arguments, displays -/
theorem ea_nil : EvA K S tNil σ H [] := fun H1 e _ q => q H1 e.refl
theorem ea_cons (h : Ev K S ta σ H x) (hr : EvA K S tas σ H vs) : EvA K S (tCons ta tas) σ H (x :: vs) := fun H1 e _ q =>
  h H1 e _ fun H2 e2 => hr H2 (e.trans e2) _ fun H3 e3 => q H3 (e2.trans e3)
theorem eax_cons {PA : List V → Hp → Prop} (h : EvX K S ta σ H P) (k : ∀ v H1, Lx S H H1 → P v H1 → EvAX K S tas σ H1 fun vs H2 => PA (v :: vs) H2) : EvAX K S (tCons ta tas) σ H PA := fun H1 e Q q =>
  h H1 e _ fun v H2 e2 p => k v H2 (e.trans e2) p H2 (e.trans e2).refl _ fun vs H3 e3 p3 => q (v :: vs) H3 (e2.trans e3) p3
theorem EvAX.imp {PA PA' : List V → Hp → Prop} (h : EvAX K S tas σ H PA) (i : ∀ w H2, Lx S H H2 → PA w H2 → PA' w H2) : EvAX K S tas σ H PA' := fun H1 e Q q => h H1 e Q fun w H2 e2 p => q w H2 e2 (i w H2 (e.trans e2) p)
theorem ex_lst (h : EvA K S tas σ H vs) (hl : vs.length ≤ sizeLine) : EvX K S (tLst tas) σ H (NewL S H vs) := fun H1 e _ q =>
  h H1 e _ fun H2 e2 => ⟨hl, fun p hp => q _ _ (e2.trans ((e.trans e2).new hp)) ⟨p, rfl, (e.trans e2).fresh hp, (e.trans e2).ns hp, upd_same⟩⟩
theorem ex_tup (h : EvA K S tas σ H vs) (hl : vs.length ≤ sizeLine) : EvX K S (tTup tas) σ H (NewU S H vs) := fun H1 e _ q =>
  h H1 e _ fun H2 e2 => ⟨hl, fun p hp => q _ _ (e2.trans ((e.trans e2).new hp)) ⟨p, rfl, (e.trans e2).fresh hp, (e.trans e2).ns hp, upd_same⟩⟩
theorem ex_lstX {PA : List V → Hp → Prop} (h : EvAX K S tas σ H PA) (hl : ∀ vs H2, PA vs H2 → vs.length ≤ sizeLine) : EvX K S (tLst tas) σ H (fun v H2 => ∃ vs H3, PA vs H3 ∧ Lx S H H3 ∧ Lx S H3 H2 ∧ NewL S H vs v H2) := fun H1 e _ q =>
  h H1 e _ fun vs H2 e2 p2 => ⟨hl vs H2 p2, fun p hp => q _ _ (e2.trans ((e.trans e2).new hp)) ⟨vs, H2, p2, e.trans e2, (e.trans e2).new hp, p, rfl, (e.trans e2).fresh hp, (e.trans e2).ns hp, upd_same⟩⟩
theorem ex_tupX {PA : List V → Hp → Prop} (h : EvAX K S tas σ H PA) (hl : ∀ vs H2, PA vs H2 → vs.length ≤ sizeLine) : EvX K S (tTup tas) σ H (fun v H2 => ∃ vs H3, PA vs H3 ∧ Lx S H H3 ∧ Lx S H3 H2 ∧ NewU S H vs v H2) := fun H1 e _ q =>
  h H1 e _ fun vs H2 e2 p2 => ⟨hl vs H2 p2, fun p hp => q _ _ (e2.trans ((e.trans e2).new hp)) ⟨vs, H2, p2, e.trans e2, (e.trans e2).new hp, p, rfl, (e.trans e2).fresh hp, (e.trans e2).ns hp, upd_same⟩⟩

/-! calls -/
theorem ex_call {sp : Sp} {dvs : List V} {E : XK} (h : EvA K S tas σ H vs) (k : SpX K S sp (vs ++ dvs) H E P) : EvX K S (tCall sp dvs E tas) σ H P := fun H1 e Q q =>
  h H1 e _ fun H2 e2 => k H2 (e.trans e2) Q fun z H3 e3 p => q z H3 (e2.trans e3) p
theorem ex_callX {sp : Sp} {dvs : List V} {E : XK} {PA : List V → Hp → Prop} (h : EvAX K S tas σ H PA) (k : ∀ vs H1, Lx S H H1 → PA vs H1 → SpX K S sp (vs ++ dvs) H1 E P) : EvX K S (tCall sp dvs E tas) σ H P := fun H1 e Q q =>
  h H1 e _ fun vs H2 e2 p2 => k vs H2 (e.trans e2) p2 H2 (e.trans e2).refl Q fun z H3 e3 p => q z H3 (e2.trans e3) p
theorem ev_cb {r : List V → Hp → VK → Prop} (h : EvA K S tas σ H vs) (k : RC K S r vs H z) : Ev K S (tCB r tas) σ H z := fun H1 e Q q =>
  h H1 e _ fun H2 e2 => k H2 (e.trans e2) Q fun H3 e3 => q H3 (e2.trans e3)
theorem ex_cb {r : List V → Hp → VK → Prop} (h : EvA K S tas σ H vs) (k : RCX K S r vs H P) : EvX K S (tCB r tas) σ H P := fun H1 e Q q =>
  h H1 e _ fun H2 e2 => k H2 (e.trans e2) Q fun z H3 e3 p => q z H3 (e2.trans e3) p
theorem ex_cbX {r : List V → Hp → VK → Prop} {PA : List V → Hp → Prop} (h : EvAX K S tas σ H PA) (k : ∀ vs H1, Lx S H H1 → PA vs H1 → RCX K S r vs H1 P) : EvX K S (tCB r tas) σ H P := fun H1 e Q q =>
  h H1 e _ fun vs H2 e2 p2 => k vs H2 (e.trans e2) p2 H2 (e.trans e2).refl Q fun z H3 e3 p => q z H3 (e2.trans e3) p
def rLn (K : PySem.W.Frag) : List V → Hp → VK → Prop := fun xs H Q => ∃ p ys, xs = [.ref p] ∧ (SqL K H p ys ∨ SqT K H p ys) ∧ Q (.int ys.length) H
def rLst (K : PySem.W.Frag) : List V → Hp → VK → Prop := fun xs H Q => ∃ p ys, xs = [.ref p] ∧ (SqL K H p ys ∨ SqT K H p ys) ∧ ∀ l, H l = none → Q (.ref l) (upd H l (.lst ys))
theorem rc_len {p : Addr} {ys : List V} (h : LA K S H p ys) : RC K S (rLn K) [.ref p] H (.int (ys.length : Int)) := fun H1 e _ q => ⟨p, ys, rfl, .inl (h.mono e).q, q H1 e.refl⟩
theorem rc_lenT {p : Addr} {ys : List V} (h : UA K S H p ys) : RC K S (rLn K) [.ref p] H (.int (ys.length : Int)) := fun H1 e _ q => ⟨p, ys, rfl, .inr (h.mono e).q, q H1 e.refl⟩
theorem rc_list {p : Addr} {ys : List V} (h : LA K S H p ys) : RCX K S (rLst K) [.ref p] H (NewL S H ys) := fun H1 e _ q => ⟨p, ys, rfl, .inl (h.mono e).q, fun l hl => q _ _ (e.new hl) ⟨l, rfl, e.fresh hl, e.ns hl, upd_same⟩⟩
theorem rc_listT {p : Addr} {ys : List V} (h : UA K S H p ys) : RCX K S (rLst K) [.ref p] H (NewL S H ys) := fun H1 e _ q => ⟨p, ys, rfl, .inr (h.mono e).q, fun l hl => q _ _ (e.new hl) ⟨l, rfl, e.fresh hl, e.ns hl, upd_same⟩⟩
def rInt1 : List V → Hp → VK → Prop := fun xs H Q => (∃ i, xs = [.int i] ∧ Q (.int i) H) ∨ ∃ k, xs = [.bl k] ∧ Q (.int (if k then 1 else 0)) H
theorem rc_int {i : Int} : RC K S rInt1 [.int i] H (.int i) := fun H1 e _ q => .inl ⟨i, rfl, q H1 e.refl⟩
end
/-! the rules over a written part told by name (a comprehension's block has the def's) -/
def rTup1 (K : PySem.W.Frag) : List V → Hp → VK → Prop := fun xs H Q => ∃ p ys, xs = [.ref p] ∧ ((SqL K H p ys ∧ ∀ l, H l = none → Q (.ref l) (upd H l (.tup ys))) ∨ (SqT K H p ys ∧ Q (.ref p) H))
section
variable {X : Cx} (K : PySem.W.Frag) (h : X.K = K)
include h
theorem lenK : CallR X (.builtin "len") (rLn K) := by subst h; exact call_len_seq
theorem listK : CallR X (.type "list") (rLst K) := by subst h; exact call_list_of
theorem tupleK : CallR X (.type "tuple") (rTup1 K) := by subst h; exact call_tuple_of
theorem isiK : CallR X (.builtin "isinstance") (rIsi K) := by subst h; exact call_isi
theorem isiTK : CallR X (.builtin "isinstance") (rIsiT K) := by subst h; exact call_isiT
theorem minK (c : X.calm = true) : CallR X (.builtin "min") (rMin K) := by subst h; exact cr_min c
theorem maxK (c : X.calm = true) : CallR X (.builtin "max") (rMax K) := by subst h; exact cr_max c
theorem allK (c : X.calm = true) : CallR X (.builtin "all") (rAll K) := by subst h; exact cr_all c
theorem anyK (c : X.calm = true) : CallR X (.builtin "any") (rAny K) := by subst h; exact cr_any c
theorem sumK (c : X.calm = true) : CallR X (.builtin "sum") (rSum K) := by subst h; exact cr_sum c
theorem ixL : IxR X (rIxL K) := by subst h; exact ix_list
theorem ixU : IxR X (rIxT K) := by subst h; exact ix_tup
theorem ixQ : IxR X (rIx K) := by subst h; exact ix_seq
theorem inK : OpR X (compareOp .In) (rIn K false) := by subst h; exact op_in_seq
theorem notInK : OpR X (compareOp .NotIn) (rIn K true) := by subst h; exact op_notIn_seq
theorem eqDK (hu : X.A.units + 64 < cLine) : OpR X (compareOp .Eq) (rEqD K) := by subst h; exact op_eqD hu
theorem neDK (hu : X.A.units + 64 < cLine) : OpR X (compareOp .NotEq) (rNeD K) := by subst h; exact op_neD hu
theorem slLK : SlR X (rSlL K) := by subst h; exact sl_list
theorem slUK : SlR X (rSlT K) := by subst h; exact sl_tup
theorem kdK {w : World} (h2 : X.w = w) : IxR X (rIxD K w) := by subst h; subst h2; exact ix_kdict
variable {tg o l e : Expr} {tl ta te : TE} {f : Str} {pos : Pos}
theorem piLK (hl : PE X l tl) : PI X tg l (iList K tl) := by subst h; exact pi_list hl
theorem piUK (hl : PE X l tl) : PI X tg l (iTup K tl) := by subst h; exact pi_tup hl
theorem fldK (he : PE X e ta) (hb : attributeBase e f X.env (eval e X.env) = eval e X.env := by rfl) : PE X (.Attribute e f pos) (tFld K ta f) := by subst h; exact pe_fld he hb
theorem conK (he : PE X e ta) (hb : attributeBase e f X.env (eval e X.env) = eval e X.env := by rfl) : PE X (.Attribute e f pos) (tCon K ta f) := by subst h; exact pe_con he hb
theorem bmK {es : List Expr} {to : TE} {t : TA} {name : Str} {apos cpos : Pos} {T id : String} {r : V → List V → Hp → VK → Prop} (pa : PlainAttrs T) (slot : Slot T name id) (hty : typeOf (.builtin id) = pure (.type "method_descriptor")) (hm : MtR X id r) (ho : PE X o to) (ha : PA X (e :: es) t)
    (hbase : attributeBase o name X.env (eval o X.env) = eval o X.env := by rfl)
    (hfew : ((backTo cpos (starEach (e :: es) X.env)).all (fun x => !x.1) && (backToKw cpos (keywordEach [] X.env)).all (fun x => x.1.isSome)
      && decide ((e :: es).length + ([] : List Keyword).length + (if ([] : List Keyword).isEmpty then 0 else 1) < 30)) = true := by rfl)
    (hline : (apos.endLine == cpos.line) = true := by rfl) (he : starEach (e :: es) X.env = (false, eval e X.env) :: starEach es X.env := by rfl) (hpl : (backTo cpos (starEach es X.env)).any (·.1) = false := by rfl) :
    PE X (.Call (.Attribute o name apos) (e :: es) [] cpos) (tBM K T r to t) := by subst h; exact pe_bm pa slot hty hm ho ha hbase hfew hline he hpl
theorem bm0K {to : TE} {name : Str} {apos cpos : Pos} {T id : String} {r : V → List V → Hp → VK → Prop} (pa : PlainAttrs T) (slot : Slot T name id) (hty : typeOf (.builtin id) = pure (.type "method_descriptor")) (hm : MtR X id r) (ho : PE X o to)
    (hbase : attributeBase o name X.env (eval o X.env) = eval o X.env := by rfl) (hline : (apos.endLine == cpos.line) = true := by rfl) : PE X (.Call (.Attribute o name apos) [] [] cpos) (tBM0 K T r to) := by subst h; exact pe_bm0 pa slot hty hm ho hbase (hline := hline)
end
theorem callInt {X : Cx} : CallR X (.type "int") rInt1 := call_int1

/-! ### statements -/
section
variable {K : PySem.W.Frag} {S : Dst} {σ : L2.St} {H H' : Hp} {ta tb tc te tx : TE} {tas : TA} {t u : TT} {x y z v : V} {r : R2} {P P' : V → Hp → Prop} {b c : Bool} {vs : List V} {D : Ends} {tu tw tz : TS} {i : Nat}
theorem s_asg (h : Ev K S te σ H v) (k : St K S tz D (σ.set i (some v)) H) : St K S (tSeq (tAsg te (gName i)) tz) D σ H := fun H1 e => h H1 e _ fun H2 e2 => k H2 (e.trans e2)
theorem s_asgX (h : EvX K S te σ H P) (k : ∀ v H1, Lx S H H1 → P v H1 → St K S tz D (σ.set i (some v)) H1) : St K S (tSeq (tAsg te (gName i)) tz) D σ H := fun H1 e => h H1 e _ fun v H2 e2 p => k v H2 (e.trans e2) p H2 (e.trans e2).refl
theorem s_asg1 (h : Ev K S te σ H v) (k : ∀ H1, Lx S H H1 → D.nx (σ.set i (some v)) H1) : St K S (tAsg te (gName i)) D σ H := fun H1 e => h H1 e _ fun H2 e2 => k H2 (e.trans e2)
theorem s_asg1X (h : EvX K S te σ H P) (k : ∀ v H1, Lx S H H1 → P v H1 → D.nx (σ.set i (some v)) H1) : St K S (tAsg te (gName i)) D σ H := fun H1 e => h H1 e _ fun v H2 e2 p => k v H2 (e.trans e2) p
theorem s_ret (h : Ev K S te σ H v) (k : ∀ H1, Lx S H H1 → D.rt v H1) : St K S (tRet te) D σ H := fun H1 e => h H1 e _ fun H2 e2 => k H2 (e.trans e2)
theorem s_retX (h : EvX K S te σ H P) (k : ∀ v H1, Lx S H H1 → P v H1 → D.rt v H1) : St K S (tRet te) D σ H := fun H1 e => h H1 e _ fun v H2 e2 p => k v H2 (e.trans e2) p
theorem s_if (h : EvT K S t σ H b) (h1 : b = true → St K S tu { D with nx := tz D } σ H) (h2 : b = false → St K S tw { D with nx := tz D } σ H) : St K S (tSeq (tIfS t tu tw) tz) D σ H := fun H1 e => h H1 e _ fun H2 e2 => by
  cases b with
  | true => exact h1 rfl H2 (e.trans e2)
  | false => exact h2 rfl H2 (e.trans e2)
theorem s_if1 (h : EvT K S t σ H b) (h1 : b = true → St K S tu D σ H) (h2 : b = false → St K S tw D σ H) : St K S (tIfS t tu tw) D σ H := fun H1 e => h H1 e _ fun H2 e2 => by
  cases b with
  | true => exact h1 rfl H2 (e.trans e2)
  | false => exact h2 rfl H2 (e.trans e2)
theorem s_ifX {PB : Bool → Hp → Prop} (h : EvTX K S t σ H PB) (h1 : ∀ H1, Lx S H H1 → PB true H1 → St K S tu { D with nx := tz D } σ H1) (h2 : ∀ H1, Lx S H H1 → PB false H1 → St K S tw { D with nx := tz D } σ H1) : St K S (tSeq (tIfS t tu tw) tz) D σ H := fun H1 e => h H1 e _ fun b H2 e2 p => by
  cases b with
  | true => exact h1 H2 (e.trans e2) p H2 (e.trans e2).refl
  | false => exact h2 H2 (e.trans e2) p H2 (e.trans e2).refl
open Evl (tCut) in
/-- an if, a word where its two ways meet -/
theorem s_ifJ (M : L2.St → Hp → Prop) (wf : ∀ σ' H', M σ' H' → Lx S H' H') (h : EvT K S t σ H b) (h1 : b = true → St K S tu { D with nx := M } σ H) (h2 : b = false → St K S tw { D with nx := M } σ H) (k : ∀ σ' H', M σ' H' → St K S tz D σ' H') : St K S (tCut (tIfS t tu tw) tz) D σ H := fun H1 e =>
  ⟨M, h H1 e _ fun H2 e2 => by
    cases b with
    | true => exact h1 rfl H2 (e.trans e2)
    | false => exact h2 rfl H2 (e.trans e2), fun σ' H' m => k σ' H' m H' (wf σ' H' m)⟩
open Evl (tCut) in
theorem s_ifc (h : EvT K S t σ H b) (h1 : b = true → St K S tu { D with nx := tz D } σ H) (h2 : b = false → St K S tw { D with nx := tz D } σ H) : St K S (tCut (tIfS t tu tw) tz) D σ H := fun H1 e =>
  ⟨tz D, h H1 e _ fun H2 e2 => by
    cases b with
    | true => exact h1 rfl H2 (e.trans e2)
    | false => exact h2 rfl H2 (e.trans e2), fun _ _ m => m⟩
theorem s_next (k : St K S tz D σ H) : St K S tNext { D with nx := tz D } σ H := k
open Evl (tCut) in
theorem s_ifJX {PB : Bool → Hp → Prop} (M : L2.St → Hp → Prop) (wf : ∀ σ' H', M σ' H' → Lx S H' H') (h : EvTX K S t σ H PB) (h1 : ∀ H1, Lx S H H1 → PB true H1 → St K S tu { D with nx := M } σ H1) (h2 : ∀ H1, Lx S H H1 → PB false H1 → St K S tw { D with nx := M } σ H1) (k : ∀ σ' H', M σ' H' → St K S tz D σ' H') : St K S (tCut (tIfS t tu tw) tz) D σ H := fun H1 e =>
  ⟨M, h H1 e _ fun b H2 e2 p => by
    cases b with
    | true => exact h1 H2 (e.trans e2) p H2 (e.trans e2).refl
    | false => exact h2 H2 (e.trans e2) p H2 (e.trans e2).refl, fun σ' H' m => k σ' H' m H' (wf σ' H' m)⟩
open Evl (tCut) in
theorem s_ifcX {PB : Bool → Hp → Prop} (h : EvTX K S t σ H PB) (h1 : ∀ H1, Lx S H H1 → PB true H1 → St K S tu { D with nx := tz D } σ H1) (h2 : ∀ H1, Lx S H H1 → PB false H1 → St K S tw { D with nx := tz D } σ H1) : St K S (tCut (tIfS t tu tw) tz) D σ H := fun H1 e =>
  ⟨tz D, h H1 e _ fun b H2 e2 p => by
    cases b with
    | true => exact h1 H2 (e.trans e2) p H2 (e.trans e2).refl
    | false => exact h2 H2 (e.trans e2) p H2 (e.trans e2).refl, fun _ _ m => m⟩
theorem s_if1X {PB : Bool → Hp → Prop} (h : EvTX K S t σ H PB) (h1 : ∀ H1, Lx S H H1 → PB true H1 → St K S tu D σ H1) (h2 : ∀ H1, Lx S H H1 → PB false H1 → St K S tw D σ H1) : St K S (tIfS t tu tw) D σ H := fun H1 e => h H1 e _ fun b H2 e2 p => by
  cases b with
  | true => exact h1 H2 (e.trans e2) p H2 (e.trans e2).refl
  | false => exact h2 H2 (e.trans e2) p H2 (e.trans e2).refl
theorem s_nx (k : ∀ H1, Lx S H H1 → D.nx σ H1) : St K S tNext D σ H := k
theorem s_drop (h : Ev K S te σ H v) (k : St K S tz D σ H) : St K S (tSeq (tDrop te) tz) D σ H := fun H1 e => h H1 e _ fun H2 e2 => k H2 (e.trans e2)
theorem s_dropX (h : EvX K S te σ H P) (k : ∀ v H1, Lx S H H1 → P v H1 → St K S tz D σ H1) : St K S (tSeq (tDrop te) tz) D σ H := fun H1 e => h H1 e _ fun v H2 e2 p => k v H2 (e.trans e2) p H2 (e.trans e2).refl
theorem s_aug {f : Int → Int → Int} {a b : Int} (hx : σ[i]? = some (some (.int a))) (h : Ev K S te σ H (.int b)) (k : St K S tz D (σ.set i (some (.int (f a b)))) H) : St K S (tSeq (tAug i te (ipI f)) tz) D σ H := fun H1 e => ⟨_, hx, h H1 e _ fun H2 e2 => ⟨a, b, rfl, rfl, k H2 (e.trans e2)⟩⟩
theorem s_aug1 {f : Int → Int → Int} {a b : Int} (hx : σ[i]? = some (some (.int a))) (h : Ev K S te σ H (.int b)) (k : ∀ H1, Lx S H H1 → D.nx (σ.set i (some (.int (f a b)))) H1) : St K S (tAug i te (ipI f)) D σ H := fun H1 e => ⟨_, hx, h H1 e _ fun H2 e2 => ⟨a, b, rfl, rfl, k H2 (e.trans e2)⟩⟩

theorem s_setL {l : Addr} {xs : List V} {j : Int} {n : Nat} (h : Ev K S te σ H v) (ho : Ev K S ta σ H (.ref l)) (hi : Ev K S tb σ H (.int j)) (hl : H l = some (.lst xs)) (hj : ixN xs.length j = some n) (ns : ¬ Sx S l)
    (k : St K S tz D σ (upd H l (.lst (xs.set n v)))) : St K S (tSeq (tAsg te (gSub ta tb rSetL)) tz) D σ H := fun H1 e => h H1 e _ fun H2 e2 => ho H2 (e.trans e2) _ fun H3 e3 => hi H3 ((e.trans e2).trans e3) _ fun H4 e4 =>
  have e5 := ((e.trans e2).trans e3).trans e4
  ⟨l, xs, j, n, rfl, rfl, e5.1 l _ ns hl, hj, k _ (e5.upd ns)⟩
theorem s_setL1 {l : Addr} {xs : List V} {j : Int} {n : Nat} (h : Ev K S te σ H v) (ho : Ev K S ta σ H (.ref l)) (hi : Ev K S tb σ H (.int j)) (hl : H l = some (.lst xs)) (hj : ixN xs.length j = some n) (ns : ¬ Sx S l)
    (k : ∀ H1, Lx S (upd H l (.lst (xs.set n v))) H1 → D.nx σ H1) : St K S (tAsg te (gSub ta tb rSetL)) D σ H := fun H1 e => h H1 e _ fun H2 e2 => ho H2 (e.trans e2) _ fun H3 e3 => hi H3 ((e.trans e2).trans e3) _ fun H4 e4 =>
  have e5 := ((e.trans e2).trans e3).trans e4
  ⟨l, xs, j, n, rfl, rfl, e5.1 l _ ns hl, hj, k _ (e5.upd ns)⟩
theorem s_setLX {l : Addr} (h : Ev K S te σ H v) (ho : Ev K S ta σ H (.ref l)) (hi : EvX K S tb σ H P) (ns : ¬ Sx S l)
    (k : ∀ i H1, Lx S H H1 → P i H1 → ∃ (xs : List V) (j : Int) (n : Nat), i = .int j ∧ H1 l = some (.lst xs) ∧ ixN xs.length j = some n ∧ St K S tz D σ (upd H1 l (.lst (xs.set n v)))) : St K S (tSeq (tAsg te (gSub ta tb rSetL)) tz) D σ H := fun H1 e => h H1 e _ fun H2 e2 => ho H2 (e.trans e2) _ fun H3 e3 => hi H3 ((e.trans e2).trans e3) _ fun i H4 e4 p => by
  have e5 := ((e.trans e2).trans e3).trans e4
  obtain ⟨xs, j, n, rfl, hl, hj, z⟩ := k i H4 e5 p
  exact ⟨l, xs, j, n, rfl, rfl, hl, hj, z _ (e5.refl.upd ns)⟩
theorem s_app {l : Addr} {xs : List V} (hl : H l = some (.lst xs)) (ns : ¬ Sx S l) (ha : Ev K S ta σ H (.ref l)) (h : Ev K S te σ H v) (hz : xs.length < sizeLine) (k : St K S tz D σ (upd H l (.lst (xs ++ [v])))) :
    St K S (tSeq (tDrop (tBM K "list" rAppend ta (tCons te tNil))) tz) D σ H := fun H1 e => ha H1 e _ fun H2 e2 => ⟨.inl ⟨rfl, _, SqL.of ((e.trans e2).1 l _ ns hl)⟩, h H2 (e.trans e2) _ fun H3 e3 =>
  have e5 := (e.trans e2).trans e3
  ⟨l, xs, v, rfl, rfl, e5.1 l _ ns hl, hz, k _ (e5.upd ns)⟩⟩
theorem s_app1 {l : Addr} {xs : List V} (hl : H l = some (.lst xs)) (ns : ¬ Sx S l) (ha : Ev K S ta σ H (.ref l)) (h : Ev K S te σ H v) (hz : xs.length < sizeLine) (k : ∀ H1, Lx S (upd H l (.lst (xs ++ [v]))) H1 → D.nx σ H1) :
    St K S (tDrop (tBM K "list" rAppend ta (tCons te tNil))) D σ H := fun H1 e => ha H1 e _ fun H2 e2 => ⟨.inl ⟨rfl, _, SqL.of ((e.trans e2).1 l _ ns hl)⟩, h H2 (e.trans e2) _ fun H3 e3 =>
  have e5 := (e.trans e2).trans e3
  ⟨l, xs, v, rfl, rfl, e5.1 l _ ns hl, hz, k _ (e5.upd ns)⟩⟩
/-- what is appended is made on the way -/
theorem s_appX {l : Addr} {xs : List V} (hl : H l = some (.lst xs)) (ns : ¬ Sx S l) (ha : Ev K S ta σ H (.ref l)) (h : EvX K S te σ H P) (hz : xs.length < sizeLine) (k : ∀ v H1, Lx S H H1 → P v H1 → St K S tz D σ (upd H1 l (.lst (xs ++ [v])))) :
    St K S (tSeq (tDrop (tBM K "list" rAppend ta (tCons te tNil))) tz) D σ H := fun H1 e => ha H1 e _ fun H2 e2 => ⟨.inl ⟨rfl, _, SqL.of ((e.trans e2).1 l _ ns hl)⟩, h H2 (e.trans e2) _ fun v H3 e3 p =>
  have e5 := (e.trans e2).trans e3
  ⟨l, xs, v, rfl, rfl, e5.1 l _ ns hl, hz, k v H3 e5 p _ (e5.refl.upd ns)⟩⟩
theorem s_appX1 {l : Addr} {xs : List V} (hl : H l = some (.lst xs)) (ns : ¬ Sx S l) (ha : Ev K S ta σ H (.ref l)) (h : EvX K S te σ H P) (hz : xs.length < sizeLine) (k : ∀ v H1, Lx S H H1 → P v H1 → ∀ H2, Lx S (upd H1 l (.lst (xs ++ [v]))) H2 → D.nx σ H2) :
    St K S (tDrop (tBM K "list" rAppend ta (tCons te tNil))) D σ H := fun H1 e => ha H1 e _ fun H2 e2 => ⟨.inl ⟨rfl, _, SqL.of ((e.trans e2).1 l _ ns hl)⟩, h H2 (e.trans e2) _ fun v H3 e3 p =>
  have e5 := (e.trans e2).trans e3
  ⟨l, xs, v, rfl, rfl, e5.1 l _ ns hl, hz, k v H3 e5 p _ (e5.refl.upd ns)⟩⟩
/-! loops: Pv holds between the turns -/
theorem s_forL {a : Addr} {xs : List V} {tl : TE} {g : TG} (h : Ev K S tl σ H (.ref a)) (hx : LA K S H a xs) (Pv : Nat → L2.St → Hp → Prop) (h0 : ∀ H1, Lx S H H1 → Pv 0 σ H1) (hl : ∀ i σ' H', i ≤ xs.length → Pv i σ' H' → LA K S H' a xs)
    (hs : ∀ i x σ' H', xs[i]? = some x → Pv i σ' H' → g x σ' H' fun σ2 H2 => tu { D with nx := Pv (i + 1), ct := Pv (i + 1), bk := tz D } σ2 H2) (hd : ∀ σ' H', Pv xs.length σ' H' → tz D σ' H') : St K S (tSeq (tFor (iList K tl) g tu) tz) D σ H := fun H1 e =>
  h H1 e _ fun H2 e2 => ⟨a, rfl, ⟨xs, (hx.mono (e.trans e2)).q⟩, for_list (xs := xs) (D := { D with nx := tz D }) Pv (h0 H2 (e.trans e2)) (fun i σ' H' hi p => (hl i σ' H' hi p).q) hs hd⟩
theorem s_forL1 {a : Addr} {xs : List V} {tl : TE} {g : TG} (h : Ev K S tl σ H (.ref a)) (hx : LA K S H a xs) (Pv : Nat → L2.St → Hp → Prop) (h0 : ∀ H1, Lx S H H1 → Pv 0 σ H1) (hl : ∀ i σ' H', i ≤ xs.length → Pv i σ' H' → LA K S H' a xs)
    (hs : ∀ i x σ' H', xs[i]? = some x → Pv i σ' H' → g x σ' H' fun σ2 H2 => tu { D with nx := Pv (i + 1), ct := Pv (i + 1), bk := D.nx } σ2 H2) (hd : ∀ σ' H', Pv xs.length σ' H' → D.nx σ' H') : St K S (tFor (iList K tl) g tu) D σ H := fun H1 e =>
  h H1 e _ fun H2 e2 => ⟨a, rfl, ⟨xs, (hx.mono (e.trans e2)).q⟩, for_list (xs := xs) Pv (h0 H2 (e.trans e2)) (fun i σ' H' hi p => (hl i σ' H' hi p).q) hs hd⟩
theorem s_forR1 {tas : TA} {g : TG} {n : Int} (h : EvA K S tas σ H [.int n]) (hn : n ≤ 1000000 ∧ -1000000 ≤ n) (Pv : Nat → L2.St → Hp → Prop) (h0 : ∀ H1, Lx S H H1 → Pv 0 σ H1)
    (hs : ∀ (i : Nat) σ' H', (i : Int) < n → Pv i σ' H' → g (.int i) σ' H' fun σ2 H2 => tu { D with nx := Pv (i + 1), ct := Pv (i + 1), bk := tz D } σ2 H2) (hd : ∀ σ' H', Pv n.toNat σ' H' → tz D σ' H') : St K S (tSeq (tFor (iRng1 tas) g tu) tz) D σ H := fun H1 e =>
  h H1 e _ fun H2 e2 => ⟨n, rfl, by omega, by omega, for_range (lo := 0) (n := n.toNat) (D := { D with nx := tz D }) Pv (h0 H2 (e.trans e2)) (fun i σ' H' hi p => by
    have q := hs i σ' H' (by omega) p
    rw [show (0 : Int) + (i : Int) = (i : Int) from Int.zero_add _]
    exact q) hd⟩
theorem s_forR11 {tas : TA} {g : TG} {n : Int} (h : EvA K S tas σ H [.int n]) (hn : n ≤ 1000000 ∧ -1000000 ≤ n) (Pv : Nat → L2.St → Hp → Prop) (h0 : ∀ H1, Lx S H H1 → Pv 0 σ H1)
    (hs : ∀ (i : Nat) σ' H', (i : Int) < n → Pv i σ' H' → g (.int i) σ' H' fun σ2 H2 => tu { D with nx := Pv (i + 1), ct := Pv (i + 1), bk := D.nx } σ2 H2) (hd : ∀ σ' H', Pv n.toNat σ' H' → D.nx σ' H') : St K S (tFor (iRng1 tas) g tu) D σ H := fun H1 e =>
  h H1 e _ fun H2 e2 => ⟨n, rfl, by omega, by omega, for_range (lo := 0) (n := n.toNat) Pv (h0 H2 (e.trans e2)) (fun i σ' H' hi p => by
    have q := hs i σ' H' (by omega) p
    rw [show (0 : Int) + (i : Int) = (i : Int) from Int.zero_add _]
    exact q) hd⟩
theorem s_forR2 {tas : TA} {g : TG} {m n : Int} (h : EvA K S tas σ H [.int m, .int n]) (hn : n ≤ 1000000 ∧ -1000000 ≤ n ∧ m ≤ 1000000 ∧ -1000000 ≤ m) (Pv : Nat → L2.St → Hp → Prop) (h0 : ∀ H1, Lx S H H1 → Pv 0 σ H1)
    (hs : ∀ (i : Nat) σ' H', m + (i : Int) < n → Pv i σ' H' → g (.int (m + i)) σ' H' fun σ2 H2 => tu { D with nx := Pv (i + 1), ct := Pv (i + 1), bk := tz D } σ2 H2) (hd : ∀ σ' H', Pv (n - m).toNat σ' H' → tz D σ' H') : St K S (tSeq (tFor (iRng2 tas) g tu) tz) D σ H := fun H1 e =>
  h H1 e _ fun H2 e2 => ⟨m, n, rfl, by omega, for_range (lo := m) (n := (n - m).toNat) (D := { D with nx := tz D }) Pv (h0 H2 (e.trans e2)) (fun i σ' H' hi p => hs i σ' H' (by omega) p) hd⟩
theorem s_forT {a : Addr} {xs : List V} {tl : TE} {g : TG} (h : Ev K S tl σ H (.ref a)) (hx : UA K S H a xs) (Pv : Nat → L2.St → Hp → Prop) (h0 : ∀ H1, Lx S H H1 → Pv 0 σ H1) (hl : ∀ i σ' H', i ≤ xs.length → Pv i σ' H' → UA K S H' a xs)
    (hs : ∀ i x σ' H', xs[i]? = some x → Pv i σ' H' → g x σ' H' fun σ2 H2 => tu { D with nx := Pv (i + 1), ct := Pv (i + 1), bk := tz D } σ2 H2) (hd : ∀ σ' H', Pv xs.length σ' H' → tz D σ' H') : St K S (tSeq (tFor (iTup K tl) g tu) tz) D σ H := fun H1 e =>
  h H1 e _ fun H2 e2 => ⟨a, rfl, ⟨xs, (hx.mono (e.trans e2)).q⟩, for_tup (xs := xs) (D := { D with nx := tz D }) Pv (h0 H2 (e.trans e2)) (fun i σ' H' hi p => (hl i σ' H' hi p).q) hs hd⟩
theorem s_while (W : Nat → L2.St → Hp → Prop) (m0 : Nat) (h0 : ∀ H1, Lx S H H1 → W m0 σ H1)
    (hs : ∀ m σ' H', W m σ' H' → EvTX K S t σ' H' fun b H1 => (b = true → ∃ N : L2.St → Hp → Prop, (∀ σ2 H2, N σ2 H2 → ∃ m', m' < m ∧ W m' σ2 H2) ∧ tu { D with nx := N, ct := N, bk := tz D } σ' H1) ∧ (b = false → tz D σ' H1))
    (wf : ∀ m σ' H', W m σ' H' → Lx S H' H') : St K S (tSeq (tWhile t tu) tz) D σ H := fun H1 e => ⟨W, ⟨m0, h0 H1 e⟩, fun m σ' H' w => hs m σ' H' w H' (wf m σ' H' w) _ fun b H2 e2 p => by
  cases b with
  | true =>
    obtain ⟨N, n1, n2⟩ := p.1 rfl
    show ∃ N : L2.St → Hp → Prop, _
    exact ⟨N, n1, n2⟩
  | false => exact p.2 rfl⟩
/-! comprehensions: Pv D i acc H, acc what is made so far, at D -/
theorem ex_lcL {a : Addr} {xs : List V} {tl : TE} {j : Nat} {ws : List Nat} (h : Ev K S tl σ H (.ref a)) (hx : LA K S H a xs) (hz : xs.length < sizeLine) (hw : ∀ x, wipe ((wipe σ ws).set j (some x)) ws = wipe σ ws)
    (Pv : Addr → Nat → List V → Hp → Prop) (h0 : ∀ D H1, H D = none → Lx S H H1 → H1 D = some (.lst []) → Pv D 0 [] H1)
    (hs : ∀ D i x acc H1, H D = none → H1 D = some (.lst acc) → xs[i]? = some x → Lx S H H1 → Pv D i acc H1 → EvTX K S t ((wipe σ ws).set j (some x)) H1 fun b H2 =>
      (b = true → EvX K S te ((wipe σ ws).set j (some x)) H2 fun y H3 => Pv D (i + 1) (acc ++ [y]) (upd H3 D (.lst (acc ++ [y])))) ∧ (b = false → Pv D (i + 1) acc H2)) :
    EvX K S (tLc (iList K tl) (gName j) t te ws) σ H (fun v H2 => ∃ p acc, v = .ref p ∧ H p = none ∧ ¬ Sx S p ∧ H2 p = some (.lst acc) ∧ acc.length ≤ xs.length ∧ Pv p xs.length acc H2) := fun H0 e Q q => h H0 e _ fun H1 e1 => ⟨a, rfl, ⟨xs, (hx.mono (e.trans e1)).q⟩, fun Dl hD => by
  have w1 : Lx S H H1 := e.trans e1
  have nD : ¬ Sx S Dl := w1.ns hD
  have fD : H Dl = none := w1.fresh hD
  refine lc_list (xs := xs) (fun i H' => ∃ acc, H' Dl = some (.lst acc) ∧ acc.length ≤ i ∧ Lx S H1 H' ∧ Pv Dl i acc H') ⟨[], upd_same, Nat.le_refl _, w1.new hD, h0 Dl _ fD (w1.trans (w1.new hD)) upd_same⟩ (fun i H' _ ⟨acc, _, _, e2, _⟩ => (hx.mono (w1.trans e2)).q) ?_ ?_
  · rintro i x H' hi ⟨acc, g1, g2, e2, p⟩
    refine ⟨hw x, hs Dl i x acc H' fD g1 hi (w1.trans e2) p H' e2.refl _ fun b H2 e3 pb => ?_⟩
    cases b with
    | true =>
      show te _ H2 _
      refine pb.1 rfl H2 ((w1.trans e2).trans e3).refl _ fun y H3 e4 py => ⟨acc, e4.1 _ _ nD (e3.1 _ _ nD g1), Nat.lt_of_le_of_lt g2 (Nat.lt_of_lt_of_le ((List.getElem?_eq_some_iff.mp hi).1) (Nat.le_of_lt hz)), acc ++ [y], upd_same, ?_, ?_, py⟩
      · rw [List.length_append]; exact Nat.succ_le_succ g2
      · have e5 := (e2.trans e3).trans e4
        exact e5.put nD fun u z => by rw [hD] at z; cases z
    | false =>
      show ∃ acc, _
      exact ⟨acc, e3.1 _ _ nD g1, Nat.le_succ_of_le g2, e2.trans e3, pb.2 rfl⟩
  · rintro H' ⟨acc, g1, g2, e2, p⟩
    exact q _ _ (e1.trans e2) ⟨Dl, acc, rfl, fD, nD, g1, g2, p⟩⟩
theorem ex_lcR {n : Int} {tas : TA} {j : Nat} {ws : List Nat} (h : EvA K S tas σ H [.int n]) (hn : n ≤ 1000000 ∧ -1000000 ≤ n) (hw : ∀ x, wipe ((wipe σ ws).set j (some x)) ws = wipe σ ws)
    (Pv : Addr → Nat → List V → Hp → Prop) (h0 : ∀ D H1, H D = none → Lx S H H1 → H1 D = some (.lst []) → Pv D 0 [] H1)
    (hs : ∀ D (i : Nat) acc H1, H D = none → H1 D = some (.lst acc) → (i : Int) < n → Lx S H H1 → Pv D i acc H1 → EvTX K S t ((wipe σ ws).set j (some (.int i))) H1 fun b H2 =>
      (b = true → EvX K S te ((wipe σ ws).set j (some (.int i))) H2 fun y H3 => Pv D (i + 1) (acc ++ [y]) (upd H3 D (.lst (acc ++ [y])))) ∧ (b = false → Pv D (i + 1) acc H2)) :
    EvX K S (tLc (iRng1 tas) (gName j) t te ws) σ H (fun v H2 => ∃ p acc, v = .ref p ∧ H p = none ∧ ¬ Sx S p ∧ H2 p = some (.lst acc) ∧ acc.length ≤ n.toNat ∧ Pv p n.toNat acc H2) := fun H0 e Q q => h H0 e _ fun H1 e1 => ⟨n, rfl, by omega, by omega, fun Dl hD => by
  have w1 : Lx S H H1 := e.trans e1
  have nD : ¬ Sx S Dl := w1.ns hD
  have fD : H Dl = none := w1.fresh hD
  refine lc_range (lo := 0) (n := n.toNat) (fun i H' => ∃ acc, H' Dl = some (.lst acc) ∧ acc.length ≤ i ∧ Lx S H1 H' ∧ Pv Dl i acc H') ⟨[], upd_same, Nat.le_refl _, w1.new hD, h0 Dl _ fD (w1.trans (w1.new hD)) upd_same⟩ ?_ ?_
  · rintro i H' hi ⟨acc, g1, g2, e2, p⟩
    show wipe ((wipe σ ws).set j (some (.int ((0 : Int) + (i : Int))))) ws = wipe σ ws ∧ t ((wipe σ ws).set j (some (.int ((0 : Int) + (i : Int))))) H' _
    rw [show (0 : Int) + (i : Int) = (i : Int) from Int.zero_add _]
    refine ⟨hw _, hs Dl i acc H' fD g1 (by omega) (w1.trans e2) p H' e2.refl _ fun b H2 e3 pb => ?_⟩
    cases b with
    | true =>
      show te _ H2 _
      refine pb.1 rfl H2 ((w1.trans e2).trans e3).refl _ fun y H3 e4 py => ⟨acc, e4.1 _ _ nD (e3.1 _ _ nD g1), Nat.lt_of_le_of_lt g2 (by have : sizeLine = 16777216 := sizeLine_eq; omega), acc ++ [y], upd_same, ?_, ?_, py⟩
      · rw [List.length_append]; exact Nat.succ_le_succ g2
      · have e5 := (e2.trans e3).trans e4
        exact e5.put nD fun u z => by rw [hD] at z; cases z
    | false =>
      show ∃ acc, _
      exact ⟨acc, e3.1 _ _ nD g1, Nat.le_succ_of_le g2, e2.trans e3, pb.2 rfl⟩
  · rintro H' ⟨acc, g1, g2, e2, p⟩
    exact q _ _ (e1.trans e2) ⟨Dl, acc, rfl, fD, nD, g1, g2, p⟩⟩
theorem et_yes : EvTX K S tYes σ H (fun b _ => b = true) := fun H1 e _ q => q true H1 e.refl rfl
/-- each item a value: [f x for x in xs] -/
theorem ex_map {a : Addr} {xs : List V} {tl : TE} {j : Nat} {ws : List Nat} (f : V → V) (h : Ev K S tl σ H (.ref a)) (hx : LA K S H a xs) (hz : xs.length < sizeLine) (hw : ∀ x, wipe ((wipe σ ws).set j (some x)) ws = wipe σ ws)
    (hs : ∀ x ∈ xs, Ev K S te ((wipe σ ws).set j (some x)) H (f x)) : EvX K S (tLc (iList K tl) (gName j) tYes te ws) σ H (NewL S H (xs.map f)) := by
  refine (ex_lcL h hx hz hw (fun _ i acc _ => acc = (xs.take i).map f) (fun _ _ _ _ _ => by simp) ?_).imp ?_
  · intro D i x acc H1 _ _ hi e p H2 e2 Q q
    refine q true H2 e2.refl ⟨fun _ H3 e3 Q3 q3 => hs x (List.mem_of_getElem? hi) H3 ((e.trans e2).trans e3) _ fun H4 e4 => q3 _ _ e4 ?_, fun z => nomatch z⟩
    rw [p, List.take_succ, hi]
    simp
  · rintro v H2 e ⟨p, acc, rfl, f1, f2, f3, _, g⟩
    rw [List.take_length] at g
    subst g
    exact ⟨p, rfl, f1, f2, f3⟩
theorem ex_filterMap {a : Addr} {xs : List V} {tl : TE} {j : Nat} {ws : List Nat} (g : V → Bool) (f : V → V) (h : Ev K S tl σ H (.ref a)) (hx : LA K S H a xs) (hz : xs.length < sizeLine) (hw : ∀ x, wipe ((wipe σ ws).set j (some x)) ws = wipe σ ws)
    (ht : ∀ x ∈ xs, EvT K S t ((wipe σ ws).set j (some x)) H (g x)) (hs : ∀ x ∈ xs, g x = true → Ev K S te ((wipe σ ws).set j (some x)) H (f x)) : EvX K S (tLc (iList K tl) (gName j) t te ws) σ H (NewL S H ((xs.filter g).map f)) := by
  refine (ex_lcL h hx hz hw (fun _ i acc _ => acc = ((xs.take i).filter g).map f) (fun _ _ _ _ _ => by simp) ?_).imp ?_
  · intro D i x acc H1 _ _ hi e p H2 e2 Q q
    refine ht x (List.mem_of_getElem? hi) H2 (e.trans e2) _ fun H3 e3 => q (g x) H3 e3 ⟨fun b H4 e4 Q4 q4 => hs x (List.mem_of_getElem? hi) b H4 (((e.trans e2).trans e3).trans e4) _ fun H5 e5 => q4 _ _ e5 ?_, fun b => ?_⟩
    · rw [p, List.take_succ, hi]
      simp [List.filter_append, b]
    · rw [p, List.take_succ, hi]
      simp [List.filter_append, b]
  · rintro v H2 e ⟨p, acc, rfl, f1, f2, f3, _, g⟩
    rw [List.take_length] at g
    subst g
    exact ⟨p, rfl, f1, f2, f3⟩
end
/-! loops whose target is a name -/
section
variable {K : PySem.W.Frag} {S : Dst} {σ : L2.St} {H H' : Hp} {tas : TA} {tl : TE} {D : Ends} {tu tz : TS} {j : Nat}
theorem s_forLn {a : Addr} {xs : List V} (h : Ev K S tl σ H (.ref a)) (hx : LA K S H a xs) (Pv : Nat → L2.St → Hp → Prop) (wf : ∀ i σ' H', Pv i σ' H' → Lx S H' H') (h0 : ∀ H1, Lx S H H1 → Pv 0 σ H1) (hl : ∀ i σ' H', i ≤ xs.length → Pv i σ' H' → LA K S H' a xs)
    (hs : ∀ i x σ' H', xs[i]? = some x → Pv i σ' H' → St K S tu { D with nx := Pv (i + 1), ct := Pv (i + 1), bk := tz D } (σ'.set j (some x)) H') (hd : ∀ σ' H', Pv xs.length σ' H' → St K S tz D σ' H') : St K S (tSeq (tFor (iList K tl) (gName j) tu) tz) D σ H :=
  s_forL h hx Pv h0 hl (fun i x σ' H' hi p => hs i x σ' H' hi p H' (wf i σ' H' p)) (fun σ' H' p => hd σ' H' p H' (wf _ σ' H' p))
theorem s_forLn1 {a : Addr} {xs : List V} (h : Ev K S tl σ H (.ref a)) (hx : LA K S H a xs) (Pv : Nat → L2.St → Hp → Prop) (wf : ∀ i σ' H', Pv i σ' H' → Lx S H' H') (h0 : ∀ H1, Lx S H H1 → Pv 0 σ H1) (hl : ∀ i σ' H', i ≤ xs.length → Pv i σ' H' → LA K S H' a xs)
    (hs : ∀ i x σ' H', xs[i]? = some x → Pv i σ' H' → St K S tu { D with nx := Pv (i + 1), ct := Pv (i + 1), bk := D.nx } (σ'.set j (some x)) H') (hd : ∀ σ' H', Pv xs.length σ' H' → D.nx σ' H') : St K S (tFor (iList K tl) (gName j) tu) D σ H :=
  s_forL1 h hx Pv h0 hl (fun i x σ' H' hi p => hs i x σ' H' hi p H' (wf i σ' H' p)) (hd)
theorem s_forTn {a : Addr} {xs : List V} (h : Ev K S tl σ H (.ref a)) (hx : UA K S H a xs) (Pv : Nat → L2.St → Hp → Prop) (wf : ∀ i σ' H', Pv i σ' H' → Lx S H' H') (h0 : ∀ H1, Lx S H H1 → Pv 0 σ H1) (hl : ∀ i σ' H', i ≤ xs.length → Pv i σ' H' → UA K S H' a xs)
    (hs : ∀ i x σ' H', xs[i]? = some x → Pv i σ' H' → St K S tu { D with nx := Pv (i + 1), ct := Pv (i + 1), bk := tz D } (σ'.set j (some x)) H') (hd : ∀ σ' H', Pv xs.length σ' H' → St K S tz D σ' H') : St K S (tSeq (tFor (iTup K tl) (gName j) tu) tz) D σ H :=
  s_forT h hx Pv h0 hl (fun i x σ' H' hi p => hs i x σ' H' hi p H' (wf i σ' H' p)) (fun σ' H' p => hd σ' H' p H' (wf _ σ' H' p))
theorem s_forRn {n : Int} (h : EvA K S tas σ H [.int n]) (hn : n ≤ 1000000 ∧ -1000000 ≤ n) (Pv : Nat → L2.St → Hp → Prop) (wf : ∀ i σ' H', Pv i σ' H' → Lx S H' H') (h0 : ∀ H1, Lx S H H1 → Pv 0 σ H1)
    (hs : ∀ (i : Nat) σ' H', (i : Int) < n → Pv i σ' H' → St K S tu { D with nx := Pv (i + 1), ct := Pv (i + 1), bk := tz D } (σ'.set j (some (.int i))) H') (hd : ∀ σ' H', Pv n.toNat σ' H' → St K S tz D σ' H') : St K S (tSeq (tFor (iRng1 tas) (gName j) tu) tz) D σ H :=
  s_forR1 h hn Pv h0 (fun i σ' H' hi p => hs i σ' H' hi p H' (wf i σ' H' p)) (fun σ' H' p => hd σ' H' p H' (wf _ σ' H' p))
theorem s_forRn1 {n : Int} (h : EvA K S tas σ H [.int n]) (hn : n ≤ 1000000 ∧ -1000000 ≤ n) (Pv : Nat → L2.St → Hp → Prop) (wf : ∀ i σ' H', Pv i σ' H' → Lx S H' H') (h0 : ∀ H1, Lx S H H1 → Pv 0 σ H1)
    (hs : ∀ (i : Nat) σ' H', (i : Int) < n → Pv i σ' H' → St K S tu { D with nx := Pv (i + 1), ct := Pv (i + 1), bk := D.nx } (σ'.set j (some (.int i))) H') (hd : ∀ σ' H', Pv n.toNat σ' H' → D.nx σ' H') : St K S (tFor (iRng1 tas) (gName j) tu) D σ H :=
  s_forR11 h hn Pv h0 (fun i σ' H' hi p => hs i σ' H' hi p H' (wf i σ' H' p)) (hd)
theorem s_forQn {m n : Int} (h : EvA K S tas σ H [.int m, .int n]) (hn : n ≤ 1000000 ∧ -1000000 ≤ n ∧ m ≤ 1000000 ∧ -1000000 ≤ m) (Pv : Nat → L2.St → Hp → Prop) (wf : ∀ i σ' H', Pv i σ' H' → Lx S H' H') (h0 : ∀ H1, Lx S H H1 → Pv 0 σ H1)
    (hs : ∀ (i : Nat) σ' H', m + (i : Int) < n → Pv i σ' H' → St K S tu { D with nx := Pv (i + 1), ct := Pv (i + 1), bk := tz D } (σ'.set j (some (.int (m + i)))) H') (hd : ∀ σ' H', Pv (n - m).toNat σ' H' → St K S tz D σ' H') : St K S (tSeq (tFor (iRng2 tas) (gName j) tu) tz) D σ H :=
  s_forR2 h hn Pv h0 (fun i σ' H' hi p => hs i σ' H' hi p H' (wf i σ' H' p)) (fun σ' H' p => hd σ' H' p H' (wf _ σ' H' p))
theorem go {ts : TS} {σ' : L2.St} (e : σ = σ') (h : St K none ts D σ' H) : ts D σ H := by
  subst e
  exact h H Lx.rfl0
theorem lx_start {st l : Addr} (d : Drw H st l) : Lx (some (st, l)) H H := ⟨fun _ _ _ e => e, fun p hp => by cases hp; exact d⟩
/-- a drawing state has been made -/
theorem s_S {ts : TS} {st l : Addr} (d : Drw H st l) (h : St K (some (st, l)) ts D σ H) : St K none ts D σ H := fun H1 e => h H1 ((lx_start d).of0 e)
theorem goS {ts : TS} {σ' : L2.St} {st l : Addr} (e : σ = σ') (d : Drw H st l) (h : St K (some (st, l)) ts D σ' H) : ts D σ H := by
  subst e
  exact h H (lx_start d)
theorem ns_of {st l b : Addr} (h1 : b ≠ st) (h2 : b ≠ l) : ¬ Sx (some (st, l)) b := fun ⟨p, hp, z⟩ => by
  cases hp
  rcases z with z | z
  · exact h1 z
  · exact h2 z
theorem wf0 {Pv : Nat → L2.St → Hp → Prop} : ∀ i σ' H', Pv i σ' H' → Lx none H' H' := fun _ _ _ _ => Lx.rfl0
end
/-! ### the drawing -/
section
variable {K : PySem.W.Frag} {S : Dst} {σ : L2.St} {H : Hp}
def sp_draw : Sp := fun vs H Q _ => ∃ (st l : Addr) (m : Int), vs = [.ref st, .int m] ∧ 0 < m ∧ m < 1073741824 ∧ Drw H st l ∧ ∀ r H', 0 ≤ r → r < m → Drw H' st l → (∀ b o, b ≠ st → H b = some o → H' b = some o) → Q (.int r) H'
/-- what a draw gives: any number below m -/
abbrev Drawn (m : Int) : V → Hp → Prop := fun v _ => ∃ r : Int, v = .int r ∧ 0 ≤ r ∧ r < m
theorem spx_draw {st l : Addr} {m : Int} {E : XK} (h0 : 0 < m) (h1 : m < 1073741824) : SpX K (some (st, l)) sp_draw [.ref st, .int m] H E (Drawn m) := by
  intro H1 e Q q
  refine ⟨st, l, m, rfl, h0, h1, e.2 (st, l) rfl, fun r H' r0 r1 d k => q _ _ ⟨fun b o nb eb => k b o (fun z => nb ⟨_, rfl, .inl z⟩) eb, fun p hp => ?_⟩ ⟨r, rfl, r0, r1⟩⟩
  cases hp
  exact d
theorem ex_draw {st l : Addr} {m : Int} {E : XK} {ta tm : TE} (hs : Ev K (some (st, l)) ta σ H (.ref st)) (hm : Ev K (some (st, l)) tm σ H (.int m)) (h0 : 0 < m) (h1 : m < 1073741824) :
    EvX K (some (st, l)) (tCall sp_draw [] E (tCons ta (tCons tm tNil))) σ H (Drawn m) := ex_call (ea_cons hs (ea_cons hm ea_nil)) (spx_draw h0 h1)
def sp_start (K : PySem.W.Frag) : Sp := fun vs H Q _ => ∃ (a : Addr) (ns : List Int), vs = [.ref a] ∧ SqL K H a (ns.map V.int) ∧ ∀ st l H', H st = none → H l = none → Same H H' → Drw H' st l → Q (.ref st) H'
theorem ex_start {σ : L2.St} {H : Hp} {te : TE} {E : XK} {a : Addr} {ns : List Int} (h : Ev K none te σ H (.ref a)) (hS : SqL K H a (ns.map V.int)) : EvX K none (tCall (sp_start K) [] E (tCons te tNil)) σ H (fun v H2 => ∃ st l, v = .ref st ∧ Drw H2 st l) :=
  ex_call (ea_cons h ea_nil) fun H1 e Q q => ⟨a, ns, rfl, ((LA.of0 hS).mono e).q, fun st l H' _ _ sm d => q _ _ (lx_same sm) ⟨st, l, rfl, d⟩⟩
end
end Fw

namespace Fw
open PySem PySem.Spec PyProof.Rows L2
/-! ### a def that keeps a promise, however its object looks -/
def Ok (P : Program) (w : World) (K : PySem.W.Frag) (mg : Str → Option Value) (base : Heap) (CX : CXT) (k : Nat) (f : Addr) (ps : List Str) (sp : Sp) : Prop :=
  ∃ fd : FuncData, FnOk P w K mg base CX k f fd ps sp ∧ Binds K fd ps [] ∧ PySem.W.keepIn K (.ref f) = true ∧ ∃ oc od osl, K.lookup f = some ⟨oc, od, .func fd, osl⟩
abbrev FnIs (K : PySem.W.Frag) (x qual : Str) (st : Stmt) (f : Addr) : Prop := ∃ fd, FunD K x qual (defArgs st) (defBody st) (defScope st) [] [] f fd
section
variable {P : Program} {w : World} {K : PySem.W.Frag} {mg : Str → Option Value} {base : Heap}
theorem Ok.mono {CX : CXT} {j k : Nat} {f : Addr} {ps : List Str} {sp : Sp} (h : Ok P w K mg base CX j f ps sp) (l : j ≤ k) : Ok P w K mg base CX k f ps sp := by
  obtain ⟨fd, a, b, c⟩ := h
  exact ⟨fd, a.mono l, b, c⟩
theorem Ok.imp {CX : CXT} {k : Nat} {f : Addr} {ps : List Str} {sp sp' : Sp} (h : Ok P w K mg base CX k f ps sp) (i : ∀ vs H Q E, sp' vs H Q E → sp vs H Q E) : Ok P w K mg base CX k f ps sp' := by
  obtain ⟨fd, a, b, c⟩ := h
  exact ⟨fd, a.imp i, b, c⟩
/-- a def that lets nothing out: its body, read -/
theorem okD {x qual : Str} {st : Stmt} {f : Addr} {N ps : List Str} {k : Nat} {sp : Sp} (F : FnIs K x qual st f) (S : FnScope N ps (defScope st))
    (hb : ∀ (kV doc pm : Value) (an : Option Addr) (cdv ct : Value) (us : List Value), us.length = ps.length → bindArgs (PySem.W.fnOf x qual (defArgs st) (defBody st) (defScope st) .none kV doc pm an cdv ct) ⟨us, []⟩ = pure (ps.zip us))
    (len : ∀ vs H Q E, sp vs H Q E → vs.length = ps.length)
    (hbody : ∀ (cdv : Value) (A : Around) (outer : List Env) (s : Shared) (H : Hp) (vs : List V) (Q : VK) (E : XK), Room k (A.deeper (envOfC qual (defScope st) s.heap.objs.size f cdv)) → sp vs H Q E →
      ∃ t, PSs (cxOf CX0 P w K mg base N qual (defScope st) f cdv A outer s H E).nox (defBody st) t ∧ t { nx := fun _ H' => Q .non H', rt := Q } (start N vs) H) : Ok P w K mg base CX0 (k + 1) f ps sp := by
  obtain ⟨fd, F⟩ := F
  refine ⟨fd, F.ok S len fun cdv A outer s H vs Q E hr hsp => ?_, F.bindsN hb, F.kp, by obtain ⟨oc, od, _, _, _, _, _, _, _, osl, _, lk, _⟩ := F.ex; exact ⟨oc, od, osl, lk⟩⟩
  obtain ⟨t, h, q⟩ := hbody cdv A outer s H vs Q E hr hsp
  exact ⟨t, h.nox, q⟩
/-- the promise of the law's own def -/
theorem Ok.fn {CX : CXT} {k : Nat} {f : Addr} {ps : List Str} {sp : Sp} {x qual : Str} {params : Arguments} {body : List Stmt} {scope : Scope} {dvs : List V} {kws : List (Str × V)} {fd : FuncData} (h : Ok P w K mg base CX k f ps sp)
    (F : FunD K x qual params body scope dvs kws f fd) : FnOk P w K mg base CX k f fd ps sp := by
  obtain ⟨fd', a, _, _, oc, od, osl, lk⟩ := h
  obtain ⟨_, _, _, _, _, _, _, _, _, _, _, lk2, _⟩ := F.ex
  rw [lk] at lk2
  injection lk2 with e
  injection e with _ _ e _
  injection e with e
  subst e
  exact a
end
section
variable {X : Cx} {CX : CXT} {k : Nat} {f C : Addr} {ps : List Str} {sp : Sp} {E : XK} {x m : Str} {p pos apos : Pos} {e o : Expr} {es : List Expr} {t : TA} {ta : TE}
theorem pe_callO (F : Ok X.prog X.w X.K X.mg X.base CX k f ps sp) (hr : Room k X.A) (hg : Gl X x) (hm : X.mg x = some (.ref f)) (hx : Passes CX X E) (ha : PA X (e :: es) t)
    (hdb : (x == ("__debug__" : Str)) = false := by decide) (he : starEach (e :: es) X.env = (false, eval e X.env) :: starEach es X.env := by rfl) (hpl : (backTo pos (starEach es X.env)).any (·.1) = false := by rfl) :
    PE X (.Call (.Name x p) (e :: es) [] pos) (tCall sp [] E t) := by
  obtain ⟨fd, F, hb, hk, _⟩ := F
  exact pe_call F hr hg hm hk hb .nil hx ha hdb he hpl
end
/-! ### d.get(k), d a written dict of text keys -/
def tKGet (K : PySem.W.Frag) (w : World) (td ty : TE) : TE := fun σ H Q => td σ H fun x H1 => ∃ (a : Addr) (es : Array DictEntry) (n : Nat), x = .ref a ∧ KDict K w a es n ∧ ty σ H1 fun y H2 => ∃ (z : Str) (r : Option Value) (v : V), y = .str z ∧ PySem.W.nsIn K a z = some r ∧ RelV v (r.getD .none) ∧ Q v H2
section
variable {X : Cx} {o e : Expr} {apos cpos : Pos} {td ty : TE}
theorem pe_kget (K : PySem.W.Frag) (hK : X.K = K) {w : World} (hw : X.w = w) (ho : PE X o td) (he : PE X e ty) (m : M1 X o "get" apos e cpos) : PE X (.Call (.Attribute o "get" apos) [e] [] cpos) (tKGet K w td ty) := by
  subst hK
  subst hw
  refine ⟨fun pins s σ H Q I h => ?_⟩
  refine wpAny_Call_method m.base m.few m.line PySem.F.plainAttrs_dict PySem.F.slot_dict_get PySem.F.type_dict_get (thn (ho.run pins s σ H _ I h) fun u s1 ⟨x, H1, I1, rx, a, es, n, ex, D, q1⟩ => ?_)
  subst ex
  obtain rfl : u = Value.ref a := rx
  refine ⟨kd_type D I1, fun b eb => ?_, ?_⟩
  · cases eb
    exact ⟨_, I1.kIn _ _ D.at_, rfl⟩
  rw [m.trees]
  refine Calls.callWith_builtin rfl (Calls.evalArgs_plain (Calls.spliced_cons (thn (he.run pins s1 σ H1 _ I1 q1) fun iv s2 ⟨y, H2, I2, ry, z, r, v, ey, en, rv, q2⟩ => Calls.spliced_nil ?_)))
  subst ey
  obtain ⟨t, rfl⟩ := ry
  refine call_meetsIn PySem.F.slot_dict_get (kd_type D I2) PySem.F.entry_dict_get (PySem.F.args_dict_get_2 _ _) (meets_dict_get (strKind X.prog X.w) a (PySem.strKind_is X.prog X.w z t) D.low) ⟨_, PySem.W.mapOf_K (prog := X.prog) I2.kIn D.at_ D.lit, v, H2, I2.tok _, ?_, q2⟩
  rw [PySem.W.find_K D.at_ en]
  exact rv
end
/-! ### data: what a value stands for -/
mutual
inductive Rp (S : Dst) (H : Hp) : V → PyData → Prop
  | non : Rp S H .non .none
  | bl (b : Bool) : Rp S H (.bl b) (.bool b)
  | int (i : Int) : Rp S H (.int i) (.int i)
  | str (x : Str) : Rp S H (.str x) (.str x)
  | lst {a : Addr} {xs : List V} {ds : List PyData} : H a = some (.lst xs) → ¬ Sx S a → xs.length ≤ 100000 → RpAll S H xs ds → Rp S H (.ref a) (.list ds)
  | tup {a : Addr} {xs : List V} {ds : List PyData} : H a = some (.tup xs) → ¬ Sx S a → xs.length ≤ 100000 → RpAll S H xs ds → Rp S H (.ref a) (.tuple ds)
inductive RpAll (S : Dst) (H : Hp) : List V → List PyData → Prop
  | nil : RpAll S H [] []
  | cons {v : V} {vs : List V} {d : PyData} {ds : List PyData} : Rp S H v d → RpAll S H vs ds → RpAll S H (v :: vs) (d :: ds)
end
section
variable {K : PySem.W.Frag} {S : Dst} {H H' : Hp}
mutual
theorem Rp.mono (e : Lx S H H') : ∀ (d : PyData) (v : V), Rp S H v d → Rp S H' v d
  | .none, _, h => by cases h; exact .non
  | .bool b, _, h => by cases h; exact .bl b
  | .int b, _, h => by cases h; exact .int b
  | .str b, _, h => by cases h; exact .str b
  | .list ds, _, h => by
    cases h with
    | lst h1 h2 h3 h4 => exact .lst (e.1 _ _ h2 h1) h2 h3 (RpAll.mono e ds _ h4)
  | .tuple ds, _, h => by
    cases h with
    | tup h1 h2 h3 h4 => exact .tup (e.1 _ _ h2 h1) h2 h3 (RpAll.mono e ds _ h4)
  | .dict kvs, _, h => by cases h
theorem RpAll.mono (e : Lx S H H') : ∀ (ds : List PyData) (vs : List V), RpAll S H vs ds → RpAll S H' vs ds
  | [], _, h => by cases h; exact .nil
  | d :: ds, _, h => by
    cases h with
    | cons h1 h2 => exact .cons (Rp.mono e d _ h1) (RpAll.mono e ds _ h2)
end
mutual
theorem Rp.to0 : ∀ (d : PyData) (v : V), Rp S H v d → Rp none H v d
  | .none, _, h => by cases h; exact .non
  | .bool b, _, h => by cases h; exact .bl b
  | .int b, _, h => by cases h; exact .int b
  | .str b, _, h => by cases h; exact .str b
  | .list ds, _, h => by
    cases h with
    | lst h1 h2 h3 h4 => exact .lst h1 sx_none h3 (RpAll.to0 ds _ h4)
  | .tuple ds, _, h => by
    cases h with
    | tup h1 h2 h3 h4 => exact .tup h1 sx_none h3 (RpAll.to0 ds _ h4)
  | .dict kvs, _, h => by cases h
theorem RpAll.to0 : ∀ (ds : List PyData) (vs : List V), RpAll S H vs ds → RpAll none H vs ds
  | [], _, h => by cases h; exact .nil
  | d :: ds, _, h => by
    cases h with
    | cons h1 h2 => exact .cons (Rp.to0 d _ h1) (RpAll.to0 ds _ h2)
end
theorem Rp.m {d : PyData} {v : V} (h : Rp S H v d) (e : Lx S H H') : Rp S H' v d := Rp.mono e d v h
theorem Rp.z {d : PyData} {v : V} (h : Rp S H v d) : Rp none H v d := Rp.to0 d v h
theorem RpAll.m {ds : List PyData} {vs : List V} (h : RpAll S H vs ds) (e : Lx S H H') : RpAll S H' vs ds := RpAll.mono e ds vs h
theorem RpAll.length : ∀ {vs : List V} {ds : List PyData}, RpAll S H vs ds → vs.length = ds.length
  | _, _, .nil => rfl
  | _, _, .cons _ h => congrArg Nat.succ (RpAll.length h)
theorem RpAll.get : ∀ {vs : List V} {ds : List PyData}, RpAll S H vs ds → ∀ {i : Nat} {d : PyData}, ds[i]? = some d → ∃ v, vs[i]? = some v ∧ Rp S H v d
  | _, _, .nil, i, d, h => by simp at h
  | _, _, .cons a _, 0, d, h => by
    have e := Option.some.inj h
    subst e
    exact ⟨_, rfl, a⟩
  | _, _, .cons _ r, i + 1, d, h => RpAll.get r (i := i) h
theorem RpAll.of {vs : List V} {ds : List PyData} (hl : vs.length = ds.length) (h : ∀ (i : Nat) v d, vs[i]? = some v → ds[i]? = some d → Rp S H v d) : RpAll S H vs ds := by
  induction vs generalizing ds with
  | nil => cases ds with
    | nil => exact .nil
    | cons d ds => exact nomatch hl
  | cons v vs ih => cases ds with
    | nil => exact nomatch hl
    | cons d ds => exact .cons (h 0 v d rfl rfl) (ih (Nat.succ.inj hl) fun i v' d' a b => h (i + 1) v' d' a b)
theorem RpAll.map {α : Type} {f : α → V} {g : α → PyData} {xs : List α} (h : ∀ x ∈ xs, Rp S H (f x) (g x)) : RpAll S H (xs.map f) (xs.map g) := by
  induction xs with
  | nil => exact .nil
  | cons x xs ih => exact .cons (h x (by simp)) (ih fun y hy => h y (by simp [hy]))
/-- the name of a datum's type -/
def tyD : PyData → String
  | .none => "NoneType" | .bool _ => "bool" | .int _ => "int" | .str _ => "str" | .list _ => "list" | .tuple _ => "tuple" | .dict _ => "dict"
theorem Rp.ty {d : PyData} {v : V} (h : Rp S H v d) : TyX K H v (.type (tyD d)) := by
  cases h with
  | non => exact .base .non
  | bl b => exact .base (.bl b)
  | int b => exact .base (.int b)
  | str b => exact .base (.str b)
  | lst h1 h2 h3 h4 => exact .base (.lst h1)
  | tup h1 h2 h3 h4 => exact .base (.tup h1)
theorem kD {d : PyData} (t : String) {n : String} {b : Bool} (h : tyD d = t) (k : kitB t n = some b) : kitB (tyD d) n = some b := h ▸ k
def rIsiA (K : PySem.W.Frag) : List V → Hp → VK → Prop := rIsi K
theorem rc_isi {d : PyData} {v : V} {n : String} {b : Bool} (h : Rp S H v d) (hk : kitB (tyD d) n = some b) : RC K S (rIsi K) [v, .ty n] H (.bl b) := fun H1 e _ q =>
  ⟨v, .ty n, _, _, b, rfl, .ty n, (h.m e).ty, kit_ty hk, q H1 e.refl⟩
theorem ev_isi {d : PyData} {v : V} {n : String} {b : Bool} {σ : L2.St} {te : TE} (he : Ev K S te σ H v) (h : Rp S H v d) (hk : kitB (tyD d) n = some b) : Ev K S (tCB (rIsi K) (tCons te (tCons (tC (.ty n)) tNil))) σ H (.bl b) :=
  ev_cb (ea_cons he (ea_cons ev_c ea_nil)) (rc_isi h hk)
theorem depth_mem : ∀ {ds : List PyData} {i : Nat} {d : PyData}, ds[i]? = some d → d.depth ≤ PyData.depthAll ds
  | [], i, d, h => by simp at h
  | x :: xs, 0, d, h => by
    have e := Option.some.inj h
    subst e
    rw [PyData.depthAll]
    exact Nat.le_max_left _ _
  | x :: xs, i + 1, d, h => by
    have q := depth_mem (ds := xs) (i := i) h
    rw [PyData.depthAll]
    exact Nat.le_trans q (Nat.le_max_right _ _)
/-! _law_is_number, _law_same of what is the same -/
def isNumD : PyData → Bool
  | .int _ => true
  | _ => false
def sp_isnum : Sp := fun vs H Q _ => ∃ (x : V) (d : PyData), vs = [x] ∧ Rp none H x d ∧ ∀ H', Lx none H H' → Q (.bl (isNumD d)) H'
theorem ev_isnum {te : TE} {σ : L2.St} {x : V} {d : PyData} {E : XK} (h : Ev K S te σ H x) (r : Rp S H x d) : Ev K S (tCall sp_isnum [] E (tCons te tNil)) σ H (.bl (isNumD d)) :=
  (ex_call (P := fun v _ => v = .bl (isNumD d)) (ea_cons h ea_nil) fun H1 e Q q => ⟨x, d, rfl, (r.m e).z, fun H' e2 => q _ _ (e.refl.of0 e2) rfl⟩).ev fun _ _ _ z => z
def sp_same (n : Nat) : Sp := fun vs H Q _ => ∃ (x y : V) (d : PyData), vs = [x, y] ∧ d.depth < n ∧ Rp none H x d ∧ Rp none H y d ∧ ∀ H', Lx none H H' → Q (.bl true) H'
theorem ev_same {ta tb : TE} {σ : L2.St} {x y : V} {d : PyData} {E : XK} {n : Nat} (ha : Ev K S ta σ H x) (hb : Ev K S tb σ H y) (rx : Rp S H x d) (ry : Rp S H y d) (hd : d.depth < n) : Ev K S (tCall (sp_same n) [] E (tCons ta (tCons tb tNil))) σ H (.bl true) :=
  (ex_call (P := fun v _ => v = .bl true) (ea_cons ha (ea_cons hb ea_nil)) fun H1 e Q q => ⟨x, y, d, rfl, hd, (rx.m e).z, (ry.m e).z, fun H' e2 => q _ _ (e.refl.of0 e2) rfl⟩).ev fun _ _ _ z => z
theorem spx_same {x y : V} {d : PyData} {E : XK} {n : Nat} (rx : Rp S H x d) (ry : Rp S H y d) (hd : d.depth < n) : SpX K S (sp_same n) [x, y] H E (fun v _ => v = .bl true) := fun H1 e Q q => ⟨x, y, d, rfl, hd, (rx.m e).z, (ry.m e).z, fun H' e2 => q _ _ (e.refl.of0 e2) rfl⟩
theorem ok_zero {P : Program} {w : World} {mg : Str → Option Value} {base : Heap} {CX : CXT} {x qual : Str} {st : Stmt} {f : Addr} {ps : List Str} {sp : Sp} (F : FnIs K x qual st f)
    (hb : ∀ (kV doc pm : Value) (an : Option Addr) (cdv ct : Value) (us : List Value), us.length = ps.length → bindArgs (PySem.W.fnOf x qual (defArgs st) (defBody st) (defScope st) .none kV doc pm an cdv ct) ⟨us, []⟩ = pure (ps.zip us)) (h : ∀ vs H Q E, ¬ sp vs H Q E) : Ok P w K mg base CX 0 f ps sp := by
  obtain ⟨fd, F⟩ := F
  exact ⟨fd, ⟨fun _ _ _ _ z => (h _ _ _ _ z).elim, fun _ _ _ _ _ _ _ _ _ _ _ _ _ z => (h _ _ _ _ z).elim⟩, F.bindsN hb, F.kp, by obtain ⟨oc, od, _, _, _, _, _, _, _, osl, _, lk, _⟩ := F.ex; exact ⟨oc, od, osl, lk⟩⟩
/-- an item of a list or a tuple -/
theorem rv_ix {p : Addr} {xs : List V} {i : Int} {v : V} (h : SqL K H p xs ∨ SqT K H p xs) (n : ¬ Sx S p) (ha : atI xs i = some v) : RV K S (rIx K) (.ref p) (.int i) H v := fun H1 e _ q => by
  rcases h with h | h
  · exact .inl ⟨p, xs, i, v, rfl, rfl, ((⟨h, n⟩ : LA K S H p xs).mono e).q, ha, q H1 e.refl⟩
  · exact .inr (.inl ⟨p, xs, i, v, rfl, rfl, ((⟨h, n⟩ : UA K S H p xs).mono e).q, ha, q H1 e.refl⟩)
theorem rc_lenLU {p : Addr} {xs : List V} (h : SqL K H p xs ∨ SqT K H p xs) (n : ¬ Sx S p) : RC K S (rLn K) [.ref p] H (.int (xs.length : Int)) := fun H1 e _ q => by
  rcases h with h | h
  · exact ⟨p, xs, rfl, .inl ((⟨h, n⟩ : LA K S H p xs).mono e).q, q H1 e.refl⟩
  · exact ⟨p, xs, rfl, .inr ((⟨h, n⟩ : UA K S H p xs).mono e).q, q H1 e.refl⟩
end
end Fw

namespace Fw
open PySem PySem.Spec PyProof.Rows L2
/-! ### comparisons of instances of an own class -/
section
open PySem.W
variable {prog : Program} {w : World} {M : Model} {A : Around} {E : Value → Shared → Prop} {s : Shared} {K : PySem.W.Frag} {x y C f : Addr} {ox oy : Obj} {od od' : Option Obj} {args rest : List Value} {name : Str} {id owner n : String}
theorem check_B {Q : Unit → Shared → Prop} (hk : builtinKind id = some .slot) (hs : splitId id = some (owner, n)) (ha : argsOk id ⟨.ref x :: rest, []⟩) (X : K.In s.heap) (I : InstAt s.heap x ox C od) (hm : mroIn K C (.type owner) = some true) (hq : Q () s) :
    wpAny M A (checkBuiltinCall id ⟨.ref x :: rest, []⟩) Q E s := by
  obtain ⟨hh, g, dr, t, os⟩ := s
  have L0 := I.type (M := M)
  have L1 := looks_mroIn (M := M) X hm
  simp only [checkBuiltinCall, hk, hs]
  refine wpAny_bind ?_
  unfold isInstance
  repeat lk
  cases hsig : Manifest.signature? id with
  | none => exact wpAny_pure hq
  | some sig =>
    simp only [argsOk, hsig] at ha
    have h2 : Bind.checkArgs id sig ⟨.ref x :: rest, []⟩ = pure () := ha
    show wpAny M A (Bind.checkArgs id sig ⟨.ref x :: rest, []⟩) Q E _
    rw [h2]; exact wpAny_pure hq
theorem ifBound_B {Q : Option Value → Shared → Prop} (X : K.In s.heap) (I : InstAt s.heap x ox C od) (hs : findIn K (.ref C) name = some (some (.builtin id))) (hb : bindSpecial (.builtin id) (.ref x) = pure (.builtin id, [.ref x]))
    (h : wpAny M A (call (.builtin id) (.ref x :: args)) (fun v => Q (some v)) E s) : wpAny M A (callSpecialIfBound? (.ref x) name args) Q E s := by
  simp only [callSpecialIfBound?, bindSpecialIfBound?]
  refine wpAny_holding (wpAny_bind (wpAny_bind (wpAny_bind (I.type.here ((looks_findIn X hs).here ?_)))))
  simp only [hb]
  refine wpAny_bind (wpAny_askSetting (wpAny_ite ?_))
  have fin : wpAny M A (call (.builtin id) ([.ref x] ++ args) >>= fun v => pure (some v)) Q E s := wpAny_bind (wpAny_mono h (fun v s' h' => wpAny_pure h') fun _ _ h' => h')
  split
  · exact wpAny_bind (wpAny_pure (wpAny_pure (by exact fin)))
  · exact wpAny_tryCatch (wpAny_bind (wpAny_pure (wpAny_pure (by exact fin))))

/-- x op y, no own def of x's class for op; the mirrored def of y's class answers -/
theorem declined_B {Q : Value → Shared → Prop} (hp : plainId id = true) {B : Builtin} (he : entryFor table id = some B) (hk : builtinKind id = some .slot) (hs : splitId id = some (owner, n)) (ha : argsOk id ⟨[.ref x, .ref y], []⟩)
    (X : K.In s.heap) (I : InstAt s.heap x ox C od) (hm : mroIn K C (.type owner) = some true)
    (h : wpAny (model prog w) A.in1 (B ⟨[.ref x, .ref y], []⟩) (fun fin s' => match fin with | .done f => (match f with | .ret v => Q v s' | _ => False) | .again _ => False) E s) : wpAny (model prog w) A (call (.builtin id) [.ref x, .ref y]) Q E s := by
  refine wpAny_call (codeAny_call_builtin hp he (check_B hk hs ha X I hm (wpAny_mono h (fun fin s' hq => ?_) fun _ _ e => e)))
  cases fin with
  | done f =>
    cases f with
    | ret v => exact hq
    | next => exact hq.elim
    | brk => exact hq.elim
    | cont => exact hq.elim
  | again c => exact hq.elim
theorem not_B {Q : Value → Shared → Prop} (hid : id = "object.__gt__" ∨ id = "object.__ge__") (X : K.In s.heap) (I : InstAt s.heap x ox C od) (hm : mroIn K C (.type "object") = some true) (h : Q .notImplemented s) :
    wpAny (model prog w) A (call (.builtin id) [.ref x, .ref y]) Q E s := by
  rcases hid with rfl | rfl
  · refine declined_B (owner := "object") (n := "__gt__") (by decide +kernel) PySem.F.entry_object_gt (by decide +kernel) (by decide +kernel) (PySem.F.args_object_gt_2 _ _) X I hm ?_
    unfold Builtin.«object.__gt__»
    repeat (first | wp_step | exact h)
  · refine declined_B (owner := "object") (n := "__ge__") (by decide +kernel) PySem.F.entry_object_ge (by decide +kernel) (by decide +kernel) (PySem.F.args_object_ge_2 _ _) X I hm ?_
    unfold Builtin.«object.__ge__»
    repeat (first | wp_step | exact h)

theorem mirror_K {op : CmpOp} {Q : Value → Shared → Prop} (hu : A.units < cLine) (hid : id = "object.__gt__" ∨ id = "object.__ge__") (hbs : bindSpecial (.builtin id) (.ref x) = pure (.builtin id, [.ref x])) (X : K.In s.heap) (I : InstAt s.heap x ox C od) (J : InstAt s.heap y oy C od')
    (hm : mroIn K C (.type "object") = some true) (hb : findIn K (.ref C) (cmpInfo op).2.1 = some (some (.builtin id))) (hs : findIn K (.ref C) (cmpInfo op).2.2 = some (some (.ref f))) (hf : isFn K (.ref f) = true)
    (h : wpAny (model prog w) A (call (.ref f) [.ref y, .ref x]) (PySem.W.CmpBack Q) E s) : wpAny (model prog w) A (richCompare op (.ref x) (.ref y)) Q E s := by
  have none_ : ∀ {P : Option Value → Shared → Prop}, P none s → wpAny (model prog w) A (tryCompare (.ref x) (cmpInfo op).2.1 (.ref y)) P E s := fun p => by
    unfold tryCompare
    exact wpAny_bind (ifBound_B X I hb hbs (not_B hid X I hm (wpAny_pure p)))
  have one : wpAny (model prog w) A (tryCompare (.ref y) (cmpInfo op).2.2 (.ref x)) (fun r s' => ∃ v, r = some v ∧ Q v s') E s := by
    unfold tryCompare
    refine wpAny_bind (ifBound_K X J hs hf (wpAny_mono h (fun v s' hv => ?_) fun _ _ e => e))
    cases v <;> first | exact hv.elim | exact wpAny_pure ⟨_, rfl, hv⟩
  unfold richCompare
  simp only [oneThing_ref]
  refine wpAny_holding (wpAny_bind (wpAny_cRoomFor hu ?_))
  refine wpAny_bind (I.type.here (wpAny_bind (J.type.here ?_)))
  rw [show (Value.ref C != Value.ref C) = false from by simp]
  simp only [Bool.false_eq_true, if_false]
  refine wpAny_bind (wpAny_pure ?_)
  simp only [Bool.false_eq_true, if_false]
  refine wpAny_bind (none_ ?_)
  dsimp only
  refine wpAny_bind (wpAny_mono one (fun r s' z => ?_) fun _ _ e => e)
  obtain ⟨v, rfl, hq⟩ := z
  exact wpAny_pure hq
theorem ne_K {Q : Value → Shared → Prop} (hu : A.units + 1 < cLine) (X : K.In s.heap) (I : InstAt s.heap x ox C od) (J : InstAt s.heap y oy C od')
    (hm : mroIn K C (.type "object") = some true) (hb : findIn K (.ref C) "__ne__" = some (some (.builtin "object.__ne__"))) (hs : findIn K (.ref C) "__eq__" = some (some (.ref f))) (hf : isFn K (.ref f) = true)
    (h : wpAny (model prog w) A.in1 (call (.ref f) [.ref x, .ref y]) (fun v s' => ∃ b, v = .bool b ∧ Q (.bool (!b)) s') E s) : wpAny (model prog w) A (richCompare .NotEq (.ref x) (.ref y)) Q E s := by
  have one : wpAny (model prog w) A (tryCompare (.ref x) "__ne__" (.ref y)) (fun r s' => ∃ b, r = some (.bool (!b)) ∧ Q (.bool (!b)) s') E s := by
    unfold tryCompare
    refine wpAny_bind (ifBound_B X I hb (PySem.F.cmp_object.ne.bind _) (wpAny_call (codeAny_call_builtin PySem.F.cmp_object.ne.plain PySem.F.cmpEntry_ne (check_B PySem.F.cmpKind_ne PySem.F.cmpSplit_ne (PySem.F.cmpArgs_ne _ _) X I hm ?_))))
    have hu' : A.in1.units < cLine := hu
    unfold Builtin.«object.__ne__»
    repeat (first
      | with_reducible refine wpAny_cRoomFor hu' ?_
      | (refine wpAny_bind (m := callSpecialIfBound? (.ref x) (Str.ofString "__eq__") [.ref y]) (ifBound_K X I hs hf (wpAny_mono h (fun r s' hr => by
          obtain ⟨b, rfl, hq⟩ := hr
          repeat (first | exact ⟨b, rfl, hq⟩ | exact wpAny_pure (wpAny_pure ⟨b, rfl, hq⟩) | exact wpAny_pure ⟨b, rfl, hq⟩ | exact wpAny_truthy_bool ⟨b, rfl, hq⟩ | (refine wpAny_bind (m := truthy (.bool _)) (wpAny_truthy_bool ?_)) | wp_step)) fun _ _ e => e)))
      | wp_step)
  unfold richCompare
  simp only [oneThing_ref]
  refine wpAny_holding (wpAny_bind (wpAny_cRoomFor (Nat.lt_of_succ_lt hu) ?_))
  rw [cmpInfo_NotEq]
  dsimp only
  refine wpAny_bind (I.type.here (wpAny_bind (J.type.here ?_)))
  rw [show (Value.ref C != Value.ref C) = false from by simp]
  simp only [Bool.false_eq_true, if_false]
  refine wpAny_bind (wpAny_pure ?_)
  simp only [Bool.false_eq_true, if_false]
  refine wpAny_bind (wpAny_mono one (fun r s' z => ?_) fun _ _ e => e)
  obtain ⟨v, rfl, hq⟩ := z
  exact wpAny_pure hq
end
end Fw

namespace Fw
open PySem PySem.Spec PyProof.Rows L2
section
variable {P : Program} {w : World} {K : PySem.W.Frag} {mg : Str → Option Value} {base : Heap}
theorem Ok.r {CX : CXT} {k : Nat} {f : Addr} {ps : List Str} {sp : Sp} (h : Ok P w K mg base CX k f ps sp) : FnR P w K mg base CX k f sp := by
  obtain ⟨fd, F, hb, _⟩ := h
  exact (F.raw hb .nil).imp fun vs H Q E q => by rw [List.append_nil]; exact q
theorem Ok.keep {CX : CXT} {k : Nat} {f : Addr} {ps : List Str} {sp : Sp} (h : Ok P w K mg base CX k f ps sp) : PySem.W.keepIn K (.ref f) = true := by
  obtain ⟨fd, F, hb, hk, _⟩ := h
  exact hk
end
/-! ### an instance -/
structure IA (S : Dst) (H : Hp) (a C : Addr) (fs : List (Str × V)) : Prop where
  q : ∃ dx, H a = some (.ins C dx fs)
  n : ¬ Sx S a
theorem IA.mono {S : Dst} {H H1 : Hp} {a C : Addr} {fs : List (Str × V)} (h : IA S H a C fs) (e : Lx S H H1) : IA S H1 a C fs := by
  obtain ⟨⟨dx, q⟩, n⟩ := h
  exact ⟨⟨dx, e.1 _ _ n q⟩, n⟩
theorem Lx.nsI {S : Dst} {H H1 : Hp} {a C dx : Addr} {fs : List (Str × V)} (e : Lx S H H1) (h : H1 a = some (.ins C dx fs)) : ¬ Sx S a := fun ⟨q, hq, hp⟩ => by
  obtain ⟨_, _, _, _, _, h1, _, h2⟩ := e.2 q hq
  rcases hp with rfl | rfl
  · rw [h] at h1; cases h1
  · rw [h] at h2; cases h2
theorem IA.of {S : Dst} {H H1 : Hp} {a C : Addr} {fs : List (Str × V)} (e : Lx S H H1) (h : IA none H1 a C fs) : IA S H1 a C fs := by
  obtain ⟨⟨dx, q⟩, n⟩ := h
  exact ⟨⟨dx, q⟩, e.nsI q⟩
theorem IA.to0 {S : Dst} {H : Hp} {a C : Addr} {fs : List (Str × V)} (h : IA S H a C fs) : IA none H a C fs := ⟨h.q, sx_none⟩
abbrev NewI (S : Dst) (H : Hp) (C : Addr) (fs : List (Str × V)) : V → Hp → Prop := fun v H2 => ∃ p, v = .ref p ∧ H p = none ∧ IA S H2 p C fs
section
variable {K : PySem.W.Frag} {S : Dst} {σ : L2.St} {H H' : Hp} {ta tb tc te tv : TE} {tas : TA} {t u : TT} {x y z v : V} {P P' : V → Hp → Prop} {b c : Bool} {vs : List V} {a C D' dx : Addr} {fs fs' : List (Str × V)} {f : Str} {D : Ends} {tz : TS}
theorem ev_fld (h : Ev K S ta σ H (.ref a)) (i : IA S H a C fs) (c : Cls K C) (n : NoAttr K C f) (l : fs.lookup f = some v) : Ev K S (tFld K ta f) σ H v := fun H1 e Q q => h H1 e _ fun H2 e2 => by
  obtain ⟨⟨dx, q2⟩, _⟩ := i.mono (e.trans e2)
  exact ⟨a, C, dx, fs, v, rfl, q2, c, n, l, q H2 e2⟩
theorem ev_con {u : Value} (h : Ev K S ta σ H (.ref a)) (i : IA S H a C fs) (c : Cls K C) (k : Con K C f v u) (l : fs.lookup f = none) : Ev K S (tCon K ta f) σ H v := fun H1 e Q q => h H1 e _ fun H2 e2 => by
  obtain ⟨⟨dx, q2⟩, _⟩ := i.mono (e.trans e2)
  exact ⟨a, C, dx, fs, v, u, rfl, q2, c, k, l, q H2 e2⟩
theorem s_fld (hi : H a = some (.ins C dx fs)) (ns : ¬ Sx S a) (c : Cls K C) (n : NoAttr K C f) (hz : fs.length < 1000) (h : Ev K S tv σ H v) (ho : Ev K S ta σ H (.ref a)) (ep : putF f v fs = fs') (k : St K S tz D σ (upd H a (.ins C dx fs'))) :
    St K S (tSeq (sFld K ta tv f) tz) D σ H := fun H1 e => h H1 e _ fun H2 e2 => ho H2 (e.trans e2) _ fun H3 e3 => by
  have e4 := (e.trans e2).trans e3
  subst ep
  exact ⟨a, C, dx, fs, rfl, e4.1 _ _ ns hi, c, n, hz, k _ (e4.upd ns)⟩
theorem s_fld1 (hi : H a = some (.ins C dx fs)) (ns : ¬ Sx S a) (c : Cls K C) (n : NoAttr K C f) (hz : fs.length < 1000) (h : Ev K S tv σ H v) (ho : Ev K S ta σ H (.ref a)) (ep : putF f v fs = fs') (k : ∀ H1, Lx S (upd H a (.ins C dx fs')) H1 → D.nx σ H1) :
    St K S (sFld K ta tv f) D σ H := fun H1 e => h H1 e _ fun H2 e2 => ho H2 (e.trans e2) _ fun H3 e3 => by
  have e4 := (e.trans e2).trans e3
  subst ep
  exact ⟨a, C, dx, fs, rfl, e4.1 _ _ ns hi, c, n, hz, k _ (e4.upd ns)⟩
theorem s_fldX (hi : H a = some (.ins C dx fs)) (ns : ¬ Sx S a) (c : Cls K C) (n : NoAttr K C f) (hz : fs.length < 1000) (h : EvX K S tv σ H P) (ho : Ev K S ta σ H (.ref a)) (k : ∀ v H1, Lx S H H1 → P v H1 → St K S tz D σ (upd H1 a (.ins C dx (putF f v fs)))) :
    St K S (tSeq (sFld K ta tv f) tz) D σ H := fun H1 e => h H1 e _ fun v H2 e2 p => ho H2 (e.trans e2) _ fun H3 e3 => by
  have e4 := (e.trans e2).trans e3
  exact ⟨a, C, dx, fs, rfl, e4.1 _ _ ns hi, c, n, hz, k v H2 (e.trans e2) p _ (((e.trans e2).refl.trans e3).upd ns)⟩
theorem s_fldX1 (hi : H a = some (.ins C dx fs)) (ns : ¬ Sx S a) (c : Cls K C) (n : NoAttr K C f) (hz : fs.length < 1000) (h : EvX K S tv σ H P) (ho : Ev K S ta σ H (.ref a)) (k : ∀ v H1, Lx S H H1 → P v H1 → ∀ H2, Lx S (upd H1 a (.ins C dx (putF f v fs))) H2 → D.nx σ H2) :
    St K S (sFld K ta tv f) D σ H := fun H1 e => h H1 e _ fun v H2 e2 p => ho H2 (e.trans e2) _ fun H3 e3 => by
  have e4 := (e.trans e2).trans e3
  exact ⟨a, C, dx, fs, rfl, e4.1 _ _ ns hi, c, n, hz, k v H2 (e.trans e2) p _ (((e.trans e2).refl.trans e3).upd ns)⟩
/-- where an instance is made -/
abbrev Raw (H : Hp) (x dx C : Addr) : Hp := upd (upd H dx (.own x)) x (.ins C dx [])
/-- what an __init__ promises that only writes plain fields -/
def sp_init (C : Addr) (A : List V → List (Str × V) → Hp → Prop) : Sp := fun ws H Q _ => ∃ x dx vs fs, ws = .ref x :: vs ∧ H x = some (.ins C dx []) ∧ H dx = some (.own x) ∧ dx ≠ x ∧ A vs fs H ∧ ∀ H', Lx none (upd H x (.ins C dx fs)) H' → Q .non H'
theorem Lx.raw {H H1 : Hp} {x dx C : Addr} (e : Lx S H H1) (h1 : H1 x = none) (h2 : H1 dx = none) (ne : dx ≠ x) : Lx S H1 (Raw H1 x dx C) := by
  have e1 := e.new h2 (o := .own x)
  exact e1.trans ((e.trans e1).new (by rw [upd_ne (Ne.symm ne)]; exact h1))
theorem ex_make {E : XK} {A : List V → List (Str × V) → Hp → Prop} (h : EvA K S tas σ H vs) (k : ∀ H1, Lx S H H1 → A vs fs H1) (mk : ∀ x dx, ¬ Sx S dx → ¬ Sx S x → ∀ H1, Lx S H H1 → A vs fs H1 → A vs fs (Raw H1 x dx C)) :
    EvX K S (StX.tMakeR C (sp_init C A) E tas) σ H (NewI S H C fs) := fun H1 e Q q => h H1 e _ fun H2 e2 x dx h1 h2 ne => by
  have w2 := e.trans e2
  have e3 : Lx S H2 (Raw H2 x dx C) := w2.raw h1 h2 ne
  have nx : ¬ Sx S x := w2.ns h1
  refine ⟨x, dx, vs, fs, rfl, upd_same, by show upd _ _ _ _ = _; rw [upd_ne ne, upd_same], ne, mk x dx (w2.ns h2) nx H2 w2 (k H2 w2), fun H3 e4 => ⟨rfl, q _ _ ?_ ⟨x, rfl, w2.fresh h1, ⟨dx, e4.1 _ _ sx_none upd_same⟩, nx⟩⟩⟩
  have e5 : Lx S H2 (upd (Raw H2 x dx C) x (.ins C dx fs)) := e3.put nx fun u z => by rw [h1] at z; cases z
  exact (e2.trans e5).trans ((w2.trans e5).of0 e4)
/-- the fields do not hang on the heap -/
theorem ex_make0 {E : XK} {A : List V → List (Str × V) → Prop} (h : EvA K S tas σ H vs) (k : A vs fs) : EvX K S (StX.tMakeR C (sp_init C fun vs fs _ => A vs fs) E tas) σ H (NewI S H C fs) :=
  ex_make h (fun _ _ => k) (fun _ _ _ _ _ _ q => q)
/-- o.m(..) -/
theorem ex_meth {m : Str} {sp : Sp} {E : XK} (ho : Ev K S ta σ H (.ref a)) (i : IA S H a C fs) (l : fs.lookup m = none) (h : EvA K S tas σ H vs) (k : SpX K S sp (.ref a :: vs) H E P) : EvX K S (tMethR C m sp E ta tas) σ H P := fun H1 e Q q => ho H1 e _ fun H2 e2 => by
  obtain ⟨⟨dx, q2⟩, _⟩ := i.mono (e.trans e2)
  exact ⟨a, dx, fs, rfl, q2, l, h H2 (e.trans e2) _ fun H3 e3 => k H3 ((e.trans e2).trans e3) _ fun z H4 e4 p => q z H4 ((e2.trans e3).trans e4) p⟩
theorem ex_methX {m : Str} {sp : Sp} {E : XK} {PA : List V → Hp → Prop} (ho : Ev K S ta σ H (.ref a)) (i : IA S H a C fs) (l : fs.lookup m = none) (h : EvAX K S tas σ H PA) (k : ∀ vs H1, Lx S H H1 → PA vs H1 → SpX K S sp (.ref a :: vs) H1 E P) : EvX K S (tMethR C m sp E ta tas) σ H P := fun H1 e Q q => ho H1 e _ fun H2 e2 => by
  obtain ⟨⟨dx, q2⟩, _⟩ := i.mono (e.trans e2)
  exact ⟨a, dx, fs, rfl, q2, l, h H2 (e.trans e2) _ fun vs H3 e3 pa => k vs H3 ((e.trans e2).trans e3) pa H3 ((e.trans e2).trans e3).refl _ fun z H4 e4 p => q z H4 ((e2.trans e3).trans e4) p⟩
/-- e.f, a property -/
def tPropI (C : Addr) (sp : Sp) (E : XK) (ta : TE) : TE := fun σ H Q => ta σ H fun x H1 => ∃ a dx fs, x = .ref a ∧ H1 a = some (.ins C dx fs) ∧ sp [.ref a] H1 Q E
theorem ex_prop {sp : Sp} {E : XK} (ho : Ev K S ta σ H (.ref a)) (i : IA S H a C fs) (k : SpX K S sp [.ref a] H E P) : EvX K S (tPropI C sp E ta) σ H P := fun H1 e Q q => ho H1 e _ fun H2 e2 => by
  obtain ⟨⟨dx, q2⟩, _⟩ := i.mono (e.trans e2)
  exact ⟨a, dx, fs, rfl, q2, k H2 (e.trans e2) _ fun z H4 e4 p => q z H4 (e2.trans e4) p⟩
/-- an operator of two instances, one instance -/
def rOI (C : Addr) (sp : Sp) (E : XK) : R2 := fun x y H Q => ∃ a b, x = .ref a ∧ y = .ref b ∧ (∃ dx fs, H a = some (.ins C dx fs)) ∧ (∃ dx fs, H b = some (.ins C dx fs)) ∧ sp [.ref a, .ref b] H Q E
def rOIm (C : Addr) (sp : Sp) (E : XK) : R2 := fun x y H Q => ∃ a b, x = .ref a ∧ y = .ref b ∧ (∃ dx fs, H a = some (.ins C dx fs)) ∧ (∃ dx fs, H b = some (.ins C dx fs)) ∧ sp [.ref b, .ref a] H Q E
def rOIn (C : Addr) (sp : Sp) (E : XK) : R2 := fun x y H Q => ∃ a b, x = .ref a ∧ y = .ref b ∧ (∃ dx fs, H a = some (.ins C dx fs)) ∧ (∃ dx fs, H b = some (.ins C dx fs)) ∧ sp [.ref a, .ref b] H (fun z H' => ∃ r, z = .bl r ∧ Q (.bl (!r)) H') E
def rOU (C : Addr) (sp : Sp) (E : XK) : V → Hp → VK → Prop := fun x H Q => ∃ a, x = .ref a ∧ (∃ dx fs, H a = some (.ins C dx fs)) ∧ sp [.ref a] H Q E
variable {p : Addr} {gs : List (Str × V)}
theorem rvx_own {sp : Sp} {E : XK} (i : IA S H a C fs) (j : IA S H p C gs) (k : SpX K S sp [.ref a, .ref p] H E P) : RVX K S (rOI C sp E) (.ref a) (.ref p) H P := fun H1 e Q q => by
  obtain ⟨⟨dx, q1⟩, _⟩ := i.mono e
  obtain ⟨⟨dy, q2⟩, _⟩ := j.mono e
  exact ⟨a, p, rfl, rfl, ⟨_, _, q1⟩, ⟨_, _, q2⟩, k H1 e Q q⟩
theorem rvx_ownm {sp : Sp} {E : XK} (i : IA S H a C fs) (j : IA S H p C gs) (k : SpX K S sp [.ref p, .ref a] H E P) : RVX K S (rOIm C sp E) (.ref a) (.ref p) H P := fun H1 e Q q => by
  obtain ⟨⟨dx, q1⟩, _⟩ := i.mono e
  obtain ⟨⟨dy, q2⟩, _⟩ := j.mono e
  exact ⟨a, p, rfl, rfl, ⟨_, _, q1⟩, ⟨_, _, q2⟩, k H1 e Q q⟩
theorem rvx_ownn {sp : Sp} {E : XK} (i : IA S H a C fs) (j : IA S H p C gs) (k : SpX K S sp [.ref a, .ref p] H E fun z H' => ∃ r, z = .bl r ∧ P (.bl (!r)) H') : RVX K S (rOIn C sp E) (.ref a) (.ref p) H P := fun H1 e Q q => by
  obtain ⟨⟨dx, q1⟩, _⟩ := i.mono e
  obtain ⟨⟨dy, q2⟩, _⟩ := j.mono e
  exact ⟨a, p, rfl, rfl, ⟨_, _, q1⟩, ⟨_, _, q2⟩, k H1 e _ fun z H2 e2 ⟨r, hz, hp⟩ => ⟨r, hz, q _ H2 e2 hp⟩⟩
end
section
variable {X : Cx} {CX : CXT} {k : Nat} {C g p : Addr} {ps : List Str} {sp : Sp} {E : XK} {x m f : Str} {e o : Expr} {es : List Expr} {t : TA} {ta : TE} {pos apos q : Pos}
theorem pe_makeO (M : Mk X.K C g) (F : Ok X.prog X.w X.K X.mg X.base CX k g ps sp) (hr : Room (k + 1) X.A) (hg : Gl X x) (hm : X.mg x = some (.ref C)) (hx : Passes CX X E) (ha : PA X (e :: es) t) (hdb : (x == ("__debug__" : Str)) = false := by decide)
    (he : starEach (e :: es) X.env = (false, eval e X.env) :: starEach es X.env := by rfl) (hpl : (backTo pos (starEach es X.env)).any (·.1) = false := by rfl) : PE X (.Call (.Name x q) (e :: es) [] pos) (StX.tMakeR C sp E t) :=
  StX.pe_makeR M F.r hr hg hm hx ha hdb he hpl
theorem pe_methO {pl : Sem Bool} (he : PE X o ta) (c : Cls X.K C) (hm : Meth X.K C m g)
    (F : Ok X.prog X.w X.K X.mg X.base CX k g ps sp) (hr : Room k X.A) (hx : Passes CX X E) (ha : PA X (e :: es) t)
    (hst : starEach (e :: es) X.env = (false, eval e X.env) :: starEach es X.env := by rfl) (hpl : (backTo pos (starEach es X.env)).any (·.1) = false := by rfl)
    (ht : eval (.Call (.Attribute o m apos) (e :: es) [] pos) X.env = (do
      let ov ← eval o X.env
      standAt apos.atName
      let (f, first) ← holding [ov] (getMethod ov m pl)
      callWith pos f first (backTo pos (starEach (e :: es) X.env)) (backToKw pos (keywordEach [] X.env))) := by rfl) :
    PE X (.Call (.Attribute o m apos) (e :: es) [] pos) (tMethR C m sp E ta t) := pe_methR (pl := pl) he c hm F.r hr hx ha hst hpl ht
theorem pe_methO0 {pl : Sem Bool} (he : PE X o ta) (c : Cls X.K C) (hm : Meth X.K C m g) (F : Ok X.prog X.w X.K X.mg X.base CX k g ps sp) (hr : Room k X.A) (hx : Passes CX X E)
    (ht : eval (.Call (.Attribute o m apos) [] [] pos) X.env = (do
      let ov ← eval o X.env
      standAt apos.atName
      let (f, first) ← holding [ov] (getMethod ov m pl)
      callWith pos f first (backTo pos (starEach [] X.env)) (backToKw pos (keywordEach [] X.env))) := by rfl) :
    PE X (.Call (.Attribute o m apos) [] [] pos) (tMethR C m sp E ta tNil) := by
  refine ⟨fun pins s σ H Q I h => ?_⟩
  refine PySem.W.methodCall_KW (pl := pl) (thn (he.run pins s σ H _ I h) fun u s1 ⟨x, H1, I1, rx, a, dx, fs, ex, ea, l, q⟩ => ?_) ht
  subst ex
  obtain rfl : u = Value.ref a := rx
  refine getmeth_ok I1 ea c hm l ?_
  exact PySem.W.callWith_K0 (first := [.ref a]) I1.kIn hm.kp (wpAny_call (run_fnR (us := [.ref a]) (vs := [.ref a]) F.r hr hx I1 (.cons rfl .nil) q))
theorem pe_propO (he : PE X e ta) (c : Cls X.K C) (hp : PropOf X.K C f p g) (F : Ok X.prog X.w X.K X.mg X.base CX k g ps sp) (hr : Room (k + 1) X.A) (hx : Passes CX X.nox E)
    (hab : attributeBase e f X.env (eval e X.env) = eval e X.env := by rfl) : PE X (.Attribute e f pos) (tPropI C sp E ta) := by
  obtain ⟨fd, F, hb, _⟩ := F
  exact pe_prop he c hp F hr hb .nil hx hab
end
end Fw

namespace Fw
open PySem PySem.Spec PyProof.Rows L2
/-- what the comparisons ask of a class besides its own defs -/
structure OrdC (K : PySem.W.Frag) (C : Addr) : Prop where
  ob : PySem.W.mroIn K C (.type "object") = some true
  ne : PySem.W.findIn K (.ref C) "__ne__" = some (some (.builtin "object.__ne__"))
  gt : PySem.W.findIn K (.ref C) "__gt__" = some (some (.builtin "object.__gt__"))
  ge : PySem.W.findIn K (.ref C) "__ge__" = some (some (.builtin "object.__ge__"))
section
variable {X : Cx} {CX : CXT} {k : Nat} {C g p : Addr} {ps : List Str} {sp : Sp} {E : XK} {op : CmpOp}
theorem inst_at {pins : List (Addr × Obj)} {σ : L2.St} {H : Hp} {s : Shared} {a C : Addr} (I : Inv X pins σ H s) (h : ∃ dx fs, H a = some (.ins C dx fs)) : ∃ ox od, PySem.W.InstAt s.heap a ox C (some od) := by
  obtain ⟨dx, fs, h⟩ := h
  obtain ⟨mA, O, _⟩ := ins_get I.hok h
  obtain ⟨od, J, _⟩ := O.look
  exact ⟨_, _, J⟩
theorem op_ownI (hop : ∀ a b, compareOp op a b = richCompare op a b) (hm : Meth X.K C (cmpInfo op).2.1 g) (F : Ok X.prog X.w X.K X.mg X.base CX k g ps sp) (hr : Room k X.A) (hx : Passes CX X E) : OpR X (compareOp op) (rOI C sp E) := by
  intro pins s σ H x y v u Q I rx ry h
  obtain ⟨a, b, rfl, rfl, ha, hb, q⟩ := h
  cases (show v = Value.ref a from rx)
  cases (show u = Value.ref b from ry)
  obtain ⟨_, _, J⟩ := inst_at I ha
  obtain ⟨_, _, J'⟩ := inst_at I hb
  obtain ⟨m, hF⟩ := I.fr
  rw [hop]
  refine PySem.W.cmp_K (op := op) (tb := .ref C) hr.units0 hF I.ok.mod.kin J J'.type (by simp [PySem.W.notFirst]) hm.at_ hm.fn ?_
  refine wpAny_mono (wpAny_call (run_fnR (us := [.ref a, .ref b]) (vs := [.ref a, .ref b]) F.r hr hx I (.cons rfl (.cons rfl .nil)) q)) (fun w s' z => ?_) fun _ _ x => x
  obtain ⟨z', H', I', rz, qz⟩ := z
  exact SlX.cmpback rz ⟨z', H', I', rz, qz⟩
theorem op_ownM {id : String} (hop : ∀ a b, compareOp op a b = richCompare op a b) (hid : id = "object.__gt__" ∨ id = "object.__ge__") (hbs : ∀ v, bindSpecial (.builtin id) v = pure (.builtin id, [v])) (ob : PySem.W.mroIn X.K C (.type "object") = some true)
    (hb : PySem.W.findIn X.K (.ref C) (cmpInfo op).2.1 = some (some (.builtin id))) (hm : Meth X.K C (cmpInfo op).2.2 g) (F : Ok X.prog X.w X.K X.mg X.base CX k g ps sp) (hr : Room k X.A) (hx : Passes CX X E) : OpR X (compareOp op) (rOIm C sp E) := by
  intro pins s σ H x y v u Q I rx ry h
  obtain ⟨a, b, rfl, rfl, ha, hb', q⟩ := h
  cases (show v = Value.ref a from rx)
  cases (show u = Value.ref b from ry)
  obtain ⟨_, _, J⟩ := inst_at I ha
  obtain ⟨_, _, J'⟩ := inst_at I hb'
  rw [hop]
  refine mirror_K (op := op) hr.units0 hid (hbs _) I.kIn J J' ob hb hm.at_ hm.fn ?_
  refine wpAny_mono (wpAny_call (run_fnR (us := [.ref b, .ref a]) (vs := [.ref b, .ref a]) F.r hr hx I (.cons rfl (.cons rfl .nil)) q)) (fun w s' z => ?_) fun _ _ x => x
  obtain ⟨z', H', I', rz, qz⟩ := z
  exact SlX.cmpback rz ⟨z', H', I', rz, qz⟩
section
variable (K : PySem.W.Frag) (hK : X.K = K)
include hK
theorem op_ltO (hm : Meth K C "__lt__" g) (F : Ok X.prog X.w K X.mg X.base CX k g ps sp) (hr : Room k X.A) (hx : Passes CX X E) : OpR X (compareOp .Lt) (rOI C sp E) := by subst hK; exact op_ownI (op := .Lt) (fun _ _ => rfl) hm F hr hx
theorem op_leO (hm : Meth K C "__le__" g) (F : Ok X.prog X.w K X.mg X.base CX k g ps sp) (hr : Room k X.A) (hx : Passes CX X E) : OpR X (compareOp .LtE) (rOI C sp E) := by subst hK; exact op_ownI (op := .LtE) (fun _ _ => rfl) hm F hr hx
theorem op_eqO (hm : Meth K C "__eq__" g) (F : Ok X.prog X.w K X.mg X.base CX k g ps sp) (hr : Room k X.A) (hx : Passes CX X E) : OpR X (compareOp .Eq) (rOI C sp E) := by subst hK; exact op_ownI (op := .Eq) (fun _ _ => rfl) hm F hr hx
theorem op_gtO (o : OrdC K C) (hm : Meth K C "__lt__" g) (F : Ok X.prog X.w K X.mg X.base CX k g ps sp) (hr : Room k X.A) (hx : Passes CX X E) : OpR X (compareOp .Gt) (rOIm C sp E) := by
  subst hK; exact op_ownM (op := .Gt) (fun _ _ => rfl) (.inl rfl) (fun v => PySem.F.slot_object_gt.bind v) o.ob o.gt hm F hr hx
theorem op_geO (o : OrdC K C) (hm : Meth K C "__le__" g) (F : Ok X.prog X.w K X.mg X.base CX k g ps sp) (hr : Room k X.A) (hx : Passes CX X E) : OpR X (compareOp .GtE) (rOIm C sp E) := by
  subst hK; exact op_ownM (op := .GtE) (fun _ _ => rfl) (.inr rfl) (fun v => PySem.F.slot_object_ge.bind v) o.ob o.ge hm F hr hx
theorem op_neO (o : OrdC K C) (hm : Meth K C "__eq__" g) (F : Ok X.prog X.w K X.mg X.base CX k g ps sp) (hr : Room (k + 1) X.A) (hx : Passes CX X E) : OpR X (compareOp .NotEq) (rOIn C sp E) := by
  subst hK
  intro pins s σ H x y v u Q I rx ry h
  obtain ⟨a, b, rfl, rfl, ha, hb', q⟩ := h
  cases (show v = Value.ref a from rx)
  cases (show u = Value.ref b from ry)
  obtain ⟨_, _, J⟩ := inst_at I ha
  obtain ⟨_, _, J'⟩ := inst_at I hb'
  show wpAny _ _ (richCompare .NotEq (.ref a) (.ref b)) _ _ s
  refine ne_K (by have := hr.units; omega) I.kIn J J' o.ob o.ne hm.at_ hm.fn ?_
  refine wpAny_mono (wpAny_call (SlX.run_at (us := [.ref a, .ref b]) (ws := [.ref a, .ref b]) F.r hr.in1 I.env0.in1 hx I (.cons rfl (.cons rfl .nil)) q)) (fun w s' z => ?_) fun _ _ x => x
  obtain ⟨z', H', I', rz, r, ez, qz⟩ := z
  subst ez
  cases (show w = Value.bool r from rz)
  exact ⟨r, rfl, .bl (!r), H', I', rfl, qz⟩
theorem un_negO (hm : Meth K C "__neg__" g) (F : Ok X.prog X.w K X.mg X.base CX k g ps sp) (hr : Room k X.A) (hx : Passes CX X E) : UnR X (unaryOp .USub) (rOU C sp E) := by
  subst hK
  intro pins s σ H x v Q I rx h
  obtain ⟨a, rfl, ha, q⟩ := h
  cases (show v = Value.ref a from rx)
  obtain ⟨_, _, J⟩ := inst_at I ha
  obtain ⟨m, hF⟩ := I.fr
  exact PySem.W.ksp_neg hF I.ok.mod.kin J hm.at_ hm.fn (wpAny_call (run_fnR (us := [.ref a]) (vs := [.ref a]) F.r hr hx I (.cons rfl .nil) q))
end
/-! ### order of tuples of whole numbers -/
/-- from the first pair that differs on; z: what the lengths say -/
def lexI (r : Int → Int → Bool) (z : Nat → Nat → Bool) : List Int → List Int → Bool
  | x :: xs, y :: ys => if x = y then lexI r z xs ys else r x y
  | xs, ys => z xs.length ys.length
def rOrdT (K : PySem.W.Frag) (r : Int → Int → Bool) (z : Nat → Nat → Bool) : R2 := fun x y H Q => ∃ (a b : Addr) (ns ms : List Int), x = .ref a ∧ y = .ref b ∧ SqT K H a (ns.map V.int) ∧ SqT K H b (ms.map V.int) ∧ ns.length = ms.length ∧ Q (.bl (lexI r z ns ms)) H
theorem lexAt_I {r : Int → Int → Bool} {z : Nat → Nat → Bool} {c : Bool} : ∀ (ns ms : List Int), ns.length = ms.length → ∀ (i : Nat) (as bs : List Int), as.length = i → bs.length = i → c = z 0 0 →
    Ob.lexAt (fun j => decide ((as ++ ns).getD j 0 = (bs ++ ms).getD j 0)) (fun j => r ((as ++ ns).getD j 0) ((bs ++ ms).getD j 0)) c i ns.length = lexI r z ns ms := by
  intro ns
  induction ns with
  | nil =>
    intro ms h i as bs _ _ hc
    cases ms with
    | nil => show c = _; rw [hc]; rfl
    | cons _ _ => cases h
  | cons x xs ih =>
    intro ms h i as bs ha hb hc
    cases ms with
    | nil => cases h
    | cons y ys =>
      have gx : (as ++ x :: xs).getD i 0 = x := by subst ha; simp
      have gy : (bs ++ y :: ys).getD i 0 = y := by subst hb; simp
      rw [List.length_cons, Ob.lexAt_succ]
      simp only [gx, gy]
      by_cases e : x = y
      · rw [if_pos (decide_eq_true e)]
        have z2 := ih ys (Nat.succ.inj h) (i + 1) (as ++ [x]) (bs ++ [y]) (by simp [ha]) (by simp [hb]) hc
        simp only [List.append_assoc, List.singleton_append] at z2
        rw [z2]
        show _ = if x = y then _ else _
        rw [if_pos e]
      · rw [if_neg (by simpa using e)]
        show _ = if x = y then _ else _
        rw [if_neg e]
end
section
variable {X : Cx}
theorem ordT {op : CmpOp} {r : Int → Int → Bool} {z : Nat → Nat → Bool} (hop : ∀ a b, compareOp op a b = richCompare op a b)
    (tup : ∀ {A : Around} {s : Shared} {l b : Addr} {items items2 : Array Value} {e r : Nat → Bool}, s.heap.IsTuple l items → s.heap.IsTuple b items2 → A.units < cLine →
      (∀ j (h1 : j < items.size) (h2 : j < items2.size), SeqAt.EqAt A.in1 s items[j] items2[j] (e j)) → (∀ j (h1 : j < items.size) (h2 : j < items2.size), e j = false → Ob.RcOp op A.in1 s items[j] items2[j] (r j)) →
      Ob.RcOp op A s (.ref l) (.ref b) (Ob.lexAt e r (z items.size items2.size) 0 (min items.size items2.size)))
    (one : ∀ {A : Around} {s : Shared} (a b : Int) (t u : Tok), Ob.RcOp op A s (.int a t) (.int b u) (r a b)) (hz : ∀ n, z n n = z 0 0) (hu : X.A.units < cLine) : OpR X (compareOp op) (rOrdT X.K r z) := by
  intro pins s σ H x y v u Q I rx ry h
  obtain ⟨a, b, ns, ms, rfl, rfl, ha, hb, hl, q⟩ := h
  cases rx
  cases ry
  obtain ⟨its, r1, p1, _⟩ := I.tuple ha
  obtain ⟨its2, r2, p2, _⟩ := I.tuple hb
  have i1 : IntsAre its ns := Vals.ints r1
  have i2 : IntsAre its2 ms := Vals.ints r2
  have e1 : its.toArray.size = ns.length := by rw [List.size_toArray]; exact i1.length
  have e2 : its2.toArray.size = ms.length := by rw [List.size_toArray]; exact i2.length
  have at1 : ∀ j (h1 : j < its.toArray.size), ∃ t, its.toArray[j] = .int (ns.getD j 0) t := fun j h1 => PyProof.Rows.IntsAre.int_at i1 _ _ (by simp at h1; simp [h1])
  have at2 : ∀ j (h1 : j < its2.toArray.size), ∃ t, its2.toArray[j] = .int (ms.getD j 0) t := fun j h1 => PyProof.Rows.IntsAre.int_at i2 _ _ (by simp at h1; simp [h1])
  have R := tup (A := X.A) (s := s) (e := fun j => decide (ns.getD j 0 = ms.getD j 0)) (r := fun j => r (ns.getD j 0) (ms.getD j 0)) p1 p2 hu (fun j h1 h2 => by
    obtain ⟨t, et⟩ := at1 j h1
    obtain ⟨t', et'⟩ := at2 j h2
    rw [et, et']
    have z : (ns.getD j 0 == ms.getD j 0) = decide (ns.getD j 0 = ms.getD j 0) := by
      by_cases q : ns.getD j 0 = ms.getD j 0
      · rw [decide_eq_true q]; exact beq_iff_eq.mpr q
      · rw [decide_eq_false q]; exact beq_eq_false_iff_ne.mpr q
    rw [← z]
    exact SeqAt.EqAt.int_int _ _ _ _) (fun j h1 h2 _ => by
    obtain ⟨t, et⟩ := at1 j h1
    obtain ⟨t', et'⟩ := at2 j h2
    rw [et, et']
    exact one _ _ _ _)
  rw [e1, e2, hl, Nat.min_self] at R
  have L := lexAt_I (r := r) (z := z) (c := z ms.length ms.length) ns ms hl 0 [] [] rfl rfl (hz _)
  simp only [List.nil_append] at L
  rw [hl] at L
  rw [L] at R
  rw [hop]
  exact R X.prog X.w X.xe (EP X pins σ Q) ⟨.bl _, H, I, rfl, q⟩
variable (K : PySem.W.Frag) (hK : X.K = K)
include hK
theorem op_ltT (hu : X.A.units < cLine) : OpR X (compareOp .Lt) (rOrdT K (fun a b => decide (a < b)) (fun a b => decide (a < b))) := by subst hK; exact ordT (fun _ _ => rfl) Ob.RcOp.tuples_lt Ob.RcOp.lt_int (by simp) hu
theorem op_leT' (hu : X.A.units < cLine) : OpR X (compareOp .LtE) (rOrdT K (fun a b => decide (a ≤ b)) (fun a b => decide (a ≤ b))) := by subst hK; exact ordT (fun _ _ => rfl) Ob.RcOp.tuples_le Ob.RcOp.le_int (by simp) hu
theorem op_gtT (hu : X.A.units < cLine) : OpR X (compareOp .Gt) (rOrdT K (fun a b => decide (b < a)) (fun a b => decide (b < a))) := by subst hK; exact ordT (fun _ _ => rfl) Ob.RcOp.tuples_gt Ob.RcOp.gt_int (by simp) hu
theorem op_geT (hu : X.A.units < cLine) : OpR X (compareOp .GtE) (rOrdT K (fun a b => decide (b ≤ a)) (fun a b => decide (b ≤ a))) := by subst hK; exact ordT (fun _ _ => rfl) Ob.RcOp.tuples_ge Ob.RcOp.ge_int (by simp) hu
end
section
variable {K : PySem.W.Frag} {S : Dst} {H : Hp} {a p : Addr}
theorem rv_ordT {r : Int → Int → Bool} {z : Nat → Nat → Bool} {ns ms : List Int} (ha : UA K S H a (ns.map V.int)) (hb : UA K S H p (ms.map V.int)) (hl : ns.length = ms.length) : RV K S (rOrdT K r z) (.ref a) (.ref p) H (.bl (lexI r z ns ms)) :=
  fun H1 e _ q => ⟨a, p, ns, ms, rfl, rfl, (ha.mono e).q, (hb.mono e).q, hl, q H1 e.refl⟩
end
end Fw

namespace Fw
open PySem PySem.Spec PyProof.Rows L2
/-! ### t.index(x), flat values, found -/
def rIndexT (K : PySem.W.Frag) : V → List V → Hp → VK → Prop := fun x xs H Q => ∃ (a : Addr) (ys : List V) (y : V) (j : Nat) (z : V), x = V.ref a ∧ xs = [y] ∧ SqT K H a ys ∧ flatV y = true ∧ ys.all flatV = true ∧ ys[j]? = some z ∧ eqV z y = true ∧
  (∀ (m : Nat) (z' : V), m < j → ys[m]? = some z' → eqV z' y = false) ∧ Q (.int (j : Nat)) H
theorem mt_tindex {X : Cx} (K : PySem.W.Frag) (hK : X.K = K) : MtR X "tuple.index" (rIndexT K) := by
  subst hK
  intro pins s σ H x xs v us Q I rx rxs h
  obtain ⟨a, ys, y, j, z, rfl, rfl, hs, fy, fys, hz, hzj, hno, q⟩ := h
  cases rx
  cases rxs with
  | cons ry rt =>
    rename_i uy ut
    cases rt
    obtain ⟨its, rv, ⟨⟨cls, dd, data, sl⟩, ho, hc, n, hd⟩, hlen⟩ := I.tuple hs
    simp only at hc hd
    subst hc hd
    obtain ⟨u, hu, ru⟩ := rv.get hz
    obtain ⟨hjl, hje⟩ := List.getElem?_eq_some_iff.mp hu
    have hvl := rv.length
    have hj : j < its.toArray.size := by simpa using hjl
    have hsl := sizeLine_eq
    refine call_meets PySem.F.slot_tuple_index ⟨_, ho, rfl⟩ PySem.F.entry_tuple_index (PySem.F.args_tuple_index_2 _ _)
      (SeqAt.tuple_index2_found a its.toArray n dd sl uy (fun m => match its.toArray[m]? with | some w => eqU y w | none => false) j hj (Nat.zero_le _) hj ?_ ?_) ⟨ho, fun m hm => ?_, ?_⟩
    · have e1 : its.toArray[j]? = some u := by simpa using hu
      simp only [e1]
      rw [eqU_of ru (flat_at fys hz)]
      exact hzj
    · intro m hm _ hmj
      have hml : m < its.length := by simpa using hm
      have hmy : m < ys.length := by omega
      have hy' : ys[m]? = some ys[m] := List.getElem?_eq_getElem hmy
      obtain ⟨u2, hu2, ru2⟩ := rv.get hy'
      have e1 : its.toArray[m]? = some u2 := by simpa using hu2
      simp only [e1]
      rw [eqU_of ru2 (flat_at fys hy')]
      exact hno m _ hmj hy'
    · have hml : m < its.length := by simpa using hm
      have e1 : its.toArray[m]? = some its.toArray[m] := Array.getElem?_eq_getElem hm
      simp only [e1]
      exact mem_eqAt ry fy rv fys _ (by simp)
    · exact ⟨.int (j : Nat), H, I.tok _, ⟨_, rfl⟩, q⟩
theorem rv_none : True := trivial
/-! ### isinstance of an instance -/
structure IsC (K : PySem.W.Frag) (C : Addr) : Prop where
  ca : PySem.W.findIn K (.ref C) "__class__" = some (some (.builtin "object.__class__"))
  cn : PySem.W.specialIn K (.builtin "object.__class__") "__get__" = some (some (.builtin "getset_descriptor.__get__"))
  ct : PySem.W.takesIn K (.builtin "object.__class__") = some true
  cm : PySem.W.mroIn K C (.type "object") = some true
section
variable {K : PySem.W.Frag} {S : Dst} {σ : L2.St} {H : Hp} {ta tb : TE} {tas : TA} {a C : Addr} {fs : List (Str × V)}
theorem rc_isO {D : Addr} {b : Bool} (i : IA S H a C fs) (c : Cls K C) (k : IsC K C) (hk : PySem.W.kitOne K (.ref C) (.ref D) = some b) : RC K S (rIsi K) [.ref a, .ref D] H (.bl b) := fun H1 e _ q => by
  obtain ⟨⟨dx, q2⟩, _⟩ := i.mono e
  exact ⟨.ref a, .ref D, .ref C, .ref D, b, rfl, .own D, .base (.ins q2 c k.ca k.cn k.ct k.cm), hk, q H1 e.refl⟩
theorem kit_self {C : Addr} : PySem.W.kitOne K (.ref C) (.ref C) = some true := by unfold PySem.W.kitOne; rw [if_pos (by simp)]
theorem ev_isO {D : Addr} {b : Bool} (h : Ev K S ta σ H (.ref a)) (hd : Ev K S tb σ H (.ref D)) (i : IA S H a C fs) (c : Cls K C) (k : IsC K C) (hk : PySem.W.kitOne K (.ref C) (.ref D) = some b) : Ev K S (tCB (rIsi K) (tCons ta (tCons tb tNil))) σ H (.bl b) :=
  ev_cb (ea_cons h (ea_cons hd ea_nil)) (rc_isO i c k hk)
end
/-- what a class's facts are, as one Bool -/
def ordB (K : PySem.W.Frag) (x : Str) : Bool := decide (PySem.W.mroIn K (He.ga K x) (.type "object") = some true) && (He.eqO (PySem.W.findIn K (.ref (He.ga K x)) "__ne__") (some (some (.builtin "object.__ne__"))) && (He.eqO (PySem.W.findIn K (.ref (He.ga K x)) "__gt__") (some (some (.builtin "object.__gt__"))) && He.eqO (PySem.W.findIn K (.ref (He.ga K x)) "__ge__") (some (some (.builtin "object.__ge__")))))
theorem ordB_ok {K : PySem.W.Frag} {x : Str} (h : ordB K x = true) : OrdC K (He.ga K x) := by
  obtain ⟨h1, h⟩ := He.ba h
  obtain ⟨h2, h⟩ := He.ba h
  obtain ⟨h3, h4⟩ := He.ba h
  exact ⟨of_decide_eq_true h1, He.eqO_ok h2, He.eqO_ok h3, He.eqO_ok h4⟩
def iscB (K : PySem.W.Frag) (x : Str) : Bool := He.eqO (PySem.W.findIn K (.ref (He.ga K x)) "__class__") (some (some (.builtin "object.__class__"))) && (He.eqO (PySem.W.specialIn K (.builtin "object.__class__") "__get__") (some (some (.builtin "getset_descriptor.__get__"))) && (decide (PySem.W.takesIn K (.builtin "object.__class__") = some true) && decide (PySem.W.mroIn K (He.ga K x) (.type "object") = some true)))
theorem iscB_ok {K : PySem.W.Frag} {x : Str} (h : iscB K x = true) : IsC K (He.ga K x) := by
  obtain ⟨h1, h⟩ := He.ba h
  obtain ⟨h2, h⟩ := He.ba h
  obtain ⟨h3, h4⟩ := He.ba h
  exact ⟨He.eqO_ok h1, He.eqO_ok h2, of_decide_eq_true h3, of_decide_eq_true h4⟩
end Fw
namespace Fw
open PySem PySem.Spec PyProof.Rows L2
theorem mt_indexK {X : Cx} (K : PySem.W.Frag) (hK : X.K = K) : MtR X "list.index" (rIndex K) := by
  subst hK
  exact mt_index
/-! ### a promise: what is given, what may change, what comes back -/
def sp_x (A : List V → Hp → Dst → (V → Hp → Prop) → Prop) : Sp := fun vs H Q _ => ∃ S P, A vs H S P ∧ Lx S H H ∧ ∀ v H', Lx S H H' → P v H' → Q v H'
section
variable {K : PySem.W.Frag} {S : Dst} {σ : L2.St} {H : Hp} {tas : TA} {E : XK} {vs : List V} {A : List V → Hp → Dst → (V → Hp → Prop) → Prop} {P' : V → Hp → Prop}
theorem spx_0 (k : ∀ H1, Lx S H H1 → ∃ P, A vs H1 none P ∧ ∀ v H2, Lx S H1 H2 → P v H2 → P' v H2) : SpX K S (sp_x A) vs H E P' := fun H1 e Q q => by
  obtain ⟨P, a, i⟩ := k H1 e
  exact ⟨none, P, a, Lx.rfl0, fun v H' e2 p => q v H' (e.refl.of0 e2) (i v H' (e.refl.of0 e2) p)⟩
theorem spx_S (k : ∀ H1, Lx S H H1 → ∃ P, A vs H1 S P ∧ ∀ v H2, Lx S H1 H2 → P v H2 → P' v H2) : SpX K S (sp_x A) vs H E P' := fun H1 e Q q => by
  obtain ⟨P, a, i⟩ := k H1 e
  exact ⟨S, P, a, e.refl, fun v H' e2 p => q v H' e2 (i v H' e2 p)⟩
/-- a call of what gives one value -/
theorem ev_p0 {v : V} (h : EvA K S tas σ H vs) (k : ∀ H1, Lx S H H1 → A vs H1 none fun w _ => w = v) : Ev K S (tCall (sp_x A) [] E tas) σ H v :=
  (ex_call (P := fun w _ => w = v) h (by rw [List.append_nil]; exact spx_0 fun H1 e => ⟨_, k H1 e, fun _ _ _ p => p⟩)).ev fun _ _ _ z => z
theorem ex_p0 (h : EvA K S tas σ H vs) (k : ∀ H1, Lx S H H1 → ∃ P, A vs H1 none P ∧ ∀ v H2, Lx S H1 H2 → P v H2 → P' v H2) : EvX K S (tCall (sp_x A) [] E tas) σ H P' :=
  ex_call h (by rw [List.append_nil]; exact spx_0 k)
theorem ex_pS (h : EvA K S tas σ H vs) (k : ∀ H1, Lx S H H1 → ∃ P, A vs H1 S P ∧ ∀ v H2, Lx S H1 H2 → P v H2 → P' v H2) : EvX K S (tCall (sp_x A) [] E tas) σ H P' :=
  ex_call h (by rw [List.append_nil]; exact spx_S k)
theorem ex_p0X {PA : List V → Hp → Prop} (h : EvAX K S tas σ H PA) (k : ∀ vs H0, Lx S H H0 → PA vs H0 → ∀ H1, Lx S H0 H1 → ∃ P, A vs H1 none P ∧ ∀ v H2, Lx S H1 H2 → P v H2 → P' v H2) : EvX K S (tCall (sp_x A) [] E tas) σ H P' :=
  ex_callX h fun vs H1 e p => by rw [List.append_nil]; exact spx_0 (k vs H1 e p)
theorem ex_pSX {PA : List V → Hp → Prop} (h : EvAX K S tas σ H PA) (k : ∀ vs H0, Lx S H H0 → PA vs H0 → ∀ H1, Lx S H0 H1 → ∃ P, A vs H1 S P ∧ ∀ v H2, Lx S H1 H2 → P v H2 → P' v H2) : EvX K S (tCall (sp_x A) [] E tas) σ H P' :=
  ex_callX h fun vs H1 e p => by rw [List.append_nil]; exact spx_S (k vs H1 e p)
theorem newL_up {H0 H1 H2 : Hp} {xs : List V} {v : V} (e : Lx S H0 H1) (h : NewL none H1 xs v H2) : NewL S H0 xs v H2 := by
  obtain ⟨p, rfl, hp, _, h2⟩ := h
  exact ⟨p, rfl, e.fresh hp, e.ns hp, h2⟩
theorem newU_up {H0 H1 H2 : Hp} {xs : List V} {v : V} (e : Lx S H0 H1) (h : NewU none H1 xs v H2) : NewU S H0 xs v H2 := by
  obtain ⟨p, rfl, hp, _, h2⟩ := h
  exact ⟨p, rfl, e.fresh hp, e.ns hp, h2⟩
theorem newI_up {H0 H1 H2 : Hp} {C : Addr} {fs : List (Str × V)} {v : V} (e : Lx S H0 H1) (h : NewI none H1 C fs v H2) : NewI S H0 C fs v H2 := by
  obtain ⟨p, rfl, hp, h2⟩ := h
  exact ⟨p, rfl, e.fresh hp, h2.q, e.ns hp⟩
/-- the chain a < b < c -/
theorem ev_chain {r r' : R2} {ta tb tc : TE} {x y z : V} {b c : Bool} (ha : Ev K S ta σ H x) (hb : Ev K S tb σ H y) (hr : RV K S r x y H (.bl b)) (hc : b = true → Ev K S tc σ H z) (hr' : b = true → RV K S r' y z H (.bl c)) : Ev K S (tChain r r' ta tb tc) σ H (.bl (b && c)) := fun H1 e Q q =>
  ha H1 e _ fun H2 e2 => hb H2 (e.trans e2) _ fun H3 e3 => hr H3 ((e.trans e2).trans e3) _ fun H4 e4 => ⟨b, rfl, by
    have e5 := (e2.trans e3).trans e4
    cases b with
    | true =>
      show tc σ H4 _
      exact hc rfl H4 (e.trans e5) _ fun H5 e6 => hr' rfl H5 ((e.trans e5).trans e6) Q fun H6 e7 => q H6 ((e5.trans e6).trans e7)
    | false => exact q H4 e5⟩
theorem rv_eqD {x y : V} {d d' : PyData} (hx : ∀ H1, Lx S H H1 → Dp K H1 x d) (hy : ∀ H1, Lx S H H1 → Dp K H1 y d') (s1 : SeqAt.shaped d = true) (s2 : SeqAt.shaped d' = true) : RV K S (rEqD K) x y H (.bl (PyData.eqv d d')) := fun H1 e _ q => ⟨d, d', hx H1 e, hy H1 e, s1, s2, q H1 e.refl⟩
theorem rv_neD {x y : V} {d d' : PyData} (hx : ∀ H1, Lx S H H1 → Dp K H1 x d) (hy : ∀ H1, Lx S H H1 → Dp K H1 y d') (s1 : SeqAt.shaped d = true) (s2 : SeqAt.shaped d' = true) : RV K S (rNeD K) x y H (.bl (!PyData.eqv d d')) := fun H1 e _ q => ⟨d, d', hx H1 e, hy H1 e, s1, s2, q H1 e.refl⟩
theorem dp_ints {H : Hp} : ∀ ns : List Int, DpAll K H (ns.map V.int) (ns.map PyData.int)
  | [] => .nil
  | n :: ns => .cons (.int n) (dp_ints ns)

def tupDB (K : PySem.W.Frag) (x : Str) : Bool := match K.lookup (He.ga K x) with
  | some ⟨.type c, none, _, _⟩ => decide (c = "tuple")
  | _ => false
theorem tupDB_ok {K : PySem.W.Frag} {x : Str} (h : tupDB K x = true) : ∃ o, K.lookup (He.ga K x) = some o ∧ o.cls = .type "tuple" ∧ o.dict = none := by
  unfold tupDB at h
  cases q : K.lookup (He.ga K x) with
  | none => rw [q] at h; cases h
  | some o =>
    obtain ⟨oc, od, dt, osl⟩ := o
    rw [q] at h
    cases oc with
    | type c => cases od with
      | none => exact ⟨_, rfl, congrArg Value.type (of_decide_eq_true h), rfl⟩
      | some d => cases h
    | _ => cases od <;> cases h
theorem ev_tindex {ta te : TE} {p : Addr} {ys : List V} {y z : V} {j : Nat} (h : Ev K S ta σ H (.ref p)) (ty : ∃ o, K.lookup p = some o ∧ o.cls = .type "tuple" ∧ o.dict = none) (u : UA K S H p ys) (hv : Ev K S te σ H y) (fy : flatV y = true) (fs : ys.all flatV = true) (hz : ys[j]? = some z) (e1 : eqV z y = true)
    (hm : ∀ (m : Nat) (z' : V), m < j → ys[m]? = some z' → eqV z' y = false) : Ev K S (tBM K "tuple" (rIndexT K) ta (tCons te tNil)) σ H (.int (j : Int)) := fun H1 e Q q => h H1 e _ fun H2 e2 =>
  ⟨.inr (.inl ⟨rfl, ty⟩), hv H2 (e.trans e2) _ fun H3 e3 => ⟨p, ys, y, j, z, rfl, rfl, (u.mono ((e.trans e2).trans e3)).q, fy, fs, hz, e1, hm, q H3 (e2.trans e3)⟩⟩
theorem ev_lindex {tas : TA} {te : TE} {ys : List V} {y z : V} {j : Nat} (h : EvA K S tas σ H ys) (hl : ys.length ≤ sizeLine) (hv : Ev K S te σ H y) (fy : flatV y = true) (fs : ys.all flatV = true) (hz : ys[j]? = some z) (e1 : eqV z y = true)
    (hm : ∀ (m : Nat) (z' : V), m < j → ys[m]? = some z' → eqV z' y = false) : Ev K S (tBM K "list" (rIndex K) (tLst tas) (tCons te tNil)) σ H (.int (j : Int)) := fun H1 e Q q => ex_lst h hl H1 e _ fun v H2 e2 ⟨p, hv', _, ns, hp⟩ => by
  subst hv'
  exact ⟨.inl ⟨rfl, _, SqL.of hp⟩, hv H2 (e.trans e2) _ fun H3 e3 => ⟨p, ys, y, j, z, rfl, rfl, SqL.of (e3.1 _ _ ns hp), fy, fs, hz, e1, hm, q H3 (e2.trans e3)⟩⟩
end
section
variable {X : Cx} {o value : Expr} {f : Str} {pos pos' : Pos} {ta tv : TE}
theorem ps_fldK (K : PySem.W.Frag) (hK : X.K = K) (ha : PE X o ta) (hv : PE X value tv) (hs : swapsWith value (some (.Attribute o f pos')) pos.line X.env = pure false) : PS X (.Assign [.Attribute o f pos'] value pos) (sFld K ta tv f) := by subst hK; exact ps_fld ha hv hs
end
end Fw
namespace Fw
open PySem PySem.Spec PyProof.Rows L2
theorem len_le {vs : List V} (h : vs.length ≤ 100000) : vs.length ≤ sizeLine := by rw [sizeLine_eq]; omega
end Fw
namespace Fw
open PySem PySem.Spec PyProof.Rows L2
section
variable {K : PySem.W.Frag} {S : Dst} {H : Hp}
theorem rc_min2 {i j : Int} : RC K S (fun xs H Q => ∃ i j, xs = [.int i, .int j] ∧ Q (.int (if j < i then j else i)) H) [.int i, .int j] H (.int (min i j)) := fun H1 e Q q => ⟨i, j, rfl, by
  have z : (if j < i then j else i) = min i j := by split <;> omega
  rw [z]; exact q H1 e.refl⟩
theorem rc_max2 {i j : Int} : RC K S (fun xs H Q => ∃ i j, xs = [.int i, .int j] ∧ Q (.int (if j > i then j else i)) H) [.int i, .int j] H (.int (max i j)) := fun H1 e Q q => ⟨i, j, rfl, by
  have z : (if j > i then j else i) = max i j := by split <;> omega
  rw [z]; exact q H1 e.refl⟩
end
end Fw
namespace Fw
open PySem PySem.Spec PyProof.Rows L2
section
variable {K : PySem.W.Frag} {S : Dst} {σ : L2.St} {H : Hp} {te : TE}
/-- ex_lcL, the new list's place told apart from the drawing state -/
theorem ex_lcN {a : Addr} {xs : List V} {tl : TE} {j : Nat} {ws : List Nat} {t : TT} (h : Ev K S tl σ H (.ref a)) (hx : LA K S H a xs) (hz : xs.length < sizeLine) (hw : ∀ x, wipe ((wipe σ ws).set j (some x)) ws = wipe σ ws)
    (Pv : Addr → Nat → List V → Hp → Prop) (h0 : ∀ D H1, ¬ Sx S D → H D = none → Lx S H H1 → H1 D = some (.lst []) → Pv D 0 [] H1)
    (hs : ∀ D i x acc H1, ¬ Sx S D → H D = none → H1 D = some (.lst acc) → xs[i]? = some x → Lx S H H1 → Pv D i acc H1 → EvTX K S t ((wipe σ ws).set j (some x)) H1 fun b H2 =>
      (b = true → EvX K S te ((wipe σ ws).set j (some x)) H2 fun y H3 => Pv D (i + 1) (acc ++ [y]) (upd H3 D (.lst (acc ++ [y])))) ∧ (b = false → Pv D (i + 1) acc H2)) :
    EvX K S (tLc (iList K tl) (gName j) t te ws) σ H (fun v H2 => ∃ p acc, v = .ref p ∧ H p = none ∧ ¬ Sx S p ∧ H2 p = some (.lst acc) ∧ acc.length ≤ xs.length ∧ Pv p xs.length acc H2) := fun H0 e Q q => h H0 e _ fun H1 e1 => ⟨a, rfl, ⟨xs, (hx.mono (e.trans e1)).q⟩, fun Dl hD => by
  have w1 : Lx S H H1 := e.trans e1
  have nD : ¬ Sx S Dl := w1.ns hD
  have fD : H Dl = none := w1.fresh hD
  refine lc_list (xs := xs) (fun i H' => ∃ acc, H' Dl = some (.lst acc) ∧ acc.length ≤ i ∧ Lx S H1 H' ∧ Pv Dl i acc H') ⟨[], upd_same, Nat.le_refl _, w1.new hD, h0 Dl _ nD fD (w1.trans (w1.new hD)) upd_same⟩ (fun i H' _ ⟨acc, _, _, e2, _⟩ => (hx.mono (w1.trans e2)).q) ?_ ?_
  · rintro i x H' hi ⟨acc, g1, g2, e2, p⟩
    refine ⟨hw x, hs Dl i x acc H' nD fD g1 hi (w1.trans e2) p H' e2.refl _ fun b H2 e3 pb => ?_⟩
    cases b with
    | true =>
      show te _ H2 _
      refine pb.1 rfl H2 ((w1.trans e2).trans e3).refl _ fun y H3 e4 py => ⟨acc, e4.1 _ _ nD (e3.1 _ _ nD g1), Nat.lt_of_le_of_lt g2 (Nat.lt_of_lt_of_le ((List.getElem?_eq_some_iff.mp hi).1) (Nat.le_of_lt hz)), acc ++ [y], upd_same, ?_, ?_, py⟩
      · rw [List.length_append]; exact Nat.succ_le_succ g2
      · have e5 := (e2.trans e3).trans e4
        exact e5.put nD fun u z => by rw [hD] at z; cases z
    | false =>
      show ∃ acc, _
      exact ⟨acc, e3.1 _ _ nD g1, Nat.le_succ_of_le g2, e2.trans e3, pb.2 rfl⟩
  · rintro H' ⟨acc, g1, g2, e2, p⟩
    exact q _ _ (e1.trans e2) ⟨Dl, acc, rfl, fD, nD, g1, g2, p⟩⟩
/-- [f x for x in xs], each item a new thing that is no list -/
theorem ex_mapX {a : Addr} {xs : List V} {tl : TE} {j : Nat} {ws : List Nat} (R : Nat → V → V → Hp → Prop) (h : Ev K S tl σ H (.ref a)) (hx : LA K S H a xs) (hz : xs.length < sizeLine) (hw : ∀ x, wipe ((wipe σ ws).set j (some x)) ws = wipe σ ws)
    (mono : ∀ i x y H1 H2, Lx S H1 H2 → R i x y H1 → R i x y H2) (stab : ∀ i x y H1 D us ws, H1 D = some (.lst us) → R i x y H1 → R i x y (upd H1 D (.lst ws)))
    (hs : ∀ i x H1, xs[i]? = some x → Lx S H H1 → EvX K S te ((wipe σ ws).set j (some x)) H1 fun y H2 => R i x y H2) :
    EvX K S (tLc (iList K tl) (gName j) tYes te ws) σ H (fun v H2 => ∃ p acc, v = .ref p ∧ H p = none ∧ ¬ Sx S p ∧ H2 p = some (.lst acc) ∧ acc.length = xs.length ∧ ∀ i x y, xs[i]? = some x → acc[i]? = some y → R i x y H2) := by
  refine (ex_lcN h hx hz hw (fun D i acc H1 => acc.length = i ∧ ∀ m x y, xs[m]? = some x → acc[m]? = some y → R m x y H1) (fun D H1 _ _ _ _ => ⟨rfl, fun m x y _ z => by simp at z⟩) ?_).imp ?_
  · intro D i x acc H1 nD f1 f2 hi e p H2 e2 Q q
    refine q true H2 e2.refl ⟨fun _ H3 e3 Q3 q3 => hs i x H1 hi e H3 (e2.trans e3) _ fun y H4 e4 r => q3 _ _ e4 ⟨by rw [List.length_append, p.1]; rfl, fun m x' y' hx' hy' => ?_⟩, fun z => nomatch z⟩
    have gD : H4 D = some (.lst acc) := e4.1 _ _ nD ((e2.trans e3).1 _ _ nD f2)
    refine stab _ _ _ _ _ acc _ gD ?_
    by_cases hm : m < acc.length
    · rw [List.getElem?_append_left hm] at hy'
      exact mono _ _ _ _ _ ((e2.trans e3).trans e4) (p.2 m x' y' hx' hy')
    · have h2 := (List.getElem?_eq_some_iff.mp hy').1
      rw [List.length_append] at h2
      have hm2 : m = i := by have := p.1; simp at h2; omega
      subst hm2
      rw [← p.1] at hy'
      simp at hy'
      subst hy'
      rw [hi] at hx'
      cases hx'
      exact r
  · rintro v H2 e ⟨p, acc, rfl, f1, f2, f3, _, g1, g2⟩
    exact ⟨p, acc, rfl, f1, f2, f3, g1, g2⟩
theorem IA.stab {a C : Addr} {fs : List (Str × V)} {H1 : Hp} {D : Addr} {us ws : List V} (h : H1 D = some (.lst us)) (i : IA S H1 a C fs) : IA S (upd H1 D (.lst ws)) a C fs := by
  obtain ⟨⟨dx, q⟩, n⟩ := i
  refine ⟨⟨dx, ?_⟩, n⟩
  rw [upd_ne (fun z => by subst z; rw [h] at q; cases q)]
  exact q
end
end Fw

namespace Fw
open PySem PySem.Spec PyProof.Rows L2
/-! ### a head whose defs stand at places told by functions -/
structure DefY where
  ad : PySem.W.Frag → Addr
  name : Str
  qual : Str
  params : Arguments
  body : List Stmt
  scope : Scope
  dfl : List He.Dv := []
  kwd : List (Str × He.Dv) := []
def fnWA (K : PySem.W.Frag) (a : Addr) : He.FnW := match K.lookup a with
  | some ⟨_, _, .func fd, _⟩ => some (fd.name, fd.qualname, fd.params, fd.body, fd.scope, fd.globals, fd.closure, fd.builtins)
  | _ => none
def DefY.val (d : DefY) : He.FnW := some (d.name, d.qual, d.params, .stmts d.body, d.scope, mainGlobals, [], builtinsNs)
def DefY.ok (K : PySem.W.Frag) (d : DefY) : Bool := PySem.W.keepIn K (.ref (d.ad K)) && (match K.lookup (d.ad K) with
  | some ⟨_, _, .func fd, _⟩ => PySem.W.codeIn K fd.code d.qual && (He.dflB K fd.defaults (d.dfl.map (He.Dv.v K)) && He.kwdB K fd.kwdefaults (d.kwd.map fun q => (q.1, q.2.v K)))
  | _ => false)
theorem DefY.funD {K : PySem.W.Frag} {d : DefY} (e : fnWA K (d.ad K) = d.val) (c : d.ok K = true) : ∃ fd, FunD K d.name d.qual d.params d.body d.scope (d.dfl.map (He.Dv.v K)) (d.kwd.map fun q => (q.1, q.2.v K)) (d.ad K) fd := by
  obtain ⟨kp, c2⟩ := He.ba c
  unfold fnWA at e
  cases q : K.lookup (d.ad K) with
  | none =>
    rw [q] at c2
    cases c2
  | some o =>
    obtain ⟨oc, od, dt, osl⟩ := o
    rw [q] at c2 e
    cases dt with
    | func fd =>
      obtain ⟨n1, n2, n3, n4, n5, n6, n7, n8, n9, n10, n11, n12, n13, n14, n15⟩ := fd
      have e2 : (some (n1, n2, n3, n4, n5, n6, n7, n15) : He.FnW) = some (d.name, d.qual, d.params, .stmts d.body, d.scope, mainGlobals, [], builtinsNs) := e
      simp only [Option.some.injEq, Prod.mk.injEq] at e2
      obtain ⟨h1, h2, h3, h4, h5, h6, h7, h8⟩ := e2
      subst h1 h2 h3 h4 h5 h6 h7 h8
      have c3 : (PySem.W.codeIn K n13 d.qual && (He.dflB K n8 (d.dfl.map (He.Dv.v K)) && He.kwdB K n9 (d.kwd.map fun q => (q.1, q.2.v K)))) = true := c2
      obtain ⟨k1, k2⟩ := He.ba c3
      obtain ⟨k3, k4⟩ := He.ba k2
      exact ⟨_, ⟨oc, od, n8, n9, n10, n11, n12, n13, n14, osl, rfl, q, k1, He.dflB_ok k3, He.kwdB_ok k4⟩, kp⟩
    | _ => cases c2
abbrev AlY : Type := He.AlT × (Bool × (Bool × List He.FnW))
/-- what an object names; a function's code and defaults; what a wrapper names; a class's namespace -/
def refsS (g : Addr → Option Obj) (a : Addr) : List Addr := match g a with
  | some o => He.refsD o
  | none => []
def codeS (g : Addr → Option Obj) (a : Addr) : List Addr := match g a with
  | some ⟨_, _, .func fd, _⟩ => He.refV fd.code ++ (He.refV fd.defaults ++ (He.refV fd.kwdefaults ++ fd.closure.map (·.2)))
  | _ => []
def wrapS (g : Addr → Option Obj) (a : Addr) : List Addr := match g a with
  | some ⟨_, _, .func _, _⟩ => []
  | some o => He.refsD o
  | none => []
def nsS (g : Addr → Option Obj) (a : Addr) : List Addr := match g a with
  | some ⟨_, _, .cls cd, _⟩ => [cd.ns]
  | _ => []
/-- the addresses that the facts look at: of the module's names fs, its classes cs, their members ms -/
def asS3 (g : Addr → Option Obj) (A C D N M W : List Addr) : List Addr := mainGlobals :: cStatics :: (C ++ (N ++ (D ++ (M ++ (W ++ (A ++ ((A ++ (M ++ W)).flatMap (codeS g))))))))
def asS2 (g : Addr → Option Obj) (A C D N M : List Addr) : List Addr := asS3 g A C D N M (M.flatMap (wrapS g))
def asS1 (g : Addr → Option Obj) (ms : List (Str × Str)) (A C D N : List Addr) : List Addr := asS2 g A C D N (ms.map fun p => He.ma (He.frT g (mainGlobals :: (C ++ (N ++ D)))) (He.ga (He.frT g [mainGlobals]) p.1) p.2)
def asS0 (g : Addr → Option Obj) (ms : List (Str × Str)) (A C D : List Addr) : List Addr := asS1 g ms A C D (D.flatMap (nsS g))
def asS (fs cs : List Str) (ms : List (Str × Str)) (g : Addr → Option Obj) : List Addr := asS0 g ms (fs.map (He.ga (He.frT g [mainGlobals]))) (cs.map (He.ga (He.frT g [mainGlobals]))) ((cs.map (He.ga (He.frT g [mainGlobals]))).flatMap (refsS g))
abbrev AsF : Type := (Addr → Option Obj) → List Addr
abbrev frY (n : AsF) (g : Addr → Option Obj) : PySem.W.Frag := He.frT g (n g)
def obsY (n : AsF) (fa : List He.Fa) (ts : List He.Tab) (ex : PySem.W.Frag → Bool) (fy : List DefY) (g : Addr → Option Obj) : AlY :=
  (He.obsT fa [] ts (frY n g), (ex (frY n g), (fy.all fun d => d.ok (frY n g), fy.map fun d => fnWA (frY n g) (d.ad (frY n g)))))
def valY (ts : List He.Tab) (fy : List DefY) (w : World) : AlY := (He.valT [] ts w, (true, (true, fy.map DefY.val)))
structure SaysY (fa : List He.Fa) (ts : List He.Tab) (ex : PySem.W.Frag → Bool) (fy : List DefY) (w : World) (h : Heap) (K : PySem.W.Frag) : Prop where
  t : He.SaysT fa [] ts w K
  more : ex K = true
  ok : (fy.all fun d => d.ok K) = true
  fn : (fy.map fun d => fnWA K (d.ad K)) = fy.map DefY.val
theorem SaysY.def_ {fa : List He.Fa} {ts : List He.Tab} {ex : PySem.W.Frag → Bool} {fy : List DefY} {w : World} {h : Heap} {K : PySem.W.Frag} (c : SaysY fa ts ex fy w h K) (i : Nat) {d : DefY} (hi : fy[i]? = some d := by rfl) :
    ∃ fd, FunD K d.name d.qual d.params d.body d.scope (d.dfl.map (He.Dv.v K)) (d.kwd.map fun q => (q.1, q.2.v K)) (d.ad K) fd := by
  have e2 : (fy.map fun d => fnWA K (d.ad K))[i]? = (fy.map DefY.val)[i]? := by rw [c.fn]
  rw [List.getElem?_map, List.getElem?_map, hi] at e2
  exact DefY.funD (Option.some.inj e2) (List.all_eq_true.mp c.ok d (List.mem_of_getElem? hi))
def hookY (n : AsF) (fa : List He.Fa) (ts : List He.Tab) (ex : PySem.W.Frag → Bool) (fy : List DefY) : PySem.W.Hook where
  α := AlY
  obs := fun s => obsY n fa ts ex fy s.heap.get?
  val := fun w => valY ts fy w
  says := fun w h => ∃ K : PySem.W.Frag, K.In h ∧ SaysY fa ts ex fy w h K
  of := fun w s e => by
    have e1 := congrArg (fun z : AlY => z.1) e
    have e2 := congrArg (fun z : AlY => z.2.1) e
    have e3 := congrArg (fun z : AlY => z.2.2.1) e
    have e4 := congrArg (fun z : AlY => z.2.2.2) e
    exact ⟨_, He.frT_in, e1, e2, e3, e4⟩
  keeps := fun _ _ _ ⟨K, hK, c⟩ k => ⟨K, PySem.W.Frag.In.keeps hK k, ⟨c.t, c.more, c.ok, c.fn⟩⟩
theorem obsY_eq {n : AsF} {fa : List He.Fa} {ts : List He.Tab} {ex : PySem.W.Frag → Bool} {fy : List DefY} {g : Addr → Option Obj} {s : Shared} (h : ∀ a, g a = s.heap.get? a) : obsY n fa ts ex fy g = (hookY n fa ts ex fy).obs s := by
  have e : g = s.heap.get? := funext h
  rw [e] <;> rfl
/-! ### a staticmethod, called on its class -/
structure SMet (K : PySem.W.Frag) (C : Addr) (m : Str) (p g : Addr) : Prop where
  at_ : PySem.W.findCls K (.ref C) (.type "type") m = some (.get (.builtin "staticmethod.__get__") (.ref p) .none (.ref C))
  rc : ∃ rest, PySem.W.recIn K p "staticmethod" = some (.ref g :: rest)
  rd : PySem.W.readsIn K C (.type "type") = true
  ga : PySem.W.specialIn K (.ref C) "__getattribute__" = some (some (.builtin "type.__getattribute__"))
def smB (K : PySem.W.Frag) (x m : Str) : Bool := He5.wrapB K (He.ga K x) "staticmethod" "staticmethod.__get__" m && (PySem.W.readsIn K (He.ga K x) (.type "type") && He.eqO (PySem.W.specialIn K (.ref (He.ga K x)) "__getattribute__") (some (some (.builtin "type.__getattribute__"))))
theorem smB_ok {K : PySem.W.Frag} {x m : Str} (h : smB K x m = true) : SMet K (He.ga K x) m (He.ma K (He.ga K x) m) (He5.wf K (He.ga K x) "staticmethod" m) := by
  obtain ⟨h1, h⟩ := He.ba h
  obtain ⟨h2, h3⟩ := He.ba h
  obtain ⟨k1, k2⟩ := He5.wrapB_ok h1
  exact ⟨k1, k2, h2, He.eqO_ok h3⟩
def propB (K : PySem.W.Frag) (x f : Str) : Bool := He.eqO (PySem.W.findIn K (.ref (He.ga K x)) f) (some (some (.ref (He.ma K (He.ga K x) f)))) && (He.eqO (PySem.W.specialIn K (.ref (He.ma K (He.ga K x) f)) "__get__") (some (some (.builtin "property.__get__"))) && (decide (PySem.W.takesIn K (.ref (He.ma K (He.ga K x) f)) = some true) && (match PySem.W.recIn K (He.ma K (He.ga K x) f) "property" with
    | some (.ref _ :: _) => true
    | _ => false)))
theorem propB_ok {K : PySem.W.Frag} {x f : Str} (h : propB K x f = true) : PropOf K (He.ga K x) f (He.ma K (He.ga K x) f) (He5.wf K (He.ga K x) "property" f) := by
  obtain ⟨h1, h⟩ := He.ba h
  obtain ⟨h2, h⟩ := He.ba h
  obtain ⟨h3, h4⟩ := He.ba h
  refine ⟨He.eqO_ok h1, He.eqO_ok h2, of_decide_eq_true h3, ?_⟩
  unfold He5.wf
  split at h4
  · rename_i f' r e
    exact ⟨r, by rw [e]⟩
  · cases h4
section
variable {X : Cx} {CX : CXT} {k : Nat} {C g p : Addr} {ps : List Str} {sp : Sp} {E : XK} {m : Str} {e o : Expr} {es : List Expr} {t : TA} {ta : TE} {pos apos : Pos}
def tSMeth (C : Addr) (sp : Sp) (E : XK) (ta : TE) (t : TA) : TE := fun σ H Q => ta σ H fun x H1 => x = .ref C ∧ t σ H1 fun vs H2 => sp vs H2 Q E
theorem pe_smethO {pl : Sem Bool} (he : PE X o ta) (c : SMet X.K C m p g) (F : Ok X.prog X.w X.K X.mg X.base CX k g ps sp) (hr : Room k X.A) (hx : Passes CX X E) (ha : PA X (e :: es) t)
    (hst : starEach (e :: es) X.env = (false, eval e X.env) :: starEach es X.env := by rfl) (hpl : (backTo pos (starEach es X.env)).any (·.1) = false := by rfl)
    (ht : eval (.Call (.Attribute o m apos) (e :: es) [] pos) X.env = (do
      let ov ← eval o X.env
      standAt apos.atName
      let (f, first) ← holding [ov] (getMethod ov m pl)
      callWith pos f first (backTo pos (starEach (e :: es) X.env)) (backToKw pos (keywordEach [] X.env))) := by rfl) :
    PE X (.Call (.Attribute o m apos) (e :: es) [] pos) (tSMeth C sp E ta t) := by
  refine ⟨fun pins s σ H Q I h => ?_⟩
  refine PySem.W.methodCall_KW (pl := pl) (thn (he.run pins s σ H _ I h) fun u s1 ⟨x, H1, I1, rx, ex, q⟩ => ?_) ht
  subst ex
  obtain rfl : u = Value.ref C := rx
  obtain ⟨rest, hp⟩ := c.rc
  refine PySem.W.method_cls I1.kIn c.ga (PySem.W.cls_bind I1.kIn c.rd c.at_ ?_)
  refine wpAny_call (PySem.W.sm_get (s := { s1 with toks := s1.toks + 1 }) I1.kIn hp (PySem.W.handed_on rfl ?_))
  have I2 := I1.tok (s1.toks + 1)
  refine PySem.W.callWith_K (first := []) (h₀ := X.base) I2.ok.mod.kin F.keep (thn (ha.run pos pins _ σ H1 _ I2 q) fun us s2 ⟨vs, H2, I3, r, q2⟩ => ⟨I3.kIn, ?_⟩) hst hpl
  exact wpAny_call (run_fnR (us := us) (vs := vs) F.r hr hx I3 r q2)
end
section
variable {K : PySem.W.Frag} {S : Dst} {σ : L2.St} {H : Hp} {ta : TE} {tas : TA} {C : Addr} {vs : List V} {sp : Sp} {E : XK} {P : V → Hp → Prop}
theorem ex_smeth (h : Ev K S ta σ H (.ref C)) (hv : EvA K S tas σ H vs) (k : SpX K S sp vs H E P) : EvX K S (tSMeth C sp E ta tas) σ H P := fun H1 e Q q => h H1 e _ fun H2 e2 =>
  ⟨rfl, hv H2 (e.trans e2) _ fun H3 e3 => k H3 ((e.trans e2).trans e3) _ fun z H4 e4 p => q z H4 ((e2.trans e3).trans e4) p⟩
theorem ex_smethX {PA : List V → Hp → Prop} (h : Ev K S ta σ H (.ref C)) (hv : EvAX K S tas σ H PA) (k : ∀ vs H1, Lx S H H1 → PA vs H1 → SpX K S sp vs H1 E P) : EvX K S (tSMeth C sp E ta tas) σ H P := fun H1 e Q q => h H1 e _ fun H2 e2 =>
  ⟨rfl, hv H2 (e.trans e2) _ fun vs H3 e3 pa => k vs H3 ((e.trans e2).trans e3) pa H3 ((e.trans e2).trans e3).refl _ fun z H4 e4 p => q z H4 ((e2.trans e3).trans e4) p⟩
end
section
variable {K : PySem.W.Frag} {S : Dst} {σ : L2.St} {H H' : Hp} {tas : TA} {t : TT} {D : Ends} {tu tz : TS} {g : TG}
theorem s_whileN (W : Nat → L2.St → Hp → Prop) (m0 : Nat) (h0 : ∀ H1, Lx S H H1 → W m0 σ H1) (wf : ∀ m σ' H', W m σ' H' → Lx S H' H')
    (hs : ∀ m σ' H', W m σ' H' → ∃ b, EvT K S t σ' H' b ∧ (b = true → St K S tu { D with nx := fun σ2 H2 => ∃ m', m' < m ∧ W m' σ2 H2, ct := fun σ2 H2 => ∃ m', m' < m ∧ W m' σ2 H2, bk := tz D } σ' H') ∧ (b = false → St K S tz D σ' H')) :
    St K S (tSeq (tWhile t tu) tz) D σ H :=
  s_while W m0 h0 (fun m σ' H' w H1 e Q q => by
    obtain ⟨b, h1, h2, h3⟩ := hs m σ' H' w
    exact h1 H1 e Q fun H2 e2 => q b H2 e2 ⟨fun hb => ⟨_, fun _ _ z => z, h2 hb H2 (e.trans e2)⟩, fun hb => h3 hb H2 (e.trans e2)⟩) wf
/-- for x in range(n), n told by what has effects -/
theorem s_forRX {PA : List V → Hp → Prop} (h : EvAX K S tas σ H PA) (k : ∀ vs H1, Lx S H H1 → PA vs H1 → ∃ n, vs = [.int n] ∧ St K S (tSeq (tFor (iRng1 (tCons (tC (.int n)) tNil)) g tu) tz) D σ H1) : St K S (tSeq (tFor (iRng1 tas) g tu) tz) D σ H := fun H1 e => h H1 e _ fun vs H2 e2 p => by
  obtain ⟨n, rfl, s⟩ := k vs H2 (e.trans e2) p
  exact s H2 (e.trans e2).refl
theorem rvx_cat {l b : Addr} {xs zs : List V} (hl : H l = some (.lst xs)) (nl : ¬ Sx S l) (hb : H b = some (.lst zs)) (nb : ¬ Sx S b) (hz : xs.length + zs.length ≤ sizeLine) : RVX K S rCat (.ref l) (.ref b) H (NewL S H (xs ++ zs)) := fun H1 e Q q =>
  ⟨l, b, xs, zs, rfl, rfl, e.1 _ _ nl hl, e.1 _ _ nb hb, hz, fun p hp => q _ _ (e.new hp) ⟨p, rfl, e.fresh hp, e.ns hp, upd_same⟩⟩
/-- tuple(l) of a list -/
theorem rc_tupleL {p : Addr} {ys : List V} (h : LA K S H p ys) : RCX K S (rTup1 K) [.ref p] H (NewU S H ys) := fun H1 e _ q => ⟨p, ys, rfl, .inl ⟨(h.mono e).q, fun l hl => q _ _ (e.new hl) ⟨l, rfl, e.fresh hl, e.ns hl, upd_same⟩⟩⟩
end
end Fw

namespace Fw
open PySem PySem.Spec PyProof.Rows L2
/-! ### own [i], own [i] = v, own % with a number -/
def rIxO (C : Addr) (sp : Sp) (E : XK) : R2 := fun x y H Q => ∃ a, x = .ref a ∧ (∃ dx fs, H a = some (.ins C dx fs)) ∧ sp [.ref a, y] H Q E
def sSetO (C : Addr) (sp : Sp) (E : XK) : TSet := fun o i v H Q => ∃ a, o = .ref a ∧ (∃ dx fs, H a = some (.ins C dx fs)) ∧ sp [.ref a, i, v] H (fun _ H' => Q H') E
def rBinI (C : Addr) (sp : Sp) (E : XK) : R2 := fun x y H Q => ∃ a i, x = .ref a ∧ y = .int i ∧ (∃ dx fs, H a = some (.ins C dx fs)) ∧ sp [.ref a, .int i] H Q E
structure BinI (K : PySem.W.Frag) (C : Addr) (nm : String) : Prop where
  sf : PySem.W.selfFirst K C = true
  r : PySem.W.findIn K (.ref C) (dunderR nm) = some none
  h1 : ∃ fo, PySem.W.findIn K (.type "int") (PySem.dunder nm) = some fo
  h2 : ∃ ro, PySem.W.findIn K (.type "int") (dunderR nm) = some ro
  su : PySem.W.subIn K (.type "int") (.ref C) = some false
def binB (K : PySem.W.Frag) (x : Str) (nm : String) : Bool := PySem.W.selfFirst K (He.ga K x) && (He.eqO (PySem.W.findIn K (.ref (He.ga K x)) (dunderR nm)) (some none) && ((PySem.W.findIn K (.type "int") (PySem.dunder nm)).isSome && ((PySem.W.findIn K (.type "int") (dunderR nm)).isSome && decide (PySem.W.subIn K (.type "int") (.ref (He.ga K x)) = some false))))
theorem binB_ok {K : PySem.W.Frag} {x : Str} {nm : String} (h : binB K x nm = true) : BinI K (He.ga K x) nm := by
  obtain ⟨h1, h⟩ := He.ba h
  obtain ⟨h2, h⟩ := He.ba h
  obtain ⟨h3, h⟩ := He.ba h
  obtain ⟨h4, h5⟩ := He.ba h
  exact ⟨h1, He.eqO_ok h2, Option.isSome_iff_exists.mp h3, Option.isSome_iff_exists.mp h4, of_decide_eq_true h5⟩
section
variable {X : Cx} {CX : CXT} {k : Nat} {C g : Addr} {ps : List Str} {sp : Sp} {E : XK} {a b : Expr} {ta tb : TE} {pos : Pos}
theorem pe_ixO (K : PySem.W.Frag) (hK : X.K = K) (hm : Meth K C "__getitem__" g) (hf : PySem.W.fnIn K g = true) (F : Ok X.prog X.w K X.mg X.base CX k g ps sp) (hr : Room (k + 1) X.A) (hx : Passes CX X E) (ha : PE X a ta) (hb : PE X b tb)
    (hs : ∀ o i, subscripted b true o i = runValue (.builtin "lifetime.subscript" ⟨[o, i], []⟩)) : PE X (.Subscript a b pos) (tOp (rIxO C sp E) ta tb) := by
  subst hK
  refine ⟨fun pins s σ H Q I h => ?_⟩
  refine Subscript_ (binT ha hb I h fun v u s2 x y H2 I2 rx ry q => ?_)
  obtain ⟨p, rfl, hp, q⟩ := q
  cases (show v = Value.ref p from rx)
  obtain ⟨_, _, J⟩ := inst_at I2 hp
  obtain ⟨m, hF⟩ := I2.fr
  exact PySem.W.sub_K hF I2.ok.mod.kin J hm.at_ hf hm.fn (wpAny_call (SlX.run_at (us := [.ref p, u]) (ws := [.ref p, y]) F.r hr.in1 I2.env0.in1 hx I2 (.cons rfl (.cons ry .nil)) q)) (hs _ _)
theorem set_O (K : PySem.W.Frag) (hK : X.K = K) (hm : Meth K C "__setitem__" g) (hq : PySem.W.noSeq K C = true) (F : Ok X.prog X.w K X.mg X.base CX k g ps sp) (hr : Room k X.A) (hx : Passes CX X E) : PSet X (sSetO C sp E) := by
  subst hK
  intro pins s σ H o i v ov iv u Q I ro ri rv h
  obtain ⟨p, rfl, hp, q⟩ := h
  cases (show ov = Value.ref p from ro)
  obtain ⟨_, _, J⟩ := inst_at I hp
  obtain ⟨m, hF⟩ := I.fr
  refine PySem.W.ksp_setItem hF I.ok.mod.kin J hq hm.at_ hm.fn (wpAny_mono (wpAny_call (run_fnR (us := [.ref p, iv, u]) (vs := [.ref p, i, v]) F.r hr hx I (.cons rfl (.cons ri (.cons rv .nil))) q)) (fun w s' z => ?_) fun _ _ x => x)
  obtain ⟨z', H', I', rz, qz⟩ := z
  exact ⟨H', I', qz⟩
theorem op_modO (K : PySem.W.Frag) (hK : X.K = K) (hb : BinI K C "mod") (hm : Meth K C "__mod__" g) (F : Ok X.prog X.w K X.mg X.base CX k g ps sp) (hr : Room k X.A) (hx : Passes CX X E) : OpR X (binaryOp .Mod) (rBinI C sp E) := by
  subst hK
  intro pins s σ H x y v u Q I rx ry h
  obtain ⟨p, i, rfl, rfl, hp, q⟩ := h
  cases (show v = Value.ref p from rx)
  obtain ⟨t, rfl⟩ := (show ∃ t, u = Value.int i t from ry)
  obtain ⟨_, _, J⟩ := inst_at I hp
  obtain ⟨m, hF⟩ := I.fr
  obtain ⟨fo, h1⟩ := hb.h1
  obtain ⟨ro, h2⟩ := hb.h2
  refine PySem.W.ksp_binT (op := .Mod) (T := "int") hF I.ok.mod.kin J rfl hb.sf hm.at_ hm.fn hb.r (.inl rfl) h1 h2 hb.su (wpAny_mono (wpAny_call (run_fnR (us := [.ref p, .int i t]) (vs := [.ref p, .int i]) F.r hr hx I (.cons rfl (.cons ⟨t, rfl⟩ .nil)) q)) (fun w s' z => ?_) fun _ _ x => x)
  obtain ⟨z', H', I', rz, qz⟩ := z
  exact SlX.cmpback rz ⟨z', H', I', rz, qz⟩
end
section
variable {K : PySem.W.Frag} {S : Dst} {σ : L2.St} {H : Hp} {a C : Addr} {fs : List (Str × V)} {y v : V} {sp : Sp} {E : XK} {P : V → Hp → Prop} {ta tb te : TE} {D : Ends} {tz : TS}
theorem rvx_ixO (i : IA S H a C fs) (k : SpX K S sp [.ref a, y] H E P) : RVX K S (rIxO C sp E) (.ref a) y H P := fun H1 e Q q => by
  obtain ⟨⟨dx, q1⟩, _⟩ := i.mono e
  exact ⟨a, rfl, ⟨_, _, q1⟩, k H1 e Q q⟩
theorem rvx_binI {i : Int} (h : IA S H a C fs) (k : SpX K S sp [.ref a, .int i] H E P) : RVX K S (rBinI C sp E) (.ref a) (.int i) H P := fun H1 e Q q => by
  obtain ⟨⟨dx, q1⟩, _⟩ := h.mono e
  exact ⟨a, i, rfl, rfl, ⟨_, _, q1⟩, k H1 e Q q⟩
end
/-! ### a def f(a, b, *c) -/
/-- a def f(a, .., *r) that lets nothing out, by its body: the star arguments' tuple is laid at the call -/
theorem fn_star {P : Program} {w : World} {K : PySem.W.Frag} {mg : Str → Option Value} {base : Heap} {k : Nat} {f : Addr} {name qual : Str} {params : Arguments} {body : List Stmt} {scope : Scope} {dV kV doc pm cdv ct oc : Value} {an od : Option Addr}
    {osl : Array (Option Value)} {N ps0 : List Str} {pv : Str} {nmax : Nat} {sp : Sp} (lk : K.lookup f = some ⟨oc, od, .func (PySem.W.fnOf name qual params body scope dV kV doc pm an cdv ct), osl⟩) (hcd : PySem.W.codeIn K cdv qual = true) (S : FnScope N (ps0 ++ [pv]) scope)
    (hz : nmax ≤ sizeLine) (hb : ∀ (us rest : List Value), us.length = ps0.length → rest.length ≤ nmax → bindArgs (PySem.W.fnOf name qual params body scope dV kV doc pm an cdv ct) ⟨us ++ rest, []⟩ = (newTuple rest >>= fun t => pure ((ps0 ++ [pv]).zip (us ++ [t]))))
    (hbody : ∀ (A : Around) (outer : List Env) (s : Shared) (H : Hp) (vs : List V) (Q : VK) (E : XK), Room k (A.deeper (envOfC qual scope s.heap.objs.size f cdv)) → sp vs H Q E →
      ∃ t, PSs (cxOf CX0 P w K mg base N qual scope f cdv A outer s H E) body t ∧ t { nx := fun _ H' => Q .non H', rt := Q } (start N vs) H) :
    FnR P w K mg base CX0 (k + 1) f (fun vs H Q E => ∃ v0 rest, vs = v0 ++ rest ∧ v0.length = ps0.length ∧ rest.length ≤ nmax ∧ ∀ p, H p = none → sp (v0 ++ [.ref p]) (upd H p (.tup rest)) Q E) := by
  intro A outer s H us vs Q E hr e0 r hsp
  obtain ⟨v0, rest, ev, h0, hl, hq⟩ := hsp
  subst ev
  obtain ⟨u0, ur, eu, rv, rr⟩ : ∃ u0 ur, us = u0 ++ ur ∧ Vals v0 u0 ∧ Vals rest ur := by
    clear hq hl h0
    induction v0 generalizing us with
    | nil => exact ⟨[], us, rfl, .nil, r⟩
    | cons x xs ih =>
      cases r with
      | cons a b =>
        obtain ⟨u0, ur, e, c, d⟩ := ih _ b
        subst e
        exact ⟨_ :: u0, ur, rfl, .cons a c, d⟩
  subst eu
  have hl' : ur.length ≤ nmax := by rw [← rr.length]; exact hl
  have h0' : u0.length = ps0.length := by rw [← rv.length]; exact h0
  have KX : K.In s.heap := e0.mod.kin.keeps fun b o e => (e0.bs b o e).1
  have hn : H s.heap.objs.size = none := e0.hok.fresh (Nat.le_refl _)
  have hp := hq s.heap.objs.size hn
  have kp : ∀ b o, s.heap.get? b = some o → (s.heap.push ({ cls := .type "tuple", data := .seq ur.toArray } : Obj)).get? b = some o := fun b o e => Heap.get?_push_of_some _ e
  have new : ObjOk P w (upd H s.heap.objs.size (.tup rest)) (s.heap.push ({ cls := .type "tuple", data := .seq ur.toArray } : Obj)) s.heap.objs.size (.tup rest) :=
    ⟨Nat.le_trans hl hz, ur, rr, ⟨_, Heap.get?_push_size _ rfl, rfl, _, rfl⟩⟩
  have hok2 := e0.hok.laid kp (Nat.le_refl _) new
  have un : Un (frs outer) [] H (upd H s.heap.objs.size (.tup rest)) s.heap (s.heap.push ({ cls := .type "tuple", data := .seq ur.toArray } : Obj)) := Un.laid kp (Nat.le_refl _) hn
  have e2 : Env0 P w K mg base A outer { s with heap := s.heap.push ({ cls := .type "tuple", data := .seq ur.toArray } : Obj) } (upd H s.heap.objs.size (.tup rest)) := by
    refine ⟨e0.frames, e0.mod, fun b o e => ⟨kp b o (e0.bs b o e).1, ?_⟩, ?_, Heap.FunFrames.of_keeps (fun b o e _ => ⟨o, kp b o e, rfl⟩) e0.funs, fun b hb' => ?_, hok2, e0.bare⟩
    · rw [upd_ne (Nat.ne_of_lt (Heap.lt_size (e0.bs b o e).1))]
      exact (e0.bs b o e).2
    · show base.objs.size ≤ (s.heap.push _).objs.size
      rw [Heap.size_push]
      exact Nat.le_succ_of_le e0.bsz
    · obtain ⟨_, o, ho, _⟩ := e0.funs.mem hb'
      rw [upd_ne (Nat.ne_of_lt (Heap.lt_size ho))]
      exact e0.frf b hb'
  have lim : (s.heap.push ({ cls := .type "tuple", data := .seq ur.toArray } : Obj)).NoLimit := e0.mod.nolimit.keeps fun b o e => (e2.bs b o e).1
  have hkind : ∀ y ∈ (ps0 ++ [pv]).zip (u0 ++ [Value.ref s.heap.objs.size]), scope.names.lookup y.1 = some .local ∨
      (scope.names.lookup y.1 = some .cell ∧ ((cellsFrom ((s.heap.push ({ cls := .type "tuple", data := .seq ur.toArray } : Obj)).objs.size + 1) scope.names []).lookup y.1).isSome = true) := fun y hy => by
    rcases S.par y.1 (List.of_mem_zip hy).1 with q | q
    · exact .inl q
    · exact .inr ⟨q, PySem.W.cellsFrom_some _ _ _ (.inl q)⟩
  refine codeAny_call_function hr.depth (KX _ _ lk) rfl S.co S.gen rfl (PySem.W.codeRec_of KX hcd) ?_
  rw [hb u0 ur h0' hl']
  refine wpAny_bind (wpAny_newTuple (wpAny_pure ?_) (Nat.le_trans hl' hz))
  refine wpAny_newFunctionEnv_cells (s := { s with heap := s.heap.push ({ cls := .type "tuple", data := .seq ur.toArray } : Obj) }) S.kind hkind fun env he s1 x => ?_
  subst he
  refine ⟨lim.keeps x.toInCall.keep, codeAny_func ?_⟩
  obtain ⟨t, ht, hq'⟩ := hbody A outer { s with heap := s.heap.push ({ cls := .type "tuple", data := .seq ur.toArray } : Obj) } (upd H s.heap.objs.size (.tup rest)) (v0 ++ [.ref s.heap.objs.size]) Q E (hr.deeper _) hp
  have r2 : Vals (v0 ++ [V.ref s.heap.objs.size]) (u0 ++ [Value.ref s.heap.objs.size]) := rv.append (.cons rfl .nil)
  have I : Inv (cxOf CX0 P w K mg base N qual scope f cdv A outer { s with heap := s.heap.push ({ cls := .type "tuple", data := .seq ur.toArray } : Obj) } (upd H s.heap.objs.size (.tup rest)) E) [] (start N (v0 ++ [.ref s.heap.objs.size])) (upd H s.heap.objs.size (.tup rest)) s1 :=
    inv_start S hr.hd e2 (by rw [List.length_append, List.length_append, h0]; rfl) r2 x
  refine wpAny_mono (ht.run [] s1 _ _ _ I hq') (fun fl s' hs => ?_) fun e s' hs => ?_
  · have fin : ∀ {σ' : L2.St} {H' : Hp} {v' : V} {u' : Value}, Inv (cxOf CX0 P w K mg base N qual scope f cdv A outer { s with heap := s.heap.push ({ cls := .type "tuple", data := .seq ur.toArray } : Obj) } (upd H s.heap.objs.size (.tup rest)) E) [] σ' H' s' → RelV v' u' → Q v' H' →
        CE outer P w H s Q u' s' := fun {σ' H' v' u'} J rv' q => ⟨v', H', J.os, J.bare, un.trans J.base, J.hok, rv', q⟩
    cases fl with
    | ret u' =>
      obtain ⟨v', σ', H', J, rv', q⟩ := hs
      exact fin J rv' q
    | next =>
      obtain ⟨σ', H', J, q⟩ := hs
      exact fin (v' := V.non) (u' := Value.none) J rfl q
    | brk =>
      obtain ⟨_, _, _, q⟩ := hs
      exact False.elim q
    | cont =>
      obtain ⟨_, _, _, q⟩ := hs
      exact False.elim q
  · exact wpAny_mono hs (fun _ s'' z => z) fun e' s'' z => z
/-- a def with a star parameter keeps a promise, however its object looks -/
def OkV (P : Program) (w : World) (K : PySem.W.Frag) (mg : Str → Option Value) (base : Heap) (k : Nat) (f : Addr) (sp : Sp) : Prop := FnR P w K mg base CX0 k f sp ∧ PySem.W.keepIn K (.ref f) = true
theorem okV {P : Program} {w : World} {K : PySem.W.Frag} {mg : Str → Option Value} {base : Heap} {x qual : Str} {st : Stmt} {f : Addr} {N ps0 : List Str} {pv : Str} {k nmax : Nat} {sp : Sp} (F : FnIs K x qual st f) (S : FnScope N (ps0 ++ [pv]) (defScope st)) (hz : nmax ≤ sizeLine)
    (hb : ∀ (kV doc pm : Value) (an : Option Addr) (cdv ct : Value) (us rest : List Value), us.length = ps0.length → bindArgs (PySem.W.fnOf x qual (defArgs st) (defBody st) (defScope st) .none kV doc pm an cdv ct) ⟨us ++ rest, []⟩ = (newTuple rest >>= fun t => pure ((ps0 ++ [pv]).zip (us ++ [t]))))
    (hbody : ∀ (cdv : Value) (A : Around) (outer : List Env) (s : Shared) (H : Hp) (vs : List V) (Q : VK) (E : XK), Room k (A.deeper (envOfC qual (defScope st) s.heap.objs.size f cdv)) → sp vs H Q E →
      ∃ t, PSs (cxOf CX0 P w K mg base N qual (defScope st) f cdv A outer s H E).nox (defBody st) t ∧ t { nx := fun _ H' => Q .non H', rt := Q } (start N vs) H) :
    OkV P w K mg base (k + 1) f (fun vs H Q E => ∃ v0 rest, vs = v0 ++ rest ∧ v0.length = ps0.length ∧ rest.length ≤ nmax ∧ ∀ p, H p = none → sp (v0 ++ [.ref p]) (upd H p (.tup rest)) Q E) := by
  obtain ⟨fd, F⟩ := F
  obtain ⟨oc, od, dV, kV, doc, pm, an, cdv, ct, osl, e, lk, hcd, hd, _⟩ := F.ex
  have hdn : dV = .none := by
    rcases hd with ⟨_, e2⟩ | ⟨e2, _⟩
    · exact e2
    · exact absurd rfl e2
  subst hdn
  subst e
  exact ⟨fn_star lk hcd S hz (fun us rest h0 _ => hb kV doc pm an cdv ct us rest h0) fun A outer s H vs Q E hr hsp => by
    obtain ⟨t, h, q⟩ := hbody cdv A outer s H vs Q E hr hsp
    exact ⟨t, h.nox, q⟩, F.kp⟩
/-! y in d of a dict with keys that are tuples -/
section
variable {K : PySem.W.Frag} {S : Dst} {σ : L2.St} {H : Hp} {ta tb te : TE} {d b : Addr} {kvs : List (List Key × V)} {ks : List Key} {D : Ends} {tz : TS} {v : V} {P : V → Hp → Prop}
theorem ev_dinT (hy : EvX K S ta σ H fun x H2 => ∃ b, x = .ref b ∧ H2 b = some (.tup (ks.map kV)) ∧ ¬ Sx S b) (hd : Ev K S tb σ H (.ref d)) (e : H d = some (.dT kvs)) (nd : ¬ Sx S d) : Ev K S (tDIn ta tb) σ H (.bl (valV kvs ks).isSome) := fun H1 e1 Q q =>
  hy H1 e1 _ fun x H2 e2 ⟨b, hx, hb, nb⟩ => hd H2 (e1.trans e2) _ fun H3 e3 => by
    subst hx
    have e13 := (e1.trans e2).trans e3
    exact ⟨d, valV kvs ks, rfl, .inr ⟨kvs, ks, b, .inl (e13.1 _ _ nd e), rfl, e3.1 _ _ nb hb, rfl⟩, q H3 (e2.trans e3)⟩
theorem s_dputT (hv : Ev K S te σ H v) (hd : Ev K S tb σ H (.ref d)) (hy : EvX K S ta σ H fun x H2 => ∃ b, x = .ref b ∧ H2 b = some (.tup (ks.map kV)) ∧ ¬ Sx S b) (e : H d = some (.dT kvs)) (nd : ¬ Sx S d) (hl : kvs.length < sizeLine)
    (k : ∀ H1, Lx S H H1 → St K S tz D σ (upd H1 d (.dT (putK kvs ks v)))) : St K S (tSeq (sDPut tb ta te) tz) D σ H := fun H1 e1 => hv H1 e1 _ fun H2 e2 => hd H2 (e1.trans e2) _ fun H3 e3 => hy H3 ((e1.trans e2).trans e3) _ fun x H4 e4 ⟨b, hx, hb, nb⟩ => by
  subst hx
  have e14 := ((e1.trans e2).trans e3).trans e4
  exact ⟨d, _, rfl, .inr ⟨kvs, ks, b, e14.1 _ _ nd e, rfl, hb, hl, rfl⟩, k H4 e14 _ (e14.refl.upd nd)⟩
end
end Fw

namespace Fw
open PySem PySem.Spec PyProof.Rows L2
section
variable {X : Cx} {k : Nat}
theorem inDK (K : PySem.W.Frag) (hK : X.K = K) (hr : Room k X.A) : OpR X (compareOp .In) (rInD K) := by subst hK; exact op_inD (by have := hr.un; omega)
theorem notInDK (K : PySem.W.Frag) (hK : X.K = K) (hr : Room k X.A) : OpR X (compareOp .NotIn) (rNotInD K) := by subst hK; exact op_notInD (by have := hr.un; omega)
variable {CX : CXT} {C g : Addr} {sp : Sp} {E : XK} {x : Str} {e : Expr} {es : List Expr} {t : TA} {pos q : Pos}
theorem pe_makeV (M : Mk X.K C g) (F : OkV X.prog X.w X.K X.mg X.base k g sp) (hr : Room (k + 1) X.A) (hg : Gl X x) (hm : X.mg x = some (.ref C)) (hx : Passes CX0 X E) (ha : PA X (e :: es) t) (hdb : (x == ("__debug__" : Str)) = false := by decide)
    (he : starEach (e :: es) X.env = (false, eval e X.env) :: starEach es X.env := by rfl) (hpl : (backTo pos (starEach es X.env)).any (·.1) = false := by rfl) : PE X (.Call (.Name x q) (e :: es) [] pos) (StX.tMakeR C sp E t) :=
  StX.pe_makeR M F.1 hr hg hm hx ha hdb he hpl
end
section
variable {K : PySem.W.Frag} {S : Dst} {σ : L2.St} {H : Hp} {a C : Addr} {fs : List (Str × V)} {i v x y : V} {sp : Sp} {E : XK} {P : V → Hp → Prop} {ta tb te : TE} {D : Ends} {tz : TS}
/-- o[i] = v of an own class: St goes on from what it left -/
theorem s_setO (hv : Ev K S te σ H v) (ho : Ev K S ta σ H (.ref a)) (hi : Ev K S tb σ H i) (h : IA S H a C fs) (k : ∀ H1, Lx S H H1 → sp [.ref a, i, v] H1 (fun _ H2 => tz D σ H2) E) : St K S (tSeq (tAsg te (gSub ta tb (sSetO C sp E))) tz) D σ H := fun H1 e =>
  hv H1 e _ fun H2 e2 => ho H2 (e.trans e2) _ fun H3 e3 => hi H3 ((e.trans e2).trans e3) _ fun H4 e4 => by
    have e5 := ((e.trans e2).trans e3).trans e4
    obtain ⟨⟨dx, q⟩, _⟩ := h.mono e5
    exact ⟨a, rfl, ⟨_, _, q⟩, k H4 e5⟩
theorem rv_inD {d : PyData} {ds : List PyData} (hx : ∀ H1, Lx S H H1 → Dp K H1 x d) (hy : ∀ H1, Lx S H H1 → Dp K H1 y (.list ds)) (s1 : SeqAt.shaped d = true) (s2 : SeqAt.shaped (.list ds) = true) : RV K S (rInD K) x y H (.bl (ds.any fun z => PyData.eqv z d)) := fun H1 e _ q => ⟨d, ds, hx H1 e, hy H1 e, s1, s2, q H1 e.refl⟩
theorem rv_notInD {d : PyData} {ds : List PyData} (hx : ∀ H1, Lx S H H1 → Dp K H1 x d) (hy : ∀ H1, Lx S H H1 → Dp K H1 y (.list ds)) (s1 : SeqAt.shaped d = true) (s2 : SeqAt.shaped (.list ds) = true) : RV K S (rNotInD K) x y H (.bl (!ds.any fun z => PyData.eqv z d)) := fun H1 e _ q => ⟨d, ds, hx H1 e, hy H1 e, s1, s2, q H1 e.refl⟩
theorem rvx_rep {l : Addr} {k : Int} {xs : List V} (hl : H l = some (.lst xs)) (nl : ¬ Sx S l) (h0 : -(2 ^ 63) ≤ k) (h1 : k < 2 ^ 63) (hz : xs.length * k.toNat ≤ sizeLine) : RVX K S rRep (.ref l) (.int k) H (NewL S H (List.replicate k.toNat xs).flatten) := fun H1 e Q q =>
  ⟨l, k, xs, rfl, rfl, e.1 _ _ nl hl, h0, h1, hz, fun p hp => q _ _ (e.new hp) ⟨p, rfl, e.fresh hp, e.ns hp, upd_same⟩⟩

theorem s_dputT1 {d : Addr} {kvs : List (List Key × V)} {ks : List Key} (hv : Ev K S te σ H v) (hd : Ev K S tb σ H (.ref d)) (hy : EvX K S ta σ H fun x H2 => ∃ b, x = .ref b ∧ H2 b = some (.tup (ks.map kV)) ∧ ¬ Sx S b) (e : H d = some (.dT kvs)) (nd : ¬ Sx S d) (hl : kvs.length < sizeLine)
    (k : ∀ H1, Lx S H H1 → ∀ H2, Lx S (upd H1 d (.dT (putK kvs ks v))) H2 → D.nx σ H2) : St K S (sDPut tb ta te) D σ H := fun H1 e1 => hv H1 e1 _ fun H2 e2 => hd H2 (e1.trans e2) _ fun H3 e3 => hy H3 ((e1.trans e2).trans e3) _ fun x H4 e4 ⟨b, hx, hb, nb⟩ => by
  subst hx
  have e14 := ((e1.trans e2).trans e3).trans e4
  exact ⟨d, _, rfl, .inr ⟨kvs, ks, b, e14.1 _ _ nd e, rfl, hb, hl, rfl⟩, k H4 e14 _ (e14.refl.upd nd)⟩
end
end Fw
namespace Fw
theorem un1 {a c : Nat} (h : a + 64 < c) : a + 1 < c := by omega
end Fw

namespace Fw
open PySem PySem.Spec PyProof.Rows L2
section
variable {K : PySem.W.Frag} {S : Dst} {σ : L2.St} {H : Hp} {tl te : TE} {t : TT} {g : TG} {ws : List Nat} {P P' : V → Hp → Prop}
/-- a comprehension over what has to be made first -/
theorem ex_lcX (h : EvX K S tl σ H P') (k : ∀ v H1, Lx S H H1 → P' v H1 → EvX K S (tLc (iList K (tC v)) g t te ws) σ H1 P) : EvX K S (tLc (iList K tl) g t te ws) σ H P := fun H0 e Q q => h H0 e _ fun v H1 e1 p =>
  k v H1 (e.trans e1) p H1 (e.trans e1).refl Q fun w H2 e2 pp => q w H2 (e1.trans e2) pp
theorem IA.updI {a x C C' dx : Addr} {fs fs' : List (Str × V)} {o : HO} (hx : H x = some (.ins C dx fs)) (ne : fs' ≠ fs) (h : IA S H a C' fs') : IA S (upd H x o) a C' fs' := by
  obtain ⟨⟨dy, q⟩, n⟩ := h
  refine ⟨⟨dy, ?_⟩, n⟩
  rw [upd_ne (fun z => by
    subst z
    rw [hx] at q
    injection q with q
    injection q with _ _ q
    exact ne q.symm)]
  exact q
end
end Fw
namespace Fw
open PySem PySem.Spec PyProof.Rows L2
section
variable {K : PySem.W.Frag} {S : Dst} {σ : L2.St} {H : Hp} {ta tb te : TE} {D : Ends} {tz : TS} {v : V} {l : Addr} {xs : List V} {i : Int}
/-- l.insert(i, v), the last statement -/
theorem s_insert1 (hl : H l = some (.lst xs)) (ns : ¬ Sx S l) (ho : Ev K S ta σ H (.ref l)) (hi : Ev K S tb σ H (.int i)) (hv : Ev K S te σ H v) (hz : xs.length < sizeLine) (h0 : 0 ≤ i) (h1 : i < 2 ^ 63) (k : ∀ H1, Lx S (upd H l (.lst (xs.take i.toNat ++ [v] ++ xs.drop i.toNat))) H1 → D.nx σ H1) :
    St K S (tDrop (tBM K "list" (fun x vs H Q => ∃ (l : Addr) (xs : List V) (i : Int) (y : V), x = .ref l ∧ vs = [.int i, y] ∧ H l = some (.lst xs) ∧ xs.length < sizeLine ∧ 0 ≤ i ∧ i < 2 ^ 63 ∧ Q .non (upd H l (.lst (xs.take i.toNat ++ [y] ++ xs.drop i.toNat)))) ta (tCons tb (tCons te tNil)))) D σ H := fun H1 e => ho H1 e _ fun H2 e2 =>
  ⟨.inl ⟨rfl, _, SqL.of ((e.trans e2).1 l _ ns hl)⟩, hi H2 (e.trans e2) _ fun H3 e3 => hv H3 ((e.trans e2).trans e3) _ fun H4 e4 =>
    have e5 := ((e.trans e2).trans e3).trans e4
    ⟨l, xs, i, v, rfl, rfl, e5.1 l _ ns hl, hz, h0, h1, k _ (e5.upd ns)⟩⟩
end
end Fw
namespace Fw
open PySem PySem.Spec PyProof.Rows L2
section
variable {K : PySem.W.Frag} {S : Dst} {σ : L2.St} {H : Hp} {ta : TE} {tas : TA} {D : Ends} {tz : TS} {a C : Addr} {fs : List (Str × V)} {m : Str} {sp : Sp} {E : XK} {PA : List V → Hp → Prop}
/-- o.m(..) as a statement, what it does told by its promise -/
theorem s_meth1 (ho : Ev K S ta σ H (.ref a)) (ia : IA S H a C fs) (l : fs.lookup m = none) (h : EvAX K S tas σ H PA) (k : ∀ vs H1, Lx S H H1 → PA vs H1 → sp (.ref a :: vs) H1 (fun _ H2 => D.nx σ H2) E) : St K S (tDrop (tMethR C m sp E ta tas)) D σ H := fun H1 e => ho H1 e _ fun H2 e2 => by
  obtain ⟨⟨dx, q2⟩, _⟩ := ia.mono (e.trans e2)
  exact ⟨a, dx, fs, rfl, q2, l, h H2 (e.trans e2) _ fun vs H3 e3 pa => k vs H3 ((e.trans e2).trans e3) pa⟩
theorem s_meth (ho : Ev K S ta σ H (.ref a)) (ia : IA S H a C fs) (l : fs.lookup m = none) (h : EvAX K S tas σ H PA) (k : ∀ vs H1, Lx S H H1 → PA vs H1 → sp (.ref a :: vs) H1 (fun _ H2 => tz D σ H2) E) : St K S (tSeq (tDrop (tMethR C m sp E ta tas)) tz) D σ H := fun H1 e => ho H1 e _ fun H2 e2 => by
  obtain ⟨⟨dx, q2⟩, _⟩ := ia.mono (e.trans e2)
  exact ⟨a, dx, fs, rfl, q2, l, h H2 (e.trans e2) _ fun vs H3 e3 pa => k vs H3 ((e.trans e2).trans e3) pa⟩
end
end Fw
namespace Fw
open PySem PySem.Spec PyProof.Rows L2
theorem pg_tupK {X : Cx} (K : PySem.W.Frag) (hK : X.K = K) {es : List Expr} {k : Nat} {t : TGs} {n : Nat} {pos : Pos} (hc : X.calm = true) (h : PGs X es t) (hn : (assignEach es X.env).length = n := by rfl) (hst : (assignEach es X.env).findIdx? (·.1) = none := by rfl) : PG X (.Tuple es k pos) (gTup K n t) := by
  subst hK
  exact pg_tup hc h hn hst
end Fw
namespace Fw
open PySem PySem.Spec PyProof.Rows L2
/-- a, b = a pair -/
theorem s_asgT2 {K : PySem.W.Frag} {S : Dst} {σ : L2.St} {H : Hp} {te : TE} {P : V → Hp → Prop} {D : Ends} {tz : TS} {i j : Nat} (h : EvX K S te σ H P) (k : ∀ v H1, Lx S H H1 → P v H1 → ∃ p x y, v = .ref p ∧ SqT K H1 p [x, y] ∧ St K S tz D ((σ.set i (some x)).set j (some y)) H1) :
    St K S (tSeq (tAsg te (gTup K 2 (gCons (gName i) (gCons (gName j) gNil)))) tz) D σ H := fun H1 e => h H1 e _ fun v H2 e2 p => by
  obtain ⟨q, x, y, rfl, hs, st⟩ := k v H2 (e.trans e2) p
  exact ⟨q, [x, y], rfl, hs, rfl, x, [y], rfl, y, [], rfl, rfl, st H2 (e.trans e2).refl⟩
end Fw
namespace Fw
open PySem PySem.Spec PyProof.Rows L2
/-- l[:n] -/
theorem ex_slTo {K : PySem.W.Frag} {S : Dst} {σ : L2.St} {H : Hp} {ta tb : TE} {p : Addr} {xs : List V} {n : Int} (h : Ev K S ta σ H (.ref p)) (hx : LA K S H p xs) (hn : Ev K S tb σ H (.int n)) : EvX K S (tSl (rSlL K) ta tNoPart (tPart tb)) σ H (NewL S H (cutV xs none (some n))) := fun H1 e Q q =>
  h H1 e _ fun H2 e2 => hn H2 (e.trans e2) _ fun H3 e3 => ⟨n, rfl, p, xs, rfl, (hx.mono ((e.trans e2).trans e3)).q, fun r hr => q _ _ ((e2.trans e3).trans ((e.trans e2).trans e3 |>.new hr)) ⟨r, rfl, ((e.trans e2).trans e3).fresh hr, ((e.trans e2).trans e3).ns hr, upd_same⟩⟩
end Fw

namespace Fw
open PySem PySem.Spec PyProof.Rows L2
/-! ### kins, plainly -/
def fitsB (u d : Int) (s : Str) : Bool := if u = 0 ∨ d = 0 then decide (s = "line") else decide (s = "elder") || decide (s = "younger")
def rankS (s : Str) : Int := if s = "line" then 0 else if s = "elder" then 1 else 2
def kinF (u d : Int) (s : Str) : List (Str × V) := [("up", .int u), ("down", .int d), ("side", .str s), ("far", .int (u + d)), ("rank", .int (rankS s))]
structure KV (u d : Int) (s : Str) : Prop where
  u0 : 0 ≤ u
  u1 : u ≤ 999
  d0 : 0 ≤ d
  d1 : d ≤ 999
  fit : fitsB u d s = true
def kms (u d : Int) (s : Str) : List Int := [u + d, u, rankS s]
abbrev sides : List V := [.str "line", .str "elder", .str "younger"]
theorem KV.side {u d : Int} {s : Str} (k : KV u d s) : s = "line" ∨ s = "elder" ∨ s = "younger" := by
  have h := k.fit
  unfold fitsB at h
  split at h
  · exact .inl (of_decide_eq_true h)
  · rw [Bool.or_eq_true] at h
    exact .inr (h.imp of_decide_eq_true of_decide_eq_true)
/-- where a side stands among the sides -/
theorem side_at {s : Str} (h : s = "line" ∨ s = "elder" ∨ s = "younger") : ∃ j : Nat, rankS s = (j : Int) ∧ sides[j]? = some (.str s) ∧ flatV (.str s) = true ∧ eqV (.str s) (.str s) = true ∧ ∀ (m : Nat) (z' : V), m < j → sides[m]? = some z' → eqV z' (.str s) = false := by
  rcases h with rfl | rfl | rfl
  · exact ⟨0, by decide, rfl, rfl, by decide, fun m z' h _ => by omega⟩
  · refine ⟨1, by decide, rfl, rfl, by decide, fun m z' h e => ?_⟩
    have : m = 0 := by omega
    subst this
    cases e
    decide
  · refine ⟨2, by decide, rfl, rfl, by decide, fun m z' h e => ?_⟩
    have : m = 0 ∨ m = 1 := by omega
    rcases this with rfl | rfl <;> (cases e; decide)
theorem lexI_flip {r : Int → Int → Bool} {z : Nat → Nat → Bool} : ∀ {xs ys : List Int}, xs.length = ys.length → lexI r z ys xs = lexI (fun a b => r b a) (fun a b => z b a) xs ys
  | [], [], _ => rfl
  | x :: xs, y :: ys, h => by
    show (if y = x then _ else _) = (if x = y then _ else _)
    by_cases e : x = y
    · rw [if_pos e.symm, if_pos e]; exact lexI_flip (Nat.succ.inj h)
    · rw [if_neg (fun z => e z.symm), if_neg e]
def dms (xs : List Int) : PyData := .tuple (xs.map .int)
abbrev KinA (K : PySem.W.Frag) (S : Dst) (H : Hp) (a : Addr) (u d : Int) (s : Str) : Prop := IA S H a (He.ga K "Kin") (kinF u d s)
/-! ### what the defs promise -/
def a_fits : List V → Hp → Dst → (V → Hp → Prop) → Prop := fun vs _ S PP => S = none ∧ ∃ u d s, vs = [.int u, .int d, .str s] ∧ PP = fun v _ => v = .bl (fitsB u d s)
def a_kin : List V → List (Str × V) → Hp → Prop := fun vs fs _ => ∃ u d s, vs = [.int u, .int d, .str s] ∧ KV u d s ∧ fs = kinF u d s
def a_measure (K : PySem.W.Frag) : List V → Hp → Dst → (V → Hp → Prop) → Prop := fun vs H S PP => S = none ∧ ∃ a u d s, vs = [.ref a] ∧ KinA K none H a u d s ∧ PP = NewU none H ((kms u d s).map V.int)
def a_kcmp (K : PySem.W.Frag) (r : List Int → List Int → Bool) : List V → Hp → Dst → (V → Hp → Prop) → Prop := fun vs H S PP => S = none ∧ ∃ a b u d s u' d' s', vs = [.ref a, .ref b] ∧ KinA K none H a u d s ∧ KinA K none H b u' d' s' ∧ PP = fun v _ => v = .bl (r (kms u d s) (kms u' d' s'))
abbrev ltL : List Int → List Int → Bool := lexI (fun a b => decide (a < b)) (fun a b => decide (a < b))
abbrev leL : List Int → List Int → Bool := lexI (fun a b => decide (a ≤ b)) (fun a b => decide (a ≤ b))
abbrev eqL : List Int → List Int → Bool := fun x y => PyData.eqv (dms x) (dms y)
end Fw
namespace Fw
open PySem PySem.Spec PyProof.Rows L2
theorem Lx.nsU {S : Dst} {H H1 : Hp} {a : Addr} {xs : List V} (e : Lx S H H1) (h : H1 a = some (.tup xs)) : ¬ Sx S a := fun ⟨q, hq, hp⟩ => by
  obtain ⟨_, _, _, _, _, h1, _, h2⟩ := e.2 q hq
  rcases hp with rfl | rfl
  · rw [h] at h1; cases h1
  · rw [h] at h2; cases h2
abbrev pv (u d : Int) (s : Str) : List V := [.int u, .int d, .str s]
/-- a row (up, down, side) at p -/
structure Row (S : Dst) (H : Hp) (v : V) (u d : Int) (s : Str) : Prop where
  q : ∃ p, v = .ref p ∧ H p = some (.tup (pv u d s)) ∧ ¬ Sx S p
theorem Row.mono {S : Dst} {H H1 : Hp} {v : V} {u d : Int} {s : Str} (h : Row S H v u d s) (e : Lx S H H1) : Row S H1 v u d s := by
  obtain ⟨p, rfl, hp, n⟩ := h
  exact ⟨p, rfl, e.1 _ _ n hp, n⟩
theorem Row.to0 {S : Dst} {H : Hp} {v : V} {u d : Int} {s : Str} (h : Row S H v u d s) : Row none H v u d s := by
  obtain ⟨p, rfl, hp, n⟩ := h
  exact ⟨p, rfl, hp, sx_none⟩
theorem Row.up {S : Dst} {H H1 : Hp} {v : V} {u d : Int} {s : Str} (e : Lx S H H1) (h : Row none H1 v u d s) : Row S H1 v u d s := by
  obtain ⟨p, rfl, hp, _⟩ := h
  exact ⟨p, rfl, hp, e.nsU hp⟩
section
variable {K : PySem.W.Frag} {S : Dst} {σ : L2.St} {H : Hp} {te : TE} {v : V} {u d : Int} {s : Str}
theorem Row.ev0 (h : Ev K S te σ H v) (r : Row S H v u d s) : Ev K S (tOp (rIxT K) te (tC (.int 0))) σ H (.int u) := by
  obtain ⟨p, rfl, hp, n⟩ := r
  exact ev_op h ev_c (rv_ixT (UA.of hp n) rfl)
theorem Row.ev1 (h : Ev K S te σ H v) (r : Row S H v u d s) : Ev K S (tOp (rIxT K) te (tC (.int 1))) σ H (.int d) := by
  obtain ⟨p, rfl, hp, n⟩ := r
  exact ev_op h ev_c (rv_ixT (UA.of hp n) rfl)
theorem Row.ev2 (h : Ev K S te σ H v) (r : Row S H v u d s) : Ev K S (tOp (rIxT K) te (tC (.int 2))) σ H (.str s) := by
  obtain ⟨p, rfl, hp, n⟩ := r
  exact ev_op h ev_c (rv_ixT (UA.of hp n) rfl)
end
def sidesL (u d : Int) : List V := if u = 0 ∨ d = 0 then [.str "line"] else [.str "elder", .str "younger"]
theorem sides_len (u d : Int) : (sidesL u d).length = 1 ∨ (sidesL u d).length = 2 := by unfold sidesL; split <;> simp
theorem sides_get {u d : Int} {j : Int} (h0 : 0 ≤ j) (h1 : j < ((sidesL u d).length : Int)) : ∃ s, atI (sidesL u d) j = some (.str s) ∧ fitsB u d s = true := by
  unfold sidesL at h1 ⊢
  unfold fitsB
  by_cases h : u = 0 ∨ d = 0
  · rw [if_pos h] at h1
    simp only [if_pos h]
    have : j = 0 := by simp at h1; omega
    subst this
    exact ⟨"line", rfl, by decide⟩
  · rw [if_neg h] at h1
    simp only [if_neg h]
    have : j = 0 ∨ j = 1 := by simp at h1; omega
    rcases this with rfl | rfl
    · exact ⟨"elder", rfl, by decide⟩
    · exact ⟨"younger", rfl, by decide⟩
def otherS (s : Str) : Str := if s = "elder" then "younger" else if s = "younger" then "elder" else s
theorem KV.minus {u d : Int} {s : Str} (k : KV u d s) : KV d u (otherS s) := by
  refine ⟨k.d0, k.d1, k.u0, k.u1, ?_⟩
  have h := k.fit
  unfold fitsB at h ⊢
  by_cases z : u = 0 ∨ d = 0
  · rw [if_pos z] at h
    rw [if_pos (by omega)]
    rw [of_decide_eq_true h]
    decide
  · rw [if_neg z] at h
    rw [if_neg (by omega)]
    rw [Bool.or_eq_true] at h
    rcases h with h | h
    · rw [of_decide_eq_true h]; decide
    · rw [of_decide_eq_true h]; decide
/-- the first counts with the minus kin's side are a kin, too -/
theorem KV.other {u d : Int} {s : Str} (k : KV u d s) : KV u d (otherS s) := by
  have h := k.minus.fit
  refine ⟨k.u0, k.u1, k.d0, k.d1, ?_⟩
  unfold fitsB at h ⊢
  by_cases z : u = 0 ∨ d = 0
  · rw [if_pos (by omega)] at h; rw [if_pos z]; exact h
  · rw [if_neg (by omega)] at h; rw [if_neg z]; exact h
end Fw

namespace Fw
open PySem PySem.Spec PyProof.Rows L2
/-! ### cells, plainly -/
abbrev KT := Int × Int × Str
def capI (x r : Int) : Int := if x < r then x else r
def keyT (k : KT) : List Key := [.inl k.1, .inl k.2.1, .inr k.2.2]
theorem keyT_inj {k k' : KT} (h : keyT k = keyT k') : k = k' := by
  obtain ⟨u, d, s⟩ := k
  obtain ⟨u', d', s'⟩ := k'
  simp [keyT] at h
  obtain ⟨h1, h2, h3⟩ := h
  subst h1 h2 h3
  rfl
abbrev KVk (k : KT) : Prop := KV k.1 k.2.1 k.2.2
def capK (r : Int) (k : KT) : KT := (capI k.1 r, capI k.2.1 r, k.2.2)
def farUp (r : Int) (far up : Nat) : List KT :=
  let down : Int := far - up
  if down < 0 ∨ down > r then [] else if (up : Int) = 0 ∨ down = 0 then [((up : Int), down, "line")] else [((up : Int), down, "elder"), ((up : Int), down, "younger")]
/-- the cells of a reach, in order: by far, then up -/
def farRow (r : Nat) (far : Nat) : List KT := (List.range (r + 1)).flatMap fun up => farUp r far up
def cellsOf (r : Nat) : List KT := (List.range (2 * r)).flatMap fun i => farRow r (i + 1)
theorem farUp_kv {r : Nat} (hr : r ≤ 4) {far up : Nat} (hu : up ≤ r) {k : KT} (h : k ∈ farUp r far up) : KVk k ∧ k.1 ≤ r ∧ k.2.1 ≤ r ∧ k.1 + k.2.1 = far := by
  unfold farUp at h
  dsimp only at h
  split at h
  · cases h
  · rename_i h1
    split at h
    · rename_i h2
      rw [List.mem_singleton] at h
      subst h
      refine ⟨⟨by dsimp only; omega, by dsimp only; omega, by dsimp only; omega, by dsimp only; omega, ?_⟩, by dsimp only; omega, by dsimp only; omega, by dsimp only; omega⟩
      unfold fitsB
      dsimp only
      rw [if_pos h2]
      exact decide_eq_true rfl
    · rename_i h2
      have f : ∀ s : Str, (s = "elder" ∨ s = "younger") → fitsB up ((far : Int) - up) s = true := by
        intro s hs
        unfold fitsB
        rw [if_neg h2]
        rcases hs with rfl | rfl <;> decide
      simp only [List.mem_cons, List.mem_nil_iff, or_false] at h
      rcases h with rfl | rfl
      · exact ⟨⟨by dsimp only; omega, by dsimp only; omega, by dsimp only; omega, by dsimp only; omega, f _ (.inl rfl)⟩, by dsimp only; omega, by dsimp only; omega, by dsimp only; omega⟩
      · exact ⟨⟨by dsimp only; omega, by dsimp only; omega, by dsimp only; omega, by dsimp only; omega, f _ (.inr rfl)⟩, by dsimp only; omega, by dsimp only; omega, by dsimp only; omega⟩
theorem cells_kv {r : Nat} (hr : r ≤ 4) {k : KT} (h : k ∈ cellsOf r) : KVk k ∧ k.1 ≤ r ∧ k.2.1 ≤ r ∧ 1 ≤ k.1 + k.2.1 := by
  unfold cellsOf farRow at h
  rw [List.mem_flatMap] at h
  obtain ⟨i, hi, h⟩ := h
  rw [List.mem_flatMap] at h
  obtain ⟨up, hu, h⟩ := h
  rw [List.mem_range] at hi hu
  obtain ⟨a, b, c, d⟩ := farUp_kv hr (by omega) h
  exact ⟨a, b, c, by omega⟩
def ltK (k k' : KT) : Bool := ltL (kms k.1 k.2.1 k.2.2) (kms k'.1 k'.2.1 k'.2.2)
def placeK (rows : List KT) (c : KT) : Nat := (rows.takeWhile fun k => ltK k c).length
def putR (rows : List KT) (c : KT) : List KT := if rows.contains c then rows else rows.take (placeK rows c) ++ [c] ++ rows.drop (placeK rows c)
theorem mem_putR {rows : List KT} {c k : KT} : k ∈ putR rows c ↔ k ∈ rows ∨ k = c := by
  unfold putR
  by_cases h : rows.contains c = true
  · rw [if_pos h]
    rw [List.contains_iff_mem] at h
    constructor
    · exact .inl
    · rintro (h2 | rfl)
      · exact h2
      · exact h
  · rw [if_neg h]
    have e : k ∈ rows ↔ k ∈ rows.take (placeK rows c) ∨ k ∈ rows.drop (placeK rows c) := by rw [← List.mem_append, List.take_append_drop]
    rw [List.mem_append, List.mem_append, List.mem_singleton, e]
    constructor
    · rintro ((h | h) | h)
      · exact .inl (.inl h)
      · exact .inr h
      · exact .inl (.inr h)
    · rintro ((h | h) | h)
      · exact .inl (.inl h)
      · exact .inr h
      · exact .inl (.inr h)
/-! ### lists of kins, a rule, in the heap -/
/-- items that are kins -/
def KinsL (K : PySem.W.Frag) (S : Dst) (H : Hp) (ys : List V) (ks : List KT) : Prop := ys.length = ks.length ∧ ∀ (i : Nat) (y : V) (k : KT), ys[i]? = some y → ks[i]? = some k → ∃ b, y = .ref b ∧ KinA K S H b k.1 k.2.1 k.2.2
section
variable {K : PySem.W.Frag} {S : Dst} {H H1 : Hp} {ys : List V} {ks : List KT}
theorem KinsL.mono (h : KinsL K S H ys ks) (e : Lx S H H1) : KinsL K S H1 ys ks := ⟨h.1, fun i y k a b => let ⟨p, q, r⟩ := h.2 i y k a b; ⟨p, q, r.mono e⟩⟩
theorem KinsL.nil : KinsL K S H [] [] := ⟨rfl, fun i y k a _ => by simp at a⟩
theorem KinsL.snoc {b : Addr} {k : KT} (h : KinsL K S H ys ks) (hb : KinA K S H b k.1 k.2.1 k.2.2) : KinsL K S H (ys ++ [.ref b]) (ks ++ [k]) := by
  refine ⟨by simp [h.1], fun i y k' a c => ?_⟩
  by_cases hi : i < ys.length
  · rw [List.getElem?_append_left hi] at a
    rw [List.getElem?_append_left (by rw [← h.1]; exact hi)] at c
    exact h.2 i y k' a c
  · have h2 := (List.getElem?_eq_some_iff.mp a).1
    rw [List.length_append] at h2
    have e : i = ys.length := by simp at h2; omega
    subst e
    rw [h.1] at c
    simp at a c
    subst a c
    exact ⟨b, rfl, hb⟩
theorem KinsL.stab {D : Addr} {us ws : List V} (hD : H D = some (.lst us)) (h : KinsL K S H ys ks) : KinsL K S (upd H D (.lst ws)) ys ks := ⟨h.1, fun i y k a b => let ⟨p, q, r⟩ := h.2 i y k a b; ⟨p, q, r.stab hD⟩⟩
theorem KinsL.get {i : Nat} {k : KT} (h : KinsL K S H ys ks) (hk : ks[i]? = some k) : ∃ b, ys[i]? = some (.ref b) ∧ KinA K S H b k.1 k.2.1 k.2.2 := by
  have hi := (List.getElem?_eq_some_iff.mp hk).1
  have hy := List.getElem?_eq_getElem (l := ys) (i := i) (by rw [h.1]; exact hi)
  obtain ⟨b, e, q⟩ := h.2 i _ k hy hk
  exact ⟨b, by rw [hy, e], q⟩
end
abbrev ruleF (r : Int) (d l : Addr) : List (Str × V) := [("_reach", .int r), ("_let", .ref d), ("_rows", .ref l)]
/-- a rule: its reach, its cells in order -/
structure RuleA (K : PySem.W.Frag) (S : Dst) (H : Hp) (a : Addr) (r : Nat) (rows : List KT) (d l : Addr) : Prop where
  obj : IA S H a (He.ga K "Rule") (ruleF r d l)
  dic : ∃ kvs, H d = some (.dT kvs) ∧ kvs.length ≤ rows.length + 1000 ∧ ∀ k : KT, (valV kvs (keyT k)).isSome = rows.contains k
  nd : ¬ Sx S d
  lst : ∃ ys, H l = some (.lst ys) ∧ KinsL K S H ys rows
  nl : ¬ Sx S l
  r0 : 1 ≤ r
  r1 : r ≤ 4
  ok : ∀ k ∈ rows, k ∈ cellsOf r
  nd2 : rows.Nodup
theorem KV.cap {u d : Int} {s : Str} {r : Int} (k : KV u d s) (h1 : 1 ≤ r) (h2 : r ≤ 4) : KV (capI u r) (capI d r) s := by
  have a := k.u0
  have b := k.d0
  have f := k.fit
  have e1 : capI u r = 0 ↔ u = 0 := by unfold capI; split <;> omega
  have e2 : capI d r = 0 ↔ d = 0 := by unfold capI; split <;> omega
  refine ⟨by unfold capI; split <;> omega, by unfold capI; split <;> omega, by unfold capI; split <;> omega, by unfold capI; split <;> omega, ?_⟩
  unfold fitsB at f ⊢
  simp only [e1, e2]
  exact f
theorem capI_id {x r : Int} (h : x ≤ r) : capI x r = x := by unfold capI; split <;> omega
theorem capI_le {x r : Int} (h : 0 ≤ r) : capI x r ≤ r := by unfold capI; split <;> omega
theorem capK_id {r : Int} {k : KT} (h1 : k.1 ≤ r) (h2 : k.2.1 ≤ r) : capK r k = k := by
  obtain ⟨u, d, s⟩ := k
  unfold capK
  rw [capI_id h1, capI_id h2]
theorem mem_cells {r : Nat} {k : KT} (kv : KVk k) (h1 : k.1 ≤ r) (h2 : k.2.1 ≤ r) (h3 : k.1 + k.2.1 ≠ 0) : k ∈ cellsOf r := by
  obtain ⟨u, d, s⟩ := k
  have a := kv.u0
  have b := kv.d0
  have f := kv.fit
  dsimp only at a b f h1 h2 h3
  obtain ⟨un, rfl⟩ : ∃ n : Nat, u = n := ⟨u.toNat, by omega⟩
  obtain ⟨dn, rfl⟩ : ∃ n : Nat, d = n := ⟨d.toNat, by omega⟩
  unfold cellsOf farRow
  rw [List.mem_flatMap]
  refine ⟨un + dn - 1, by rw [List.mem_range]; omega, ?_⟩
  rw [List.mem_flatMap]
  refine ⟨un, by rw [List.mem_range]; omega, ?_⟩
  have e : (((un + dn - 1 + 1 : Nat) : Int) - (un : Int)) = (dn : Int) := by omega
  unfold farUp
  dsimp only
  rw [e, if_neg (by omega)]
  unfold fitsB at f
  by_cases z : (un : Int) = 0 ∨ (dn : Int) = 0
  · rw [if_pos z] at f ⊢
    rw [of_decide_eq_true f]
    simp
  · rw [if_neg z] at f ⊢
    rw [Bool.or_eq_true] at f
    rcases f with f | f
    · rw [of_decide_eq_true f]; simp
    · rw [of_decide_eq_true f]; simp
theorem capK_cell {r : Nat} (h1 : 1 ≤ r) (h2 : r ≤ 4) {k : KT} (kv : KVk k) (h3 : k.1 + k.2.1 ≠ 0) : capK r k ∈ cellsOf r := by
  have a := kv.u0
  have b := kv.d0
  refine mem_cells (kv.cap (by omega) (by omega)) (capI_le (by omega)) (capI_le (by omega)) ?_
  show capI k.1 r + capI k.2.1 r ≠ 0
  unfold capI
  split <;> split <;> omega
theorem valV_put_some {kvs : List (List Key × V)} {k k' : List Key} {v : V} : (valV (putK kvs k v) k').isSome = (decide (k' = k) || (valV kvs k').isSome) := by
  have any : ∀ (l : List (List Key × V)) (q : List Key), (valV l q).isSome = l.any fun kv => decide (kv.1 = q) := fun l q => by
    unfold valV
    rw [Option.isSome_map, Bool.eq_iff_iff, List.find?_isSome, List.any_eq_true]
  rw [any, any]
  unfold putK
  split
  · rename_i h
    rw [List.any_map]
    rw [List.any_eq_true] at h
    obtain ⟨x, hx, e⟩ := h
    have e := of_decide_eq_true e
    have z : (fun kv : List Key × V => decide (kv.1 = k')) ∘ (fun kv => if kv.1 = k then (kv.1, v) else kv) = fun kv => decide (kv.1 = k') := by
      funext kv
      dsimp only [Function.comp]
      split <;> rfl
    rw [z]
    by_cases h2 : k' = k
    · rw [decide_eq_true h2, Bool.true_or]
      exact List.any_eq_true.mpr ⟨x, hx, decide_eq_true (by rw [e, h2])⟩
    · rw [decide_eq_false h2, Bool.false_or]
  · rw [List.any_append, Bool.or_comm]
    congr 1
    simp only [List.any_cons, List.any_nil, Bool.or_false]
    exact decide_eq_decide.mpr ⟨fun h => h.symm, fun h => h.symm⟩
theorem length_putK' (kvs : List (List Key × V)) (k : List Key) (v : V) : (putK kvs k v).length ≤ kvs.length + 1 := length_putK kvs k v
theorem keyT_eq {k k' : KT} : keyT k = keyT k' ↔ k = k' := ⟨keyT_inj, fun h => by rw [h]⟩
theorem ltK_total {rows : List KT} {c : KT} : placeK rows c ≤ rows.length := by
  unfold placeK
  induction rows with
  | nil => simp
  | cons x xs ih => rw [List.takeWhile_cons]; split <;> simp; omega
theorem placeK_lt : ∀ {rows : List KT} {c k : KT} {i : Nat}, rows[i]? = some k → i < placeK rows c → ltK k c = true
  | [], c, k, i, h, _ => by simp at h
  | x :: xs, c, k, i, h, hi => by
    unfold placeK at hi
    rw [List.takeWhile_cons] at hi
    split at hi
    · rename_i hx
      cases i with
      | zero => simp at h; rw [← h]; exact hx
      | succ i => exact placeK_lt (rows := xs) (i := i) (by simpa using h) (by unfold placeK; simp at hi; omega)
    · simp at hi
theorem placeK_ge : ∀ {rows : List KT} {c k : KT}, rows[placeK rows c]? = some k → ltK k c = false
  | [], c, k, h => by simp at h
  | x :: xs, c, k, h => by
    unfold placeK at h
    rw [List.takeWhile_cons] at h
    split at h
    · exact placeK_ge (rows := xs) (c := c) (by unfold placeK; simpa using h)
    · rename_i hx
      simp at h
      rw [← h]
      simpa using hx
theorem nodup_putR {rows : List KT} {c : KT} (h : rows.Nodup) : (putR rows c).Nodup := by
  unfold putR
  split
  · exact h
  · rename_i hc
    have hc' : c ∉ rows := fun z => hc (by rw [List.contains_iff_mem]; exact z)
    have hs : (rows.take (placeK rows c) ++ rows.drop (placeK rows c)).Nodup := by rw [List.take_append_drop]; exact h
    rw [List.append_assoc]
    rw [List.nodup_append] at hs ⊢
    refine ⟨hs.1, ?_, ?_⟩
    · rw [List.singleton_append, List.nodup_cons]
      exact ⟨fun z => hc' (List.mem_of_mem_drop z), hs.2.1⟩
    · intro a ha b hb
      rw [List.singleton_append, List.mem_cons] at hb
      rcases hb with rfl | hb
      · rintro rfl
        exact hc' (List.mem_of_mem_take ha)
      · exact hs.2.2 a ha b hb
section
variable {K : PySem.W.Frag} {S : Dst} {H H1 : Hp} {a d l : Addr} {r : Nat} {rows : List KT}
theorem RuleA.mono (R : RuleA K S H a r rows d l) (e : Lx S H H1) : RuleA K S H1 a r rows d l :=
  ⟨R.obj.mono e, let ⟨kvs, h, x, y⟩ := R.dic; ⟨kvs, e.1 _ _ R.nd h, x, y⟩, R.nd, let ⟨ys, h, x⟩ := R.lst; ⟨ys, e.1 _ _ R.nl h, x.mono e⟩, R.nl, R.r0, R.r1, R.ok, R.nd2⟩
theorem KinsL.to0 {ys : List V} {ks : List KT} (h : KinsL K S H ys ks) : KinsL K none H ys ks := ⟨h.1, fun i y k a b => let ⟨p, q, r⟩ := h.2 i y k a b; ⟨p, q, r.to0⟩⟩
theorem RuleA.to0 (R : RuleA K S H a r rows d l) : RuleA K none H a r rows d l :=
  ⟨R.obj.to0, R.dic, sx_none, let ⟨ys, h, x⟩ := R.lst; ⟨ys, h, x.to0⟩, sx_none, R.r0, R.r1, R.ok, R.nd2⟩
theorem KinsL.up {S : Dst} {ys : List V} {ks : List KT} {H0 : Hp} (e : Lx S H0 H) (h : KinsL K none H ys ks) : KinsL K S H ys ks := ⟨h.1, fun i y k a b => let ⟨p, q, r⟩ := h.2 i y k a b; ⟨p, q, IA.of e r⟩⟩
end
theorem KinsL.updI {K : PySem.W.Frag} {S : Dst} {H : Hp} {x C dx : Addr} {fs : List (Str × V)} {o : HO} {ys : List V} {ks : List KT} (hx : H x = some (.ins C dx fs)) (ne : fs.length ≠ 5) (h : KinsL K S H ys ks) : KinsL K S (upd H x o) ys ks :=
  ⟨h.1, fun i y k a b => let ⟨p, q, r⟩ := h.2 i y k a b; ⟨p, q, r.updI hx fun z => ne (by rw [← z]; rfl)⟩⟩
theorem cells_len {r : Nat} (hr : r ≤ 4) : (cellsOf r).length ≤ 100 := by
  have : r = 0 ∨ r = 1 ∨ r = 2 ∨ r = 3 ∨ r = 4 := by omega
  rcases this with rfl | rfl | rfl | rfl | rfl <;> decide +kernel
theorem cells_nodup {r : Nat} (hr : r ≤ 4) : (cellsOf r).Nodup := by
  have : r = 0 ∨ r = 1 ∨ r = 2 ∨ r = 3 ∨ r = 4 := by omega
  rcases this with rfl | rfl | rfl | rfl | rfl <;> decide +kernel
theorem nodup_len {α : Type} [DecidableEq α] : ∀ {xs ys : List α}, xs.Nodup → (∀ x ∈ xs, x ∈ ys) → xs.length ≤ ys.length
  | [], _, _, _ => Nat.zero_le _
  | x :: xs, ys, nd, h => by
    have hx := h x (by simp)
    rw [List.nodup_cons] at nd
    have h2 := nodup_len (xs := xs) (ys := ys.erase x) nd.2 fun y hy => by
      have hy2 := h y (by simp [hy])
      have ne : y ≠ x := fun z => nd.1 (z ▸ hy)
      exact (List.mem_erase_of_ne ne).mpr hy2
    have h3 := List.length_erase_of_mem hx
    have h4 := List.length_pos_of_mem hx
    rw [List.length_cons]
    omega
theorem KinsL.insert {K : PySem.W.Frag} {S : Dst} {H : Hp} {ys : List V} {ks : List KT} {b : Addr} {k : KT} {n : Nat} (h : KinsL K S H ys ks) (hb : KinA K S H b k.1 k.2.1 k.2.2) : KinsL K S H (ys.take n ++ [.ref b] ++ ys.drop n) (ks.take n ++ [k] ++ ks.drop n) := by
  have tl : (ys.take n).length = (ks.take n).length := by rw [List.length_take, List.length_take, h.1]
  refine ⟨by simp only [List.length_append, List.length_take, List.length_drop, h.1]; rfl, fun i y q g1 g2 => ?_⟩
  have cut : ∀ (m : Nat) (y : V) (q : KT), ys[m]? = some y → ks[m]? = some q → ∃ b, y = .ref b ∧ KinA K S H b q.1 q.2.1 q.2.2 := h.2
  by_cases h1 : i < (ys.take n).length
  · rw [List.append_assoc, List.getElem?_append_left h1] at g1
    rw [List.append_assoc, List.getElem?_append_left (by rw [← tl]; exact h1)] at g2
    rw [List.length_take] at h1
    rw [List.getElem?_take_of_lt (by omega)] at g1 g2
    exact cut i y q g1 g2
  · rw [List.append_assoc, List.getElem?_append_right (by omega)] at g1
    rw [List.append_assoc, List.getElem?_append_right (by omega)] at g2
    rw [← tl] at g2
    cases hm : i - (ys.take n).length with
    | zero =>
      rw [hm] at g1 g2
      simp at g1 g2
      subst g1 g2
      exact ⟨b, rfl, hb⟩
    | succ m =>
      rw [hm] at g1 g2
      simp only [List.singleton_append, List.getElem?_cons_succ, List.getElem?_drop] at g1 g2
      exact cut _ y q g1 g2
end Fw

namespace Fw
open PySem PySem.Spec PyProof.Rows L2
/-! ### steps, plainly -/
/-- a rule lets (u, d, s) -/
def letsR (r : Nat) (rows : List KT) (u d : Nat) (s : Str) : Bool := rows.contains (capK r ((u : Int), (d : Int), s))
def sideAt (r : Nat) (rows : List KT) (u d : Nat) : Option Str :=
  if u = 0 ∧ d = 0 then none
  else if u = 0 ∨ d = 0 then (if letsR r rows u d "line" = true then some "line" else none)
  else if letsR r rows u d "elder" = true then some "elder"
  else if letsR r rows u d "younger" = true then some "younger" else none
/-- from n down to 0, the first place where f has something -/
def bestFrom (f : Nat → Option Str) : Nat → Option (Nat × Str)
  | 0 => (f 0).map fun s => (0, s)
  | n + 1 => match f (n + 1) with
    | some s => some (n + 1, s)
    | none => bestFrom f n
def bestV (r : Nat) (rows : List KT) (s g : Nat) : Option (Nat × Str) := bestFrom (fun v => sideAt r rows (s - v) (g - v)) (min s g)
def stepB (r : Nat) (rows : List KT) (s g : Nat) : Bool := (bestV r rows s g).isSome
theorem bestFrom_isSome {f : Nat → Option Str} : ∀ {n : Nat}, (bestFrom f n).isSome = true ↔ ∃ v, v ≤ n ∧ (f v).isSome = true
  | 0 => by
    unfold bestFrom
    rw [Option.isSome_map]
    exact ⟨fun h => ⟨0, Nat.le_refl _, h⟩, fun ⟨v, h1, h2⟩ => by have : v = 0 := by omega
                                                                 subst this; exact h2⟩
  | n + 1 => by
    unfold bestFrom
    cases h : f (n + 1) with
    | some s => simp only [Option.isSome_some, true_iff]; exact ⟨n + 1, Nat.le_refl _, by rw [h]; rfl⟩
    | none =>
      dsimp only
      rw [bestFrom_isSome]
      constructor
      · rintro ⟨v, h1, h2⟩; exact ⟨v, by omega, h2⟩
      · rintro ⟨v, h1, h2⟩
        have : v ≠ n + 1 := fun z => by subst z; rw [h] at h2; cases h2
        exact ⟨v, by omega, h2⟩
/-- the side as a value; the best valley as a value -/
def oV : Option Str → V
  | none => .non
  | some s => .str s
def OptT (S : Dst) (H : Hp) (v : V) (o : Option (Nat × Str)) : Prop := (o = none ∧ v = .non) ∨ ∃ (n : Nat) (s : Str) (p : Addr), o = some (n, s) ∧ v = .ref p ∧ H p = some (.tup [.int (n : Int), .str s]) ∧ ¬ Sx S p
theorem OptT.mono {S : Dst} {H H1 : Hp} {v : V} {o : Option (Nat × Str)} (h : OptT S H v o) (e : Lx S H H1) : OptT S H1 v o := h.imp id fun ⟨n, s, p, a, b, c, d⟩ => ⟨n, s, p, a, b, e.1 _ _ d c, d⟩
theorem OptT.non {S : Dst} {H : Hp} {v : V} {o : Option (Nat × Str)} (h : OptT S H v o) : decide (v = .non) = !o.isSome := by
  rcases h with ⟨rfl, rfl⟩ | ⟨n, s, p, rfl, rfl, _⟩
  · rfl
  · rfl
theorem OptT.stab {S : Dst} {H : Hp} {v : V} {o : Option (Nat × Str)} {D : Addr} {us ws : List V} (hD : H D = some (.lst us)) (h : OptT S H v o) : OptT S (upd H D (.lst ws)) v o := h.imp id fun ⟨n, s, p, a, b, c, d⟩ => ⟨n, s, p, a, b, by rw [upd_ne (fun z => by subst z; rw [hD] at c; cases c)]; exact c, d⟩
end Fw
namespace Fw
open PySem PySem.Spec PyProof.Rows L2
theorem RuleA.updI {K : PySem.W.Frag} {S : Dst} {H : Hp} {a d l x C dx : Addr} {r : Nat} {rows : List KT} {fs : List (Str × V)} {o : HO} (hx : H x = some (.ins C dx fs)) (n3 : fs.length ≠ 3) (n5 : fs.length ≠ 5) (R : RuleA K S H a r rows d l) : RuleA K S (upd H x o) a r rows d l := by
  obtain ⟨kvs, hd, lk, all⟩ := R.dic
  obtain ⟨ys, hl, hk⟩ := R.lst
  exact ⟨R.obj.updI hx fun z => n3 (by rw [← z]; rfl), ⟨kvs, by rw [upd_ne (fun z => by subst z; rw [hx] at hd; cases hd)]; exact hd, lk, all⟩, R.nd, ⟨ys, by rw [upd_ne (fun z => by subst z; rw [hx] at hl; cases hl)]; exact hl, hk.updI hx n5⟩, R.nl, R.r0, R.r1, R.ok, R.nd2⟩
/-- a row of the valleys -/
def RowV (S : Dst) (H : Hp) (r : Nat) (rows : List KT) (i : Nat) (y : V) : Prop := ∃ (p : Addr) (ys : List V), y = .ref p ∧ H p = some (.lst ys) ∧ ¬ Sx S p ∧ ys.length = 4 * r + 1 ∧ ∀ (j : Nat) (z : V), ys[j]? = some z → OptT S H z (bestV r rows i j)
theorem RowV.mono {S : Dst} {H H1 : Hp} {r : Nat} {rows : List KT} {i : Nat} {y : V} (h : RowV S H r rows i y) (e : Lx S H H1) : RowV S H1 r rows i y := by
  obtain ⟨p, ys, a, b, c, d, f⟩ := h
  exact ⟨p, ys, a, e.1 _ _ c b, c, d, fun j z hz => (f j z hz).mono e⟩
theorem RowV.stab {S : Dst} {H : Hp} {r : Nat} {rows : List KT} {i : Nat} {y : V} {D : Addr} {us ws : List V} (hD : H D = some (.lst us)) (ne : y ≠ .ref D) (h : RowV S H r rows i y) : RowV S (upd H D (.lst ws)) r rows i y := by
  obtain ⟨p, ys, a, b, c, d, f⟩ := h
  exact ⟨p, ys, a, by rw [upd_ne (fun z => ne (by rw [a, z]))]; exact b, c, d, fun j z hz => (f j z hz).stab hD⟩
abbrev levF (r : Nat) (v : Addr) : List (Str × V) := [("top", .int (4 * (r : Int))), ("_valleys", .ref v)]
structure LevelsA (K : PySem.W.Frag) (S : Dst) (H : Hp) (a : Addr) (r : Nat) (rows : List KT) : Prop where
  q : ∃ v, IA S H a (He.ga K "Levels") (levF r v) ∧ ¬ Sx S v ∧ ∃ rs, H v = some (.lst rs) ∧ rs.length = 4 * r + 1 ∧ ∀ (i : Nat) (y : V), rs[i]? = some y → RowV S H r rows i y
  r1 : r ≤ 4
theorem LevelsA.mono {K : PySem.W.Frag} {S : Dst} {H H1 : Hp} {a : Addr} {r : Nat} {rows : List KT} (h : LevelsA K S H a r rows) (e : Lx S H H1) : LevelsA K S H1 a r rows := by
  obtain ⟨v, i, n, rs, hv, l, f⟩ := h.q
  exact ⟨⟨v, i.mono e, n, rs, e.1 _ _ n hv, l, fun j y hy => (f j y hy).mono e⟩, h.r1⟩
def goalsOf (r : Nat) (rows : List KT) (s : Nat) : List Nat := (List.range (4 * r + 1)).filter fun g => stepB r rows s g
end Fw

namespace Fw
/-! ### a search in breadth, plainly -/
/-- a walk of n steps from a -/
inductive Wk (adj : Nat → List Nat) (a : Nat) : Nat → Nat → Prop
  | nil : Wk adj a 0 a
  | snoc {n b c : Nat} : Wk adj a n b → c ∈ adj b → Wk adj a (n + 1) c
structure BI (adj : Nat → List Nat) (first N : Nat) (cnt bef : Nat → Option Nat) (Q : List Nat) (at_ : Nat) : Prop where
  c0 : cnt first = some 0
  mem : ∀ g, (cnt g).isSome = true ↔ g ∈ Q
  bnd : ∀ g ∈ Q, g < N
  nd : Q.Nodup
  snd : ∀ g c, cnt g = some c → Wk adj first c g
  mono : ∀ (i j : Nat) (g h c d : Nat), i ≤ j → Q[i]? = some g → Q[j]? = some h → cnt g = some c → cnt h = some d → c ≤ d
  le : ∀ (g c h d : Nat), Q[at_]? = some h → cnt h = some d → cnt g = some c → c ≤ d + 1
  done : ∀ (i g c h : Nat), i < at_ → Q[i]? = some g → cnt g = some c → h ∈ adj g → ∃ d, cnt h = some d ∧ d ≤ c + 1
  pv : ∀ g c, cnt g = some (c + 1) → ∃ b, bef g = some b ∧ cnt b = some c ∧ g ∈ adj b
  at_le : at_ ≤ Q.length
def setF (f : Nat → Option Nat) (g v : Nat) : Nat → Option Nat := fun x => if x = g then some v else f x
section
variable {adj : Nat → List Nat} {first N : Nat} {cnt bef : Nat → Option Nat} {Q : List Nat} {at_ : Nat}
theorem BI.start (h : first < N) : BI adj first N (setF (fun _ => none) first 0) (fun _ => none) [first] 0 where
  c0 := by unfold setF; rw [if_pos rfl]
  mem := fun g => by
    unfold setF
    by_cases e : g = first
    · rw [if_pos e]; simp [e]
    · rw [if_neg e]; simp [e]
  bnd := fun g hg => by rw [List.mem_singleton] at hg; omega
  nd := by simp
  snd := fun g c hg => by
    unfold setF at hg
    split at hg
    · rename_i e
      subst e
      cases hg
      exact .nil
    · cases hg
  mono := fun i j g h c d _ _ _ hg hh => by
    unfold setF at hg hh
    split at hg
    · split at hh
      · cases hg; cases hh; exact Nat.le_refl _
      · cases hh
    · cases hg
  le := fun g c h d _ _ hg => by
    unfold setF at hg
    split at hg
    · cases hg; omega
    · cases hg
  done := fun i g c h hi => absurd hi (Nat.not_lt_zero _)
  pv := fun g c hg => by
    unfold setF at hg
    split at hg
    · cases hg
    · cases hg
  at_le := Nat.zero_le _
/-- a new goal is found from the node at at_ -/
theorem BI.found (B : BI adj first N cnt bef Q at_) {lv c g : Nat} (hl : Q[at_]? = some lv) (hc : cnt lv = some c) (hg : g ∈ adj lv) (hn : cnt g = none) (hN : g < N) : BI adj first N (setF cnt g (c + 1)) (setF bef g lv) (Q ++ [g]) at_ := by
  have gQ : g ∉ Q := fun z => by have := (B.mem g).mpr z; rw [hn] at this; cases this
  have old : ∀ {x y : Nat}, cnt x = some y → setF cnt g (c + 1) x = some y := fun {x y} h => by
    unfold setF
    rw [if_neg (fun z => by subst z; rw [hn] at h; cases h)]
    exact h
  have inv : ∀ {x y : Nat}, setF cnt g (c + 1) x = some y → (x = g ∧ y = c + 1) ∨ cnt x = some y := fun {x y} h => by
    unfold setF at h
    split at h
    · rename_i e; cases h; exact .inl ⟨e, rfl⟩
    · exact .inr h
  have atl : at_ < Q.length := (List.getElem?_eq_some_iff.mp hl).1
  have sp : ∀ {i x : Nat}, (Q ++ [g])[i]? = some x → (i < Q.length ∧ Q[i]? = some x) ∨ (i = Q.length ∧ x = g) := fun {i x} h => by
    by_cases hi : i < Q.length
    · rw [List.getElem?_append_left hi] at h; exact .inl ⟨hi, h⟩
    · have h2 := (List.getElem?_eq_some_iff.mp h).1
      rw [List.length_append] at h2
      have e : i = Q.length := by simp at h2; omega
      subst e
      simp at h
      exact .inr ⟨rfl, h.symm⟩
  refine ⟨old B.c0, fun x => ?_, fun x hx => ?_, ?_, fun x y h => ?_, fun i j x y a b hij hi hj ha hb => ?_, fun x a y b hy hb ha => ?_, fun i x a y hi hx ha hy => ?_, fun x a h => ?_, by rw [List.length_append]; omega⟩
  · unfold setF
    rw [List.mem_append, List.mem_singleton]
    by_cases e : x = g
    · rw [if_pos e]; simp [e]
    · rw [if_neg e, B.mem]; simp [e]
  · rw [List.mem_append, List.mem_singleton] at hx
    rcases hx with h | rfl
    · exact B.bnd x h
    · exact hN
  · rw [List.nodup_append]
    refine ⟨B.nd, by simp, fun x hx y hy => ?_⟩
    rw [List.mem_singleton] at hy
    subst hy
    exact fun z => gQ (z ▸ hx)
  · rcases inv h with ⟨rfl, rfl⟩ | h
    · exact .snoc (B.snd _ _ hc) hg
    · exact B.snd x y h
  · rcases inv ha with ⟨rfl, rfl⟩ | ha'
    · rcases sp hi with ⟨_, h1⟩ | ⟨h1, _⟩
      · exact absurd (List.mem_of_getElem? h1) gQ
      · rcases sp hj with ⟨h2, _⟩ | ⟨_, rfl⟩
        · omega
        · rcases inv hb with ⟨_, rfl⟩ | hb'
          · exact Nat.le_refl _
          · rw [hn] at hb'; cases hb'
    · rcases inv hb with ⟨rfl, rfl⟩ | hb'
      · exact B.le x a lv c hl hc ha'
      · rcases sp hi with ⟨_, h1⟩ | ⟨_, rfl⟩
        · rcases sp hj with ⟨_, h2⟩ | ⟨_, rfl⟩
          · exact B.mono i j x y a b hij h1 h2 ha' hb'
          · rw [hn] at hb'; cases hb'
        · rw [hn] at ha'; cases ha'
  · rw [List.getElem?_append_left atl, hl] at hy
    cases hy
    have eb : b = c := by
      rcases inv hb with ⟨rfl, _⟩ | h
      · rw [hn] at hc; cases hc
      · rw [hc] at h; cases h; rfl
    subst eb
    rcases inv ha with ⟨_, rfl⟩ | h
    · exact Nat.le_refl _
    · exact B.le x a lv b hl hc h
  · rw [List.getElem?_append_left (by omega)] at hx
    have ha' : cnt x = some a := by
      rcases inv ha with ⟨rfl, _⟩ | h
      · exact absurd (List.mem_of_getElem? hx) gQ
      · exact h
    obtain ⟨d, h1, h2⟩ := B.done i x a y hi hx ha' hy
    exact ⟨d, old h1, h2⟩
  · rcases inv h with ⟨rfl, e⟩ | hx
    · have ea : a = c := by omega
      subst ea
      exact ⟨lv, by unfold setF; rw [if_pos rfl], old hc, hg⟩
    · obtain ⟨b, h1, h2, h3⟩ := B.pv x a hx
      refine ⟨b, ?_, old h2, h3⟩
      unfold setF
      rw [if_neg (fun z => by subst z; rw [hn] at hx; cases hx)]
      exact h1
/-- a node is done -/
theorem BI.next (B : BI adj first N cnt bef Q at_) {lv c : Nat} (hl : Q[at_]? = some lv) (hc : cnt lv = some c) (all : ∀ h ∈ adj lv, ∃ d, cnt h = some d ∧ d ≤ c + 1) : BI adj first N cnt bef Q (at_ + 1) where
  c0 := B.c0
  mem := B.mem
  bnd := B.bnd
  nd := B.nd
  snd := B.snd
  mono := B.mono
  le := fun g a h d hh hd ha => Nat.le_trans (B.le g a lv c hl hc ha) (Nat.succ_le_succ (B.mono at_ (at_ + 1) lv h c d (Nat.le_succ _) hl hh hc hd))
  done := fun i g a h hi hg ha hh => by
    by_cases e : i = at_
    · subst e
      rw [hl] at hg
      cases hg
      rw [hc] at ha
      cases ha
      exact all h hh
    · exact B.done i g a h (by omega) hg ha hh
  pv := B.pv
  at_le := (List.getElem?_eq_some_iff.mp hl).1
/-- what the search tells -/
structure Dist (adj : Nat → List Nat) (first : Nat) (cnt bef : Nat → Option Nat) : Prop where
  snd : ∀ g c, cnt g = some c → Wk adj first c g
  least : ∀ n g, Wk adj first n g → ∃ d, cnt g = some d ∧ d ≤ n
  pv : ∀ g c, cnt g = some (c + 1) → ∃ b, bef g = some b ∧ cnt b = some c ∧ g ∈ adj b
theorem BI.dist (B : BI adj first N cnt bef Q at_) (h : Q.length ≤ at_) : Dist adj first cnt bef where
  snd := B.snd
  least := fun n g w => by
    induction w with
    | nil => exact ⟨0, B.c0, Nat.le_refl _⟩
    | @snoc n b c w hc ih =>
      obtain ⟨d, h1, h2⟩ := ih
      have hb : b ∈ Q := (B.mem b).mp (by rw [h1]; rfl)
      obtain ⟨i, hi⟩ := List.mem_iff_getElem?.mp hb
      have il := (List.getElem?_eq_some_iff.mp hi).1
      obtain ⟨e, h3, h4⟩ := B.done i b d c (by omega) hi h1 hc
      exact ⟨e, h3, by omega⟩
  pv := B.pv
theorem BI.len (B : BI adj first N cnt bef Q at_) : Q.length ≤ N := by
  have := nodup_len (ys := List.range N) B.nd fun x hx => List.mem_range.mpr (B.bnd x hx)
  rwa [List.length_range] at this
end
end Fw
namespace Fw
open PySem PySem.Spec PyProof.Rows L2
def oN : Option Nat → V
  | none => .non
  | some n => .int (n : Int)
def rowN (n : Nat) (f : Nat → Option Nat) : List V := (List.range n).map fun u => oN (f u)
theorem rowN_len {n : Nat} {f : Nat → Option Nat} : (rowN n f).length = n := by unfold rowN; rw [List.length_map, List.length_range]
theorem rowN_get {n u : Nat} {f : Nat → Option Nat} (h : u < n) : (rowN n f)[u]? = some (oN (f u)) := by unfold rowN; rw [List.getElem?_map, List.getElem?_range h]; rfl
theorem rowN_set {n u v : Nat} {f : Nat → Option Nat} : (rowN n f).set u (.int (v : Int)) = rowN n (setF f u v) := by
  apply List.ext_getElem?
  intro i
  by_cases hi : i < n
  · rw [rowN_get hi]
    by_cases e : u = i
    · subst e
      rw [List.getElem?_set_self (by rw [rowN_len]; exact hi)]
      unfold setF
      rw [if_pos rfl]
      rfl
    · rw [List.getElem?_set_ne e, rowN_get hi]
      unfold setF
      rw [if_neg (fun z => e z.symm)]
  · rw [List.getElem?_eq_none (by rw [List.length_set, rowN_len]; omega), List.getElem?_eq_none (by rw [rowN_len]; omega)]
theorem rowN_none {n : Nat} : (List.replicate n [V.non]).flatten = rowN n fun _ => none := by
  unfold rowN
  induction n with
  | zero => rfl
  | succ n ih => rw [List.range_succ, List.map_append, ← ih, List.replicate_succ', List.flatten_append]; rfl
section
variable {K : PySem.W.Frag} {S : Dst} {σ : L2.St} {H : Hp} {tl : TE} {D : Ends} {tu tz : TS} {g : TG} {P' : V → Hp → Prop}
theorem s_forLX1 (h : EvX K S tl σ H P') (k : ∀ v H1, Lx S H H1 → P' v H1 → St K S (tFor (iList K (tC v)) g tu) D σ H1) : St K S (tFor (iList K tl) g tu) D σ H := fun H1 e => h H1 e _ fun v H2 e2 p => k v H2 (e.trans e2) p H2 (e.trans e2).refl
theorem s_forLX (h : EvX K S tl σ H P') (k : ∀ v H1, Lx S H H1 → P' v H1 → St K S (tSeq (tFor (iList K (tC v)) g tu) tz) D σ H1) : St K S (tSeq (tFor (iList K tl) g tu) tz) D σ H := fun H1 e => h H1 e _ fun v H2 e2 p => k v H2 (e.trans e2) p H2 (e.trans e2).refl
theorem ixN_nat {n i : Nat} (h : i < n) : ixN n (i : Int) = some i := by
  unfold ixN
  rw [if_pos (by omega)]
  simp
  omega
end
end Fw

namespace Fw
open PySem PySem.Spec PyProof.Rows L2
abbrev tabF (r : Nat) (g b w : Addr) : List (Str × V) := [("most", .int (2 * (r : Int))), ("_grid", .ref g), ("_before", .ref b), ("_rows", .ref w)]
/-- a row of the table and what stands before -/
structure TRow (S : Dst) (H : Hp) (r : Nat) (rows : List KT) (i : Nat) (y z : V) (cnt bef : Nat → Option Nat) : Prop where
  y : ∃ p, y = .ref p ∧ H p = some (.tup (rowN (2 * r + 1) cnt)) ∧ ¬ Sx S p
  z : ∃ q, z = .ref q ∧ H q = some (.lst (rowN (4 * r + 1) bef)) ∧ ¬ Sx S q
  d : Dist (goalsOf r rows) i cnt bef
theorem TRow.mono {S : Dst} {H H1 : Hp} {r : Nat} {rows : List KT} {i : Nat} {y z : V} {cnt bef : Nat → Option Nat} (t : TRow S H r rows i y z cnt bef) (e : Lx S H H1) : TRow S H1 r rows i y z cnt bef := by
  obtain ⟨⟨p, a, b, c⟩, ⟨q, x, u, v⟩, d⟩ := t
  exact ⟨⟨p, a, e.1 _ _ c b, c⟩, ⟨q, x, e.1 _ _ v u, v⟩, d⟩
structure TableA (K : PySem.W.Frag) (S : Dst) (H : Hp) (a : Addr) (r : Nat) (rows : List KT) (cnt bef : Nat → Nat → Option Nat) : Prop where
  q : ∃ g b w, IA S H a (He.ga K "GenerationTable") (tabF r g b w) ∧ LevelsA K S H g r rows ∧ ¬ Sx S b ∧ ¬ Sx S w ∧ ∃ bs ws, H b = some (.lst bs) ∧ H w = some (.lst ws) ∧ bs.length = 2 * r + 1 ∧ ws.length = 2 * r + 1 ∧
    ∀ (i : Nat) (y z : V), ws[i]? = some y → bs[i]? = some z → TRow S H r rows i y z (cnt i) (bef i)
  r1 : r ≤ 4
theorem TableA.mono {K : PySem.W.Frag} {S : Dst} {H H1 : Hp} {a : Addr} {r : Nat} {rows : List KT} {cnt bef : Nat → Nat → Option Nat} (t : TableA K S H a r rows cnt bef) (e : Lx S H H1) : TableA K S H1 a r rows cnt bef := by
  obtain ⟨g, b, w, i, l, nb, nw, bs, ws, hb, hw, lb, lw, f⟩ := t.q
  exact ⟨⟨g, b, w, i.mono e, l.mono e, nb, nw, bs, ws, e.1 _ _ nb hb, e.1 _ _ nw hw, lb, lw, fun j y z hy hz => (f j y z hy hz).mono e⟩, t.r1⟩
end Fw
namespace Fw
open PySem PySem.Spec PyProof.Rows L2
theorem LevelsA.updI {K : PySem.W.Frag} {S : Dst} {H : Hp} {a x C dx : Addr} {r : Nat} {rows : List KT} {fs : List (Str × V)} {o : HO} (hx : H x = some (.ins C dx fs)) (ne : ∀ v, levF r v ≠ fs) (L : LevelsA K S H a r rows) : LevelsA K S (upd H x o) a r rows := by
  obtain ⟨v, ia, n, rs, hv, l, f⟩ := L.q
  refine ⟨⟨v, ia.updI hx (ne v), n, rs, by rw [upd_ne (fun z => by subst z; rw [hx] at hv; cases hv)]; exact hv, l, fun j y hy => ?_⟩, L.r1⟩
  obtain ⟨p, ys, a, b, c, d, g⟩ := f j y hy
  refine ⟨p, ys, a, by rw [upd_ne (fun z => by subst z; rw [hx] at b; cases b)]; exact b, c, d, fun m z hz => ?_⟩
  rcases g m z hz with h | ⟨n, s, q, h1, h2, h3, h4⟩
  · exact .inl h
  · exact .inr ⟨n, s, q, h1, h2, by rw [upd_ne (fun z => by subst z; rw [hx] at h3; cases h3)]; exact h3, h4⟩
end Fw
namespace Fw
open PySem PySem.Spec PyProof.Rows L2
abbrev tab1 (r : Nat) : List (Str × V) := [("most", .int (2 * (r : Int)))]
abbrev tab2 (r : Nat) (g : Addr) : List (Str × V) := [("most", .int (2 * (r : Int))), ("_grid", .ref g)]
abbrev tab3 (r : Nat) (g b : Addr) : List (Str × V) := [("most", .int (2 * (r : Int))), ("_grid", .ref g), ("_before", .ref b)]
end Fw
namespace Fw
open PySem PySem.Spec PyProof.Rows L2
theorem TRow.stab {H : Hp} {r : Nat} {rows : List KT} {i : Nat} {y z : V} {cnt bef : Nat → Option Nat} {D : Addr} {us ws : List V} (hD : H D = some (.lst us)) (ne : z ≠ .ref D) (t : TRow none H r rows i y z cnt bef) : TRow none (upd H D (.lst ws)) r rows i y z cnt bef := by
  obtain ⟨⟨p, a, b, c⟩, ⟨q, x, u, v⟩, d⟩ := t
  exact ⟨⟨p, a, by rw [upd_ne (fun z => by subst z; rw [hD] at b; cases b)]; exact b, c⟩, ⟨q, x, by rw [upd_ne (fun e => ne (by rw [x, e]))]; exact u, v⟩, d⟩
theorem cut_row {n m : Nat} {f : Nat → Option Nat} (h : m ≤ n) : cutV (rowN n f) none (some (m : Int)) = rowN m f := by
  unfold cutV
  rw [HT.sIx_none, HT.sIx_nat, rowN_len]
  simp only [List.drop_zero, Nat.sub_zero, Nat.min_eq_left h]
  unfold rowN
  rw [← List.map_take, List.take_range, Nat.min_eq_left h]
end Fw

namespace Fw
open PySem PySem.Spec PyProof.Rows L2
/-- items that are rows (up, down, side) -/
def RowsK (S : Dst) (H : Hp) (ys : List V) (ks : List KT) : Prop := ys.length = ks.length ∧ ∀ (i : Nat) (y : V) (k : KT), ys[i]? = some y → ks[i]? = some k → Row S H y k.1 k.2.1 k.2.2
section
variable {S : Dst} {H H1 : Hp} {ys : List V} {ks : List KT}
theorem RowsK.mono (h : RowsK S H ys ks) (e : Lx S H H1) : RowsK S H1 ys ks := ⟨h.1, fun i y k a b => (h.2 i y k a b).mono e⟩
theorem RowsK.nil : RowsK S H [] [] := ⟨rfl, fun i y k a _ => by simp at a⟩
theorem Row.stab {v : V} {u d : Int} {s : Str} {D : Addr} {us ws : List V} (hD : H D = some (.lst us)) (h : Row S H v u d s) : Row S (upd H D (.lst ws)) v u d s := by
  obtain ⟨p, a, b, c⟩ := h
  exact ⟨p, a, by rw [upd_ne (fun z => by subst z; rw [hD] at b; cases b)]; exact b, c⟩
theorem RowsK.stab {D : Addr} {us ws : List V} (hD : H D = some (.lst us)) (h : RowsK S H ys ks) : RowsK S (upd H D (.lst ws)) ys ks := ⟨h.1, fun i y k a b => (h.2 i y k a b).stab hD⟩
theorem RowsK.snoc {y : V} {k : KT} (h : RowsK S H ys ks) (hy : Row S H y k.1 k.2.1 k.2.2) : RowsK S H (ys ++ [y]) (ks ++ [k]) := by
  refine ⟨by simp [h.1], fun i z q a c => ?_⟩
  by_cases hi : i < ys.length
  · rw [List.getElem?_append_left hi] at a
    rw [List.getElem?_append_left (by rw [← h.1]; exact hi)] at c
    exact h.2 i z q a c
  · have h2 := (List.getElem?_eq_some_iff.mp a).1
    rw [List.length_append] at h2
    have e : i = ys.length := by simp at h2; omega
    subst e
    rw [h.1] at c
    simp at a c
    subst a c
    exact hy
theorem RowsK.to0 (h : RowsK S H ys ks) : RowsK none H ys ks := ⟨h.1, fun i y k a b => (h.2 i y k a b).to0⟩
theorem RowsK.up {H0 : Hp} (e : Lx S H0 H) (h : RowsK none H ys ks) : RowsK S H ys ks := ⟨h.1, fun i y k a b => (h.2 i y k a b).up e⟩
end
/-- the datum of a row -/
def dK (k : KT) : PyData := .tuple [.int k.1, .int k.2.1, .str k.2.2]
theorem min_cap {x r : Int} : min x r = capI x r := by unfold capI; split <;> omega
end Fw

namespace Fw
open PySem PySem.Spec PyProof.Rows L2
/-! ### rows as data -/
theorem Row.dp {K : PySem.W.Frag} {S : Dst} {H : Hp} {v : V} {k : KT} (h : Row S H v k.1 k.2.1 k.2.2) : Dp K H v (dK k) := by
  obtain ⟨p, rfl, hp, _⟩ := h
  exact .tup (SqT.of hp) (.cons (.int _) (.cons (.int _) (.cons (.str _) .nil)))
theorem dpAll_of {K : PySem.W.Frag} {H : Hp} : ∀ {ys : List V} {ks : List KT}, ys.length = ks.length → (∀ (i : Nat) (y : V) (k : KT), ys[i]? = some y → ks[i]? = some k → Dp K H y (dK k)) → DpAll K H ys (ks.map dK)
  | [], [], _, _ => .nil
  | y :: ys, k :: ks, hl, h => .cons (h 0 y k rfl rfl) (dpAll_of (Nat.succ.inj hl) fun i y' k' a b => h (i + 1) y' k' a b)
theorem RowsK.dp {K : PySem.W.Frag} {S : Dst} {H : Hp} {p : Addr} {ys : List V} {ks : List KT} (hp : H p = some (.lst ys)) (h : RowsK S H ys ks) : Dp K H (.ref p) (.list (ks.map dK)) := .lst (SqL.of hp) (dpAll_of h.1 fun i y k a b => (h.2 i y k a b).dp)
theorem can_dK {k : KT} (h : KVk k) : (dK k).canLay0 = true := by
  obtain ⟨u, d, s⟩ := k
  have hs := KV.side h
  dsimp only at hs
  unfold dK
  simp only [PyData.canLay0, PyData.canLayAll0, Bool.true_and, Bool.and_true]
  rcases hs with rfl | rfl | rfl <;> decide +kernel
theorem depth_dK (k : KT) : (dK k).depth = 1 := by unfold dK; simp [PyData.depth, PyData.depthAll]
theorem shaped_dK {k : KT} (h : KVk k) : SeqAt.shaped (dK k) = true := by
  unfold SeqAt.shaped
  rw [can_dK h, depth_dK]
  rfl
theorem shaped_dKs {ks : List KT} (h : ∀ k ∈ ks, KVk k) : SeqAt.shaped (.list (ks.map dK)) = true := by
  have a : PyData.canLayAll0 (ks.map dK) = true := by
    induction ks with
    | nil => rfl
    | cons k ks ih =>
      rw [List.map_cons, PyData.canLayAll0, can_dK (h k (by simp)), ih fun x hx => h x (by simp [hx])]
      rfl
  have b : PyData.depthAll (ks.map dK) ≤ 1 := by
    clear a h
    induction ks with
    | nil => simp [PyData.depthAll]
    | cons k ks ih =>
      rw [List.map_cons, PyData.depthAll, depth_dK]
      omega
  unfold SeqAt.shaped
  rw [PyData.canLay0, a, PyData.depth]
  rw [Bool.true_and]
  exact decide_eq_true (by omega)
theorem eqv_dK {a b : KT} : PyData.eqv (dK a) (dK b) = decide (a = b) := by
  obtain ⟨u, d, s⟩ := a
  obtain ⟨u', d', s'⟩ := b
  unfold dK
  simp only [PyData.eqv, PyData.eqvAll, Bool.and_true]
  rw [Bool.eq_iff_iff]
  simp
theorem any_dK {ks : List KT} {k : KT} : ((ks.map dK).any fun z => PyData.eqv z (dK k)) = ks.contains k := by
  rw [List.any_map, Bool.eq_iff_iff, List.any_eq_true, List.contains_iff_mem]
  constructor
  · rintro ⟨x, hx, e⟩
    have e2 : PyData.eqv (dK x) (dK k) = true := e
    rw [eqv_dK] at e2
    exact of_decide_eq_true e2 ▸ hx
  · intro h
    refine ⟨k, h, ?_⟩
    show PyData.eqv (dK k) (dK k) = true
    rw [eqv_dK]
    exact decide_eq_true rfl
/-- a list of cells -/
structure CellsP (S : Dst) (H : Hp) (v : V) (r : Nat) (ks : List KT) : Prop where
  q : ∃ p ys, v = .ref p ∧ H p = some (.lst ys) ∧ ¬ Sx S p ∧ RowsK S H ys ks
  ok : ∀ k ∈ ks, k ∈ cellsOf r
  len : ks.length ≤ 1000
theorem CellsP.mono {S : Dst} {H H1 : Hp} {v : V} {r : Nat} {ks : List KT} (h : CellsP S H v r ks) (e : Lx S H H1) : CellsP S H1 v r ks :=
  ⟨let ⟨p, ys, a, b, c, d⟩ := h.q; ⟨p, ys, a, e.1 _ _ c b, c, d.mono e⟩, h.ok, h.len⟩
theorem CellsP.to0 {S : Dst} {H : Hp} {v : V} {r : Nat} {ks : List KT} (h : CellsP S H v r ks) : CellsP none H v r ks :=
  ⟨let ⟨p, ys, a, b, c, d⟩ := h.q; ⟨p, ys, a, b, sx_none, d.to0⟩, h.ok, h.len⟩
/-- the drawing is over -/
theorem s_N {K : PySem.W.Frag} {S : Dst} {ts : TS} {D : Ends} {σ : L2.St} {H : Hp} (k : ∀ H1, Lx S H H1 → St K none ts D σ H1) : St K S ts D σ H := fun H1 e => k H1 e H1 Lx.rfl0
/-- o[i] = v of an own class, the last statement -/
theorem s_setO1 {K : PySem.W.Frag} {S : Dst} {σ : L2.St} {H : Hp} {a C : Addr} {fs : List (Str × V)} {i v : V} {sp : Sp} {E : XK} {ta tb te : TE} {D : Ends} (hv : Ev K S te σ H v) (ho : Ev K S ta σ H (.ref a)) (hi : Ev K S tb σ H i) (h : IA S H a C fs)
    (k : ∀ H1, Lx S H H1 → sp [.ref a, i, v] H1 (fun _ H2 => D.nx σ H2) E) : St K S (tAsg te (gSub ta tb (sSetO C sp E))) D σ H := fun H1 e =>
  hv H1 e _ fun H2 e2 => ho H2 (e.trans e2) _ fun H3 e3 => hi H3 ((e.trans e2).trans e3) _ fun H4 e4 => by
    have e5 := ((e.trans e2).trans e3).trans e4
    obtain ⟨⟨dx, q⟩, _⟩ := h.mono e5
    exact ⟨a, rfl, ⟨_, _, q⟩, k H4 e5⟩
/-! ### the law's own step -/
def preC (r i j : Nat) : List KT := ((List.range i).flatMap fun i => farRow r (i + 1)) ++ (List.range j).flatMap (farUp r (i + 1))
theorem preC_succ (r i j : Nat) : preC r i (j + 1) = preC r i j ++ farUp r (i + 1) j := by
  unfold preC
  rw [List.range_succ (n := j), List.flatMap_append, List.flatMap_singleton, List.append_assoc]
theorem preC_row (r i : Nat) : preC r i (r + 1) = preC r (i + 1) 0 := by
  unfold preC
  rw [List.range_succ (n := i), List.flatMap_append, List.flatMap_singleton, List.range_zero, List.flatMap_nil, List.append_nil]
  rfl
theorem preC_all (r : Nat) : preC r (2 * r) 0 = cellsOf r := by
  unfold preC
  rw [List.range_zero, List.flatMap_nil, List.append_nil]
  rfl
theorem farUp_len (r : Int) (far up : Nat) : (farUp r far up).length ≤ 2 := by
  unfold farUp
  dsimp only
  split
  · simp
  · split <;> simp
theorem preC_len {r i j : Nat} (r1 : r ≤ 4) (hi : i ≤ 8) (hj : j ≤ 5) : (preC r i j).length ≤ 500 := by
  have fl : ∀ (n far : Nat), ((List.range n).flatMap (farUp r far)).length ≤ 2 * n := by
    intro n far
    induction n with
    | zero => simp
    | succ n ih => rw [List.range_succ, List.flatMap_append, List.length_append]; have := farUp_len r far n; simp at *; omega
  have fr : ∀ n : Nat, ((List.range n).flatMap fun i => farRow r (i + 1)).length ≤ 10 * n := by
    intro n
    induction n with
    | zero => simp
    | succ n ih => rw [List.range_succ, List.flatMap_append, List.length_append]; have := fl (r + 1) (n + 1); unfold farRow at *; simp at *; omega
  have := fr i
  have := fl j (i + 1)
  unfold preC
  rw [List.length_append]
  omega
theorem cells_pos {r : Nat} (r0 : 1 ≤ r) (r1 : r ≤ 4) : 0 < (cellsOf r).length := by
  have : r = 1 ∨ r = 2 ∨ r = 3 ∨ r = 4 := by omega
  rcases this with rfl | rfl | rfl | rfl <;> decide +kernel
def sidesS (u d : Int) : List Str := if u = 0 ∨ d = 0 then ["line"] else ["elder", "younger"]
theorem sidesS_V (u d : Int) : (sidesS u d).map V.str = sidesL u d := by
  unfold sidesS sidesL
  split <;> rfl
theorem sides_kv {u d : Int} {s : Str} (h : s ∈ sidesS u d) (u0 : 0 ≤ u) (u1 : u ≤ 999) (d0 : 0 ≤ d) (d1 : d ≤ 999) : KV u d s := by
  refine ⟨u0, u1, d0, d1, ?_⟩
  unfold sidesS at h
  unfold fitsB
  split at h
  · rename_i z
    rw [if_pos z, List.mem_singleton.mp h]
    rfl
  · rename_i z
    rw [if_neg z]
    simp only [List.mem_cons, List.mem_nil_iff, or_false] at h
    rcases h with rfl | rfl <;> rfl
def valL (r : Nat) (ks : List KT) (s g v : Nat) (sds : List Str) : Bool := sds.any fun sd => ks.contains (capK r ((s : Int) - (v : Int), (g : Int) - (v : Int), sd))
def stepL (r : Nat) (ks : List KT) (s g : Nat) : Bool := (List.range (min s g + 1)).any fun v => valL r ks s g v (sidesS ((s : Int) - (v : Int)) ((g : Int) - (v : Int)))
theorem sideAt_some {r : Nat} {rows : List KT} {u d : Nat} (ok : ∀ k ∈ rows, k ∈ cellsOf r) (r1 : r ≤ 4) : (sideAt r rows u d).isSome = true ↔ ∃ sd ∈ sidesS u d, rows.contains (capK r ((u : Int), (d : Int), sd)) = true := by
  have hz : ((u : Int) = 0 ∨ (d : Int) = 0) ↔ (u = 0 ∨ d = 0) := by omega
  have zz : u = 0 ∧ d = 0 → ∀ sd, ¬ (rows.contains (capK r ((u : Int), (d : Int), sd)) = true) := by
    rintro ⟨rfl, rfl⟩ sd h
    rw [List.contains_iff_mem] at h
    have c := (cells_kv r1 (ok _ h)).2.2.2
    unfold capK capI at c
    dsimp only at c
    split at c <;> omega
  unfold sideAt sidesS letsR
  simp only [hz]
  by_cases z : u = 0 ∧ d = 0
  · simp only [if_pos z]
    constructor
    · intro h; cases h
    · rintro ⟨sd, _, h⟩
      exact absurd h (zz z sd)
  · simp only [if_neg z]
    by_cases y : u = 0 ∨ d = 0
    · simp only [if_pos y]
      by_cases h : rows.contains (capK r ((u : Int), (d : Int), "line")) = true
      · rw [if_pos h]; exact ⟨fun _ => ⟨_, List.mem_singleton.mpr rfl, h⟩, fun _ => rfl⟩
      · rw [if_neg h]
        refine ⟨fun z => (nomatch z), fun ⟨sd, hs, h2⟩ => ?_⟩
        rw [List.mem_singleton] at hs
        subst hs
        exact absurd h2 h
    · simp only [if_neg y]
      by_cases h : rows.contains (capK r ((u : Int), (d : Int), "elder")) = true
      · rw [if_pos h]; exact ⟨fun _ => ⟨_, List.mem_cons_self, h⟩, fun _ => rfl⟩
      · rw [if_neg h]
        by_cases h2 : rows.contains (capK r ((u : Int), (d : Int), "younger")) = true
        · rw [if_pos h2]; exact ⟨fun _ => ⟨_, List.mem_cons_of_mem _ (List.mem_singleton.mpr rfl), h2⟩, fun _ => rfl⟩
        · rw [if_neg h2]
          refine ⟨fun z => (nomatch z), fun ⟨sd, hs, h3⟩ => ?_⟩
          simp only [List.mem_cons, List.mem_nil_iff, or_false] at hs
          rcases hs with rfl | rfl
          · exact absurd h3 h
          · exact absurd h3 h2
theorem contains_iff {rows ks : List KT} (h : ∀ k, k ∈ rows ↔ k ∈ ks) (k : KT) : rows.contains k = ks.contains k := by
  rw [Bool.eq_iff_iff, List.contains_iff_mem, List.contains_iff_mem]
  exact h k
theorem stepL_eq {r : Nat} {rows ks : List KT} (h : ∀ k, k ∈ rows ↔ k ∈ ks) (ok : ∀ k ∈ rows, k ∈ cellsOf r) (r1 : r ≤ 4) (s g : Nat) : stepL r ks s g = stepB r rows s g := by
  rw [Bool.eq_iff_iff]
  unfold stepL stepB bestV valL
  rw [bestFrom_isSome, List.any_eq_true]
  have e : ∀ v : Nat, v ≤ min s g → ((s : Int) - (v : Int) = ((s - v : Nat) : Int) ∧ (g : Int) - (v : Int) = ((g - v : Nat) : Int)) := fun v hv => by omega
  constructor
  · rintro ⟨v, hv, q⟩
    rw [List.mem_range] at hv
    obtain ⟨e1, e2⟩ := e v (by omega)
    rw [e1, e2, List.any_eq_true] at q
    obtain ⟨sd, hs, q⟩ := q
    exact ⟨v, by omega, (sideAt_some ok r1).mpr ⟨sd, hs, by rw [contains_iff h]; exact q⟩⟩
  · rintro ⟨v, hv, q⟩
    obtain ⟨sd, hs, q⟩ := (sideAt_some ok r1).mp q
    obtain ⟨e1, e2⟩ := e v hv
    refine ⟨v, List.mem_range.mpr (by omega), ?_⟩
    rw [e1, e2, List.any_eq_true]
    exact ⟨sd, hs, by rw [← contains_iff h]; exact q⟩
/-! ### the table as the law reads it -/
structure TabL (S : Dst) (H : Hp) (v : V) (n : Nat) (cnt : Nat → Nat → Option Nat) : Prop where
  q : ∃ p ws, v = .ref p ∧ H p = some (.lst ws) ∧ ¬ Sx S p ∧ ws.length = n ∧ ∀ (i : Nat) (y : V), ws[i]? = some y → ∃ q, y = .ref q ∧ H q = some (.lst (rowN n (cnt i))) ∧ ¬ Sx S q
theorem TabL.mono {S : Dst} {H H1 : Hp} {v : V} {n : Nat} {cnt : Nat → Nat → Option Nat} (h : TabL S H v n cnt) (e : Lx S H H1) : TabL S H1 v n cnt :=
  ⟨let ⟨p, ws, a, b, c, d, f⟩ := h.q; ⟨p, ws, a, e.1 _ _ c b, c, d, fun i y hy => let ⟨q, x, z, w⟩ := f i y hy; ⟨q, x, e.1 _ _ w z, w⟩⟩⟩
/-- rows[i][j] -/
theorem TabL.ev {K : PySem.W.Frag} {S : Dst} {H : Hp} {v : V} {n : Nat} {cnt : Nat → Nat → Option Nat} {σ : L2.St} {t0 t1 t2 : TE} {i j : Nat} (h : TabL S H v n cnt) (h0 : Ev K S t0 σ H v) (h1 : Ev K S t1 σ H (.int (i : Int))) (h2 : Ev K S t2 σ H (.int (j : Int))) (hi : i < n) (hj : j < n) :
    Ev K S (tOp (rIxL K) (tOp (rIxL K) t0 t1) t2) σ H (oN (cnt i j)) := by
  obtain ⟨p, ws, rfl, hp, np, hl, f⟩ := h.q
  obtain ⟨q, hq, hr, nq⟩ := f i _ (List.getElem?_eq_getElem (by omega))
  exact ev_op (ev_op h0 h1 (rv_ixL (LA.of hp np) (at_of (j := i) rfl (by rw [List.getElem?_eq_getElem (by omega), hq])))) h2 (rv_ixL (LA.of hr nq) (at_of (j := j) rfl (rowN_get hj)))
theorem TabL.len {K : PySem.W.Frag} {S : Dst} {H : Hp} {v : V} {n : Nat} {cnt : Nat → Nat → Option Nat} {σ : L2.St} {t0 : TE} (h : TabL S H v n cnt) (h0 : Ev K S t0 σ H v) : Ev K S (tCB (rLn K) (tCons t0 tNil)) σ H (.int (n : Int)) := by
  obtain ⟨p, ws, rfl, hp, np, hl, f⟩ := h.q
  exact ev_is (ev_cb (ea_cons h0 ea_nil) (rc_len (LA.of hp np))) (by rw [hl])
/-- what an item is due to be -/
def ItemOk (step : Bool) (i j : Nat) (c : Option Nat) : Prop := (i = j → c = some 0) ∧ (i ≠ j → step = true → c = some 1) ∧ (i ≠ j → step = false → ∀ n, c = some n → 1 < n)
theorem Dist.item {r : Nat} {rows : List KT} {i j : Nat} {cnt bef : Nat → Option Nat} (d : Dist (goalsOf r rows) i cnt bef) (hj : j ≤ 2 * r) : ItemOk (stepB r rows i j) i j (cnt j) := by
  have g : stepB r rows i j = true → j ∈ goalsOf r rows i := fun h => List.mem_filter.mpr ⟨List.mem_range.mpr (by omega), h⟩
  refine ⟨fun e => ?_, fun ne h => ?_, fun ne h n hn => ?_⟩
  · subst e
    obtain ⟨c, h1, h2⟩ := d.least 0 i .nil
    have : c = 0 := by omega
    rw [h1, this]
  · obtain ⟨c, h1, h2⟩ := d.least 1 j (.snoc .nil (g h))
    have c0 : c ≠ 0 := fun z => by
      subst z
      have w := d.snd j 0 h1
      cases w
      exact ne rfl
    have : c = 1 := by omega
    rw [h1, this]
  · have w := d.snd j n hn
    rcases Nat.lt_or_ge 1 n with h2 | h2
    · exact h2
    · exfalso
      have : n = 0 ∨ n = 1 := by omega
      rcases this with rfl | rfl
      · cases w; exact ne rfl
      · cases w with
        | snoc w h3 =>
          cases w
          have := (List.mem_filter.mp h3).2
          rw [h] at this
          cases this
theorem Wk.cat {adj : Nat → List Nat} {a b c n m : Nat} (h : Wk adj a n b) (h2 : Wk adj b m c) : Wk adj a (n + m) c := by
  induction h2 with
  | nil => exact h
  | snoc _ hc ih => exact .snoc ih hc
end Fw

namespace Fw
open PySem PySem.Spec PyProof.Rows L2
theorem RowsK.append {S : Dst} {H : Hp} {ys zs : List V} {ks ls : List KT} (h : RowsK S H ys ks) (h2 : RowsK S H zs ls) : RowsK S H (ys ++ zs) (ks ++ ls) := by
  refine ⟨by simp [h.1, h2.1], fun i z q a c => ?_⟩
  by_cases hi : i < ys.length
  · rw [List.getElem?_append_left hi] at a
    rw [List.getElem?_append_left (by rw [← h.1]; exact hi)] at c
    exact h.2 i z q a c
  · rw [List.getElem?_append_right (by omega)] at a
    rw [List.getElem?_append_right (by rw [← h.1]; omega), ← h.1] at c
    exact h2.2 _ z q a c
theorem line_cells {r : Nat} (r0 : 1 ≤ r) (r1 : r ≤ 4) : (0, (r : Int), ("line" : Str)) ∈ cellsOf r ∧ ((r : Int), 0, ("line" : Str)) ∈ cellsOf r := by
  refine ⟨mem_cells ⟨?_, ?_, ?_, ?_, ?_⟩ ?_ ?_ ?_, mem_cells ⟨?_, ?_, ?_, ?_, ?_⟩ ?_ ?_ ?_⟩ <;> dsimp only
  · omega
  · omega
  · omega
  · omega
  · unfold fitsB; rw [if_pos (.inl rfl)]; rfl
  · omega
  · omega
  · omega
  · omega
  · omega
  · omega
  · omega
  · unfold fitsB; rw [if_pos (.inr rfl)]; rfl
  · omega
  · omega
  · omega
theorem rowN_succ {n : Nat} {f : Nat → Option Nat} : rowN (n + 1) f = rowN n f ++ [oN (f n)] := by
  unfold rowN
  rw [List.range_succ, List.map_append]
  rfl
theorem TableA.dist {K : PySem.W.Frag} {S : Dst} {H : Hp} {a : Addr} {r : Nat} {rows : List KT} {cnt bef : Nat → Nat → Option Nat} (t : TableA K S H a r rows cnt bef) {i : Nat} (hi : i ≤ 2 * r) : Dist (goalsOf r rows) i (cnt i) (bef i) := by
  obtain ⟨g, b, w, ia, lv, _, _, bs, ws, hb, hw, lb, lw, f⟩ := t.q
  exact (f i _ _ (List.getElem?_eq_getElem (by omega)) (List.getElem?_eq_getElem (by omega))).d
theorem valL_take {r : Nat} {ks : List KT} {s g v m : Nat} {sds : List Str} {sd : Str} (h : sds[m]? = some sd) : valL r ks s g v (sds.take (m + 1)) = (valL r ks s g v (sds.take m) || ks.contains (capK r ((s : Int) - (v : Int), (g : Int) - (v : Int), sd))) := by
  unfold valL
  rw [List.take_succ, h, List.any_append]
  simp
end Fw
namespace Fw
open PySem PySem.Spec PyProof.Rows L2
def dO : Option Nat → PyData
  | none => .none
  | some n => .int (n : Int)
theorem rp_oN {S : Dst} {H : Hp} (c : Option Nat) : Rp S H (oN c) (dO c) := by
  cases c with
  | none => exact .non
  | some n => exact .int _
section
variable {K : PySem.W.Frag} {S : Dst}
/-- [cell for cell in v if cell not in w] -/
theorem ex_notin {σ : L2.St} {G : Hp} {j : Nat} {ws : List Nat} {tz : TE} {v w : V} {r : Nat} {ks ls : List KT} (r1 : r ≤ 4) (cv : CellsP S G v r ks) (cw : CellsP S G w r ls) (hw : ∀ x, wipe ((wipe σ ws).set j (some x)) ws = wipe σ ws) (hj : ∀ x, ((wipe σ ws).set j (some x))[j]? = some (some x)) (hz : ∀ x H1, Lx S G H1 → Ev K S tz ((wipe σ ws).set j (some x)) H1 w) :
    EvX K S (tLc (iList K (tC v)) (gName j) (tTest (tOp (rNotInD K) (tVar j) tz)) (tVar j) ws) σ G (fun v H2 => ∃ zs, CellsP S H2 v r zs ∧ zs.length ≤ ks.length) := by
  obtain ⟨q, ys', rfl, hq, nq, hr'⟩ := cv.q
  obtain ⟨p, ys, rfl, hp, np, hr⟩ := cw.q
  have l1 := cv.len
  refine (ex_lcN ev_c (LA.of hq nq) (by rw [hr'.1, sizeLine_eq]; omega) hw (fun D i acc H' => ∃ zs, RowsK S H' acc zs ∧ (∀ k ∈ zs, k ∈ cellsOf r) ∧ zs.length ≤ i) (fun D H' _ _ _ _ => ⟨[], RowsK.nil, fun k hk => (nomatch hk), Nat.le_refl _⟩) ?_).imp ?_
  · rintro D i y acc G2 nD fD gD hi f2 ⟨zs, hz', okz, lz⟩
    have il := (List.getElem?_eq_some_iff.mp hi).1
    rw [hr'.1] at il
    have hki := List.getElem?_eq_getElem il
    have hx := (hr'.mono f2).2 i y _ hi hki
    have km := cv.ok _ (List.getElem_mem il)
    generalize ks[i] = kt at *
    refine (et_test (ev_op (ev_var (hj y)) (hz y G2 f2) (rv_notInD (d := dK kt) (ds := ls.map dK) (fun G f => (hx.mono f).dp) (fun G f => (hr.mono (f2.trans f)).dp ((f2.trans f).1 _ _ np hp)) (shaped_dK (cells_kv r1 km).1) (shaped_dKs fun k hk => (cells_kv r1 (cw.ok k hk)).1)))).toX.imp ?_
    rintro b G3 f3 rfl
    refine ⟨fun hb => (ev_var (hj y)).toX.imp fun w G4 f4 hw => ?_, fun hb => ⟨zs, hz'.mono f3, okz, by omega⟩⟩
    subst hw
    refine ⟨zs ++ [kt], (RowsK.snoc (hz'.mono (f3.trans f4)) (hx.mono (f3.trans f4))).stab ((f3.trans f4).1 _ _ nD gD), fun k hk => ?_, by rw [List.length_append]; exact Nat.succ_le_succ lz⟩
    rw [List.mem_append, List.mem_singleton] at hk
    rcases hk with h | rfl
    · exact okz k h
    · exact km
  · rintro v G2 f2 ⟨p', acc, rfl, _, np', hp', _, zs, hz', okz, lz⟩
    rw [hr'.1] at lz
    exact ⟨zs, ⟨⟨p', acc, rfl, hp', np', hz'⟩, okz, by omega⟩, lz⟩
/-- cells + more cells -/
theorem rvx_catC {H : Hp} {v w : V} {r : Nat} {ks ls : List KT} (cv : CellsP S H v r ks) (cw : CellsP S H w r ls) (hl : ks.length + ls.length ≤ 1000) : RVX K S rCat v w H (fun x H2 => CellsP S H2 x r (ks ++ ls)) := by
  obtain ⟨p, ys, rfl, hp, np, hr⟩ := cv.q
  obtain ⟨q, zs, rfl, hq, nq, hz⟩ := cw.q
  intro H1 e Q k
  refine rvx_cat (K := K) hp np hq nq (by rw [hr.1, hz.1, sizeLine_eq]; omega) H1 e Q fun x H2 e2 ⟨p', hx, _, np', hp'⟩ => k x H2 e2 ⟨⟨p', _, hx, hp', np', (hr.mono (e.trans e2)).append (hz.mono (e.trans e2))⟩, fun k hk => ?_, by rw [List.length_append]; exact hl⟩
  rw [List.mem_append] at hk
  exact hk.elim (cv.ok k) (cw.ok k)
end
/-! ### more cells, nearer -/
theorem Wk.mono {adj adj' : Nat → List Nat} {a b n : Nat} (h : ∀ x y, y ∈ adj x → y ∈ adj' x) (w : Wk adj a n b) : Wk adj' a n b := by
  induction w with
  | nil => exact .nil
  | snoc _ hc ih => exact .snoc ih (h _ _ hc)
theorem stepB_more {r : Nat} {rows rows' : List KT} (h : ∀ k, k ∈ rows → k ∈ rows') (ok : ∀ k ∈ rows, k ∈ cellsOf r) (ok' : ∀ k ∈ rows', k ∈ cellsOf r) (r1 : r ≤ 4) {s g : Nat} (hs : stepB r rows s g = true) : stepB r rows' s g = true := by
  unfold stepB bestV at *
  rw [bestFrom_isSome] at *
  obtain ⟨v, hv, q⟩ := hs
  obtain ⟨sd, hsd, q⟩ := (sideAt_some ok r1).mp q
  refine ⟨v, hv, (sideAt_some ok' r1).mpr ⟨sd, hsd, ?_⟩⟩
  rw [List.contains_iff_mem] at *
  exact h _ q
theorem goals_more {r : Nat} {rows rows' : List KT} (h : ∀ k, k ∈ rows → k ∈ rows') (ok : ∀ k ∈ rows, k ∈ cellsOf r) (ok' : ∀ k ∈ rows', k ∈ cellsOf r) (r1 : r ≤ 4) : ∀ x y, y ∈ goalsOf r rows x → y ∈ goalsOf r rows' x := fun x y hy => by
  unfold goalsOf at *
  rw [List.mem_filter] at *
  exact ⟨hy.1, stepB_more h ok ok' r1 hy.2⟩
end Fw

namespace Fw
open PySem PySem.Spec PyProof.Rows L2
/-! ### lists of numbers -/
abbrev iv : Nat → V := fun g => V.int (g : Int)
theorem flat_iv : ∀ {ls : List Nat}, (ls.map iv).all flatV = true
  | [] => rfl
  | _ :: ls => by rw [List.map_cons, List.all_cons, flat_iv (ls := ls)]; rfl
theorem inV_iv {y : Nat} {ls : List Nat} (h : y ∈ ls) : inV (.int (y : Int)) (ls.map iv) = true := by
  unfold inV
  rw [List.any_eq_true]
  exact ⟨iv y, List.mem_map.mpr ⟨y, h, rfl⟩, by simp [iv, eqV]⟩
theorem iv_get {ls : List Nat} {i g : Nat} (h : ls[i]? = some g) : (ls.map iv)[i]? = some (.int (g : Int)) := by rw [List.getElem?_map, h]; rfl
theorem rv_neg {K : PySem.W.Frag} {S : Dst} {H : Hp} {i : Int} : RU K S (fun x H Q => ∃ i, x = .int i ∧ Q (.int (-i)) H) (.int i) H (.int (-i)) := fun H1 e _ q => ⟨i, rfl, q H1 e.refl⟩
end Fw

namespace Fw
open PySem PySem.Spec PyProof.Rows L2 NdefX
/-! ### super().__init__(..) in a method of an own class -/
/-- a method of the class at D that names super: its object at f, its code, its cell -/
structure SupM (P : Program) (K : PySem.W.Frag) (D f cda cc : Addr) (fd : FuncData) (name qual : Str) (params : Arguments) (body : List Stmt) (scope : Scope) : Prop where
  at_ : ∃ oc od osl, K.lookup f = some ⟨oc, od, .func fd, osl⟩
  e : ∃ doc pm an ct, fd = PySem.W.fnX name qual params body scope [("__class__", cc)] .none .none doc pm an (.ref cda) ct
  hcd : PySem.W.codeIn K (.ref cda) qual = true
  hcode : ∃ ccl cdd vs ccs file tf, K.lookup cda = some ⟨ccl, cdd, .fields vs, ccs⟩ ∧ vs[2]? = some (.str file tf) ∧ ((P.main.file : Str) == file) = true
  hcell : ∃ cl cld csl, K.lookup cc = some ⟨cl, cld, .cell (some (.ref D)), csl⟩
  hD : (PySem.W.clsIn K D).isSome = true
  kp : PySem.W.keepIn K (.ref f) = true
/-- its words, as HandS.Nested has them -/
abbrev supF (name qual : Str) (params : Arguments) (body : List Stmt) (scope : Scope) (cda cc : Addr) : NF := ⟨name, qual, params, body, scope, [("__class__", cc)], cda⟩
/-- the class C of self: under D, plain in what it lets be set -/
structure SupC (K : PySem.W.Frag) (C D : Addr) (tgt : Value) : Prop where
  ox : OexC K C
  sub : PySem.W.mroIn K C (.ref D) = some true
  cl : (PySem.W.clsIn K C).isSome = true
  su : PySem.W.ks_superIn K C D "__init__" = some (some tgt)
  ve : PySem.W.subIn K (.ref C) (.type "ValueError") = some true
section
variable {CX : CXT} {P : Program} {w : World} {K : PySem.W.Frag} {mg : Str → Option Value} {base : Heap} {N : List Str} {f D C cda cc x : Addr} {fd : FuncData} {name qual : Str} {params : Arguments} {body : List Stmt} {scope : Scope} {A : Around} {outer : List Env} {s0 : Shared} {H0 : Hp} {EE : XK}
  {pins : List (Addr × Obj)} {σ : L2.St} {H : Hp} {s : Shared}
/-- what is seen of self -/
theorem exo_inst {X : Cx} (I : Inv X pins σ H s) (he : H x = some (exo x C none)) : ∃ t1, s.heap.get? x = some ({ cls := .ref C, dict := none, data := .fields #[.ref t1, .none, .none, .none, .bool false, .none] } : Obj) := exo_at I.hok he
/-- super() in the head of an attribute -/
theorem sup_base {whole : Sem Value} {p0 p1 : Pos} {ar : Arg} {E' : Value → Shared → Prop} {Q : Value → Shared → Prop} (M : SupM P K D f cda cc fd name qual params body scope)
    (I : Inv (ncx CX P w K mg base N (supF name qual params body scope cda cc) f A outer s0 H0 EE) pins σ H s) (hk : scope.kind = .function) (har : (params.posonlyargs ++ params.args).head? = some ar) (hN : N[0]? = some ar.arg)
    (h0 : σ[0]? = some (some (.ref x))) (hka : scope.names.lookup ar.arg = some .local) (hks : scope.names.lookup ("super" : Str) = some .globalImplicit) (hkc : scope.names.lookup ("__class__" : Str) = some .free) (hsm : mg ("super" : Str) = none)
    (htop : (P.main.scope.names.lookup ("super" : Str)).isSome = false) (he : H x = some (exo x C none)) {tgt : Value} (sc : SupC K C D tgt)
    (h : ∀ h', h'.get? s.heap.objs.size = some (PySem.W.ks_superObj D x C) → (∀ y o, s.heap.get? y = some o → h'.get? y = some o) → Q (.ref s.heap.objs.size) { s with heap := h' }) :
    _root_.PySem.wpAt (model P w) (A.deeper (envF (supF name qual params body scope cda cc) f s0.heap.objs.size)) (.func body (envF (supF name qual params body scope cda cc) f s0.heap.objs.size))
      (attributeBase (.Call (.Name "super" p0) [] [] p1) "__init__" (envF (supF name qual params body scope cda cc) f s0.heap.objs.size) whole) Q E' s := by
  obtain ⟨oc, od, osl, hf⟩ := M.at_
  obtain ⟨doc, pm, an, ct, rfl⟩ := M.e
  obtain ⟨ccl, cdd, vs, ccs, file, tf, hco, hvs, hfile⟩ := M.hcode
  obtain ⟨cl, cld, csl, hcl⟩ := M.hcell
  obtain ⟨cdD, hcD⟩ := Option.isSome_iff_exists.mp M.hD
  have XK : K.In s.heap := I.kIn
  obtain ⟨t1, hx⟩ := exo_inst I he
  obtain ⟨mL, hns, hl⟩ := I.loc
  obtain ⟨u, ru, lu⟩ := hl 0 ar.arg (.ref x) hN h0 (.inl hka)
  have eu : u = Value.ref x := ru
  subst eu
  have hm : mL ar.arg = some (Value.ref x) := by
    rcases lu with ⟨_, z⟩ | ⟨z, _⟩
    · exact z
    · have z : scope.names.lookup ar.arg = some .cell ∨ scope.names.lookup ar.arg = some .free := z
      rw [hka] at z
      rcases z with z | z <;> cases z
  obtain ⟨oD, hD1, hD2⟩ : ∃ oD, s.heap.get? D = some oD ∧ oD.data = .cls cdD := by
    unfold PySem.W.clsIn at hcD
    split at hcD
    · rename_i ho
      cases hcD
      exact ⟨_, XK _ _ ho, rfl⟩
    · cases hcD
  refine PySem.ks_wpAt_super_base (env := envF (supF name qual params body scope cda cc) f s0.heap.objs.size) hks hkc (by decide) rfl (XK _ _ hf) rfl har rfl (XK _ _ hco) rfl hvs hfile htop ?_
  obtain ⟨mb, b1, b2⟩ := I.mod.blt
  refine PySem.W.ks_loadName_global hk hks (Calls.loadGlobal_builtin (I.mod.glob.keeps I.bk) hsm (b1.keeps I.bk) ((b2 "super" (by decide)).trans Boot.«super») ⟨rfl, ?_⟩)
  refine wpAny_loadName_free hk hkc rfl ⟨_, XK _ _ hcl, rfl⟩ ?_
  refine wpAny_loadName_local hk hka hns hm ?_
  obtain ⟨hh, g, d, t, os⟩ := s
  refine PySem.ks_wpAny_isType_cls hD1 hD2 ⟨rfl, ?_⟩
  exact PySem.ks_wpAny_call_super hD1 hD2 hx rfl (fun c z => by cases z) (PySem.W.looks_mroIn XK sc.sub) fun h' e k => h h' e k
end
section
variable {X : Cx} {pins : List (Addr × Obj)} {σ : L2.St} {H : Hp} {s : Shared} {x C D f2 so q : Addr} {E : Value → Shared → Prop} {A : Around}
/-- a new object, kept in sight -/
theorem Inv.pinNew {o : Obj} {t' : Nat} (I : Inv X [] σ H s) (hd : ∀ v, o.data ≠ .cell v) (hx : X.pn = []) (hg : (s.heap.push o).get? s.heap.objs.size = some o) : Inv X [(s.heap.objs.size, o)] σ H { s with heap := s.heap.push o, toks := t' } := by
  have J := I.kept (h' := s.heap.push o) (t' := t') fun b u e => Heap.get?_push_of_some _ e
  refine ⟨J.ok, J.os, J.bare, J.base, J.loc, J.cell, J.free, J.freeC, fun p hp => ?_, J.hok, J.len⟩
  rw [hx, List.nil_append, List.mem_singleton] at hp
  subst hp
  exact ⟨hg, I.hok.fresh (Nat.le_refl _), fun z => absurd I.lt (by rw [← z]; exact Nat.lt_irrefl _), I.nofs (Nat.le_refl _), hd⟩
theorem Inv.unpinned {pins : List (Addr × Obj)} (I : Inv X pins σ H s) (hx : X.pn = []) : Inv X [] σ H s :=
  ⟨I.ok, I.os, I.bare, I.base, I.loc, I.cell, I.free, I.freeC, fun p hp => (by rw [hx] at hp; cases hp), I.hok, I.len⟩
theorem cls_ne {K : PySem.W.Frag} (XK : K.In s.heap) {fv : Array Value} {d : Option Addr} (hx : s.heap.get? x = some ({ cls := .ref C, dict := d, data := .fields fv } : Obj)) (hc : (PySem.W.clsIn K C).isSome = true) : x ≠ C := by
  rintro rfl
  obtain ⟨cd, hc⟩ := Option.isSome_iff_exists.mp hc
  unfold PySem.W.clsIn at hc
  split at hc
  · rename_i ho
    have z := XK _ _ ho
    rw [hx] at z
    cases z
  · cases hc
/-- super().m, m an own function -/
theorem sup_get {K : PySem.W.Frag} {P : Program} {w : World} {name : Str} {pl : Sem Bool} {Q : Value × List Value → Shared → Prop} (XK : K.In s.heap) (hso : s.heap.get? so = some (PySem.W.ks_superObj D x C)) (ho : PySem.W.nsIn K cStatics "thirdparty.any" = some none)
    (hm : PySem.W.ks_superIn K C D name = some (some (.ref f2))) (ht : PySem.W.typeIn K (.ref f2) = some (.type "function")) (ne : x ≠ C) (hn : (name == ("__class__" : Str)) = false)
    (hq : Q (.ref s.heap.objs.size, []) { s with heap := s.heap.push (PySem.W.methodObj (.ref f2) (.ref x)), toks := s.toks + 1 }) : wpAny (model P w) A (getMethod (.ref so) name pl) Q E s := by
  obtain ⟨hh, g, d, t, os⟩ := s
  cases hc : PySem.W.clsIn K C with
  | none =>
    unfold PySem.W.ks_superIn at hm
    rw [hc] at hm
    cases hm
  | some cd =>
    unfold PySem.W.ks_superIn at hm
    rw [hc] at hm
    have ht' : (K.lookup f2).map (·.cls) = some (.type "function") := ht
    cases z : K.lookup f2 with
    | none => rw [z] at ht'; cases ht'
    | some of =>
      rw [z] at ht'
      exact PySem.ks_wpAny_getMethod_super hso (PySem.W.looks_opaque XK ho) (l₀ := cd.mro) (fun A Q E s k q => wpAny_bind ((PySem.W.looks_clsIn XK hc) A _ E s k (wpAny_pure q))) rfl XK hm (XK _ _ z) (Option.some.inj ht') ne hn hq
/-- super().m, m a built-in __init__ -/
theorem sup_getB {K : PySem.W.Frag} {P : Program} {w : World} {B i : String} {name : Str} {pl : Sem Bool} {Q : Value × List Value → Shared → Prop} (KF : PySem.W.KxsFacts B i) (XK : K.In s.heap) (hso : s.heap.get? so = some (PySem.W.ks_superObj D x C)) (ho : PySem.W.nsIn K cStatics "thirdparty.any" = some none)
    (hm : PySem.W.ks_superIn K C D name = some (some (.builtin i))) {ox : Obj} {odx : Option Obj} (I : PySem.W.InstAt s.heap x ox C odx) (hB : PySem.W.subIn K (.ref C) (.type B) = some true) (ne : x ≠ C) (hn : (name == ("__class__" : Str)) = false)
    (hq : Q (.ref s.heap.objs.size, []) { s with heap := s.heap.push (PySem.W.kxs_mw i x), toks := s.toks + 1 }) : wpAny (model P w) A (getMethod (.ref so) name pl) Q E s := by
  have hI : PySem.W.Looks (model P w) s.heap (isInstance (.ref x) (.type B)) true := I.type.andThen (PySem.W.looks_subIn XK hB)
  obtain ⟨hh, g, d, t, os⟩ := s
  cases hc : PySem.W.clsIn K C with
  | none =>
    unfold PySem.W.ks_superIn at hm
    rw [hc] at hm
    cases hm
  | some cd =>
    unfold PySem.W.ks_superIn at hm
    rw [hc] at hm
    exact PySem.W.kxs_getMethod KF hso (PySem.W.looks_opaque XK ho) (l₀ := cd.mro) (fun A Q E s k q => wpAny_bind ((PySem.W.looks_clsIn XK hc) A _ E s k (wpAny_pure q))) rfl XK hm hI ne hn hq
/-- the wrapper of ValueError.__init__, called -/
theorem mw_call {X : Cx} {u : Addr} {us : List Value} {Q : Value → Shared → Prop} (T : OexC X.K C) (I : Inv X pins σ H s) (e : H x = some (exo x C none)) (hu : s.heap.get? u = some (PySem.W.kxs_mw "ValueError.__init__" x)) (hl : us.length ≤ sizeLine) (h : ∀ s', Inv X pins σ H s' → Q .none s') :
    wpAny (model X.prog X.w) A (call (.ref u) us) Q E s := by
  obtain ⟨nm, q, N, bs, bm, sn, sub, ab, col, dd, k0, k1, k2, k3, k5, hC, hbm⟩ := T.cls
  obtain ⟨t1, ho⟩ := exo_at I.hok e
  obtain ⟨hp, g, d, t, os⟩ := s
  refine wpAny_call (codeAny_of_tree ?_)
  show wpAny _ A.in1 (callAny (.ref u) ⟨us, []⟩) _ _ _
  simp only [callAny]
  refine wpAny_bind (wpAny_load hu ?_)
  simp only [PySem.W.kxs_mw, show (Value.type "method-wrapper" == Value.type "method" || Value.type "method-wrapper" == Value.type "builtin_function_or_method" || Value.type "method-wrapper" == Value.type "method-wrapper") = true by decide, if_true]
  refine PySem.W.KFB.if_so (by decide) ?_
  refine wpAny_bind (PySem.W.check_bound_init PySem.F.excBase_ValueError.toExcCallFacts (I.kIn _ _ hC) ho rfl ?_)
  refine wpAny_bind (wpAny_pure (wpAny_pure ⟨Code.quiet_builtin _ (by decide +kernel), codeAny_builtin PySem.F.excBase_ValueError.initEntry ?_⟩))
  refine PySem.W.exc_init_tree (cls := .ref C) (t0 := t1) (dv := none) (c2 := .none) (c3 := .none) (b4 := .bool false) ho hl fun h' k hx _ => ?_
  have J := I.write (t' := t) (x := x) (e := x) (o := exo x C none) (by rw [e]; exact True.intro) (.inl rfl) k ⟨_, hx⟩ (exo_ok hx)
  have eu : upd H x (exo x C none) = H := by
    funext b
    by_cases hb : b = x
    · rw [hb, upd_same, e]
    · rw [upd_ne hb]
  rw [eu] at J
  exact h _ J
end
/-- what super().__init__(arg) does -/
def Tgt (X : Cx) (D : Addr) (tgt : Value) (arg : Expr) (cp : Pos) (TG : Addr → Addr → List V → Hp → (Hp → Prop) → Prop) : Prop :=
  ∀ (pl : Sem Bool) (σ : L2.St) (H : Hp) (s : Shared) (so x C : Addr) (ta : TA) (R : Hp → Prop), Inv X [] σ H s → s.heap.get? so = some (PySem.W.ks_superObj D x C) → H x = some (exo x C none) → SupC X.K C D tgt → PA X [arg] ta → ta σ H (fun ws H1 => TG x C ws H1 R) →
    wpAny (model X.prog X.w) X.A (getMethod (.ref so) "__init__" pl) (fun fx s2 => wpAny (model X.prog X.w) X.A (callWith cp fx.1 fx.2 (backTo cp (starEach [arg] X.env)) []) (fun _ s' => ∃ H2, Inv X [] σ H2 s' ∧ R H2) X.xe s2) X.xe s
section
variable {X : Cx} {D f2 : Addr} {arg : Expr} {cp : Pos} {k : Nat} {sp2 : Sp}
theorem tgt_own (hx : X.pn = []) (ho : PySem.W.nsIn X.K cStatics "thirdparty.any" = some none) (ht : PySem.W.typeIn X.K (.ref f2) = some (.type "function")) (hf : PySem.W.fnIn X.K f2 = true) (hr : Room k X.A) (F2 : FnR X.prog X.w X.K X.mg X.base CX0 k f2 sp2)
    (he : starEach [arg] X.env = (false, eval arg X.env) :: starEach [] X.env := by rfl) : Tgt X D (.ref f2) arg cp (fun x C ws H1 R => sp2 (.ref x :: ws) H1 (fun _ H2 => R H2) E0) := by
  intro pl σ H s so x C ta R I hso hxo sc ha q
  obtain ⟨t1, hxe⟩ := exo_at I.hok hxo
  refine sup_get I.kIn hso ho sc.su ht (cls_ne I.kIn hxe sc.cl) (by decide) ?_
  have I1 : Inv X [(s.heap.objs.size, PySem.W.methodObj (.ref f2) (.ref x))] σ H { s with heap := s.heap.push (PySem.W.methodObj (.ref f2) (.ref x)), toks := s.toks + 1 } := Inv.pinNew I (fun v z => by cases z) hx (Heap.get?_push_size _ rfl)
  show wpAny _ _ (callWith cp (.ref s.heap.objs.size) [] (backTo cp (starEach [arg] X.env)) []) _ _ _
  have hr1 := ha.run cp _ _ σ H _ I1 q
  rw [he] at hr1 ⊢
  refine PySem.W.callWith_of (P := PySem.W.MethP X.K s.heap.objs.size f2 (.ref x)) rfl (PySem.W.keeps_M hf) (Calls.evalArgs_plain (thn hr1 fun us s1 hh => ?_))
  obtain ⟨vs, H1, I2, r, q2⟩ := hh
  obtain ⟨hq, _⟩ := I2.pin (s.heap.objs.size, PySem.W.methodObj (.ref f2) (.ref x)) (by rw [hx]; simp)
  refine ⟨⟨hq, I2.kIn⟩, ?_⟩
  have I3 := Inv.unpinned I2 hx
  refine wpAny_call (PySem.W.method_call hq ?_)
  have z := run_fnR (us := .ref x :: us) (vs := .ref x :: vs) F2 hr (pass0 (X := X)) I3 (.cons rfl r) q2
  refine codeAny_mono z fun r s' hq => ?_
  cases r with
  | error e => exact hq
  | ok fl =>
    cases fl with
    | ret u =>
      obtain ⟨v, H', J, _, rr⟩ := hq
      exact ⟨H', J, rr⟩
    | next => exact hq.elim
    | brk => exact hq.elim
    | cont => exact hq.elim
theorem tgt_val (hx : X.pn = []) (ho : PySem.W.nsIn X.K cStatics "thirdparty.any" = some none)
    (he : starEach [arg] X.env = (false, eval arg X.env) :: starEach [] X.env := by rfl) : Tgt X D (.builtin "ValueError.__init__") arg cp (fun x C ws H1 R => ws.length ≤ 1000 ∧ H1 x = some (exo x C none) ∧ R H1) := by
  intro pl σ H s so x C ta R I hso hxo sc ha q
  obtain ⟨t1, hxe⟩ := exo_at I.hok hxo
  refine sup_getB PySem.W.kxs_ValueError I.kIn hso ho sc.su (⟨hxe, rfl, rfl, trivial⟩ : PySem.W.InstAt s.heap x _ C none) sc.ve (cls_ne I.kIn hxe sc.cl) (by decide) ?_
  have I1 : Inv X [(s.heap.objs.size, PySem.W.kxs_mw "ValueError.__init__" x)] σ H { s with heap := s.heap.push (PySem.W.kxs_mw "ValueError.__init__" x), toks := s.toks + 1 } := Inv.pinNew I (fun v z => by cases z) hx (Heap.get?_push_size _ rfl)
  show wpAny _ _ (callWith cp (.ref s.heap.objs.size) [] (backTo cp (starEach [arg] X.env)) []) _ _ _
  have hr1 := ha.run cp _ _ σ H _ I1 q
  rw [he] at hr1 ⊢
  refine PySem.W.kxs_callWith (i := "ValueError.__init__") (x := x) rfl (Calls.evalArgs_plain (thn hr1 fun us s1 hh => ?_))
  obtain ⟨vs, H1, I2, r, hl, hxo2, q2⟩ := hh
  obtain ⟨hq, _⟩ := I2.pin (s.heap.objs.size, PySem.W.kxs_mw "ValueError.__init__" x) (by rw [hx]; simp)
  refine ⟨hq, ?_⟩
  exact mw_call sc.ox (Inv.unpinned I2 hx) hxo2 hq (by show us.length ≤ sizeLine; rw [← Paired.length r, sizeLine_eq]; omega) fun s' J => ⟨H1, J, q2⟩
end
abbrev supSt (p0 p1 ap cp ep : Pos) (arg : Expr) : Stmt := .Expr (.Call (.Attribute (.Call (.Name "super" p0) [] [] p1) "__init__" ap) [arg] [] cp) ep
abbrev supG (name qual : Str) (params : Arguments) (p0 p1 ap cp ep : Pos) (arg : Expr) (rest : List Stmt) (scope : Scope) (cda cc : Addr) : NF := supF name qual params (supSt p0 p1 ap cp ep arg :: rest) scope cda cc
section
variable {P : Program} {w : World} {K : PySem.W.Frag} {mg : Str → Option Value} {base : Heap} {N ps : List Str} {f D cda cc : Addr} {fd : FuncData} {name qual : Str} {params : Arguments} {rest : List Stmt} {scope : Scope} {arg : Expr} {p0 p1 ap cp ep : Pos} {k : Nat} {sp : Sp} {tgt : Value}
  {TG : Addr → Addr → List V → Hp → (Hp → Prop) → Prop} {ar : Arg}
theorem fn_sup (M : SupM P K D f cda cc fd name qual params (supSt p0 p1 ap cp ep arg :: rest) scope)
    (S : NScope N ps ["__class__"] scope) (har : (params.posonlyargs ++ params.args).head? = some ar) (hN : N[0]? = some ar.arg) (hka : scope.names.lookup ar.arg = some .local) (hks : scope.names.lookup ("super" : Str) = some .globalImplicit)
    (hsm : mg ("super" : Str) = none) (htop : (P.main.scope.names.lookup ("super" : Str)).isSome = false) (len : ∀ vs H Q E, sp vs H Q E → vs.length = ps.length)
    (hev : ∀ (A : Around) (outer : List Env) (s : Shared), ∃ pl : Sem Bool, eval (.Call (.Attribute (.Call (.Name "super" p0) [] [] p1) "__init__" ap) [arg] [] cp) (envF (supG name qual params p0 p1 ap cp ep arg rest scope cda cc) f s.heap.objs.size) = (do
      let ov ← attributeBase (.Call (.Name "super" p0) [] [] p1) "__init__" (envF (supG name qual params p0 p1 ap cp ep arg rest scope cda cc) f s.heap.objs.size) (eval (.Call (.Name "super" p0) [] [] p1) (envF (supG name qual params p0 p1 ap cp ep arg rest scope cda cc) f s.heap.objs.size))
      standAt ap.atName
      let (fx, first) ← holding [ov] (getMethod ov "__init__" pl)
      callWith cp fx first (backTo cp (starEach [arg] (envF (supG name qual params p0 p1 ap cp ep arg rest scope cda cc) f s.heap.objs.size))) []))
    (hin : ∀ L, interactive (envF (supG name qual params p0 p1 ap cp ep arg rest scope cda cc) f L) = false)
    (hsw : ∀ L, swapsWith (.Call (.Attribute (.Call (.Name "super" p0) [] [] p1) "__init__" ap) [arg] [] cp) none ep.line (envF (supG name qual params p0 p1 ap cp ep arg rest scope cda cc) f L) = pure false)
    (hbody : ∀ (A : Around) (outer : List Env) (s : Shared) (H : Hp) (vs : List V) (Q : VK) (E : XK), Room k (A.deeper (envF (supG name qual params p0 p1 ap cp ep arg rest scope cda cc) f s.heap.objs.size)) → sp vs H Q E →
      ∃ (x C : Addr) (ta : TA) (tr : TS), vs[0]? = some (.ref x) ∧ H x = some (exo x C none) ∧ SupC K C D tgt ∧ PA (ncx CX0 P w K mg base N (supG name qual params p0 p1 ap cp ep arg rest scope cda cc) f A outer s H E) [arg] ta ∧
        PSs (ncx CX0 P w K mg base N (supG name qual params p0 p1 ap cp ep arg rest scope cda cc) f A outer s H E) rest tr ∧
        Tgt (ncx CX0 P w K mg base N (supG name qual params p0 p1 ap cp ep arg rest scope cda cc) f A outer s H E) D tgt arg cp TG ∧
        ta (startF N vs [none]) H fun ws H1 => TG x C ws H1 fun H2 => tr { nx := fun _ H' => Q .non H', rt := Q } (startF N vs [none]) H2) : FnOk P w K mg base CX0 (k + 1) f fd ps sp := by
  refine ⟨len, fun A outer s H args us vs Q E hr e0 hb r hsp => ?_⟩
  have hl := len _ _ _ _ hsp
  have KX : K.In s.heap := e0.mod.kin.keeps fun b o e => (e0.bs b o e).1
  have lim : s.heap.NoLimit := e0.mod.nolimit.keeps fun b o e => (e0.bs b o e).1
  have M0 := M
  obtain ⟨oc, od, osl, hf⟩ := M.at_
  obtain ⟨doc, pm, an, ct, rfl⟩ := M.e
  obtain ⟨cl, cld, csl, hcl⟩ := M.hcell
  refine codeAny_call_function hr.depth (KX _ _ hf) rfl S.co S.gen rfl (PySem.W.codeRec_of KX M.hcd) (hb _ _ _ _ ?_)
  refine wpAny_newFunctionEnv S.nocell (fun ⟨n, _⟩ hy => S.par n (List.of_mem_zip hy).1) (fun h₁ hns hsb => ⟨lim.fresh _ hsb, ?_⟩) S.kind
  obtain ⟨x, C, ta, tr, hx0, hxo, sc, ha, hrest, tg, q⟩ := hbody A outer s H vs Q E (hr.deeper _) hsp
  show codeAny _ _ (.func (supSt p0 p1 ap cp ep arg :: rest) (envF (supG name qual params p0 p1 ap cp ep arg rest scope cda cc) f s.heap.objs.size)) _ _
  refine PySem.ks_codeAny_funcAt ?_
  have kp : ∀ b o, s.heap.get? b = some o → h₁.get? b = some o := fun b o e => hsb.extBut b o (Nat.ne_of_lt (Heap.lt_size e)) (Heap.get?_push_of_some _ e)
  have one : ∀ {y : Str} {c : Addr}, ([("__class__", cc)] : List (Str × Addr)).lookup y = some c → y = "__class__" ∧ c = cc := fun {y c} h => by
    by_cases e : y = "__class__"
    · subst e
      simp [List.lookup] at h
      exact ⟨rfl, h.symm⟩
    · have e2 : (y == ("__class__" : Str)) = false := by simpa using e
      simp [List.lookup, e2] at h
  have cb : base.get? cc = some ⟨cl, cld, .cell (some (.ref D)), csl⟩ := e0.mod.kin _ _ hcl
  have CA : CellsAt [("__class__", cc)] ["__class__"] [none] s.heap H := ⟨rfl, fun y c h => by
      obtain ⟨_, rfl⟩ := one h
      exact ⟨(e0.bs _ _ cb).2, _, _, (e0.bs _ _ cb).1, rfl⟩, fun y z c h1 h2 => by rw [(one h1).1, (one h2).1], fun i y hy => by
      cases i with
      | zero =>
        simp at hy
        subst hy
        exact ⟨cc, by simp [List.lookup], fun v hv => by simp at hv⟩
      | succ i => simp at hy⟩
  have I := inv_startN (CX := CX0) (P := P) (w := w) (K := K) (mg := mg) (base := base) (N := N) (F := supF name qual params (supSt p0 p1 ap cp ep arg :: rest) scope cda cc) (f := f) (E := E) (h₁ := h₁) (tk := s.toks + (ps.zip us).length) S hr.hd e0 hl r CA hns kp
  have h0 : (startF N vs [none])[0]? = some (some (.ref x)) := by
    unfold startF
    cases vs with
    | nil => simp at hx0
    | cons v vs =>
      simp at hx0
      subst hx0
      rfl
  obtain ⟨pl, hev1⟩ := hev A outer s
  have fin : ∀ {σ' : L2.St} {H' : Hp} {v : V} {u : Value} {s' : Shared}, Inv (ncx CX0 P w K mg base N (supG name qual params p0 p1 ap cp ep arg rest scope cda cc) f A outer s H E) [] σ' H' s' → L2.RelV v u → Q v H' → CE outer P w H s Q u s' :=
    fun {σ' H' v u s'} J rv q => ⟨v, H', J.os, J.bare, J.base, J.hok, rv, q⟩
  refine PySem.ks_wpAt_execs_cons (PySem.ks_wpAt_Expr_any (PySem.ks_wpAt_MethodCall (pl := pl) ?_ hev1) (hin _) (hsw _))
  refine sup_base M0 I S.kind har hN h0 hka hks (S.frk _ (by simp)) hsm htop hxo sc fun h' hso k' => ?_
  have I1 := I.kept (h' := h') (t' := s.toks + (ps.zip us).length) k'
  refine wpAny_mono (tg pl _ H _ _ x C ta _ I1 hso hxo sc ha q) (fun fx s2 h2 => thn h2 fun _ s3 h3 => ?_) fun _ _ z => z
  obtain ⟨H2, J, q3⟩ := h3
  refine wpAt_of_wpAny (wpAny_mono (hrest.run [] s3 _ H2 _ J q3) (fun fl s' hs => ?_) fun _ _ z => z)
  cases fl with
  | ret u =>
    obtain ⟨v, σ', H', J, rv, q⟩ := hs
    exact fin J rv q
  | next =>
    obtain ⟨σ', H', J, q⟩ := hs
    exact fin (v := V.non) (u := Value.none) J rfl q
  | brk =>
    obtain ⟨_, _, _, q⟩ := hs
    exact False.elim q
  | cont =>
    obtain ⟨_, _, _, q⟩ := hs
    exact False.elim q
end
end Fw
namespace Fw
open PySem PySem.Spec PyProof.Rows L2 NdefX
/-! ### what the head tells of exception classes -/
def oexB (K : PySem.W.Frag) (C : Addr) : Bool := (match K.lookup C with
  | some ⟨.type "type", _, .cls cd, sl⟩ => (match cd.mro, sl.toList with
    | .ref C' :: bm, [_, _, _, _, some (.builtin n), _] => decide (C' = C) && (decide (n = "ValueError.__new__") && (cd.hasDict && (!cd.hasDel && PySem.HandSPX.refsVE bm)))
    | _, _ => false)
  | _ => false) && (He.eqO (PySem.W.findIn K (.ref C) "__setattr__") (some (some (.builtin "object.__setattr__"))) && (decide (PySem.W.subIn K (.ref C) (.type "BaseException") = some true) && (decide (PySem.W.typeIn K (.ref C) = some (.type "type")) && PySem.W.keepIn K (.ref C))))
theorem oexB_ok {K : PySem.W.Frag} {C : Addr} (h : oexB K C = true) : OexC K C := by
  obtain ⟨h1, h⟩ := He.ba h
  obtain ⟨h2, h⟩ := He.ba h
  obtain ⟨h3, h⟩ := He.ba h
  obtain ⟨h4, h5⟩ := He.ba h
  refine ⟨?_, He.eqO_ok h2, of_decide_eq_true h3, of_decide_eq_true h4, h5⟩
  split at h1
  · rename_i dd cd sl ho
    split at h1
    · rename_i C' bm k0 k1 k2 k3 n k5 hm hs
      obtain ⟨a1, a⟩ := He.ba h1
      obtain ⟨a2, a⟩ := He.ba a
      obtain ⟨a3, a⟩ := He.ba a
      obtain ⟨a4, a5⟩ := He.ba a
      have e1 := of_decide_eq_true a1
      have e2 := of_decide_eq_true a2
      subst e1 e2
      obtain ⟨c1, c2, c3, c4, c5, c6, c7, c8, c9, c10, c11⟩ := cd
      dsimp only at hm a3 a4
      have e4 : c11 = false := by simpa using a4
      subst hm a3 e4
      obtain ⟨l⟩ := sl
      dsimp only at hs
      subst hs
      exact ⟨_, _, _, _, bm, _, _, _, _, _, _, _, _, _, _, ho, a5⟩
    · cases h1
  · cases h1
/-- the code's address, the cell's address of a method that names super -/
def cdS (K : PySem.W.Frag) (f : Addr) : Addr := match K.lookup f with
  | some ⟨_, _, .func fd, _⟩ => (match fd.code with
    | .ref c => c
    | _ => 0)
  | _ => 0
def ccS (K : PySem.W.Frag) (f : Addr) : Addr := match K.lookup f with
  | some ⟨_, _, .func fd, _⟩ => (match fd.closure with
    | [(_, c)] => c
    | _ => 0)
  | _ => 0
abbrev FnS : Type := Option (Str × Str × Arguments × FuncBody × Scope × Addr × List Str × Addr)
def fnWS (K : PySem.W.Frag) (a : Addr) : FnS := match K.lookup a with
  | some ⟨_, _, .func fd, _⟩ => some (fd.name, fd.qualname, fd.params, fd.body, fd.scope, fd.globals, fd.closure.map (·.1), fd.builtins)
  | _ => none
structure DefS where
  ad : PySem.W.Frag → Addr
  D : PySem.W.Frag → Addr
  name : Str
  qual : Str
  params : Arguments
  body : List Stmt
  scope : Scope
def DefS.val (d : DefS) : FnS := some (d.name, d.qual, d.params, .stmts d.body, d.scope, mainGlobals, ["__class__"], builtinsNs)
def noneB : Value → Bool
  | .none => true
  | _ => false
theorem noneB_ok {v : Value} (h : noneB v = true) : v = .none := by
  cases v <;> first | rfl | cases h
def DefS.ok (file : Str) (K : PySem.W.Frag) (d : DefS) : Bool := (match K.lookup (d.ad K) with
  | some ⟨_, _, .func fd, _⟩ => noneB fd.defaults && (noneB fd.kwdefaults && (match fd.code with
    | .ref c => PySem.W.codeIn K (.ref c) d.qual && (match K.lookup c with
      | some ⟨_, _, .fields vs, _⟩ => (match (vs[2]? : Option Value) with
        | some (Value.str file' _) => file == file'
        | _ => false)
      | _ => false)
    | _ => false))
  | _ => false) && ((match K.lookup (ccS K (d.ad K)) with
  | some ⟨_, _, .cell (some (.ref D')), _⟩ => decide (D' = d.D K)
  | _ => false) && ((PySem.W.clsIn K (d.D K)).isSome && PySem.W.keepIn K (.ref (d.ad K))))
theorem DefS.supM {P : Program} {K : PySem.W.Frag} {d : DefS} (e : fnWS K (d.ad K) = d.val) (c : d.ok P.main.file K = true) : ∃ fd, SupM P K (d.D K) (d.ad K) (cdS K (d.ad K)) (ccS K (d.ad K)) fd d.name d.qual d.params d.body d.scope := by
  obtain ⟨c1, c⟩ := He.ba c
  obtain ⟨c2, c⟩ := He.ba c
  obtain ⟨c3, c4⟩ := He.ba c
  have c2' := c2
  unfold fnWS at e
  unfold cdS ccS
  unfold ccS at c2
  cases q : K.lookup (d.ad K) with
  | none => rw [q] at c1; cases c1
  | some o =>
    obtain ⟨oc, od, dt, osl⟩ := o
    rw [q] at c1 c2 e
    cases dt with
    | func fd =>
      obtain ⟨n1, n2, n3, n4, n5, n6, n7, n8, n9, n10, n11, n12, n13, n14, n15⟩ := fd
      unfold DefS.val at e
      simp only [Option.some.injEq, Prod.mk.injEq] at e
      have e2 := e
      obtain ⟨h1, h2, h3, h4, h5, h6, h7, h8⟩ := e2
      subst h1 h2 h3 h4 h5 h6 h8
      dsimp only at c1 c2 ⊢
      obtain ⟨a1, b1⟩ := He.ba c1
      obtain ⟨a2, b2⟩ := He.ba b1
      clear b1 c1
      have z8 := noneB_ok a1
      have z9 := noneB_ok a2
      subst z8 z9
      cases n7 with
      | nil => simp at h7
      | cons p r =>
        cases r with
        | cons _ _ => simp at h7
        | nil =>
          obtain ⟨y, cc⟩ := p
          have hy : y = "__class__" := by
            simp at h7
            exact h7
          subst hy
          cases n13 with
          | ref cd =>
            dsimp only at b2 ⊢
            obtain ⟨a3, a4⟩ := He.ba b2
            refine ⟨_, ⟨oc, od, osl, q⟩, ⟨_, _, _, _, rfl⟩, a3, ?_, ?_, c3, c4⟩
            · cases q2 : K.lookup cd with
              | none => rw [q2] at a4; cases a4
              | some o2 =>
                obtain ⟨o2c, o2d, d2, o2s⟩ := o2
                rw [q2] at a4
                cases d2 with
                | fields vs =>
                  dsimp only at a4
                  cases q3 : vs[2]? with
                  | none => rw [q3] at a4; cases a4
                  | some v =>
                    rw [q3] at a4
                    cases v with
                    | str file tf => exact ⟨_, _, vs, _, file, tf, rfl, q3, a4⟩
                    | _ => cases a4
                | _ => cases a4
            · dsimp only at c2
              cases q2 : K.lookup cc with
              | none => rw [q2] at c2; cases c2
              | some o2 =>
                obtain ⟨o2c, o2d, d2, o2s⟩ := o2
                rw [q2] at c2
                cases d2 with
                | cell v =>
                  cases v with
                  | none => cases c2
                  | some v =>
                    cases v with
                    | ref D' =>
                      have e3 := of_decide_eq_true c2
                      subst e3
                      exact ⟨_, _, _, rfl⟩
                    | _ => cases c2
                | _ => cases c2
          | _ => cases b2
    | _ => cases c1
def supCB (K : PySem.W.Frag) (C D : Addr) (tgt : Value) : Bool := oexB K C && (decide (PySem.W.mroIn K C (.ref D) = some true) && ((PySem.W.clsIn K C).isSome && (He.eqO (PySem.W.ks_superIn K C D "__init__") (some (some tgt)) && decide (PySem.W.subIn K (.ref C) (.type "ValueError") = some true))))
theorem supCB_ok {K : PySem.W.Frag} {C D : Addr} {tgt : Value} (h : supCB K C D tgt = true) : SupC K C D tgt := by
  obtain ⟨h1, h⟩ := He.ba h
  obtain ⟨h2, h⟩ := He.ba h
  obtain ⟨h3, h⟩ := He.ba h
  obtain ⟨h4, h5⟩ := He.ba h
  exact ⟨oexB_ok h1, of_decide_eq_true h2, h3, He.eqO_ok h4, of_decide_eq_true h5⟩
end Fw
namespace Fw
open PySem PySem.Spec PyProof.Rows L2 NdefX
/-! ### raise C(e, ..) -/
section
variable {X : Cx} {e : Expr} {es : List Expr} {ta : TA} {p pos : Pos}
/-- C(e, ..), C an own exception class with its own __init__ -/
theorem pmkN_oex {CX : CXT} {x : Str} {C fI : Addr} {k : Nat} {ps : List Str} {sp : Sp} (T : OexC X.K C) (iC : PySem.W.findIn X.K (.ref C) "__init__" = some (some (.ref fI))) (tI : PySem.W.typeIn X.K (.ref fI) = some (.type "function"))
    (F1 : Ok X.prog X.w X.K X.mg X.base CX k fI ps sp) (hr : Room (k + 1) X.A) (hx : Passes CX X (fun _ _ _ => False)) (hg : Gl X x) (hm : X.mg x = some (.ref C)) (ha : PA X (e :: es) ta)
    (hdb : (x == ("__debug__" : Str)) = false := by decide) (he : starEach (e :: es) X.env = (false, eval e X.env) :: starEach es X.env := by rfl) (hpl : (backTo pos (starEach es X.env)).any (·.1) = false := by rfl) :
    L2N.PMk X (.Call (.Name x p) (e :: es) [] pos) (tMkO C sp [] ta) := by
  obtain ⟨fd, F1, hb, _⟩ := F1
  intro pins s σ H Q I h
  obtain ⟨nm, q, N, bs, bm, sn, sub, ab, col, dd, k0, k1, k2, k3, k5, hC, hbm⟩ := T.cls
  refine wpAny_Call_Name_kw (ld_glob I hg hm ?_ hdb)
  refine PySem.W.callWith_K (h₀ := X.base) I.ok.mod.kin T.kC (thn (ha.run pos pins s σ H _ I h) fun us s1 hh => ?_) he hpl
  obtain ⟨vs, H1, I1, r1, hz, q1⟩ := hh
  refine ⟨I1.kIn, ?_⟩
  show wpAny _ _ (call (.ref C) us) _ _ _
  obtain ⟨hp, g, dr, tk, os⟩ := s1
  have sz := Nat.le_succ hp.objs.size
  have q1 := q1 (hp.objs.size + 1) (I1.hok.fresh sz)
  rw [List.append_nil] at q1
  have up : ∀ b o, hp.get? b = some o → ((hp.push (PySem.W.kdv_tup us)).push (PySem.HandSPX.excO C hp.objs.size)).get? b = some o := fun b o z => Heap.get?_push_of_some _ (Heap.get?_push_of_some _ z)
  have at1 : ((hp.push (PySem.W.kdv_tup us)).push (PySem.HandSPX.excO C hp.objs.size)).get? (hp.objs.size + 1) = some (PySem.HandSPX.excO C hp.objs.size) := by heap_get
  have I2 : Inv X pins σ (upd H1 (hp.objs.size + 1) (exo (hp.objs.size + 1) C none)) ⟨(hp.push (PySem.W.kdv_tup us)).push (PySem.HandSPX.excO C hp.objs.size), g, dr, tk, os⟩ := I1.laid (t' := tk) up sz (exo_ok at1)
  have r2 : Vals (V.ref (hp.objs.size + 1) :: vs) (Value.ref (hp.objs.size + 1) :: us) := .cons rfl r1
  have b2 := hb _ (Value.ref (hp.objs.size + 1) :: us) I2.kIn (by
    have z := r2.length
    rw [F1.len _ _ _ _ q1] at z
    rw [List.append_nil]
    exact z.symm)
  rw [List.append_nil] at b2
  have lu : us.length ≤ sizeLine := by
    rw [← Paired.length r1, sizeLine_eq]
    omega
  refine wpAny_call (PySem.HandSPX.call_own PySem.F.excBase_ValueError (fun Y => PySem.HandSPX.refsVE_contains Y bm hbm) (I1.kIn _ _ hC) (PySem.W.looks_findIn I1.kIn iC) (fun self => PySem.W.bind_fn I1.kIn self tI) lu
    (codeAny_mono (F1.run _ X.stack _ _ ⟨Value.ref (hp.objs.size + 1) :: us, []⟩ (Value.ref (hp.objs.size + 1) :: us) _ _ (fun _ _ _ => False) (hr.make C us []) (I2.env0.make C us []) b2 r2 q1) fun r s' hq' => ?_))
  cases r with
  | error er => exact hx pins σ _ _ er s' I2 hq'
  | ok fl =>
    cases fl with
    | ret u =>
      obtain ⟨v, H2, os2, bare2, un2, hok2, rv, ev, d, fs, ea, ed, hd1, q2⟩ := hq'
      subst ev
      obtain ⟨h2, g2, d2, t2, os'⟩ := s'
      obtain ⟨t0, G, J, kG, ge, hoe, na⟩ := mk_end0 (d2 := d2) (t2 := t2) I1 sz up un2 hok2 os2 bare2 ea ed hd1
      refine ⟨rv, hp.objs.size + 1, _, _, ⟨G, g2, d2, t2, os'⟩, _, .ref C, some d, rfl, J, kG, ge, hoe, ⟨rfl, rfl, fun vs hv => ?_⟩, rfl, rfl, na, rfl, bare2, raises_own T.exC T.tyC, q2⟩
      cases hv
      rfl
    | next => exact False.elim hq'
    | brk => exact False.elim hq'
    | cont => exact False.elim hq'
theorem passN {X : Cx} : Passes (L2N.CX X.prog X.w) X E0 := fun _ _ _ _ _ _ _ h => by
  obtain ⟨_, _, _, _, _, _, _, _, _, _, _, _, z⟩ := h
  exact z.elim
theorem takesN0 {X : Cx} : L2N.Takes X (fun _ _ _ _ => False) := fun _ _ x => by
  obtain ⟨_, _, _, _, _, _, _, _, _, _, _, _, _, _, _, _, z⟩ := x
  exact z.elim
theorem passX {X : Cx} {E : XK} (tk : L2N.Takes X fun cls d _ H => E cls d H) : Passes (L2N.CX X.prog X.w) X E := L2N.passes_call tk fun _ _ _ _ h => h
end
/-! ### the __init__ of an own exception class -/
/-- behind the __init__: the fields, the newest first -/
structure Exd (H H' : Hp) (e C : Addr) (fs : List (Str × V)) : Prop where
  q : ∃ dx, H dx = none ∧ dx ≠ e ∧ H' e = some (exo e C (some dx)) ∧ H' dx = some (exd dx fs) ∧ ∀ b o, b ≠ e → H b = some o → H' b = some o
/-- the base class's: def __init__(self, reason): super().__init__(reason); self.reason = reason -/
def sp_base (K : PySem.W.Frag) (D : Addr) : Sp := fun vs H Q _ => ∃ (e C : Addr) (v : V), vs = [.ref e, v] ∧ SupC K C D (.builtin "ValueError.__init__") ∧ PySem.W.findIn K (.ref C) "reason" = some none ∧ H e = some (exo e C none) ∧ ∀ H', Exd H H' e C [(("reason" : Str), v)] → Q .non H'
/-- .. another's: def __init__(self, f, ..): super().__init__(text); self.f = f; .. -/
def sp_exc (C : Addr) (txt : Str) (names : List Str) : Sp := fun vs H Q _ => ∃ (e : Addr) (ws : List V), vs = .ref e :: ws ∧ ws.length = names.length ∧ H e = some (exo e C none) ∧ ∀ H', Exd H H' e C ((names.zip ws).reverse ++ [(("reason" : Str), V.str txt)]) → Q .non H'
end Fw
namespace Fw
open PySem PySem.Spec PyProof.Rows L2 NdefX
section
variable {P : Program} {w : World} {K : PySem.W.Frag} {mg : Str → Option Value} {base : Heap} {N ps : List Str} {f D cda cc : Addr} {fd : FuncData} {name qual : Str} {params : Arguments} {rest : List Stmt} {scope : Scope} {arg : Expr} {p0 p1 ap cp ep : Pos} {k : Nat} {sp : Sp} {tgt : Value}
  {TG : Addr → Addr → List V → Hp → (Hp → Prop) → Prop} {ar : Arg}
/-- .. as a def that keeps a promise -/
theorem okSup (M : SupM P K D f cda cc fd name qual params (supSt p0 p1 ap cp ep arg :: rest) scope)
    (S : NScope N ps ["__class__"] scope) (har : (params.posonlyargs ++ params.args).head? = some ar) (hN : N[0]? = some ar.arg) (hka : scope.names.lookup ar.arg = some .local) (hks : scope.names.lookup ("super" : Str) = some .globalImplicit)
    (hsm : mg ("super" : Str) = none) (htop : (P.main.scope.names.lookup ("super" : Str)).isSome = false)
    (hb : ∀ (doc pm : Value) (an : Option Addr) (ct : Value) (us : List Value), us.length = ps.length → bindArgs (PySem.W.fnX name qual params (supSt p0 p1 ap cp ep arg :: rest) scope [("__class__", cc)] .none .none doc pm an (.ref cda) ct) ⟨us, []⟩ = pure (ps.zip us))
    (hev : ∀ (A : Around) (outer : List Env) (s : Shared), ∃ pl : Sem Bool, eval (.Call (.Attribute (.Call (.Name "super" p0) [] [] p1) "__init__" ap) [arg] [] cp) (envF (supG name qual params p0 p1 ap cp ep arg rest scope cda cc) f s.heap.objs.size) = (do
      let ov ← attributeBase (.Call (.Name "super" p0) [] [] p1) "__init__" (envF (supG name qual params p0 p1 ap cp ep arg rest scope cda cc) f s.heap.objs.size) (eval (.Call (.Name "super" p0) [] [] p1) (envF (supG name qual params p0 p1 ap cp ep arg rest scope cda cc) f s.heap.objs.size))
      standAt ap.atName
      let (fx, first) ← holding [ov] (getMethod ov "__init__" pl)
      callWith cp fx first (backTo cp (starEach [arg] (envF (supG name qual params p0 p1 ap cp ep arg rest scope cda cc) f s.heap.objs.size))) []))
    (hin : ∀ L, interactive (envF (supG name qual params p0 p1 ap cp ep arg rest scope cda cc) f L) = false)
    (hsw : ∀ L, swapsWith (.Call (.Attribute (.Call (.Name "super" p0) [] [] p1) "__init__" ap) [arg] [] cp) none ep.line (envF (supG name qual params p0 p1 ap cp ep arg rest scope cda cc) f L) = pure false)
    (len : ∀ vs H Q E, sp vs H Q E → vs.length = ps.length)
    (hbody : ∀ (A : Around) (outer : List Env) (s : Shared) (H : Hp) (vs : List V) (Q : VK) (E : XK), Room k (A.deeper (envF (supG name qual params p0 p1 ap cp ep arg rest scope cda cc) f s.heap.objs.size)) → sp vs H Q E →
      ∃ (x C : Addr) (ta : TA) (tr : TS), vs[0]? = some (.ref x) ∧ H x = some (exo x C none) ∧ SupC K C D tgt ∧ PA (ncx CX0 P w K mg base N (supG name qual params p0 p1 ap cp ep arg rest scope cda cc) f A outer s H E) [arg] ta ∧
        PSs (ncx CX0 P w K mg base N (supG name qual params p0 p1 ap cp ep arg rest scope cda cc) f A outer s H E) rest tr ∧
        Tgt (ncx CX0 P w K mg base N (supG name qual params p0 p1 ap cp ep arg rest scope cda cc) f A outer s H E) D tgt arg cp TG ∧
        ta (startF N vs [none]) H fun ws H1 => TG x C ws H1 fun H2 => tr { nx := fun _ H' => Q .non H', rt := Q } (startF N vs [none]) H2) : Ok P w K mg base CX0 (k + 1) f ps sp := by
  have F := fn_sup M S har hN hka hks hsm htop len hev hin hsw hbody
  obtain ⟨oc, od, osl, lk⟩ := M.at_
  obtain ⟨doc, pm, an, ct, e⟩ := M.e
  refine ⟨fd, F, fun s us XK hl => ?_, M.kp, oc, od, osl, lk⟩
  rw [List.append_nil] at hl ⊢
  subst e
  exact BindsTo.of_eq (hb doc pm an ct us hl)
end
section
variable {K : PySem.W.Frag} {H H1 : Hp} {e C : Addr} {v : V} {f : Str} {i : Nat} {σ : L2.St} {D : Ends} {fs : List (Str × V)}
theorem ost_first (h0 : σ[0]? = some (some (.ref e))) (hi : σ[i]? = some (some v)) (T : OexC K C) (hno : PySem.W.findIn K (.ref C) f = some none) (he : H e = some (exo e C none)) (k : ∀ H2, Exd H H2 e C [(f, v)] → D.nx σ H2) : tOst K f (tVar 0) (tVar i) D σ H := by
  refine ⟨v, hi, .ref e, h0, e, C, rfl, T, hno, .inl ⟨he, fun dx d1 d2 => k _ ⟨dx, d1, d2, upd_same, by rw [upd_ne d2, upd_same], fun b o nb hb => ?_⟩⟩⟩
  rw [upd_ne nb, upd_ne (ne_of_none hb d1)]
  exact hb
theorem ost_next (h0 : σ[0]? = some (some (.ref e))) (hi : σ[i]? = some (some v)) (T : OexC K C) (hno : PySem.W.findIn K (.ref C) f = some none) (X : Exd H H1 e C fs) (hl : fs.length ≤ 900) (k : ∀ H2, Exd H H2 e C ((f, v) :: fs) → D.nx σ H2) : tOst K f (tVar 0) (tVar i) D σ H1 := by
  obtain ⟨dx, d1, d2, d3, d4, d5⟩ := X.q
  refine ⟨v, hi, .ref e, h0, e, C, rfl, T, hno, .inr ⟨dx, fs, d3, d4, hl, k _ ⟨dx, d1, d2, by rw [upd_ne d2.symm]; exact d3, upd_same, fun b o nb hb => ?_⟩⟩⟩
  rw [upd_ne (ne_of_none hb d1)]
  exact d5 b o nb hb
end
structure SaysS (file : Str) (fs : List DefS) (K : PySem.W.Frag) : Prop where
  ok : (fs.all fun d => d.ok file K) = true
  fn : (fs.map fun d => fnWS K (d.ad K)) = fs.map DefS.val
theorem SaysS.sup {P : Program} {fs : List DefS} {K : PySem.W.Frag} (c : SaysS P.main.file fs K) (i : Nat) {d : DefS} (hi : fs[i]? = some d := by rfl) : ∃ fd, SupM P K (d.D K) (d.ad K) (cdS K (d.ad K)) (ccS K (d.ad K)) fd d.name d.qual d.params d.body d.scope := by
  have e2 : (fs.map fun d => fnWS K (d.ad K))[i]? = (fs.map DefS.val)[i]? := by rw [c.fn]
  rw [List.getElem?_map, List.getElem?_map, hi] at e2
  exact DefS.supM (Option.some.inj e2) (List.all_eq_true.mp c.ok d (List.mem_of_getElem? hi))
abbrev AlE : Type := AlY × (Bool × List FnS)
def obsE (n : AsF) (fa : List He.Fa) (ts : List He.Tab) (ex : PySem.W.Frag → Bool) (fy : List DefY) (file : Str) (fs : List DefS) (g : Addr → Option Obj) : AlE :=
  (obsY n fa ts ex fy g, (fs.all fun d => d.ok file (frY n g), fs.map fun d => fnWS (frY n g) (d.ad (frY n g))))
def hookE (n : AsF) (fa : List He.Fa) (ts : List He.Tab) (ex : PySem.W.Frag → Bool) (fy : List DefY) (file : Str) (fs : List DefS) : PySem.W.Hook where
  α := AlE
  obs := fun s => obsE n fa ts ex fy file fs s.heap.get?
  val := fun w => (valY ts fy w, (true, fs.map DefS.val))
  says := fun w h => ∃ K : PySem.W.Frag, K.In h ∧ SaysY fa ts ex fy w h K ∧ SaysS file fs K
  of := fun w s e => by
    have e0 := congrArg (fun z : AlE => z.1) e
    have e1 := congrArg (fun z : AlY => z.1) e0
    have e2 := congrArg (fun z : AlY => z.2.1) e0
    have e3 := congrArg (fun z : AlY => z.2.2.1) e0
    have e4 := congrArg (fun z : AlY => z.2.2.2) e0
    have e5 := congrArg (fun z : AlE => z.2.1) e
    have e6 := congrArg (fun z : AlE => z.2.2) e
    exact ⟨_, He.frT_in, ⟨e1, e2, e3, e4⟩, ⟨e5, e6⟩⟩
  keeps := fun _ _ _ ⟨K, hK, c, d⟩ k => ⟨K, PySem.W.Frag.In.keeps hK k, ⟨c.t, c.more, c.ok, c.fn⟩, d⟩
theorem obsE_eq {n : AsF} {fa : List He.Fa} {ts : List He.Tab} {ex : PySem.W.Frag → Bool} {fy : List DefY} {file : Str} {fs : List DefS} {g : Addr → Option Obj} {s : Shared} (h : ∀ a, g a = s.heap.get? a) : obsE n fa ts ex fy file fs g = (hookE n fa ts ex fy file fs).obs s := by
  have e : g = s.heap.get? := funext h
  rw [e] <;> rfl
end Fw
namespace Fw
open PySem PySem.Spec PyProof.Rows L2 NdefX
def excB (K : PySem.W.Frag) (D : Addr) : Bool := He.eqO (PySem.W.findIn K (.ref D) "__getattribute__") (some (some (.builtin "BaseException.__getattribute__"))) && (He.eqO (PySem.W.findIn K (.ref D) "__getattr__") (some none) && (decide (PySem.W.subIn K (.ref D) (.type "BaseException") = some true) && (PySem.W.hasDictIn K D && (He.eqO (PySem.W.findIn K (.ref D) "__class__") (some (some (.builtin "object.__class__"))) && (He.eqO (PySem.W.specialIn K (.builtin "object.__class__") "__get__") (some (some (.builtin "getset_descriptor.__get__"))) && (decide (PySem.W.takesIn K (.builtin "object.__class__") = some true) && decide (PySem.W.mroIn K D (.type "object") = some true)))))))
theorem excB_ok {K : PySem.W.Frag} {D : Addr} (h : excB K D = true) : ExcC K D := by
  obtain ⟨h1, h⟩ := He.ba h
  obtain ⟨h2, h⟩ := He.ba h
  obtain ⟨h3, h⟩ := He.ba h
  obtain ⟨h4, h⟩ := He.ba h
  obtain ⟨h5, h⟩ := He.ba h
  obtain ⟨h6, h⟩ := He.ba h
  obtain ⟨h7, h8⟩ := He.ba h
  exact ⟨He.eqO_ok h1, He.eqO_ok h2, of_decide_eq_true h3, h4, He.eqO_ok h5, He.eqO_ok h6, of_decide_eq_true h7, of_decide_eq_true h8⟩
end Fw

namespace Fw
open PySem PySem.Spec PyProof.Rows L2 NdefX
/-! ### isinstance of a caught exception with fields -/
theorem kitx_exc {K : PySem.W.Frag} {x D : Addr} {ox : Obj} {od : Option Obj} (C : ExcC K D) : PySem.W.KitX K (.ref x) (.ref D) (fun h => PySem.W.InstAt h x ox D od) where
  ty := fun _ _ _ I => I.type
  it := fun M h X I => by
    obtain ⟨cd, hc, _⟩ := PySem.W.any_some C.hd
    unfold PySem.W.clsIn at hc
    split at hc
    · rename_i ho
      intro A Q E s k q
      obtain ⟨hh, g, d, t, os⟩ := s
      exact PySem.ks_wpAny_isType_cls (k _ _ (X _ _ ho)) rfl q
    · cases hc
  ne := fun h tp dd its n sl X htp => by
    obtain ⟨cd, hc, _⟩ := PySem.W.any_some C.hd
    unfold PySem.W.clsIn at hc
    split at hc
    · rename_i ho
      by_cases e : D = tp
      · subst e
        have z := X _ _ ho
        rw [htp] at z
        cases z
      · simpa using e
    · cases hc
  ca := fun X I k => PySem.W.kx_classE X I C.hg C.hk C.hs (PySem.W.findObj_dataE (by obtain ⟨cd, hc, _⟩ := PySem.W.any_some C.hd; rw [hc]; rfl) C.ha C.hn C.ht) C.hm k
/-- isinstance(e, c), e the exception that the suite holds, of the class at D -/
def rIsX (K : PySem.W.Frag) (a : Addr) (cls : Value) (d : Option Addr) : List V → Hp → VK → Prop := fun xs H Q => ∃ (D dd : Addr) (fs : List (Str × V)) (c : V) (cv : Value) (b : Bool), cls = .ref D ∧ ExcC K D ∧ d = some dd ∧ H dd = some (.xd fs) ∧ xs = [.ref a, c] ∧ (∀ u, RelV c u → u = cv) ∧ PySem.W.kitOne K (.ref D) cv = some b ∧ Q (.bl b) H
theorem call_isX {X : Cx} {a : Addr} {cls : Value} {d : Option Addr} {oe : Obj} {pn : List (Addr × Obj)} (hz : Zc cls d oe) (hf : ∃ vs, oe.data = .fields vs) : CallR (X.suite a ((a, oe) :: pn)) (.builtin "isinstance") (rIsX X.K a cls d) := by
  intro pins s σ H xs us Q I r h
  obtain ⟨D, dd, fs, c, cv, b, rfl, C, rfl, hdd, rfl, hcv, e, q⟩ := h
  cases r with
  | cons rx rr =>
    cases rr with
    | cons rt rr =>
      cases rr
      cases rx
      have ec := hcv _ rt
      subst ec
      obtain ⟨hget, _⟩ := I.pin (a, oe) (List.mem_append.mpr (.inl List.mem_cons_self))
      obtain ⟨vs, hv⟩ := hf
      have hx : ObjOk X.prog X.w H s.heap dd (.xd fs) := I.hok dd _ hdd
      obtain ⟨mA, hns, _⟩ := hx
      obtain ⟨od, ho, _⟩ := lookIn_ns hns
      have J : PySem.W.InstAt s.heap a oe D (some od) := ⟨hget, hz.1, by unfold PySem.W.notCls; rw [hv] <;> rfl, by rw [hz.2]; exact ho⟩
      exact PySem.W.kia_one (kitx_exc C) I.kIn J e (fun z => nomatch z) fun tk => ⟨.bl b, H, I.kept (t' := tk) fun _ _ z => z, rfl, q⟩
end Fw
namespace Fw
open PySem PySem.Spec PyProof.Rows L2 NdefX
/-! ### defs called within an except suite -/
def OkH (P : Program) (w : World) (K : PySem.W.Frag) (mg : Str → Option Value) (base : Heap) (CX : CXT) (k : Nat) (f : Addr) (ps : List Str) (sp : Sp) : Prop :=
  ∃ fd : FuncData, L2H.FnH P w K mg base CX k f fd ps sp ∧ Binds K fd ps [] ∧ PySem.W.keepIn K (.ref f) = true
section
variable {P : Program} {w : World} {K : PySem.W.Frag} {mg : Str → Option Value} {base : Heap}
theorem OkH.mono {CX : CXT} {j k : Nat} {f : Addr} {ps : List Str} {sp : Sp} (h : OkH P w K mg base CX j f ps sp) (l : j ≤ k) : OkH P w K mg base CX k f ps sp := by
  obtain ⟨fd, a, b⟩ := h
  exact ⟨fd, ⟨a.len, fun A outer s H args us vs Q E p hr => a.run A outer s H args us vs Q E p (hr.mono l)⟩, b⟩
theorem okDH {x qual : Str} {st : Stmt} {f : Addr} {N ps : List Str} {k : Nat} {sp : Sp} (F : FnIs K x qual st f) (S : FnScope N ps (defScope st))
    (hb : ∀ (kV doc pm : Value) (an : Option Addr) (cdv ct : Value) (us : List Value), us.length = ps.length → bindArgs (PySem.W.fnOf x qual (defArgs st) (defBody st) (defScope st) .none kV doc pm an cdv ct) ⟨us, []⟩ = pure (ps.zip us))
    (len : ∀ vs H Q E, sp vs H Q E → vs.length = ps.length)
    (hbody : ∀ (cdv : Value) (A : Around) (outer : List Env) (s : Shared) (H : Hp) (vs : List V) (Q : VK) (E : XK) (p : Addr × Obj), L2H.Hot1 A p → L2H.RoomH k (A.deeper (envOfC qual (defScope st) s.heap.objs.size f cdv)) → sp vs H Q E →
      ∃ t, PSs (L2H.cxH CX0 P w K mg base N qual (defScope st) f cdv A outer s H E p).nox (defBody st) t ∧ t { nx := fun _ H' => Q .non H', rt := Q } (start N vs) H) : OkH P w K mg base CX0 (k + 1) f ps sp := by
  obtain ⟨fd, F⟩ := F
  obtain ⟨oc, od, dV, kV, doc, pm, an, cdv, ct, osl, e, lk, hcd, hd, _⟩ := F.ex
  have hdn : dV = .none := by
    rcases hd with ⟨_, e2⟩ | ⟨e2, _⟩
    · exact e2
    · exact absurd rfl e2
  subst hdn
  refine ⟨fd, ?_, F.bindsN hb, F.kp⟩
  subst e
  exact L2H.fn_ofH lk hcd S len fun A outer s H vs Q E p hot hr hsp => by
    obtain ⟨t, h, q⟩ := hbody cdv A outer s H vs Q E p hot hr hsp
    exact ⟨t, h.nox, q⟩
theorem ok_zeroH {CX : CXT} {x qual : Str} {st : Stmt} {f : Addr} {ps : List Str} {sp : Sp} (F : FnIs K x qual st f)
    (hb : ∀ (kV doc pm : Value) (an : Option Addr) (cdv ct : Value) (us : List Value), us.length = ps.length → bindArgs (PySem.W.fnOf x qual (defArgs st) (defBody st) (defScope st) .none kV doc pm an cdv ct) ⟨us, []⟩ = pure (ps.zip us)) (h : ∀ vs H Q E, ¬ sp vs H Q E) : OkH P w K mg base CX 0 f ps sp := by
  obtain ⟨fd, F⟩ := F
  exact ⟨fd, ⟨fun _ _ _ _ z => (h _ _ _ _ z).elim, fun _ _ _ _ _ _ _ _ _ _ _ _ _ _ _ _ z => (h _ _ _ _ z).elim⟩, F.bindsN hb, F.kp⟩
end
section
variable {X : Cx} {CX : CXT} {k : Nat} {f : Addr} {ps : List Str} {sp : Sp} {x : Str} {p pos : Pos} {e : Expr} {es : List Expr} {t : TA}
theorem pe_callOH (hc : L2H.HotC X) (F : OkH X.prog X.w X.K X.mg X.base CX k f ps sp) (hr : L2H.RoomH k X.A) (hg : Gl X x) (hm : X.mg x = some (.ref f)) (hx : Passes CX X E0) (ha : PA X (e :: es) t)
    (hdb : (x == ("__debug__" : Str)) = false := by decide) (he : starEach (e :: es) X.env = (false, eval e X.env) :: starEach es X.env := by rfl) (hpl : (backTo pos (starEach es X.env)).any (·.1) = false := by rfl) :
    PE X (.Call (.Name x p) (e :: es) [] pos) (tCall sp [] E0 t) := by
  obtain ⟨fd, F, hb, hk⟩ := F
  refine ⟨fun pins s σ H Q I h => ?_⟩
  refine wpAny_Call_Name_kw (ld_glob I hg hm ?_ hdb)
  refine PySem.W.callWith_K (h₀ := X.base) I.ok.mod.kin hk (thn (ha.run pos pins s σ H _ I h) fun us s1 hh => ?_) he hpl
  obtain ⟨vs, H1, I1, r, q⟩ := hh
  rw [List.append_nil] at q
  exact ⟨I1.kIn, L2H.run_fnH (E := fun _ => E0) F hr hc hb (fun pins' H' s' e' s'' I' c => hx pins' σ H' s' e' s'' I' c) I1 r q⟩
end
theorem hot_in {CX : CXT} {P : Program} {w : World} {K : PySem.W.Frag} {mg : Str → Option Value} {base : Heap} {N : List Str} {qual : Str} {scope : Scope} {f : Addr} {cd : Value} {A : Around} {outer : List Env} {s : Shared} {H : Hp} {E : XK} {p : Addr × Obj} (hot : L2H.Hot1 A p) : L2H.HotC (L2H.cxH CX P w K mg base N qual scope f cd A outer s H E p).nox :=
  ⟨p, hot, List.mem_singleton.mpr rfl⟩
theorem hot_suite {X : Cx} {a : Addr} {oe : Obj} {cls : Value} {d : Option Addr} {pn : List (Addr × Obj)} (hz : L2N.Zn cls d oe) (hf : ∃ vs, oe.data = .fields vs) : L2H.HotC (X.suite a ((a, oe) :: pn)) := by
  obtain ⟨vs, hv⟩ := hf
  exact ⟨(a, oe), ⟨rfl, vs, hv, hz.2.2 vs hv⟩, List.mem_cons_self⟩
end Fw
namespace Fw
open PySem PySem.Spec PyProof.Rows L2 NdefX
/-! ### defs that raise -/
section
variable {P : Program} {w : World} {K : PySem.W.Frag} {mg : Str → Option Value} {base : Heap}
theorem okDX {x qual : Str} {st : Stmt} {f : Addr} {N ps : List Str} {k : Nat} {sp : Sp} (F : FnIs K x qual st f) (S : FnScope N ps (defScope st))
    (hb : ∀ (kV doc pm : Value) (an : Option Addr) (cdv ct : Value) (us : List Value), us.length = ps.length → bindArgs (PySem.W.fnOf x qual (defArgs st) (defBody st) (defScope st) .none kV doc pm an cdv ct) ⟨us, []⟩ = pure (ps.zip us))
    (len : ∀ vs H Q E, sp vs H Q E → vs.length = ps.length)
    (hbody : ∀ (cdv : Value) (A : Around) (outer : List Env) (s : Shared) (H : Hp) (vs : List V) (Q : VK) (E : XK), Room k (A.deeper (envOfC qual (defScope st) s.heap.objs.size f cdv)) → sp vs H Q E →
      ∃ t, PSs (cxOf (L2N.CX P w) P w K mg base N qual (defScope st) f cdv A outer s H E) (defBody st) t ∧ t { nx := fun _ H' => Q .non H', rt := Q } (start N vs) H) : Ok P w K mg base (L2N.CX P w) (k + 1) f ps sp := by
  obtain ⟨fd, F⟩ := F
  exact ⟨fd, F.ok S len fun cdv A outer s H vs Q E hr hsp => hbody cdv A outer s H vs Q E hr hsp, F.bindsN hb, F.kp, by obtain ⟨oc, od, _, _, _, _, _, _, _, osl, _, lk, _⟩ := F.ex; exact ⟨oc, od, osl, lk⟩⟩
end
/-- a promise of a def that may raise: what comes back, what is raised -/
def sp_xe (A : List V → Hp → Dst → (V → Hp → Prop) → (Value → Addr → Hp → Prop) → Prop) : Sp := fun vs H Q E => ∃ S P PE, A vs H S P PE ∧ Lx S H H ∧ (∀ v H', Lx S H H' → P v H' → Q v H') ∧ ∀ cls d H', Lx S H H' → PE cls d H' → E cls (some d) H'
/-- what is raised: an exception of the class at C with these fields -/
def Rais (S : Dst) (H : Hp) (C : Addr) (fs : List (Str × V)) : Value → Addr → Hp → Prop := fun cls d H' => cls = .ref C ∧ H d = none ∧ ¬ Sx S d ∧ H' d = some (.xd fs)
section
variable {K : PySem.W.Frag} {S : Dst} {σ : L2.St} {H : Hp} {tas : TA} {ta te tc : TE} {D : Ends} {C a : Addr} {ws vs : List V} {names : List Str} {txt : Str}
/-- raise C(..) -/
theorem s_raise {W : WX} (h : EvA K S tas σ H ws) (hl : ws.length = names.length) (hz : ws.length ≤ 900) (k : ∀ d H1, Lx S H H1 → Rais S H C ((names.zip ws).reverse ++ [(("reason" : Str), V.str txt)]) (.ref C) d H1 → W (.ref C) (some d) σ H1) :
    St K S (fun _ σ H => tMkO C (sp_exc C txt names) [] tas σ H fun cls d H' => W cls d σ H') D σ H := fun H1 e => h H1 e _ fun H2 e2 => ⟨by omega, fun x hx => by
  have w2 := e.trans e2
  rw [List.append_nil]
  refine ⟨x, ws, rfl, hl, upd_same, fun H' X => ?_⟩
  obtain ⟨dx, d1, d2, d3, d4, d5⟩ := X.q
  rw [upd_ne d2] at d1
  refine ⟨rfl, dx, _, d3, d4, d1, ?_⟩
  have keep : ∀ b o, H2 b = some o → upd (del H' x) dx (.xd ((names.zip ws).reverse ++ [(("reason" : Str), V.str txt)])) b = some o := fun b o hb => by
    have bx := ne_of_none hb hx
    rw [upd_ne (ne_of_none hb d1), del_ne bx]
    exact d5 b o bx (by rw [upd_ne bx]; exact hb)
  have w3 : Lx S H2 (upd (del H' x) dx (.xd ((names.zip ws).reverse ++ [(("reason" : Str), V.str txt)]))) := ⟨fun b o _ hb => keep b o hb, fun p hp => by
    obtain ⟨ns, a, b, c, d, q1, q2, q3⟩ := w2.2 p hp
    exact ⟨ns, a, b, c, d, keep _ _ q1, q2, keep _ _ q3⟩⟩
  exact k dx _ (w2.trans w3) ⟨rfl, w2.fresh d1, w2.ns d1, upd_same⟩⟩
/-- o.m(..) in a try's body -/
def tMethS (C : Addr) (m : Str) (sp : Sp) (E : L2.St → XK) (ta : TE) (t : TA) : TE := fun σ H Q => ta σ H fun x H1 => ∃ a dx fs, x = .ref a ∧ H1 a = some (.ins C dx fs) ∧ fs.lookup m = none ∧ t σ H1 fun vs H2 => sp (.ref a :: vs) H2 Q (E σ)
/-- err.f, isinstance(err, c) -/
theorem ev_xf {cls : Value} {d : Option Addr} {dd x : Addr} {fs : List (Str × V)} {f : Str} {v : V} (h : Ev K S te σ H (.ref x)) (hc : cls = .ref C) (hd : d = some dd) (hx : H dd = some (.xd fs)) (nd : ¬ Sx S dd) (l : fs.lookup f = some v) : Ev K S (tXf x cls d C f te) σ H v := fun H1 e Q q =>
  h H1 e _ fun H2 e2 => ⟨rfl, hc, dd, fs, v, hd, (e.trans e2).1 _ _ nd hx, l, q H2 e2⟩
theorem ev_isx {cls : Value} {d : Option Addr} {DD dd x : Addr} {fs : List (Str × V)} {c : V} {cv : Value} {b : Bool} (h : Ev K S te σ H (.ref x)) (h2 : Ev K S tc σ H c) (hc : cls = .ref DD) (X : ExcC K DD) (hd : d = some dd) (hx : H dd = some (.xd fs)) (nd : ¬ Sx S dd) (hcv : ∀ u, RelV c u → u = cv) (hk : PySem.W.kitOne K (.ref DD) cv = some b) :
    Ev K S (tCB (rIsX K x cls d) (tCons te (tCons tc tNil))) σ H (.bl b) := fun H1 e Q q =>
  ea_cons h (ea_cons h2 ea_nil) H1 e _ fun H2 e2 => ⟨DD, dd, fs, c, cv, b, hc, X, hd, (e.trans e2).1 _ _ nd hx, rfl, hcv, hk, q H2 e2⟩
/-- try: o.m(..) except .. as n: suite, where the call raises -/
theorem s_try {sp : Sp} {c : Value} {i : Nat} {ts : Addr → Value → Option Addr → TS} {Wout : WX} {m : Str} {fs : List (Str × V)} {PE : Value → Addr → Hp → Prop} (ho : Ev K S ta σ H (.ref a)) (ia : IA S H a C fs) (l : fs.lookup m = none) (h : EvA K S tas σ H vs)
    (k : ∀ H1, Lx S H H1 → ∀ (Q : VK) (E : XK), (∀ cls d H2, Lx S H1 H2 → PE cls d H2 → E cls (some d) H2) → sp (.ref a :: vs) H1 Q E)
    (kk : ∀ cls d H2, Lx S H H2 → PE cls d H2 → PySem.W.exmOne K cls c = some true ∧ ∀ x, H2 x = none →
      St K S (ts x cls (some d)) { nx := fun σ' H' => D.nx (σ'.set i none) H', rt := D.rt, bk := fun σ' H' => D.bk (σ'.set i none) H', ct := fun σ' H' => D.ct (σ'.set i none) H' } (σ.set i (some (.ref x))) H2) :
    St K S (fun D σ H => tDrop (tMethS C m sp (WE (wAs K c i ts Wout D)) ta tas) D σ H) D σ H := fun H1 e => ho H1 e _ fun H2 e2 => by
  obtain ⟨⟨dx, q2⟩, _⟩ := ia.mono (e.trans e2)
  refine ⟨a, dx, fs, rfl, q2, l, h H2 (e.trans e2) _ fun H3 e3 => ?_⟩
  have w3 := (e.trans e2).trans e3
  refine k H3 w3 _ _ fun cls d H4 e4 pe => ?_
  obtain ⟨h1, h2⟩ := kk cls d H4 (w3.trans e4) pe
  exact ⟨true, h1, fun _ x hx => h2 x hx H4 (w3.trans e4).refl, fun z => by cases z⟩
theorem spx_xe {A : List V → Hp → Dst → (V → Hp → Prop) → (Value → Addr → Hp → Prop) → Prop} {P' : V → Hp → Prop} (k : ∀ H1, Lx S H H1 → ∃ P PE, A vs H1 none P PE ∧ (∀ v H2, Lx S H1 H2 → P v H2 → P' v H2) ∧ ∀ cls d H2, ¬ PE cls d H2) : SpX K S (sp_xe A) vs H E0 P' := fun H1 e Q q => by
  obtain ⟨P, PE, a, i, n⟩ := k H1 e
  exact ⟨none, P, PE, a, Lx.rfl0, fun v H' e2 p => q v H' (e.refl.of0 e2) (i v H' (e.refl.of0 e2) p), fun cls d H' _ z => (n _ _ _ z).elim⟩
end
section
variable {X : Cx} {CX : CXT} {k : Nat} {C g : Addr} {ps : List Str} {sp : Sp} {E : L2.St → XK} {m : Str} {e o : Expr} {es : List Expr} {t : TA} {ta : TE} {pos apos : Pos}
theorem pe_methS {pl : Sem Bool} (he : PE X o ta) (c : Cls X.K C) (hm : Meth X.K C m g) (F : Ok X.prog X.w X.K X.mg X.base CX k g ps sp) (hr : Room k X.A) (hx : ∀ σ, PassesAt CX X σ (E σ)) (ha : PA X (e :: es) t)
    (hst : starEach (e :: es) X.env = (false, eval e X.env) :: starEach es X.env := by rfl) (hpl : (backTo pos (starEach es X.env)).any (·.1) = false := by rfl)
    (ht : eval (.Call (.Attribute o m apos) (e :: es) [] pos) X.env = (do
      let ov ← eval o X.env
      standAt apos.atName
      let (f, first) ← holding [ov] (getMethod ov m pl)
      callWith pos f first (backTo pos (starEach (e :: es) X.env)) (backToKw pos (keywordEach [] X.env))) := by rfl) :
    PE X (.Call (.Attribute o m apos) (e :: es) [] pos) (tMethS C m sp E ta t) := by
  obtain ⟨fd, F, hb, hk, _⟩ := F
  refine ⟨fun pins s σ H Q I h => ?_⟩
  refine PySem.W.methodCall_KW (pl := pl) (thn (he.run pins s σ H _ I h) fun u s1 hh => ?_) ht
  obtain ⟨x, H1, I1, rx, a, dx, fs, ex, ea, l, q⟩ := hh
  subst ex
  obtain rfl : u = Value.ref a := rx
  refine getmeth_ok I1 ea c hm l ?_
  refine PySem.W.callWith_K (first := [.ref a]) (h₀ := X.base) I.ok.mod.kin hm.kp (thn (ha.run pos pins s1 σ H1 _ I1 q) fun us s2 hh => ?_) hst hpl
  obtain ⟨vs, H2, I2, r, q2⟩ := hh
  exact ⟨I2.kIn, run_fnS (us := .ref a :: us) (vs := .ref a :: vs) F hr hb (hx σ) I2 (.cons rfl r) q2⟩
theorem passS {X : Cx} {W : WX} (tk : L2N.Takes X W) : ∀ σ, PassesAt (L2N.CX X.prog X.w) X σ (WE W σ) := fun σ => L2N.passAt tk σ
end
end Fw

/-! an operator of two instances of one own class; try with more clauses behind the one that takes -/
namespace PySem.W
open PySem PySem.Spec PySem.Calls PyProof.Rows
section
variable {prog : Program} {w : World} {A : Around} {E : Value → Shared → Prop} {s : Shared} {K : Frag} {x y C L f : Addr} {h₀ : Heap} {m : Str → Option Value} {ox oy : Obj} {od oe : Option Obj}
theorem fw_binSame {op : Operator} {Q : Value → Shared → Prop} (F : Fr h₀ L s.heap m) (X₀ : K.In h₀) (I : InstAt s.heap x ox C od) (J : InstAt s.heap y oy C oe) (hc : selfFirst K C = true)
    (hs : findIn K (.ref C) (PySem.dunder op.info.2) = some (some (.ref f))) (hf : isFn K (.ref f) = true) (h : wpAny (model prog w) A (call (.ref f) [.ref x, .ref y]) (CmpBack Q) E s) : wpAny (model prog w) A (binaryOp op (.ref x) (.ref y)) Q E s := by
  have X := X₀.keeps F.keep
  obtain ⟨cd, rest, hcd, hm⟩ := ksp_first hc
  rcases hi : op.info with ⟨sym, nm'⟩
  rw [hi] at hs
  dsimp only at hs
  have one := ksp_try X I hs hf h
  obtain ⟨hh, g, d, tt, os⟩ := s
  have L1 : Looks (model prog w) hh (typeOf (.ref x)) (.ref C) := I.type
  have L2 : Looks (model prog w) hh (typeOf (.ref y)) (.ref C) := J.type
  have L3 : Looks (model prog w) hh (fillsNumberSlot (.ref C) nm') true := fills_K X hcd hm hs
  have heq : (Value.ref C == Value.ref C) = true := beq_self_eq_true _
  simp only [binaryOp, hi]
  refine wpAny_holding (wpAny_bind ?_)
  unfold binaryOp1
  refine wpAny_bind (L1.at (wpAny_bind (L2.at (wpAny_bind (L3.at ?_)))))
  simp only [heq, if_true]
  ksp_lk
  refine wpAny_mono one (fun r s' hr' => ?_) fun _ _ e => e
  obtain ⟨v, rfl, hq⟩ := hr'
  ksp_lk
  exact hq
end
end PySem.W
namespace Fw
open PySem PySem.Spec PyProof.Rows L2
def rBinS (C : Addr) (sp : Sp) (E : XK) : R2 := fun x y H Q => ∃ a b, x = .ref a ∧ y = .ref b ∧ (∃ dx fs, H a = some (.ins C dx fs)) ∧ (∃ dx fs, H b = some (.ins C dx fs)) ∧ sp [.ref a, .ref b] H Q E
def tBinS (C : Addr) (sp : Sp) (E : L2.St → XK) (ta tb : TE) : TE := fun σ H Q => ta σ H fun x H1 => tb σ H1 fun y H2 => ∃ a b, x = .ref a ∧ y = .ref b ∧ (∃ dx fs, H2 a = some (.ins C dx fs)) ∧ (∃ dx fs, H2 b = some (.ins C dx fs)) ∧ sp [.ref a, .ref b] H2 Q (E σ)
section
variable {X : Cx} {CX : CXT} {k : Nat} {C g : Addr} {ps : List Str} {sp : Sp} {op : Operator} {a b : Expr} {ta tb : TE} {pos : Pos}
theorem op_binS {E : XK} (K : PySem.W.Frag) (hK : X.K = K) (hc : PySem.W.selfFirst K C = true) (hm : Meth K C (PySem.dunder op.info.2) g) (F : Ok X.prog X.w K X.mg X.base CX k g ps sp) (hr : Room k X.A) (hx : Passes CX X E) : OpR X (binaryOp op) (rBinS C sp E) := by
  subst hK
  intro pins s σ H x y v u Q I rx ry h
  obtain ⟨p, q, rfl, rfl, hp, hq, z⟩ := h
  cases (show v = Value.ref p from rx)
  cases (show u = Value.ref q from ry)
  obtain ⟨_, _, J⟩ := inst_at I hp
  obtain ⟨_, _, J2⟩ := inst_at I hq
  obtain ⟨m, hF⟩ := I.fr
  refine PySem.W.fw_binSame hF I.ok.mod.kin J J2 hc hm.at_ hm.fn (wpAny_mono (wpAny_call (run_fnR (us := [.ref p, .ref q]) (vs := [.ref p, .ref q]) F.r hr hx I (.cons rfl (.cons rfl .nil)) z)) (fun w s' z => ?_) fun _ _ x => x)
  obtain ⟨z', H', I', rz, qz⟩ := z
  exact SlX.cmpback rz ⟨z', H', I', rz, qz⟩
theorem pe_binS {E : L2.St → XK} (K : PySem.W.Frag) (hK : X.K = K) (hc : PySem.W.selfFirst K C = true) (hm : Meth K C (PySem.dunder op.info.2) g) (F : Ok X.prog X.w K X.mg X.base CX k g ps sp) (hr : Room k X.A) (hx : ∀ σ, PassesAt CX X σ (E σ)) (ha : PE X a ta) (hb : PE X b tb) : PE X (.BinOp a op b pos) (tBinS C sp E ta tb) := by
  subst hK
  obtain ⟨fd, F, hbd, hk, _⟩ := F
  refine ⟨fun pins s σ H Q I h => ?_⟩
  refine wpAny_BinOp (binT ha hb I h fun v u s2 x y H2 I2 rx ry z => ?_)
  obtain ⟨p, q, rfl, rfl, hp, hq, z⟩ := z
  cases (show v = Value.ref p from rx)
  cases (show u = Value.ref q from ry)
  obtain ⟨_, _, J⟩ := inst_at I2 hp
  obtain ⟨_, _, J2⟩ := inst_at I2 hq
  obtain ⟨m, hF⟩ := I2.fr
  refine PySem.W.fw_binSame hF I2.ok.mod.kin J J2 hc hm.at_ hm.fn (wpAny_mono (run_fnS (us := [.ref p, .ref q]) (vs := [.ref p, .ref q]) F hr hbd (hx σ) I2 (.cons rfl (.cons rfl .nil)) z) (fun w s' z => ?_) fun _ _ x => x)
  obtain ⟨z', H', I', rz, qz⟩ := z
  exact SlX.cmpback rz ⟨z', H', I', rz, qz⟩
end
section
variable {K : PySem.W.Frag} {S : Dst} {σ : L2.St} {H : Hp} {ta tb : TE} {C a b : Addr} {fs gs : List (Str × V)} {sp : Sp} {P : V → Hp → Prop}
theorem rvx_binS {E : XK} (i : IA S H a C fs) (j : IA S H b C gs) (k : SpX K S sp [.ref a, .ref b] H E P) : RVX K S (rBinS C sp E) (.ref a) (.ref b) H P := fun H1 e Q q => by
  obtain ⟨⟨dx, q1⟩, _⟩ := i.mono e
  obtain ⟨⟨dy, q2⟩, _⟩ := j.mono e
  exact ⟨a, b, rfl, rfl, ⟨_, _, q1⟩, ⟨_, _, q2⟩, k H1 e Q q⟩
end
end Fw
namespace L2N
open PySem PySem.Spec PyProof.Rows L2
section
variable {X : Cx} {x n : Str} {c : Value} {i : Nat} {body suite : List Stmt} {b₀ : Stmt} {hds : List ExceptHandler} {np pos pos' : Pos} {tb : WX → TS} {ts : Addr → Value → Option Addr → TS}
/-- the first clause takes whatever comes: the clauses behind it stay unasked -/
theorem fw_try_first (hs : X.stack = X.env :: X.outer) (hf : X.env.frame = some X.env.locals) (hN : X.N.Nodup) (hi : X.N[i]? = some n) (hln : X.env.kindOf n = some .local) (hc : Names X x c)
    (hb : ∀ (W : WX) (pn : List (Addr × Obj)) (xe : Value → Shared → Prop), Takes (X.tr pn xe) W → PassesOwn (model X.prog X.w) X.A X.env xe → PSs (X.tr pn xe) body (tb W))
    (hsu : ∀ (a : Addr) (oe : Obj) (cls : Value) (d : Option Addr) (pn : List (Addr × Obj)), Zn cls d oe → (∃ vs, oe.data = .fields vs) → PSs (X.suite a ((a, oe) :: pn)) (b₀ :: suite) (ts a cls d)) :
    PS X (.Try body (.ExceptHandler (some (.Name x np)) (some n) (b₀ :: suite) pos' :: hds) [] [] pos) (fun D σ H => tb (wAs X.K c i ts (fun _ _ _ _ => False) D) D σ H) := by
  refine ⟨fun pins s σ H D I h => ?_⟩
  have ok := I.ok
  have hfr : X.A.frames = some (X.env :: X.outer) := by rw [ok.frames, hs]
  refine wpAny_Try_except ?_
  refine wpAny_mono ((hb (wAs X.K c i ts (fun _ _ _ _ => False) D) (X.pn ++ pins) (fun e s₁ => wpAny (model X.prog X.w) X.A (noteFrame e X.env) (fun _ s₂ => wpAny (model X.prog X.w) X.A (setFlight e none) (fun _ s₃ =>
    wpAny (model X.prog X.w) X.A (handleBy e X.env (.ExceptHandler (some (.Name x np)) (some n) (b₀ :: suite) pos' :: hds)) (SP X pins D) X.xe s₃) X.xe s₂) X.xe s₁) (fun u s' xx => ?_) PassesOwn.looking).run [] s σ H D (I.toTry _) h) (fun f s1 hsp => ?_) (fun e s1 he => he)
  · obtain ⟨a, B, sI, pins', σ', H', cls, d, rfl, J', nb, up, sky, na, os, ag, b, hb1, hyes, hno⟩ := xx
    obtain rfl : b = true := by
      cases b with
      | true => rfl
      | false => exact (hno rfl).elim
    have J : Inv X pins σ' H' sI := J'.ofTry ok
    have sky' : Sky B (X.env :: X.outer) a (Zn cls d) X.env.locals s'.heap := by rw [← hs]; exact sky
    show wpAny (model X.prog X.w) X.A (noteFrame (.ref a) X.env) _ _ _
    refine Sky.land Zn.steady hfr hf sky' fun h3 fl3 up3 => ?_
    have J3 : Inv X pins σ' H' { s' with heap := h3 } := J.landed nb fl3.1 (up.trans up3) os ag
    obtain ⟨oe3, vs3, he3, hz3, hd3⟩ := fl3.there
    have nfr : a ∉ frs (X.env :: X.outer) := fun hm => by
      obtain ⟨_, o', e', hnf⟩ := (fl3.2.2.1).mem hm
      rw [he3] at e'; cases e'
      exact hnf _ hd3
    have nL : a ≠ X.env.locals := fun z => nfr (List.mem_filterMap.mpr ⟨X.env, List.mem_cons_self, by rw [hf, z]⟩)
    have nF : a ∉ X.fs := fun hm => by
      obtain ⟨e, he, q⟩ := List.mem_filterMap.mp hm
      exact nfr (List.mem_filterMap.mpr ⟨e, List.mem_cons_of_mem _ he, q⟩)
    have S3 := J3.suite he3 hd3 na nL nF
    refine wpAny_handleBy_cons (codeAny_handlers_test ?_) (by intro q; cases q)
    have LT : PySem.W.Looks (model X.prog X.w) h3 (typeOf (.ref a)) cls := fun A Q E s k q => wpAny_typeOf_ref (k _ _ he3) (by rw [hz3.1]; exact q)
    have LM := PySem.W.exm_one (M := model X.prog X.w) (J3.kIn) LT hb1
    have test : ∀ {Q : Value → Shared → Prop} {E : Value → Shared → Prop}, Q c { s' with heap := h3 } → wpAny (model X.prog X.w) (X.A.mark (some (.ref a))) (eval (.Name x np) X.env) Q E { s' with heap := h3 } := fun {Q E} q => by
      obtain ⟨hg, hdbg, hm | ⟨hm, hv, hnn⟩⟩ := hc
      · exact ld_glob (X := X.suite a ((a, oe3) :: (X.pn ++ pins))) S3 hg hm q hdbg
      · exact ld_blt (X := X.suite a ((a, oe3) :: (X.pn ++ pins))) S3 hg hm hv q hnn hdbg
    refine test (LM.here ?_)
    refine codeAny_handlers_suite_as ?_
    refine HandSPX.lands_againZ fl3 fun h4 fl4 up4 => ?_
    have J4 : Inv X pins σ' H' { s' with heap := h4 } := J.landed nb fl4.1 ((up.trans up3).trans up4) os ag
    obtain ⟨oe4, vs4, he4, hz4, hd4⟩ := fl4.there
    have S4 := J4.suite he4 hd4 na nL nF
    refine store_ok (X := X.suite a ((a, oe4) :: (X.pn ++ pins))) (v := .ref a) S4 hN hi (.inl hln) rfl (fun s5 S5 => ?_) (.inr hln)
    refine wpAny_mono ((hsu a oe4 cls d (X.pn ++ pins) hz4 ⟨_, hd4⟩).run [] s5 _ H' _ S5 (hyes rfl a na)) (fun f s6 hsp => ?_) (fun _ _ z => False.elim z)
    have end_ : ∀ {σ6 : St} {H6 : Hp} {Q : Shared → Prop}, Inv (X.suite a ((a, oe4) :: (X.pn ++ pins))) [] σ6 H6 s6 → (∀ s7, Inv X pins (σ6.set i none) H6 s7 → Q s7) →
        wpAny (model X.prog X.w) X.A (do bindName X.env n .none; unbindBehindTheSuite X.env n pos') (fun _ s7 => Q s7) X.xe s6 := fun {σ6 H6 Q} S6 hq => gone_ok (S6.unsuite ok) hN hi hln hq
    cases f with
    | next => obtain ⟨σ6, H6, S6, q6⟩ := hsp; exact end_ S6 fun s7 J7 => ⟨_, _, J7, q6⟩
    | brk => obtain ⟨σ6, H6, S6, q6⟩ := hsp; exact end_ S6 fun s7 J7 => ⟨_, _, J7, q6⟩
    | cont => obtain ⟨σ6, H6, S6, q6⟩ := hsp; exact end_ S6 fun s7 J7 => ⟨_, _, J7, q6⟩
    | ret u => obtain ⟨v6, σ6, H6, S6, r6, q6⟩ := hsp; exact end_ S6 fun s7 J7 => ⟨_, _, _, J7, r6, q6⟩
  · cases f with
    | next => obtain ⟨σ', H', J', q⟩ := hsp; exact wpAny_execs_nil ⟨σ', H', J'.ofTry ok, q⟩
    | brk => obtain ⟨σ', H', J', q⟩ := hsp; exact ⟨σ', H', J'.ofTry ok, q⟩
    | cont => obtain ⟨σ', H', J', q⟩ := hsp; exact ⟨σ', H', J'.ofTry ok, q⟩
    | ret u => obtain ⟨v, σ', H', J', r, q⟩ := hsp; exact ⟨v, σ', H', J'.ofTry ok, r, q⟩
end
end L2N
namespace Fw
open PySem PySem.Spec PyProof.Rows L2
section
variable {K : PySem.W.Frag} {S : Dst} {σ : L2.St} {H : Hp} {ta tb : TE} {D : Ends} {C a b : Addr} {fs gs : List (Str × V)}
/-- try: n = l op r except .. as e: suite -/
theorem s_tryB {sp : Sp} {c : Value} {i j : Nat} {ts : Addr → Value → Option Addr → TS} {Wout : WX} {P : V → Hp → Prop} {PE : Value → Addr → Hp → Prop} (ha : Ev K S ta σ H (.ref a)) (hb : Ev K S tb σ H (.ref b)) (ia : IA S H a C fs) (ib : IA S H b C gs)
    (k : ∀ H1, Lx S H H1 → ∀ (Q : VK) (E : XK), (∀ v H2, Lx S H1 H2 → P v H2 → Q v H2) → (∀ cls d H2, Lx S H1 H2 → PE cls d H2 → E cls (some d) H2) → sp [.ref a, .ref b] H1 Q E)
    (kn : ∀ v H2, Lx S H H2 → P v H2 → D.nx (σ.set j (some v)) H2)
    (kk : ∀ cls d H2, Lx S H H2 → PE cls d H2 → PySem.W.exmOne K cls c = some true ∧ ∀ x, H2 x = none →
      St K S (ts x cls (some d)) { nx := fun σ' H' => D.nx (σ'.set i none) H', rt := D.rt, bk := fun σ' H' => D.bk (σ'.set i none) H', ct := fun σ' H' => D.ct (σ'.set i none) H' } (σ.set i (some (.ref x))) H2) :
    St K S (fun D σ H => tAsg (tBinS C sp (WE (wAs K c i ts Wout D)) ta tb) (gName j) D σ H) D σ H := fun H1 e => ha H1 e _ fun H2 e2 => hb H2 (e.trans e2) _ fun H3 e3 => by
  have w3 := (e.trans e2).trans e3
  obtain ⟨⟨dx, q1⟩, _⟩ := ia.mono w3
  obtain ⟨⟨dy, q2⟩, _⟩ := ib.mono w3
  refine ⟨a, b, rfl, rfl, ⟨_, _, q1⟩, ⟨_, _, q2⟩, k H3 w3 _ _ (fun v H4 e4 p => kn v H4 (w3.trans e4) p) fun cls d H4 e4 pe => ?_⟩
  obtain ⟨h1, h2⟩ := kk cls d H4 (w3.trans e4) pe
  exact ⟨true, h1, fun _ x hx => h2 x hx H4 (w3.trans e4).refl, fun z => by cases z⟩
end
end Fw

namespace Fw
open PySem PySem.Spec PyProof.Rows L2
section
variable {K : PySem.W.Frag} {S : Dst} {σ : L2.St} {H : Hp} {ta te : TE} {tz : TS} {D : Ends} {l : Addr} {vs xs : List V}
/-- a call that may raise -/
theorem spx_xE {A : List V → Hp → Dst → (V → Hp → Prop) → (Value → Addr → Hp → Prop) → Prop} {E : XK} {P' : V → Hp → Prop} (k : ∀ H1, Lx S H H1 → ∃ P PE, A vs H1 none P PE ∧ (∀ v H2, Lx S H1 H2 → P v H2 → P' v H2) ∧ ∀ cls d H2, Lx S H1 H2 → PE cls d H2 → E cls (some d) H2) : SpX K S (sp_xe A) vs H E P' := fun H1 e Q q => by
  obtain ⟨P, PE, a, i, n⟩ := k H1 e
  exact ⟨none, P, PE, a, Lx.rfl0, fun v H' e2 p => q v H' (e.refl.of0 e2) (i v H' (e.refl.of0 e2) p), fun cls d H' e2 z => n _ _ _ (e.refl.of0 e2) z⟩
/-- .. that does not raise here, whatever is caught -/
theorem spx_xN {A : List V → Hp → Dst → (V → Hp → Prop) → (Value → Addr → Hp → Prop) → Prop} {E : XK} {P' : V → Hp → Prop} (k : ∀ H1, Lx S H H1 → ∃ P PE, A vs H1 none P PE ∧ (∀ v H2, Lx S H1 H2 → P v H2 → P' v H2) ∧ ∀ cls d H2, ¬ PE cls d H2) : SpX K S (sp_xe A) vs H E P' := spx_xE fun H1 e => by
  obtain ⟨P, PE, a, i, n⟩ := k H1 e
  exact ⟨P, PE, a, i, fun _ _ _ _ z => (n _ _ _ z).elim⟩
theorem Rais.back {H1 H' : Hp} {C : Addr} {fs : List (Str × V)} {cls : Value} {d : Addr} (e : Lx S H H1) (r : Rais S H1 C fs cls d H') : Rais S H C fs cls d H' := by
  obtain ⟨a, b, c, f⟩ := r
  exact ⟨a, e.fresh b, c, f⟩
/-- l.reverse() -/
theorem s_rev (hl : H l = some (.lst xs)) (ns : ¬ Sx S l) (ho : Ev K S ta σ H (.ref l)) (k : ∀ H1, Lx S (upd H l (.lst xs.reverse)) H1 → tz D σ H1) : St K S (tSeq (tDrop (tBM0 K "list" rReverse ta)) tz) D σ H := fun H1 e => ho H1 e _ fun H2 e2 =>
  ⟨.inl ⟨rfl, _, SqL.of ((e.trans e2).1 l _ ns hl)⟩, l, xs, rfl, rfl, (e.trans e2).1 l _ ns hl, k _ ((e.trans e2).upd ns)⟩
end
/-! ### routes, plainly -/
structure RouteP (adj : Nat → List Nat) (i j n : Nat) (ls : List Nat) : Prop where
  len : ls.length = n + 1
  fst : ls[0]? = some i
  lst : ls[n]? = some j
  stp : ∀ (k x y : Nat), ls[k]? = some x → ls[k + 1]? = some y → y ∈ adj x
/-- a route from behind, m steps still to go -/
structure Bk (adj : Nat → List Nat) (j m n x : Nat) (acc : List Nat) : Prop where
  len : acc.length + m = n + 1
  fst : acc[0]? = some j
  lst : acc[acc.length - 1]? = some x
  stp : ∀ (k x y : Nat), acc[k]? = some x → acc[k + 1]? = some y → x ∈ adj y
theorem Bk.start {adj : Nat → List Nat} {j n : Nat} : Bk adj j n n j [j] := ⟨by simp; omega, rfl, rfl, fun k x y _ h => by simp at h⟩
theorem Bk.next {adj : Nat → List Nat} {j m n x y : Nat} {acc : List Nat} (B : Bk adj j (m + 1) n x acc) (h : x ∈ adj y) : Bk adj j m n y (acc ++ [y]) := by
  have l0 : 0 < acc.length := (List.getElem?_eq_some_iff.mp B.fst).1
  refine ⟨by rw [List.length_append]; have := B.len; simp; omega, by rw [List.getElem?_append_left l0]; exact B.fst, by rw [List.length_append]; simp, fun k a b ha hb => ?_⟩
  by_cases hk : k + 1 < acc.length
  · rw [List.getElem?_append_left (by omega)] at ha hb
    exact B.stp k a b ha hb
  · have h2 := (List.getElem?_eq_some_iff.mp hb).1
    rw [List.length_append] at h2
    have e : k = acc.length - 1 := by simp at h2; omega
    subst e
    rw [List.getElem?_append_left (by omega), B.lst] at ha
    rw [List.getElem?_append_right (by omega)] at hb
    have z : acc.length - 1 + 1 - acc.length = 0 := by omega
    rw [z] at hb
    simp at ha hb
    subst ha hb
    exact h
theorem Bk.route {adj : Nat → List Nat} {i j n : Nat} {acc : List Nat} (B : Bk adj j 0 n i acc) : RouteP adj i j n acc.reverse := by
  have L := B.len
  have l0 : 0 < acc.length := (List.getElem?_eq_some_iff.mp B.fst).1
  refine ⟨by rw [List.length_reverse]; omega, by rw [List.getElem?_reverse l0]; exact B.lst, ?_, fun k x y hx hy => ?_⟩
  · rw [List.getElem?_reverse (by omega)]
    have z : acc.length - 1 - n = 0 := by omega
    rw [z]
    exact B.fst
  · have h2 := (List.getElem?_eq_some_iff.mp hy).1
    rw [List.length_reverse] at h2
    rw [List.getElem?_reverse (by omega)] at hx hy
    have z : acc.length - 1 - k = acc.length - 1 - (k + 1) + 1 := by omega
    rw [z] at hx
    exact B.stp _ _ _ hy hx
end Fw
namespace Fw
open PySem PySem.Spec PyProof.Rows L2
theorem wk_zero {adj : Nat → List Nat} {a n b : Nat} (w : Wk adj a n b) (h : n = 0) : b = a := by
  cases w with
  | nil => rfl
  | snoc _ _ => cases h
theorem dist_lt {r : Nat} {rows : List KT} {i g c : Nat} {cnt bef : Nat → Option Nat} (D : Dist (goalsOf r rows) i cnt bef) (hi : i ≤ 2 * r) (h : cnt g = some c) : g < 4 * r + 1 := by
  cases D.snd _ _ h with
  | nil => omega
  | snoc _ m => exact List.mem_range.mp (List.mem_filter.mp m).1
end Fw
namespace Fw
open PySem PySem.Spec PyProof.Rows L2
/-- -1 where nothing is -/
def oM : Option Nat → V
  | none => .int (-1)
  | some n => .int (n : Int)
def rowM (n : Nat) (f : Nat → Option Nat) : List V := (List.range n).map fun u => oM (f u)
theorem rowM_len {n : Nat} {f : Nat → Option Nat} : (rowM n f).length = n := by unfold rowM; rw [List.length_map, List.length_range]
theorem rowM_get {n u : Nat} {f : Nat → Option Nat} (h : u < n) : (rowM n f)[u]? = some (oM (f u)) := by unfold rowM; rw [List.getElem?_map, List.getElem?_range h]; rfl
theorem rowM_set {n u v : Nat} {f : Nat → Option Nat} : (rowM n f).set u (.int (v : Int)) = rowM n (setF f u v) := by
  apply List.ext_getElem?
  intro i
  by_cases hi : i < n
  · rw [rowM_get hi]
    by_cases e : u = i
    · subst e
      rw [List.getElem?_set_self (by rw [rowM_len]; exact hi)]
      unfold setF
      rw [if_pos rfl]
      rfl
    · rw [List.getElem?_set_ne e, rowM_get hi]
      unfold setF
      rw [if_neg (fun z => e z.symm)]
  · rw [List.getElem?_eq_none (by rw [List.length_set, rowM_len]; omega), List.getElem?_eq_none (by rw [rowM_len]; omega)]
theorem rowM_none {n : Nat} : (List.replicate n [V.int (-1)]).flatten = rowM n fun _ => none := by
  unfold rowM
  induction n with
  | zero => rfl
  | succ n ih => rw [List.range_succ, List.map_append, ← ih, List.replicate_succ', List.flatten_append]; rfl
/-- a list of the goals of each level -/
structure GoalsA (S : Dst) (H : Hp) (v : V) (n : Nat) (adj : Nat → List Nat) : Prop where
  q : ∃ p rs, v = .ref p ∧ H p = some (.lst rs) ∧ ¬ Sx S p ∧ rs.length = n ∧ ∀ (i : Nat) (y : V), rs[i]? = some y → ∃ q, y = .ref q ∧ H q = some (.lst ((adj i).map iv)) ∧ ¬ Sx S q
theorem GoalsA.mono {S : Dst} {H H1 : Hp} {v : V} {n : Nat} {adj : Nat → List Nat} (h : GoalsA S H v n adj) (e : Lx S H H1) : GoalsA S H1 v n adj := by
  obtain ⟨p, rs, a, b, c, d, f⟩ := h.q
  exact ⟨p, rs, a, e.1 _ _ c b, c, d, fun i y hy => let ⟨q, x, y, z⟩ := f i y hy; ⟨q, x, e.1 _ _ z y, z⟩⟩
theorem GoalsA.len {K : PySem.W.Frag} {S : Dst} {H : Hp} {v : V} {n : Nat} {adj : Nat → List Nat} {σ : L2.St} {t0 : TE} (h : GoalsA S H v n adj) (h0 : Ev K S t0 σ H v) : Ev K S (tCB (rLn K) (tCons t0 tNil)) σ H (.int (n : Int)) := by
  obtain ⟨p, rs, rfl, a, b, rfl, _⟩ := h.q
  exact ev_cb (ea_cons h0 ea_nil) (rc_len (LA.of a b))
theorem GoalsA.row {S : Dst} {H : Hp} {v : V} {n i : Nat} {adj : Nat → List Nat} (h : GoalsA S H v n adj) (hi : i < n) : ∃ q, (∀ {K : PySem.W.Frag} {σ : L2.St} {t0 t1 : TE} {H' : Hp}, Lx S H H' → Ev K S t0 σ H' v → Ev K S t1 σ H' (.int (i : Int)) → Ev K S (tOp (rIxL K) t0 t1) σ H' (.ref q)) ∧ H q = some (.lst ((adj i).map iv)) ∧ ¬ Sx S q := by
  obtain ⟨p, rs, rfl, a, b, rfl, f⟩ := h.q
  obtain ⟨q, hq, x, z⟩ := f i _ (List.getElem?_eq_getElem hi)
  exact ⟨q, fun e h0 h1 => ev_op h0 h1 (rv_ixL (LA.of (e.1 _ _ b a) b) (at_of (j := i) rfl (by rw [List.getElem?_eq_getElem hi, hq]))), x, z⟩
def goalsL (r : Nat) (ks : List KT) (i : Nat) : List Nat := (List.range (4 * r + 1)).filter fun g => stepL r ks i g
theorem goalsL_eq {r : Nat} {rows ks : List KT} (h : ∀ k, k ∈ rows ↔ k ∈ ks) (ok : ∀ k ∈ rows, k ∈ cellsOf r) (r1 : r ≤ 4) : goalsL r ks = goalsOf r rows := by
  funext i
  unfold goalsL goalsOf
  congr 1
  funext g
  exact stepL_eq h ok r1 i g
theorem goalsL_lt {r : Nat} {ks : List KT} {i g : Nat} (h : g ∈ goalsL r ks i) : g < 4 * r + 1 := List.mem_range.mp (List.mem_filter.mp h).1
section
variable {K : PySem.W.Frag} {S : Dst} {σ : L2.St} {H : Hp} {ta tb te : TE} {D : Ends} {tz : TS} {v : V} {l : Addr} {xs : List V} {i : Int}
/-- l.insert(i, v) -/
theorem s_insert (hl : H l = some (.lst xs)) (ns : ¬ Sx S l) (ho : Ev K S ta σ H (.ref l)) (hi : Ev K S tb σ H (.int i)) (hv : Ev K S te σ H v) (hz : xs.length < sizeLine) (h0 : 0 ≤ i) (h1 : i < 2 ^ 63) (k : St K S tz D σ (upd H l (.lst (xs.take i.toNat ++ [v] ++ xs.drop i.toNat)))) :
    St K S (tSeq (tDrop (tBM K "list" (fun x vs H Q => ∃ (l : Addr) (xs : List V) (i : Int) (y : V), x = .ref l ∧ vs = [.int i, y] ∧ H l = some (.lst xs) ∧ xs.length < sizeLine ∧ 0 ≤ i ∧ i < 2 ^ 63 ∧ Q .non (upd H l (.lst (xs.take i.toNat ++ [y] ++ xs.drop i.toNat)))) ta (tCons tb (tCons te tNil)))) tz) D σ H := fun H1 e => ho H1 e _ fun H2 e2 =>
  ⟨.inl ⟨rfl, _, SqL.of ((e.trans e2).1 l _ ns hl)⟩, hi H2 (e.trans e2) _ fun H3 e3 => hv H3 ((e.trans e2).trans e3) _ fun H4 e4 =>
    have e5 := ((e.trans e2).trans e3).trans e4
    ⟨l, xs, i, v, rfl, rfl, e5.1 l _ ns hl, hz, h0, h1, k _ (e5.upd ns)⟩⟩
end
end Fw
namespace Fw
open PySem PySem.Spec PyProof.Rows L2
theorem s_sq {K : PySem.W.Frag} {S : Dst} {σ : L2.St} {H : Hp} {tu tz : TS} {D : Ends} (h : St K S tu { D with nx := tz D } σ H) : St K S (tSeq tu tz) D σ H := h
end Fw
namespace Fw
open PySem PySem.Spec PyProof.Rows L2
theorem Dist.uniq {adj : Nat → List Nat} {f : Nat} {c c' b b' : Nat → Option Nat} (D : Dist adj f c b) (D' : Dist adj f c' b') (g : Nat) : c g = c' g := by
  cases h : c g with
  | none =>
    cases h' : c' g with
    | none => rfl
    | some n =>
      obtain ⟨d, e, _⟩ := D.least n g (D'.snd g n h')
      rw [h] at e
      cases e
  | some n =>
    obtain ⟨d, h', l1⟩ := D'.least n g (D.snd g n h)
    obtain ⟨m, e, l2⟩ := D.least d g (D'.snd g d h')
    rw [h] at e
    cases e
    rw [h']
    congr 1
    omega
theorem Drw.mono0 {H H1 : Hp} {st l : Addr} (d : Drw H st l) (e : Lx none H H1) : Drw H1 st l := by
  obtain ⟨ns, p, c, n, b, h1, h2, h3⟩ := d
  exact ⟨ns, p, c, n, b, e.1 _ _ sx_none h1, h2, e.1 _ _ sx_none h3⟩
end Fw

namespace Fw
open PySem PySem.Spec PyProof.Rows L2
section
variable {K : PySem.W.Frag} {S : Dst} {σ : L2.St} {H : Hp} {tas : TA} {D : Ends} {tu tz : TS} {j : Nat}
/-- for i in range(a, -1, -1) -/
theorem s_forDown {a : Nat} (h : EvA K S tas σ H [.int (a : Int), .int (-1), .int (-1)]) (ha : a ≤ 1000000) (Pv : Nat → L2.St → Hp → Prop) (wf : ∀ i σ' H', Pv i σ' H' → Lx S H' H') (h0 : ∀ H1, Lx S H H1 → Pv 0 σ H1)
    (hs : ∀ (i : Nat) σ' H', i ≤ a → Pv i σ' H' → St K S tu { D with nx := Pv (i + 1), ct := Pv (i + 1), bk := tz D } (σ'.set j (some (.int ((a - i : Nat) : Int)))) H') (hd : ∀ σ' H', Pv (a + 1) σ' H' → St K S tz D σ' H') : St K S (tSeq (tFor (iRng3 tas) (gName j) tu) tz) D σ H := fun H1 e =>
  h H1 e _ fun H2 e2 => ⟨(a : Int), -1, -1, ((a : Int) - (-1)).toNat, rfl, RgC.neg (by omega) (by omega) (by omega) (by omega), for_rangeC (lo := (a : Int)) (c := -1) (n := ((a : Int) - (-1)).toNat) (D := { D with nx := tz D }) Pv (h0 H2 (e.trans e2)) (fun i σ' H' hi p => by
    have hi' : i ≤ a := by omega
    have := hs i σ' H' hi' p H' (wf i σ' H' p)
    rw [show ((a - i : Nat) : Int) = (a : Int) + (i : Int) * (-1) by omega] at this
    exact this) (fun σ' H' p => by
    rw [show ((a : Int) - (-1)).toNat = a + 1 by omega] at p
    exact hd σ' H' p H' (wf _ σ' H' p))⟩
end
/-! ### products of kins, plainly -/
def sidesK (u d : Int) : List KT := if u = 0 ∨ d = 0 then [(u, d, "line")] else [(u, d, "elder"), (u, d, "younger")]
/-- all kins under an open ancestor; m is the smaller count -/
def openN (u d : Nat) (n : Nat) : List KT := (List.range n).flatMap fun k => sidesK ((u - min u d + k : Nat) : Int) ((d - min u d + k : Nat) : Int)
def openK (u d : Nat) : List KT := openN u d (min u d + 1)
theorem openN_succ {u d n : Nat} : openN u d (n + 1) = openN u d n ++ sidesK ((u - min u d + n : Nat) : Int) ((d - min u d + n : Nat) : Int) := by
  unfold openN
  rw [List.range_succ, List.flatMap_append]
  simp
theorem openN_len {u d : Nat} : ∀ {n : Nat}, (openN u d n).length ≤ 2 * n
  | 0 => by simp [openN]
  | n + 1 => by
    have ih := openN_len (u := u) (d := d) (n := n)
    rw [openN_succ, List.length_append]
    have : (sidesK ((u - min u d + n : Nat) : Int) ((d - min u d + n : Nat) : Int)).length ≤ 2 := by unfold sidesK; split <;> simp
    omega
def mulK (a b : KT) : List KT :=
  if b.1 < a.2.1 then [(a.1, a.2.1 - b.1 + b.2.1, a.2.2)]
  else if b.1 > a.2.1 then [(a.1 + b.1 - a.2.1, b.2.1, b.2.2)]
  else if a.1 = 0 ∨ b.2.1 = 0 then [(a.1, b.2.1, "line")]
  else if a.2.2 = b.2.2 ∧ a.2.2 ≠ "line" then [(a.1, b.2.1, a.2.2)]
  else openK a.1.toNat b.2.1.toNat
/-- BadKin(u, d, s) is raised -/
def BadK (K : PySem.W.Frag) (S : Dst) (H : Hp) (k : KT) : Value → Addr → Hp → Prop := Rais S H (He.ga K "BadKin") [("side", .str k.2.2), ("down", .int k.2.1), ("up", .int k.1), ("reason", .str "bad kin")]
def sp_kinX (K : PySem.W.Frag) : Sp := fun ws H Q E => ∃ (x dx : Addr) (k : KT), ws = [.ref x, .int k.1, .int k.2.1, .str k.2.2] ∧ H x = some (.ins (He.ga K "Kin") dx []) ∧ (KVk k → ∀ H', Lx none (upd H x (.ins (He.ga K "Kin") dx (kinF k.1 k.2.1 k.2.2))) H' → Q .non H') ∧ (¬ KVk k → ∀ cls e H', Lx none H H' → BadK K none H k cls e H' → E cls (some e) H')
/-- Kin(u, d, s), which may raise -/
theorem ex_kinX {K : PySem.W.Frag} {S : Dst} {σ : L2.St} {H : Hp} {tas : TA} {E : XK} {k : KT} (h : EvA K S tas σ H [.int k.1, .int k.2.1, .str k.2.2]) (kE : ¬ KVk k → ∀ cls e H', Lx S H H' → BadK K S H k cls e H' → E cls (some e) H') : EvX K S (StX.tMakeR (He.ga K "Kin") (sp_kinX K) E tas) σ H (fun v H2 => KVk k ∧ NewI S H (He.ga K "Kin") (kinF k.1 k.2.1 k.2.2) v H2) := fun H1 e Q q => h H1 e _ fun H2 e2 x dx h1 h2 ne => by
  have w2 := e.trans e2
  have e3 : Lx S H2 (Raw H2 x dx (He.ga K "Kin")) := w2.raw h1 h2 ne
  have nx : ¬ Sx S x := w2.ns h1
  refine ⟨x, dx, k, rfl, upd_same, fun kv H3 e4 => ⟨rfl, q _ _ ?_ ⟨kv, x, rfl, w2.fresh h1, ⟨dx, e4.1 _ _ sx_none upd_same⟩, nx⟩⟩, fun nk cls ee H' e5 R => ?_⟩
  · have e5 : Lx S H2 (upd (Raw H2 x dx (He.ga K "Kin")) x (.ins (He.ga K "Kin") dx (kinF k.1 k.2.1 k.2.2))) := e3.put nx fun u z => by rw [h1] at z; cases z
    exact (e2.trans e5).trans ((w2.trans e5).of0 e4)
  · have w3 := w2.trans e3
    obtain ⟨r1, r2, _, r4⟩ := R
    exact kE nk cls ee H' (w3.trans (w3.of0 e5)) ⟨r1, w3.fresh r2, w3.ns r2, r4⟩
end Fw
namespace Fw
open PySem PySem.Spec PyProof.Rows L2
theorem rv_negI {K : PySem.W.Frag} {S : Dst} {H : Hp} {i : Int} : RU K S (fun x H Q => ∃ i, x = .int i ∧ Q (.int (-i)) H) (.int i) H (.int (-i)) := fun H1 e _ q => ⟨i, rfl, q H1 e.refl⟩
end Fw
namespace Fw
open PySem PySem.Spec PyProof.Rows L2
theorem openN_kv {u d : Nat} (hu : u ≤ 999) (hd : d ≤ 999) : ∀ {n : Nat}, n ≤ min u d + 1 → ∀ k ∈ openN u d n, KVk k
  | 0, _, k, hk => by simp [openN] at hk
  | n + 1, hn, k, hk => by
    rw [openN_succ, List.mem_append] at hk
    rcases hk with h | h
    · exact openN_kv hu hd (by omega) k h
    · unfold sidesK at h
      split at h
      · rename_i z
        rw [List.mem_singleton] at h
        subst h
        exact ⟨by dsimp only; omega, by dsimp only; omega, by dsimp only; omega, by dsimp only; omega, by unfold fitsB; rw [if_pos z]; rfl⟩
      · rename_i z
        simp only [List.mem_cons, List.mem_nil_iff, or_false] at h
        rcases h with rfl | rfl
        · exact ⟨by dsimp only; omega, by dsimp only; omega, by dsimp only; omega, by dsimp only; omega, by unfold fitsB; rw [if_neg z]; rfl⟩
        · exact ⟨by dsimp only; omega, by dsimp only; omega, by dsimp only; omega, by dsimp only; omega, by unfold fitsB; rw [if_neg z]; rfl⟩
theorem openK_kv {u d : Nat} (hu : u ≤ 999) (hd : d ≤ 999) : ∀ k ∈ openK u d, KVk k := openN_kv hu hd (Nat.le_refl _)
end Fw
namespace Fw
open PySem PySem.Spec PyProof.Rows L2
theorem rc_isList {K : PySem.W.Frag} {S : Dst} {H : Hp} {p : Addr} {xs : List V} (hp : H p = some (.lst xs)) (np : ¬ Sx S p) : RC K S (rIsi K) [.ref p, .ty "list"] H (.bl true) := fun H1 e _ q =>
  ⟨.ref p, .ty "list", .type "list", _, true, rfl, .ty "list", .base (.lst (e.1 _ _ np hp)), kit_ty (by decide +kernel), q H1 e.refl⟩
theorem mulK_fit {a b : KT} (va : KVk a) (vb : KVk b) : ∀ k ∈ mulK a b, 0 ≤ k.1 ∧ 0 ≤ k.2.1 ∧ fitsB k.1 k.2.1 k.2.2 = true := fun k hk => by
  have a0 := va.u0
  have a1 := va.d0
  have b0 := vb.u0
  have b1 := vb.d0
  have fa := va.fit
  have fb := vb.fit
  unfold mulK at hk
  split at hk
  · rename_i h
    rw [List.mem_singleton] at hk
    subst hk
    refine ⟨a0, by dsimp only; omega, ?_⟩
    unfold fitsB at fa ⊢
    dsimp only
    by_cases z : a.1 = 0
    · rw [if_pos (.inl z)] at fa ⊢; exact fa
    · rw [if_neg (by omega)] at fa ⊢; exact fa
  · split at hk
    · rename_i h
      rw [List.mem_singleton] at hk
      subst hk
      refine ⟨by dsimp only; omega, b1, ?_⟩
      unfold fitsB at fb ⊢
      dsimp only
      by_cases z : b.2.1 = 0
      · rw [if_pos (.inr z)] at fb ⊢; exact fb
      · rw [if_neg (by omega)] at fb ⊢; exact fb
    · split at hk
      · rename_i z
        rw [List.mem_singleton] at hk
        subst hk
        exact ⟨a0, b1, by unfold fitsB; rw [if_pos z]; rfl⟩
      · split at hk
        · rename_i z h
          rw [List.mem_singleton] at hk
          subst hk
          refine ⟨a0, b1, ?_⟩
          unfold fitsB at fa ⊢
          dsimp only
          rw [if_neg z]
          by_cases y : a.1 = 0 ∨ a.2.1 = 0
          · rw [if_pos y] at fa
            exact absurd (of_decide_eq_true fa) h.2
          · rw [if_neg y] at fa
            exact fa
        · have u1 := va.u1
          have d1 := vb.d1
          have v := openK_kv (u := a.1.toNat) (d := b.2.1.toNat) (by omega) (by omega) k hk
          exact ⟨v.u0, v.d0, v.fit⟩
theorem mulK_ne {a b : KT} : ∃ k r, mulK a b = k :: r := by
  unfold mulK
  split
  · exact ⟨_, _, rfl⟩
  · split
    · exact ⟨_, _, rfl⟩
    · split
      · exact ⟨_, _, rfl⟩
      · split
        · exact ⟨_, _, rfl⟩
        · have : openK a.1.toNat b.2.1.toNat ≠ [] := fun h => by
            unfold openK at h
            rw [openN_succ, List.append_eq_nil_iff] at h
            have h2 := h.2
            unfold sidesK at h2
            split at h2 <;> cases h2
          cases z : openK a.1.toNat b.2.1.toNat with
          | nil => exact absurd z this
          | cons k r => exact ⟨k, r, rfl⟩
theorem mulK_len {a b : KT} (va : KVk a) (vb : KVk b) : (mulK a b).length ≤ 2002 := by
  unfold mulK
  have u1 := va.u1
  have d1 := vb.d1
  split
  · simp
  · split
    · simp
    · split
      · simp
      · split
        · simp
        · unfold openK
          have := openN_len (u := a.1.toNat) (d := b.2.1.toNat) (n := min a.1.toNat b.2.1.toNat + 1)
          omega
end Fw

namespace Fk
open PySem PySem.Spec PyProof.Rows L2 Fw
def top (i : Nat) : Stmt := PySem.Challenge.pw_forkwaits_k07_products_of_kins.main.body.getD i (.Pass ⟨0, 0, 0, 0⟩)
abbrev s_capped : Stmt := top 13
theorem sc_capped : FnScope ["number", "reach"] ["number", "reach"] (defScope s_capped) := ⟨rfl, rfl, rfl, by decide +kernel, rfl, by decide +kernel, by decide +kernel⟩
abbrev s_fits_side : Stmt := top 14
theorem sc_fits_side : FnScope ["up", "down", "side"] ["up", "down", "side"] (defScope s_fits_side) := ⟨rfl, rfl, rfl, by decide +kernel, rfl, by decide +kernel, by decide +kernel⟩
abbrev s_KinD__initD_ : Stmt := inClass (top 15) 1
theorem sc_KinD__initD_ : FnScope ["self", "up", "down", "side"] ["self", "up", "down", "side"] (defScope s_KinD__initD_) := ⟨rfl, rfl, rfl, by decide +kernel, rfl, by decide +kernel, by decide +kernel⟩
abbrev s_KinD__mulD_ : Stmt := inClass (top 15) 14
theorem sc_KinD__mulD_ : FnScope ["self", "other"] ["self", "other"] (defScope s_KinD__mulD_) := ⟨rfl, rfl, rfl, by decide +kernel, rfl, by decide +kernel, by decide +kernel⟩
abbrev s_open_kins : Stmt := top 17
theorem sc_open_kins : FnScope ["up", "down", "kins", "shared"] ["up", "down"] (defScope s_open_kins) := ⟨rfl, rfl, rfl, by decide +kernel, rfl, by decide +kernel, by decide +kernel⟩
abbrev s__law_start : Stmt := top 19
theorem sc__law_start : FnScope ["script"] ["script"] (defScope s__law_start) := ⟨rfl, rfl, rfl, by decide +kernel, rfl, by decide +kernel, by decide +kernel⟩
abbrev s__law_draw : Stmt := top 20
theorem sc__law_draw : FnScope ["state", "many", "value", "mixed"] ["state", "many"] (defScope s__law_draw) := ⟨rfl, rfl, rfl, by decide +kernel, rfl, by decide +kernel, by decide +kernel⟩
abbrev s__law_is_number : Stmt := top 21
theorem sc__law_is_number : FnScope ["actual"] ["actual"] (defScope s__law_is_number) := ⟨rfl, rfl, rfl, by decide +kernel, rfl, by decide +kernel, by decide +kernel⟩
abbrev s__law_same : Stmt := top 22
theorem sc__law_same : FnScope ["actual", "expected", "k"] ["actual", "expected"] (defScope s__law_same) := ⟨rfl, rfl, rfl, by decide +kernel, rfl, by decide +kernel, by decide +kernel⟩
abbrev s__law_sides : Stmt := top 23
theorem sc__law_sides : FnScope ["up", "down"] ["up", "down"] (defScope s__law_sides) := ⟨rfl, rfl, rfl, by decide +kernel, rfl, by decide +kernel, by decide +kernel⟩
abbrev s__law_other_side : Stmt := top 24
theorem sc__law_other_side : FnScope ["side"] ["side"] (defScope s__law_other_side) := ⟨rfl, rfl, rfl, by decide +kernel, rfl, by decide +kernel, by decide +kernel⟩
abbrev s__law_minus : Stmt := top 25
theorem sc__law_minus : FnScope ["parts"] ["parts"] (defScope s__law_minus) := ⟨rfl, rfl, rfl, by decide +kernel, rfl, by decide +kernel, by decide +kernel⟩
abbrev s__law_kin : Stmt := top 26
theorem sc__law_kin : FnScope ["parts"] ["parts"] (defScope s__law_kin) := ⟨rfl, rfl, rfl, by decide +kernel, rfl, by decide +kernel, by decide +kernel⟩
abbrev s__law_is_kin : Stmt := top 27
theorem sc__law_is_kin : FnScope ["actual", "parts"] ["actual", "parts"] (defScope s__law_is_kin) := ⟨rfl, rfl, rfl, by decide +kernel, rfl, by decide +kernel, by decide +kernel⟩
abbrev s__law_are_kins : Stmt := top 28
theorem sc__law_are_kins : FnScope ["actual", "expected", "k"] ["actual", "expected"] (defScope s__law_are_kins) := ⟨rfl, rfl, rfl, by decide +kernel, rfl, by decide +kernel, by decide +kernel⟩
abbrev s__law_product : Stmt := top 29
theorem sc__law_product : FnScope ["a", "b", "rows", "most", "k", "up", "down", "side"] ["a", "b"] (defScope s__law_product) := ⟨rfl, rfl, rfl, by decide +kernel, rfl, by decide +kernel, by decide +kernel⟩
abbrev s__law_multiplied : Stmt := top 30
theorem sc__law_multiplied : FnScope ["left", "right", "due", "great", "actual", "e"] ["left", "right", "due"] (defScope s__law_multiplied) := ⟨rfl, rfl, rfl, by decide +kernel, rfl, by decide +kernel, by decide +kernel⟩
abbrev s__law_great : Stmt := top 31
theorem sc__law_great : FnScope ["left", "right", "actual", "e"] ["left", "right"] (defScope s__law_great) := ⟨rfl, rfl, rfl, by decide +kernel, rfl, by decide +kernel, by decide +kernel⟩
abbrev s_law : Stmt := top 32
theorem sc_law : FnScope ["script", "state", "kind", "most", "up", "middle", "down", "climb", "side", "other", "a", "b", "left", "right", "c", "d", "part"] ["script"] (defScope s_law) := ⟨rfl, rfl, rfl, by decide +kernel, rfl, by decide +kernel, by decide +kernel⟩
abbrev s_ForkErrorD__initD_ : Stmt := inClass (top 2) 0
abbrev s_BadKinD__initD_ : Stmt := inClass (top 3) 0
abbrev s_BadReachD__initD_ : Stmt := inClass (top 4) 0
abbrev P : Program := PySem.Challenge.rw_forkwaits_k07_products_of_kins.prog
abbrev fs : List DefS := [⟨fun K => (He.fAd K ("ForkError", some "__init__")), fun K => (He.ga K "ForkError"), "__init__", "ForkError.__init__", defArgs s_ForkErrorD__initD_, defBody s_ForkErrorD__initD_, defScope s_ForkErrorD__initD_⟩,
  ⟨fun K => (He.fAd K ("BadKin", some "__init__")), fun K => (He.ga K "BadKin"), "__init__", "BadKin.__init__", defArgs s_BadKinD__initD_, defBody s_BadKinD__initD_, defScope s_BadKinD__initD_⟩,
  ⟨fun K => (He.fAd K ("BadReach", some "__init__")), fun K => (He.ga K "BadReach"), "__init__", "BadReach.__init__", defArgs s_BadReachD__initD_, defBody s_BadReachD__initD_, defScope s_BadReachD__initD_⟩]
abbrev fn : List DefY := [
  ⟨fun K => (He.fAd K ("capped", none)), "capped", "capped", defArgs s_capped, defBody s_capped, defScope s_capped, [], []⟩,
  ⟨fun K => (He.fAd K ("fits_side", none)), "fits_side", "fits_side", defArgs s_fits_side, defBody s_fits_side, defScope s_fits_side, [], []⟩,
  ⟨fun K => (He.fAd K ("Kin", some "__init__")), "__init__", "Kin.__init__", defArgs s_KinD__initD_, defBody s_KinD__initD_, defScope s_KinD__initD_, [], []⟩,
  ⟨fun K => (He.fAd K ("Kin", some "__mul__")), "__mul__", "Kin.__mul__", defArgs s_KinD__mulD_, defBody s_KinD__mulD_, defScope s_KinD__mulD_, [], []⟩,
  ⟨fun K => (He.fAd K ("open_kins", none)), "open_kins", "open_kins", defArgs s_open_kins, defBody s_open_kins, defScope s_open_kins, [], []⟩,
  ⟨fun K => (He.fAd K ("_law_start", none)), "_law_start", "_law_start", defArgs s__law_start, defBody s__law_start, defScope s__law_start, [], []⟩,
  ⟨fun K => (He.fAd K ("_law_draw", none)), "_law_draw", "_law_draw", defArgs s__law_draw, defBody s__law_draw, defScope s__law_draw, [], []⟩,
  ⟨fun K => (He.fAd K ("_law_is_number", none)), "_law_is_number", "_law_is_number", defArgs s__law_is_number, defBody s__law_is_number, defScope s__law_is_number, [], []⟩,
  ⟨fun K => (He.fAd K ("_law_same", none)), "_law_same", "_law_same", defArgs s__law_same, defBody s__law_same, defScope s__law_same, [], []⟩,
  ⟨fun K => (He.fAd K ("_law_sides", none)), "_law_sides", "_law_sides", defArgs s__law_sides, defBody s__law_sides, defScope s__law_sides, [], []⟩,
  ⟨fun K => (He.fAd K ("_law_other_side", none)), "_law_other_side", "_law_other_side", defArgs s__law_other_side, defBody s__law_other_side, defScope s__law_other_side, [], []⟩,
  ⟨fun K => (He.fAd K ("_law_minus", none)), "_law_minus", "_law_minus", defArgs s__law_minus, defBody s__law_minus, defScope s__law_minus, [], []⟩,
  ⟨fun K => (He.fAd K ("_law_kin", none)), "_law_kin", "_law_kin", defArgs s__law_kin, defBody s__law_kin, defScope s__law_kin, [], []⟩,
  ⟨fun K => (He.fAd K ("_law_is_kin", none)), "_law_is_kin", "_law_is_kin", defArgs s__law_is_kin, defBody s__law_is_kin, defScope s__law_is_kin, [], []⟩,
  ⟨fun K => (He.fAd K ("_law_are_kins", none)), "_law_are_kins", "_law_are_kins", defArgs s__law_are_kins, defBody s__law_are_kins, defScope s__law_are_kins, [], []⟩,
  ⟨fun K => (He.fAd K ("_law_product", none)), "_law_product", "_law_product", defArgs s__law_product, defBody s__law_product, defScope s__law_product, [], []⟩,
  ⟨fun K => (He.fAd K ("_law_multiplied", none)), "_law_multiplied", "_law_multiplied", defArgs s__law_multiplied, defBody s__law_multiplied, defScope s__law_multiplied, [], []⟩,
  ⟨fun K => (He.fAd K ("_law_great", none)), "_law_great", "_law_great", defArgs s__law_great, defBody s__law_great, defScope s__law_great, [], []⟩,
  ⟨fun K => (He.fAd K ("law", none)), "law", "law", defArgs s_law, defBody s_law, defScope s_law, [], []⟩]
abbrev fa : List He.Fa := [
  .glo "capped",
  .glo "fits_side",
  .glo "open_kins",
  .glo "_law_start",
  .glo "_law_draw",
  .glo "_law_is_number",
  .glo "_law_same",
  .glo "_law_sides",
  .glo "_law_other_side",
  .glo "_law_minus",
  .glo "_law_kin",
  .glo "_law_is_kin",
  .glo "_law_are_kins",
  .glo "_law_product",
  .glo "_law_multiplied",
  .glo "_law_great",
  .glo "law",
  .glo "Kin",
  .cls "Kin",
  .mkr "Kin",
  .meth "Kin" "__mul__",
  .noat "Kin" "up",
  .noat "Kin" "down",
  .noat "Kin" "side",
  .noat "Kin" "far",
  .noat "Kin" "rank",
  .free "ValueError",
  .free "bool",
  .free "int",
  .free "isinstance",
  .free "len",
  .free "list",
  .free "max",
  .free "min",
  .free "range",
  .free "str",
  .free "tuple",
  .free "super",
  .str "DIGITS" "0123456789",
  .int "MOST_DIGITS" 3,
  .glo "SIDES",
  .glo "OPPOSITE",
  .glo "ForkError",
  .glo "BadKin",
  .glo "BadReach"]
abbrev ts : List He.Tab := [(fun K => He.ga K "OPPOSITE", ["line", "elder", "younger"])]
abbrev exs (K : PySem.W.Frag) : List Bool := [tupDB K "SIDES",
  He.tupB K "SIDES" [.str "line", .str "elder", .str "younger"],
  He.valsB K (He.ga K "OPPOSITE") [("line", .str "line")],
  He.valsB K (He.ga K "OPPOSITE") [("elder", .str "younger")],
  He.valsB K (He.ga K "OPPOSITE") [("younger", .str "elder")],
  He.conB K "Kin" "MOST" (.int 999),
  iscB K "Kin",
  He.eqO (PySem.W.nsIn K cStatics "thirdparty.any") (some none),
  decide (PySem.W.typeIn K (.ref (He.fAd K ("ForkError", some "__init__"))) = some (.type "function")),
  PySem.W.fnIn K (He.fAd K ("ForkError", some "__init__")),
  oexB K (He.ga K "ForkError"),
  xfB K (He.ga K "ForkError"),
  excB K (He.ga K "ForkError"),
  He.eqO (PySem.W.findIn K (.ref (He.ga K "ForkError")) "reason") (some none),
  He.eqO (PySem.W.findIn K (.ref (He.ga K "ForkError")) "__init__") (some (some (.ref (He.fAd K ("ForkError", some "__init__"))))),
  decide (PySem.W.typeIn K (.ref (He.fAd K ("ForkError", some "__init__"))) = some (.type "function")),
  decide (PySem.W.kitOne K (.ref (He.ga K "ForkError")) (.type "ValueError") = some true),
  decide (PySem.W.exmOne K (.ref (He.ga K "ForkError")) (.ref (He.ga K "ForkError")) = some true),
  decide (PySem.W.kitOne K (.ref (He.ga K "ForkError")) (.ref (He.ga K "ForkError")) = some true),
  decide (PySem.W.exmOne K (.ref (He.ga K "ForkError")) (.ref (He.ga K "BadKin")) = some false),
  decide (PySem.W.kitOne K (.ref (He.ga K "ForkError")) (.ref (He.ga K "BadKin")) = some false),
  decide (PySem.W.exmOne K (.ref (He.ga K "ForkError")) (.ref (He.ga K "BadReach")) = some false),
  decide (PySem.W.kitOne K (.ref (He.ga K "ForkError")) (.ref (He.ga K "BadReach")) = some false),
  oexB K (He.ga K "BadKin"),
  xfB K (He.ga K "BadKin"),
  excB K (He.ga K "BadKin"),
  supCB K (He.ga K "BadKin") (He.ga K "BadKin") (.ref (He.fAd K ("ForkError", some "__init__"))),
  supCB K (He.ga K "BadKin") (He.ga K "ForkError") (.builtin "ValueError.__init__"),
  He.eqO (PySem.W.findIn K (.ref (He.ga K "BadKin")) "up") (some none),
  He.eqO (PySem.W.findIn K (.ref (He.ga K "BadKin")) "down") (some none),
  He.eqO (PySem.W.findIn K (.ref (He.ga K "BadKin")) "side") (some none),
  He.eqO (PySem.W.findIn K (.ref (He.ga K "BadKin")) "reason") (some none),
  He.eqO (PySem.W.findIn K (.ref (He.ga K "BadKin")) "__init__") (some (some (.ref (He.fAd K ("BadKin", some "__init__"))))),
  decide (PySem.W.typeIn K (.ref (He.fAd K ("BadKin", some "__init__"))) = some (.type "function")),
  decide (PySem.W.kitOne K (.ref (He.ga K "BadKin")) (.type "ValueError") = some true),
  decide (PySem.W.exmOne K (.ref (He.ga K "BadKin")) (.ref (He.ga K "ForkError")) = some true),
  decide (PySem.W.kitOne K (.ref (He.ga K "BadKin")) (.ref (He.ga K "ForkError")) = some true),
  decide (PySem.W.exmOne K (.ref (He.ga K "BadKin")) (.ref (He.ga K "BadKin")) = some true),
  decide (PySem.W.kitOne K (.ref (He.ga K "BadKin")) (.ref (He.ga K "BadKin")) = some true),
  decide (PySem.W.exmOne K (.ref (He.ga K "BadKin")) (.ref (He.ga K "BadReach")) = some false),
  decide (PySem.W.kitOne K (.ref (He.ga K "BadKin")) (.ref (He.ga K "BadReach")) = some false),
  oexB K (He.ga K "BadReach"),
  xfB K (He.ga K "BadReach"),
  excB K (He.ga K "BadReach"),
  supCB K (He.ga K "BadReach") (He.ga K "BadReach") (.ref (He.fAd K ("ForkError", some "__init__"))),
  supCB K (He.ga K "BadReach") (He.ga K "ForkError") (.builtin "ValueError.__init__"),
  He.eqO (PySem.W.findIn K (.ref (He.ga K "BadReach")) "number") (some none),
  He.eqO (PySem.W.findIn K (.ref (He.ga K "BadReach")) "reason") (some none),
  He.eqO (PySem.W.findIn K (.ref (He.ga K "BadReach")) "__init__") (some (some (.ref (He.fAd K ("BadReach", some "__init__"))))),
  decide (PySem.W.typeIn K (.ref (He.fAd K ("BadReach", some "__init__"))) = some (.type "function")),
  decide (PySem.W.kitOne K (.ref (He.ga K "BadReach")) (.type "ValueError") = some true),
  decide (PySem.W.exmOne K (.ref (He.ga K "BadReach")) (.ref (He.ga K "ForkError")) = some true),
  decide (PySem.W.kitOne K (.ref (He.ga K "BadReach")) (.ref (He.ga K "ForkError")) = some true),
  decide (PySem.W.exmOne K (.ref (He.ga K "BadReach")) (.ref (He.ga K "BadKin")) = some false),
  decide (PySem.W.kitOne K (.ref (He.ga K "BadReach")) (.ref (He.ga K "BadKin")) = some false),
  decide (PySem.W.exmOne K (.ref (He.ga K "BadReach")) (.ref (He.ga K "BadReach")) = some true),
  decide (PySem.W.kitOne K (.ref (He.ga K "BadReach")) (.ref (He.ga K "BadReach")) = some true),
  PySem.W.selfFirst K (He.ga K "Kin")]
abbrev exB (K : PySem.W.Frag) : Bool := (exs K).all id
structure Txt (K : PySem.W.Frag) (mg : Str → Option Value) (w : World) : Prop where
  hh : ∃ h : Heap, K.In h ∧ h.Ns mainGlobals mg ∧ SaysY fa ts exB fn w h K ∧ SaysS P.main.file fs K
theorem Txt.c {K : PySem.W.Frag} {mg : Str → Option Value} {w : World} (T : Txt K mg w) : SaysY fa ts exB fn w (Classical.choose T.hh) K := (Classical.choose_spec T.hh).2.2.1
theorem Txt.s {K : PySem.W.Frag} {mg : Str → Option Value} {w : World} (T : Txt K mg w) : SaysS P.main.file fs K := (Classical.choose_spec T.hh).2.2.2
theorem Txt.X {K : PySem.W.Frag} {mg : Str → Option Value} {w : World} (T : Txt K mg w) : K.In (Classical.choose T.hh) := (Classical.choose_spec T.hh).1
theorem Txt.G {K : PySem.W.Frag} {mg : Str → Option Value} {w : World} (T : Txt K mg w) : (Classical.choose T.hh).Ns mainGlobals mg := (Classical.choose_spec T.hh).2.1
theorem Txt.ex {K : PySem.W.Frag} {mg : Str → Option Value} {w : World} (T : Txt K mg w) (i : Nat) {b : Bool} (h : (exs K)[i]? = some b) : b = true :=
  List.all_eq_true.mp (show (exs K).all id = true from T.c.more) b (List.mem_of_getElem? h)
section
variable {K : PySem.W.Frag} {mg : Str → Option Value} {w : World}
theorem g_capped (T : Txt K mg w) : mg "capped" = some (.ref (He.fAd K ("capped", none))) := He.glo_ok T.X T.G (T.c.t.d.fact 0 rfl)
theorem g_fits_side (T : Txt K mg w) : mg "fits_side" = some (.ref (He.fAd K ("fits_side", none))) := He.glo_ok T.X T.G (T.c.t.d.fact 1 rfl)
theorem g_open_kins (T : Txt K mg w) : mg "open_kins" = some (.ref (He.fAd K ("open_kins", none))) := He.glo_ok T.X T.G (T.c.t.d.fact 2 rfl)
theorem g__law_start (T : Txt K mg w) : mg "_law_start" = some (.ref (He.fAd K ("_law_start", none))) := He.glo_ok T.X T.G (T.c.t.d.fact 3 rfl)
theorem g__law_draw (T : Txt K mg w) : mg "_law_draw" = some (.ref (He.fAd K ("_law_draw", none))) := He.glo_ok T.X T.G (T.c.t.d.fact 4 rfl)
theorem g__law_is_number (T : Txt K mg w) : mg "_law_is_number" = some (.ref (He.fAd K ("_law_is_number", none))) := He.glo_ok T.X T.G (T.c.t.d.fact 5 rfl)
theorem g__law_same (T : Txt K mg w) : mg "_law_same" = some (.ref (He.fAd K ("_law_same", none))) := He.glo_ok T.X T.G (T.c.t.d.fact 6 rfl)
theorem g__law_sides (T : Txt K mg w) : mg "_law_sides" = some (.ref (He.fAd K ("_law_sides", none))) := He.glo_ok T.X T.G (T.c.t.d.fact 7 rfl)
theorem g__law_other_side (T : Txt K mg w) : mg "_law_other_side" = some (.ref (He.fAd K ("_law_other_side", none))) := He.glo_ok T.X T.G (T.c.t.d.fact 8 rfl)
theorem g__law_minus (T : Txt K mg w) : mg "_law_minus" = some (.ref (He.fAd K ("_law_minus", none))) := He.glo_ok T.X T.G (T.c.t.d.fact 9 rfl)
theorem g__law_kin (T : Txt K mg w) : mg "_law_kin" = some (.ref (He.fAd K ("_law_kin", none))) := He.glo_ok T.X T.G (T.c.t.d.fact 10 rfl)
theorem g__law_is_kin (T : Txt K mg w) : mg "_law_is_kin" = some (.ref (He.fAd K ("_law_is_kin", none))) := He.glo_ok T.X T.G (T.c.t.d.fact 11 rfl)
theorem g__law_are_kins (T : Txt K mg w) : mg "_law_are_kins" = some (.ref (He.fAd K ("_law_are_kins", none))) := He.glo_ok T.X T.G (T.c.t.d.fact 12 rfl)
theorem g__law_product (T : Txt K mg w) : mg "_law_product" = some (.ref (He.fAd K ("_law_product", none))) := He.glo_ok T.X T.G (T.c.t.d.fact 13 rfl)
theorem g__law_multiplied (T : Txt K mg w) : mg "_law_multiplied" = some (.ref (He.fAd K ("_law_multiplied", none))) := He.glo_ok T.X T.G (T.c.t.d.fact 14 rfl)
theorem g__law_great (T : Txt K mg w) : mg "_law_great" = some (.ref (He.fAd K ("_law_great", none))) := He.glo_ok T.X T.G (T.c.t.d.fact 15 rfl)
theorem g_law (T : Txt K mg w) : mg "law" = some (.ref (He.fAd K ("law", none))) := He.glo_ok T.X T.G (T.c.t.d.fact 16 rfl)
theorem g_Kin (T : Txt K mg w) : mg "Kin" = some (.ref (He.ga K "Kin")) := He.glo_ok T.X T.G (T.c.t.d.fact 17 rfl)
theorem c_Kin (T : Txt K mg w) : Cls K (He.ga K "Kin") := He.cls_ok (T.c.t.d.fact 18 rfl)
theorem M_Kin (T : Txt K mg w) : Mk K (He.ga K "Kin") (He.fAd K ("Kin", some "__init__")) := He.mkr_ok (T.c.t.d.fact 19 rfl)
theorem m_KinD__mulD_ (T : Txt K mg w) : Meth K (He.ga K "Kin") "__mul__" (He.fAd K ("Kin", some "__mul__")) := He.meth_ok (T.c.t.d.fact 20 rfl)
theorem na_Kin_up (T : Txt K mg w) : NoAttr K (He.ga K "Kin") "up" := He.noat_ok (T.c.t.d.fact 21 rfl)
theorem na_Kin_down (T : Txt K mg w) : NoAttr K (He.ga K "Kin") "down" := He.noat_ok (T.c.t.d.fact 22 rfl)
theorem na_Kin_side (T : Txt K mg w) : NoAttr K (He.ga K "Kin") "side" := He.noat_ok (T.c.t.d.fact 23 rfl)
theorem na_Kin_far (T : Txt K mg w) : NoAttr K (He.ga K "Kin") "far" := He.noat_ok (T.c.t.d.fact 24 rfl)
theorem na_Kin_rank (T : Txt K mg w) : NoAttr K (He.ga K "Kin") "rank" := He.noat_ok (T.c.t.d.fact 25 rfl)
theorem n_ValueError (T : Txt K mg w) : mg "ValueError" = none := He.free_ok T.X T.G (T.c.t.d.fact 26 rfl)
theorem n_bool (T : Txt K mg w) : mg "bool" = none := He.free_ok T.X T.G (T.c.t.d.fact 27 rfl)
theorem n_int (T : Txt K mg w) : mg "int" = none := He.free_ok T.X T.G (T.c.t.d.fact 28 rfl)
theorem n_isinstance (T : Txt K mg w) : mg "isinstance" = none := He.free_ok T.X T.G (T.c.t.d.fact 29 rfl)
theorem n_len (T : Txt K mg w) : mg "len" = none := He.free_ok T.X T.G (T.c.t.d.fact 30 rfl)
theorem n_list (T : Txt K mg w) : mg "list" = none := He.free_ok T.X T.G (T.c.t.d.fact 31 rfl)
theorem n_max (T : Txt K mg w) : mg "max" = none := He.free_ok T.X T.G (T.c.t.d.fact 32 rfl)
theorem n_min (T : Txt K mg w) : mg "min" = none := He.free_ok T.X T.G (T.c.t.d.fact 33 rfl)
theorem n_range (T : Txt K mg w) : mg "range" = none := He.free_ok T.X T.G (T.c.t.d.fact 34 rfl)
theorem n_str (T : Txt K mg w) : mg "str" = none := He.free_ok T.X T.G (T.c.t.d.fact 35 rfl)
theorem n_tuple (T : Txt K mg w) : mg "tuple" = none := He.free_ok T.X T.G (T.c.t.d.fact 36 rfl)
theorem n_super (T : Txt K mg w) : mg "super" = none := He.free_ok T.X T.G (T.c.t.d.fact 37 rfl)
theorem g_DIGITS (T : Txt K mg w) : ∃ t, mg "DIGITS" = some (.str "0123456789" t) := He.str_ok T.X T.G (T.c.t.d.fact 38 rfl)
theorem g_MOST_DIGITS (T : Txt K mg w) : ∃ t, mg "MOST_DIGITS" = some (.int 3 t) := He.int_ok T.X T.G (T.c.t.d.fact 39 rfl)
theorem g_SIDES (T : Txt K mg w) : mg "SIDES" = some (.ref (He.ga K "SIDES")) := He.glo_ok T.X T.G (T.c.t.d.fact 40 rfl)
theorem g_OPPOSITE (T : Txt K mg w) : mg "OPPOSITE" = some (.ref (He.ga K "OPPOSITE")) := He.glo_ok T.X T.G (T.c.t.d.fact 41 rfl)
theorem kd_OPPOSITE (T : Txt K mg w) : ∃ es n, KDict K w (He.ga K "OPPOSITE") es n := T.c.t.tab 0 rfl
theorem g_ForkError (T : Txt K mg w) : mg "ForkError" = some (.ref (He.ga K "ForkError")) := He.glo_ok T.X T.G (T.c.t.d.fact 42 rfl)
theorem g_BadKin (T : Txt K mg w) : mg "BadKin" = some (.ref (He.ga K "BadKin")) := He.glo_ok T.X T.G (T.c.t.d.fact 43 rfl)
theorem g_BadReach (T : Txt K mg w) : mg "BadReach" = some (.ref (He.ga K "BadReach")) := He.glo_ok T.X T.G (T.c.t.d.fact 44 rfl)
theorem S_ForkError (T : Txt K mg w) : ∃ fd, SupM P K (He.ga K "ForkError") (He.fAd K ("ForkError", some "__init__")) (cdS K (He.fAd K ("ForkError", some "__init__"))) (ccS K (He.fAd K ("ForkError", some "__init__"))) fd "__init__" "ForkError.__init__" (defArgs s_ForkErrorD__initD_) (defBody s_ForkErrorD__initD_) (defScope s_ForkErrorD__initD_) := T.s.sup 0 rfl
theorem S_BadKin (T : Txt K mg w) : ∃ fd, SupM P K (He.ga K "BadKin") (He.fAd K ("BadKin", some "__init__")) (cdS K (He.fAd K ("BadKin", some "__init__"))) (ccS K (He.fAd K ("BadKin", some "__init__"))) fd "__init__" "BadKin.__init__" (defArgs s_BadKinD__initD_) (defBody s_BadKinD__initD_) (defScope s_BadKinD__initD_) := T.s.sup 1 rfl
theorem S_BadReach (T : Txt K mg w) : ∃ fd, SupM P K (He.ga K "BadReach") (He.fAd K ("BadReach", some "__init__")) (cdS K (He.fAd K ("BadReach", some "__init__"))) (ccS K (He.fAd K ("BadReach", some "__init__"))) fd "__init__" "BadReach.__init__" (defArgs s_BadReachD__initD_) (defBody s_BadReachD__initD_) (defScope s_BadReachD__initD_) := T.s.sup 2 rfl
theorem ud_SIDES (T : Txt K mg w) : ∃ o, K.lookup (He.ga K "SIDES") = some o ∧ o.cls = .type "tuple" ∧ o.dict = none := tupDB_ok (T.ex 0 rfl)
theorem u_SIDES (T : Txt K mg w) : ∀ H : Hp, SqT K H (He.ga K "SIDES") [(V.str "line"), (V.str "elder"), (V.str "younger")] := fun H => He.tupB_ok (T.ex 1 rfl) H
theorem kv_OPPOSITE_line (T : Txt K mg w) : ∃ u, PySem.W.nsIn K (He.ga K "OPPOSITE") "line" = some (some u) ∧ RelV (V.str "line") u := He.valsB_ok (q := ("line", .str "line")) (T.ex 2 rfl) (by simp)
theorem kv_OPPOSITE_elder (T : Txt K mg w) : ∃ u, PySem.W.nsIn K (He.ga K "OPPOSITE") "elder" = some (some u) ∧ RelV (V.str "younger") u := He.valsB_ok (q := ("elder", .str "younger")) (T.ex 3 rfl) (by simp)
theorem kv_OPPOSITE_younger (T : Txt K mg w) : ∃ u, PySem.W.nsIn K (He.ga K "OPPOSITE") "younger" = some (some u) ∧ RelV (V.str "elder") u := He.valsB_ok (q := ("younger", .str "elder")) (T.ex 4 rfl) (by simp)
theorem con_Kin_MOST (T : Txt K mg w) : ∃ u, Con K (He.ga K "Kin") "MOST" (V.int 999) u := He.conB_ok (v := (.int 999)) (T.ex 5 rfl)
theorem isc_Kin (T : Txt K mg w) : IsC K (He.ga K "Kin") := iscB_ok (T.ex 6 rfl)
theorem nothird (T : Txt K mg w) : PySem.W.nsIn K cStatics "thirdparty.any" = some none := He.eqO_ok (T.ex 7 rfl)
theorem ti_base (T : Txt K mg w) : PySem.W.typeIn K (.ref (He.fAd K ("ForkError", some "__init__"))) = some (.type "function") := of_decide_eq_true (T.ex 8 rfl)
theorem fi_base (T : Txt K mg w) : PySem.W.fnIn K (He.fAd K ("ForkError", some "__init__")) = true := T.ex 9 rfl
theorem ox_ForkError (T : Txt K mg w) : OexC K (He.ga K "ForkError") := oexB_ok (T.ex 10 rfl)
theorem xf_ForkError (T : Txt K mg w) : XfC K (He.ga K "ForkError") := xfB_ok (T.ex 11 rfl)
theorem xc_ForkError (T : Txt K mg w) : ExcC K (He.ga K "ForkError") := excB_ok (T.ex 12 rfl)
theorem nf_ForkError_reason (T : Txt K mg w) : PySem.W.findIn K (.ref (He.ga K "ForkError")) "reason" = some none := He.eqO_ok (T.ex 13 rfl)
theorem ii_ForkError (T : Txt K mg w) : PySem.W.findIn K (.ref (He.ga K "ForkError")) "__init__" = some (some (.ref (He.fAd K ("ForkError", some "__init__")))) := He.eqO_ok (T.ex 14 rfl)
theorem ti_ForkError (T : Txt K mg w) : PySem.W.typeIn K (.ref (He.fAd K ("ForkError", some "__init__"))) = some (.type "function") := of_decide_eq_true (T.ex 15 rfl)
theorem kitV_ForkError (T : Txt K mg w) : PySem.W.kitOne K (.ref (He.ga K "ForkError")) (.type "ValueError") = some true := of_decide_eq_true (T.ex 16 rfl)
theorem exm_ForkError_ForkError (T : Txt K mg w) : PySem.W.exmOne K (.ref (He.ga K "ForkError")) (.ref (He.ga K "ForkError")) = some true := of_decide_eq_true (T.ex 17 rfl)
theorem kit_ForkError_ForkError (T : Txt K mg w) : PySem.W.kitOne K (.ref (He.ga K "ForkError")) (.ref (He.ga K "ForkError")) = some true := of_decide_eq_true (T.ex 18 rfl)
theorem exm_ForkError_BadKin (T : Txt K mg w) : PySem.W.exmOne K (.ref (He.ga K "ForkError")) (.ref (He.ga K "BadKin")) = some false := of_decide_eq_true (T.ex 19 rfl)
theorem kit_ForkError_BadKin (T : Txt K mg w) : PySem.W.kitOne K (.ref (He.ga K "ForkError")) (.ref (He.ga K "BadKin")) = some false := of_decide_eq_true (T.ex 20 rfl)
theorem exm_ForkError_BadReach (T : Txt K mg w) : PySem.W.exmOne K (.ref (He.ga K "ForkError")) (.ref (He.ga K "BadReach")) = some false := of_decide_eq_true (T.ex 21 rfl)
theorem kit_ForkError_BadReach (T : Txt K mg w) : PySem.W.kitOne K (.ref (He.ga K "ForkError")) (.ref (He.ga K "BadReach")) = some false := of_decide_eq_true (T.ex 22 rfl)
theorem ox_BadKin (T : Txt K mg w) : OexC K (He.ga K "BadKin") := oexB_ok (T.ex 23 rfl)
theorem xf_BadKin (T : Txt K mg w) : XfC K (He.ga K "BadKin") := xfB_ok (T.ex 24 rfl)
theorem xc_BadKin (T : Txt K mg w) : ExcC K (He.ga K "BadKin") := excB_ok (T.ex 25 rfl)
theorem sc_BadKin (T : Txt K mg w) : SupC K (He.ga K "BadKin") (He.ga K "BadKin") (.ref (He.fAd K ("ForkError", some "__init__"))) := supCB_ok (T.ex 26 rfl)
theorem scb_BadKin (T : Txt K mg w) : SupC K (He.ga K "BadKin") (He.ga K "ForkError") (.builtin "ValueError.__init__") := supCB_ok (T.ex 27 rfl)
theorem nf_BadKin_up (T : Txt K mg w) : PySem.W.findIn K (.ref (He.ga K "BadKin")) "up" = some none := He.eqO_ok (T.ex 28 rfl)
theorem nf_BadKin_down (T : Txt K mg w) : PySem.W.findIn K (.ref (He.ga K "BadKin")) "down" = some none := He.eqO_ok (T.ex 29 rfl)
theorem nf_BadKin_side (T : Txt K mg w) : PySem.W.findIn K (.ref (He.ga K "BadKin")) "side" = some none := He.eqO_ok (T.ex 30 rfl)
theorem nf_BadKin_reason (T : Txt K mg w) : PySem.W.findIn K (.ref (He.ga K "BadKin")) "reason" = some none := He.eqO_ok (T.ex 31 rfl)
theorem ii_BadKin (T : Txt K mg w) : PySem.W.findIn K (.ref (He.ga K "BadKin")) "__init__" = some (some (.ref (He.fAd K ("BadKin", some "__init__")))) := He.eqO_ok (T.ex 32 rfl)
theorem ti_BadKin (T : Txt K mg w) : PySem.W.typeIn K (.ref (He.fAd K ("BadKin", some "__init__"))) = some (.type "function") := of_decide_eq_true (T.ex 33 rfl)
theorem kitV_BadKin (T : Txt K mg w) : PySem.W.kitOne K (.ref (He.ga K "BadKin")) (.type "ValueError") = some true := of_decide_eq_true (T.ex 34 rfl)
theorem exm_BadKin_ForkError (T : Txt K mg w) : PySem.W.exmOne K (.ref (He.ga K "BadKin")) (.ref (He.ga K "ForkError")) = some true := of_decide_eq_true (T.ex 35 rfl)
theorem kit_BadKin_ForkError (T : Txt K mg w) : PySem.W.kitOne K (.ref (He.ga K "BadKin")) (.ref (He.ga K "ForkError")) = some true := of_decide_eq_true (T.ex 36 rfl)
theorem exm_BadKin_BadKin (T : Txt K mg w) : PySem.W.exmOne K (.ref (He.ga K "BadKin")) (.ref (He.ga K "BadKin")) = some true := of_decide_eq_true (T.ex 37 rfl)
theorem kit_BadKin_BadKin (T : Txt K mg w) : PySem.W.kitOne K (.ref (He.ga K "BadKin")) (.ref (He.ga K "BadKin")) = some true := of_decide_eq_true (T.ex 38 rfl)
theorem exm_BadKin_BadReach (T : Txt K mg w) : PySem.W.exmOne K (.ref (He.ga K "BadKin")) (.ref (He.ga K "BadReach")) = some false := of_decide_eq_true (T.ex 39 rfl)
theorem kit_BadKin_BadReach (T : Txt K mg w) : PySem.W.kitOne K (.ref (He.ga K "BadKin")) (.ref (He.ga K "BadReach")) = some false := of_decide_eq_true (T.ex 40 rfl)
theorem ox_BadReach (T : Txt K mg w) : OexC K (He.ga K "BadReach") := oexB_ok (T.ex 41 rfl)
theorem xf_BadReach (T : Txt K mg w) : XfC K (He.ga K "BadReach") := xfB_ok (T.ex 42 rfl)
theorem xc_BadReach (T : Txt K mg w) : ExcC K (He.ga K "BadReach") := excB_ok (T.ex 43 rfl)
theorem sc_BadReach (T : Txt K mg w) : SupC K (He.ga K "BadReach") (He.ga K "BadReach") (.ref (He.fAd K ("ForkError", some "__init__"))) := supCB_ok (T.ex 44 rfl)
theorem scb_BadReach (T : Txt K mg w) : SupC K (He.ga K "BadReach") (He.ga K "ForkError") (.builtin "ValueError.__init__") := supCB_ok (T.ex 45 rfl)
theorem nf_BadReach_number (T : Txt K mg w) : PySem.W.findIn K (.ref (He.ga K "BadReach")) "number" = some none := He.eqO_ok (T.ex 46 rfl)
theorem nf_BadReach_reason (T : Txt K mg w) : PySem.W.findIn K (.ref (He.ga K "BadReach")) "reason" = some none := He.eqO_ok (T.ex 47 rfl)
theorem ii_BadReach (T : Txt K mg w) : PySem.W.findIn K (.ref (He.ga K "BadReach")) "__init__" = some (some (.ref (He.fAd K ("BadReach", some "__init__")))) := He.eqO_ok (T.ex 48 rfl)
theorem ti_BadReach (T : Txt K mg w) : PySem.W.typeIn K (.ref (He.fAd K ("BadReach", some "__init__"))) = some (.type "function") := of_decide_eq_true (T.ex 49 rfl)
theorem kitV_BadReach (T : Txt K mg w) : PySem.W.kitOne K (.ref (He.ga K "BadReach")) (.type "ValueError") = some true := of_decide_eq_true (T.ex 50 rfl)
theorem exm_BadReach_ForkError (T : Txt K mg w) : PySem.W.exmOne K (.ref (He.ga K "BadReach")) (.ref (He.ga K "ForkError")) = some true := of_decide_eq_true (T.ex 51 rfl)
theorem kit_BadReach_ForkError (T : Txt K mg w) : PySem.W.kitOne K (.ref (He.ga K "BadReach")) (.ref (He.ga K "ForkError")) = some true := of_decide_eq_true (T.ex 52 rfl)
theorem exm_BadReach_BadKin (T : Txt K mg w) : PySem.W.exmOne K (.ref (He.ga K "BadReach")) (.ref (He.ga K "BadKin")) = some false := of_decide_eq_true (T.ex 53 rfl)
theorem kit_BadReach_BadKin (T : Txt K mg w) : PySem.W.kitOne K (.ref (He.ga K "BadReach")) (.ref (He.ga K "BadKin")) = some false := of_decide_eq_true (T.ex 54 rfl)
theorem exm_BadReach_BadReach (T : Txt K mg w) : PySem.W.exmOne K (.ref (He.ga K "BadReach")) (.ref (He.ga K "BadReach")) = some true := of_decide_eq_true (T.ex 55 rfl)
theorem kit_BadReach_BadReach (T : Txt K mg w) : PySem.W.kitOne K (.ref (He.ga K "BadReach")) (.ref (He.ga K "BadReach")) = some true := of_decide_eq_true (T.ex 56 rfl)
theorem sf_Kin (T : Txt K mg w) : PySem.W.selfFirst K (He.ga K "Kin") = true := T.ex 57 rfl
theorem F_capped (T : Txt K mg w) : FnIs K "capped" "capped" s_capped (He.fAd K ("capped", none)) := T.c.def_ 0 rfl
theorem F_fits_side (T : Txt K mg w) : FnIs K "fits_side" "fits_side" s_fits_side (He.fAd K ("fits_side", none)) := T.c.def_ 1 rfl
theorem F_KinD__initD_ (T : Txt K mg w) : FnIs K "__init__" "Kin.__init__" s_KinD__initD_ (He.fAd K ("Kin", some "__init__")) := T.c.def_ 2 rfl
theorem F_KinD__mulD_ (T : Txt K mg w) : FnIs K "__mul__" "Kin.__mul__" s_KinD__mulD_ (He.fAd K ("Kin", some "__mul__")) := T.c.def_ 3 rfl
theorem F_open_kins (T : Txt K mg w) : FnIs K "open_kins" "open_kins" s_open_kins (He.fAd K ("open_kins", none)) := T.c.def_ 4 rfl
theorem F__law_start (T : Txt K mg w) : FnIs K "_law_start" "_law_start" s__law_start (He.fAd K ("_law_start", none)) := T.c.def_ 5 rfl
theorem F__law_draw (T : Txt K mg w) : FnIs K "_law_draw" "_law_draw" s__law_draw (He.fAd K ("_law_draw", none)) := T.c.def_ 6 rfl
theorem F__law_is_number (T : Txt K mg w) : FnIs K "_law_is_number" "_law_is_number" s__law_is_number (He.fAd K ("_law_is_number", none)) := T.c.def_ 7 rfl
theorem F__law_same (T : Txt K mg w) : FnIs K "_law_same" "_law_same" s__law_same (He.fAd K ("_law_same", none)) := T.c.def_ 8 rfl
theorem F__law_sides (T : Txt K mg w) : FnIs K "_law_sides" "_law_sides" s__law_sides (He.fAd K ("_law_sides", none)) := T.c.def_ 9 rfl
theorem F__law_other_side (T : Txt K mg w) : FnIs K "_law_other_side" "_law_other_side" s__law_other_side (He.fAd K ("_law_other_side", none)) := T.c.def_ 10 rfl
theorem F__law_minus (T : Txt K mg w) : FnIs K "_law_minus" "_law_minus" s__law_minus (He.fAd K ("_law_minus", none)) := T.c.def_ 11 rfl
theorem F__law_kin (T : Txt K mg w) : FnIs K "_law_kin" "_law_kin" s__law_kin (He.fAd K ("_law_kin", none)) := T.c.def_ 12 rfl
theorem F__law_is_kin (T : Txt K mg w) : FnIs K "_law_is_kin" "_law_is_kin" s__law_is_kin (He.fAd K ("_law_is_kin", none)) := T.c.def_ 13 rfl
theorem F__law_are_kins (T : Txt K mg w) : FnIs K "_law_are_kins" "_law_are_kins" s__law_are_kins (He.fAd K ("_law_are_kins", none)) := T.c.def_ 14 rfl
theorem F__law_product (T : Txt K mg w) : FnIs K "_law_product" "_law_product" s__law_product (He.fAd K ("_law_product", none)) := T.c.def_ 15 rfl
theorem F__law_multiplied (T : Txt K mg w) : FnIs K "_law_multiplied" "_law_multiplied" s__law_multiplied (He.fAd K ("_law_multiplied", none)) := T.c.def_ 16 rfl
theorem F__law_great (T : Txt K mg w) : FnIs K "_law_great" "_law_great" s__law_great (He.fAd K ("_law_great", none)) := T.c.def_ 17 rfl
theorem F_law (T : Txt K mg w) : FnIs K "law" "law" s_law (He.fAd K ("law", none)) := T.c.def_ 18 rfl
end
end Fk
namespace Fk
open PySem PySem.Spec PyProof.Rows L2 Fw
section
variable {w : World} {K : PySem.W.Frag} {mg : Str → Option Value} {base : Heap}
open NdefX
theorem okb (T : Txt K mg w) : Ok P w K mg base CX0 1 (He.fAd K ("ForkError", some "__init__")) ["self", "reason"] (sp_base K (He.ga K "ForkError")) := by
  obtain ⟨fd, M⟩ := S_ForkError T
  refine okSup (tgt := .builtin "ValueError.__init__") (TG := fun x C ws H1 R => ws.length ≤ 1000 ∧ H1 x = some (exo x C none) ∧ R H1) (N := ["self", "reason", "__class__"]) M (nscope_by (by decide +kernel)) rfl rfl rfl rfl (n_super T) (by decide +kernel) (fun _ _ _ _ us hl => match us, hl with | [_, _], _ => rfl) (fun _ _ _ => ⟨_, rfl⟩) (fun _ => rfl) (fun _ => rfl) (fun vs H Q E h => ?_) (fun A outer s H vs Q E hr h => ?_)
  · obtain ⟨e, C, v, rfl, _⟩ := h; rfl
  · obtain ⟨e, C, v, rfl, sc, hno, he, k⟩ := h
    refine ⟨e, C, _, _, rfl, he, sc, pa_cons (pv 1) pa_nil, pss_one (ps_ost (pv 0) (pv 1)), tgt_val rfl (nothird T), ?_⟩
    exact ⟨v, rfl, by simp, he, ost_first rfl rfl sc.ox hno he fun H2 X => k _ X⟩
theorem okx_BadKin (T : Txt K mg w) : Ok P w K mg base CX0 2 (He.fAd K ("BadKin", some "__init__")) ["self", "up", "down", "side"] (sp_exc (He.ga K "BadKin") "bad kin" ["up", "down", "side"]) := by
  obtain ⟨fd, M⟩ := S_BadKin T
  refine okSup (k := 1) (tgt := .ref (He.fAd K ("ForkError", some "__init__"))) (TG := fun x C ws H1 R => sp_base K (He.ga K "ForkError") (.ref x :: ws) H1 (fun _ H2 => R H2) E0) (N := ["self", "up", "down", "side", "__class__"]) M (nscope_by (by decide +kernel)) rfl rfl rfl rfl (n_super T) (by decide +kernel) (fun _ _ _ _ us hl => match us, hl with | [_, _, _, _], _ => rfl) (fun _ _ _ => ⟨_, rfl⟩) (fun _ => rfl) (fun _ => rfl) (fun vs H Q E h => ?_) (fun A outer s H vs Q E hr h => ?_)
  · obtain ⟨e, ws, rfl, hl, _⟩ := h
    show ws.length + 1 = _
    rw [hl]
    rfl
  · obtain ⟨e, ws, rfl, hl, he, k⟩ := h
    obtain ⟨w0, w1, w2, rfl⟩ : ∃ w0 w1 w2, ws = [w0, w1, w2] := match ws, hl with | [w0, w1, w2], _ => ⟨w0, w1, w2, rfl⟩
    refine ⟨e, _, _, _, rfl, he, sc_BadKin T, pa_cons pe_str pa_nil, pss_cons (ps_ost (pv 0) (pv 1)) (pss_cons (ps_ost (pv 0) (pv 2)) (pss_one (ps_ost (pv 0) (pv 3)))), tgt_own rfl (nothird T) (ti_base T) (fi_base T) hr (okb T).r, ?_⟩
    refine ⟨e, _, _, rfl, scb_BadKin T, nf_BadKin_reason T, he, fun H0 X0 => ?_⟩
    refine ost_next rfl rfl (ox_BadKin T) (nf_BadKin_up T) X0 (by simp) fun H1 X1 => ?_
    refine ost_next rfl rfl (ox_BadKin T) (nf_BadKin_down T) X1 (by simp) fun H2 X2 => ?_
    exact ost_next rfl rfl (ox_BadKin T) (nf_BadKin_side T) X2 (by simp) fun H3 X3 => k _ X3
theorem okx_BadReach (T : Txt K mg w) : Ok P w K mg base CX0 2 (He.fAd K ("BadReach", some "__init__")) ["self", "number"] (sp_exc (He.ga K "BadReach") "bad reach" ["number"]) := by
  obtain ⟨fd, M⟩ := S_BadReach T
  refine okSup (k := 1) (tgt := .ref (He.fAd K ("ForkError", some "__init__"))) (TG := fun x C ws H1 R => sp_base K (He.ga K "ForkError") (.ref x :: ws) H1 (fun _ H2 => R H2) E0) (N := ["self", "number", "__class__"]) M (nscope_by (by decide +kernel)) rfl rfl rfl rfl (n_super T) (by decide +kernel) (fun _ _ _ _ us hl => match us, hl with | [_, _], _ => rfl) (fun _ _ _ => ⟨_, rfl⟩) (fun _ => rfl) (fun _ => rfl) (fun vs H Q E h => ?_) (fun A outer s H vs Q E hr h => ?_)
  · obtain ⟨e, ws, rfl, hl, _⟩ := h
    show ws.length + 1 = _
    rw [hl]
    rfl
  · obtain ⟨e, ws, rfl, hl, he, k⟩ := h
    obtain ⟨w0, rfl⟩ : ∃ w0, ws = [w0] := match ws, hl with | [w0], _ => ⟨w0, rfl⟩
    refine ⟨e, _, _, _, rfl, he, sc_BadReach T, pa_cons pe_str pa_nil, pss_one (ps_ost (pv 0) (pv 1)), tgt_own rfl (nothird T) (ti_base T) (fi_base T) hr (okb T).r, ?_⟩
    refine ⟨e, _, _, rfl, scb_BadReach T, nf_BadReach_reason T, he, fun H0 X0 => ?_⟩
    exact ost_next rfl rfl (ox_BadReach T) (nf_BadReach_number T) X0 (by simp) fun H1 X1 => k _ X1
end
end Fk
namespace Fk
open PySem PySem.Spec PyProof.Rows L2 Fw
local macro_rules | `(tactic| walk_at "ev") => `(tactic| first
  | exact ev_var rfl
  | exact ev_c
  | exact rv_I0
  | exact rv_eq rfl
  | exact rv_ne rfl
  | exact rv_isN
  | exact rv_notN
  | exact ea_nil
  | exact rc_int
  | exact rv_ixL (by assumption) (by first | assumption | rfl)
  | exact rv_ixT (by assumption) (by first | assumption | rfl)
  | exact rc_len (by assumption)
  | exact rc_lenT (by assumption)
  | exact rv_I (by first | assumption | (constructor <;> decide) | decide)
  | exact rv_I (.inr (by constructor <;> decide))
  | exact ru_U
  | assumption
  | (refine' ev_op ?a ?b ?c; (case a => walk_at "ev"); (case b => walk_at "ev"); (case c => walk_at "ev"))
  | (refine' ea_cons ?a ?b; (case a => walk_at "ev"); (case b => walk_at "ev"))
  | (refine' et_test ?a; (case a => walk_at "ev"))
  | (refine' et_B ?a; (case a => walk_at "ev"))
  | (refine' et_not ?a; (case a => walk_at "ev"))
  | (refine' ev_notV ?a; (case a => walk_at "ev"))
  | (refine' ev_un ?a ?b; (case a => walk_at "ev"); (case b => walk_at "ev"))
  | (refine' ev_cb ?a ?b; (case a => walk_at "ev"); (case b => walk_at "ev"))
  | (refine' et_and ?a (fun hand => ?b); (case a => walk_at "ev"); (case b => walk_at "ev"))
  | (refine' et_or ?a (fun hor => ?b); (case a => walk_at "ev"); (case b => walk_at "ev"))
  | (refine' ev_andV ?a (fun hand => ?b); (case a => walk_at "ev"); (case b => walk_at "ev"))
  | (refine' ev_orV ?a (fun hor => ?b); (case a => walk_at "ev"); (case b => walk_at "ev")))
local macro_rules | `(tactic| walk_at "asg") => `(tactic| (first | (refine' s_asg ?a ?b; (case a => walk_at "ev"); dsimp only [List.set]) | (refine' s_asg1 ?a ?b; (case a => walk_at "ev"); dsimp only [List.set])))
local macro_rules | `(tactic| walk_at "if") => `(tactic| (first | (refine' s_if ?a ?b ?c; (case a => walk_at "ev")) | (refine' s_ifc ?a ?b ?c; (case a => walk_at "ev")) | (refine' s_if1 ?a ?b ?c; (case a => walk_at "ev"))))
local macro_rules | `(tactic| walk_at "ret") => `(tactic| (refine' s_ret ?a ?b; (case a => walk_at "ev")))
local macro_rules | `(tactic| walk_at "setL") => `(tactic| (first | (refine' s_setL ?a ?b ?c ?d ?e ?f ?g; (case a => walk_at "ev"); (case b => walk_at "ev"); (case c => walk_at "ev"); (case d => first | assumption | exact upd_same); (case e => first | rfl | assumption); (case f => first | assumption | exact sx_none); (try rw [upd_upd]); dsimp only [List.set]) | (refine' s_setL1 ?a ?b ?c ?d ?e ?f ?g; (case a => walk_at "ev"); (case b => walk_at "ev"); (case c => walk_at "ev"); (case d => first | assumption | exact upd_same); (case e => first | rfl | assumption); (case f => first | assumption | exact sx_none); (try rw [upd_upd]); dsimp only [List.set])))
section
variable {w : World} {K : PySem.W.Frag} {mg : Str → Option Value} {base : Heap}
/-! capped -/
def a_capped : List V → Hp → Dst → (V → Hp → Prop) → Prop := fun vs H S PP => S = none ∧ ∃ x r, vs = [.int x, .int r] ∧ PP = fun v _ => v = .int (capI x r)
theorem ok_capped (T : Txt K mg w) : Ok P w K mg base CX0 1 (He.fAd K ("capped", none)) ["number", "reach"] (sp_x a_capped) := by
  refine okD (F_capped T) sc_capped (fun _ _ _ _ _ _ us hl => match us, hl with | [_, _], _ => rfl) (fun vs H Q E h => ?_) (fun cdv A outer s H vs Q E hr h => ?_)
  · obtain ⟨S, PP, ⟨rfl, x, r, rfl, rfl⟩, _⟩ := h; rfl
  · obtain ⟨S, PP, ⟨rfl, x, r, rfl, rfl⟩, _, k⟩ := h
    refine ⟨_, (pss_cons (ps_if (pt_cmpR op_lt (pv 0) (pv 1) (nomark _))
      (pss_one (ps_ret (pv 0)))
      pss_nil)
      (pss_one (ps_ret (pv 1)))), ?_⟩
    refine go (K := K) (σ' := [some (.int x), some (.int r)]) rfl ?_
    walk_at "if"
    · intro h1
      refine s_ret (ev_var rfl) fun H1 e => k _ _ e ?_
      unfold capI
      rw [if_pos (of_decide_eq_true h1)]
    · intro h1
      refine s_next (s_ret (ev_var rfl) fun H1 e => k _ _ e ?_)
      unfold capI
      rw [if_neg (of_decide_eq_false h1)]
theorem ev_capped {S : Dst} {ta tb : TE} {σ : L2.St} {H : Hp} {x r : Int} (ha : Ev K S ta σ H (.int x)) (hb : Ev K S tb σ H (.int r)) : Ev K S (tCall (sp_x a_capped) [] E0 (tCons ta (tCons tb tNil))) σ H (.int (capI x r)) :=
  ev_p0 (ea_cons ha (ea_cons hb ea_nil)) fun H1 e => ⟨rfl, x, r, rfl, rfl⟩
/-! fits_side -/
theorem ok_fits_side (T : Txt K mg w) : Ok P w K mg base CX0 1 (He.fAd K ("fits_side", none)) ["up", "down", "side"] (sp_x a_fits) := by
  refine okD (F_fits_side T) sc_fits_side (fun _ _ _ _ _ _ us hl => match us, hl with | [_, _, _], _ => rfl) (fun vs H Q E h => ?_) (fun cdv A outer s H vs Q E hr h => ?_)
  · obtain ⟨S, PP, ⟨rfl, u, d, s, rfl, rfl⟩, _⟩ := h; rfl
  · obtain ⟨S, PP, ⟨rfl, u, d, s, rfl, rfl⟩, _, k⟩ := h
    refine ⟨_, (pss_cons (ps_if (PW.pt (pw_or (pt_cmpR op_eq (pv 0) pe_int (nomark _)) (pw_or1 (pt_cmpR op_eq (pv 1) pe_int (nomark _)))))
      (pss_one (ps_ret (pe_cmpR op_eq (pv 2) pe_str (nomark _))))
      pss_nil)
      (pss_one (ps_ret (pe_or (pe_cmpR op_eq (pv 2) pe_str (nomark _)) (pe_one (pe_cmpR op_eq (pv 2) pe_str (nomark _))))))), ?_⟩
    refine go (K := K) (σ' := [some (.int u), some (.int d), some (.str s)]) rfl ?_
    walk_at "if"
    · intro h1
      refine s_ret (by walk_at "ev") fun H1 e => k _ _ e ?_
      rw [show fitsB u d s = decide (s = "line") by unfold fitsB; rw [if_pos (by simpa using h1)]]
      simp
    · intro h1
      refine s_next (s_ret (by walk_at "ev") fun H1 e => k _ _ e ?_)
      rw [show fitsB u d s = (decide (s = "elder") || decide (s = "younger")) by unfold fitsB; rw [if_neg (by simp at h1; omega)]]
      simp
/-! Kin.__init__ -/
theorem ok_KinD__initD_ (T : Txt K mg w) : Ok P w K mg base CX0 4 (He.fAd K ("Kin", some "__init__")) ["self", "up", "down", "side"] (sp_init (He.ga K "Kin") a_kin) := by
  refine okD (F_KinD__initD_ T) sc_KinD__initD_ (fun _ _ _ _ _ _ us hl => match us, hl with | [_, _, _, _], _ => rfl) (fun vs H Q E h => ?_) (fun cdv A outer s H vs Q E hr h => ?_)
  · obtain ⟨x, dx, vs', fs, rfl, _, _, _, ⟨u, d, s, rfl, _⟩, _⟩ := h; rfl
  · obtain ⟨x, dx, vs', fs, rfl, hx, hdx, ne, ⟨u, d, s, rfl, v, rfl⟩, k⟩ := h
    refine ⟨_, (pss_cons (ps_if (PW.pt (pw_or (pt_not (pt_chain op_le op_le pe_int (pv 1) (conK K rfl (pv 0)))) (pw_or (pt_not (pt_chain op_le op_le pe_int (pv 2) (conK K rfl (pv 0)))) (pw_or1 (pt_not (pt_val (pe_callO (ok_fits_side T) (hr.mono (by first | decide | omega)) rfl (g_fits_side T) pass0 (pa_cons (pv 1) (pa_cons (pv 2) (pa_cons (pv 3) pa_nil))))))))))
      (pss_one ps_never)
      pss_nil)
      (pss_cons (ps_fldK K rfl (pv 0) (pv 1) rfl)
      (pss_cons (ps_fldK K rfl (pv 0) (pv 2) rfl)
      (pss_cons (ps_fldK K rfl (pv 0) (pv 3) rfl)
      (pss_cons (ps_fldK K rfl (pv 0) (pe_op op_add (pv 1) (pv 2)) rfl)
      (pss_one (ps_fldK K rfl (pv 0) (bmK K rfl PySem.F.plainAttrs_tuple PySem.F.slot_tuple_index PySem.F.type_tuple_index (mt_tindex K rfl) (pe_glob (v := V.ref (He.ga K "SIDES")) rfl (g_SIDES T) rfl) (pa_cons (pv 3) pa_nil)) rfl))))))), ?_⟩
    refine go (K := K) (σ' := [some (.ref x), some (.int u), some (.int d), some (.str s)]) rfl ?_
    obtain ⟨cu, con⟩ := con_Kin_MOST T
    have c := c_Kin T
    have ix : IA none H x (He.ga K "Kin") [] := ⟨⟨dx, hx⟩, sx_none⟩
    have most : ∀ {ta σ H1}, Ev K none ta σ H1 (.ref x) → Lx none H H1 → Ev K none (tCon K ta "MOST") σ H1 (.int 999) := fun h e => ev_con h (ix.mono e) c con rfl
    refine s_if (b := false) (et_is (et_or (et_not (et_test (ev_chain ev_c (ev_var rfl) rv_I0 (fun _ => most (ev_var rfl) Lx.rfl0) fun _ => rv_I0))) fun _ => et_or (et_not (et_test (ev_chain ev_c (ev_var rfl) rv_I0 (fun _ => most (ev_var rfl) Lx.rfl0) fun _ => rv_I0))) fun _ => et_not (et_B (ev_p0 (v := .bl (fitsB u d s)) (by walk_at "ev") fun _ _ => ⟨rfl, u, d, s, rfl, rfl⟩))) ?_) (fun z => nomatch z) (fun _ => s_next ?_)
    · simp [v.u0, v.u1, v.d0, v.d1, v.fit]
    obtain ⟨j, e1, e2, e3, e4, e5⟩ := side_at v.side
    refine s_fld hx sx_none c (fs' := [("up", .int u)]) (na_Kin_up T) (by simp) (ev_var rfl) (ev_var rfl) rfl ?_
    refine s_fld upd_same sx_none c (fs' := [("up", .int u), ("down", .int d)]) (na_Kin_down T) (by simp) (ev_var rfl) (ev_var rfl) rfl ?_
    rw [upd_upd]
    refine s_fld upd_same sx_none c (fs' := [("up", .int u), ("down", .int d), ("side", .str s)]) (na_Kin_side T) (by simp) (ev_var rfl) (ev_var rfl) rfl ?_
    rw [upd_upd]
    refine s_fld upd_same sx_none c (fs' := [("up", .int u), ("down", .int d), ("side", .str s), ("far", .int (u + d))]) (na_Kin_far T) (by simp) (ev_op (ev_var rfl) (ev_var rfl) rv_I0) (ev_var rfl) rfl ?_
    rw [upd_upd]
    refine s_fld1 upd_same sx_none c (na_Kin_rank T) (by simp) (ev_tindex ev_c (ud_SIDES T) (UA.of0 (u_SIDES T _)) (ev_var rfl) e3 rfl e2 e4 e5) (ev_var rfl) rfl fun H1 e => ?_
    rw [upd_upd] at e
    refine k _ ?_
    rw [show kinF u d s = ([("up", .int u), ("down", .int d), ("side", .str s), ("far", .int (u + d)), ("rank", .int (j : Int))] : List (Str × V)) by rw [← e1]; rfl]
    exact e
theorem okr_KinD__initD_ (T : Txt K mg w) : Ok P w K mg base (L2N.CX P w) 4 (He.fAd K ("Kin", some "__init__")) ["self", "up", "down", "side"] (sp_kinX K) := by
  refine okDX (F_KinD__initD_ T) sc_KinD__initD_ (fun _ _ _ _ _ _ us hl => match us, hl with | [_, _, _, _], _ => rfl) (fun vs H Q E h => ?_) (fun cdv A outer s H vs Q E hr h => ?_)
  · obtain ⟨x, dx, kt, rfl, _⟩ := h; rfl
  · obtain ⟨x, dx, ⟨u, d, s⟩, rfl, hx, k, ke⟩ := h
    refine ⟨_, (pss_cons (ps_if (PW.pt (pw_or (pt_not (pt_chain op_le op_le pe_int (pv 1) (conK K rfl (pv 0)))) (pw_or (pt_not (pt_chain op_le op_le pe_int (pv 2) (conK K rfl (pv 0)))) (pw_or1 (pt_not (pt_val (pe_callO (ok_fits_side T) (hr.mono (by first | decide | omega)) rfl (g_fits_side T) pass0 (pa_cons (pv 1) (pa_cons (pv 2) (pa_cons (pv 3) pa_nil))))))))))
      (pss_one (L2N.ps_raise rfl (L2N.takes_of rfl rfl rfl rfl) (pmkN_oex (ox_BadKin T) (ii_BadKin T) (ti_BadKin T) (okx_BadKin T) (hr.mono (by first | decide | omega)) pass0 rfl (g_BadKin T) (pa_cons (pv 1) (pa_cons (pv 2) (pa_cons (pv 3) pa_nil))))))
      pss_nil)
      (pss_cons (ps_fldK K rfl (pv 0) (pv 1) rfl)
      (pss_cons (ps_fldK K rfl (pv 0) (pv 2) rfl)
      (pss_cons (ps_fldK K rfl (pv 0) (pv 3) rfl)
      (pss_cons (ps_fldK K rfl (pv 0) (pe_op op_add (pv 1) (pv 2)) rfl)
      (pss_one (ps_fldK K rfl (pv 0) (bmK K rfl PySem.F.plainAttrs_tuple PySem.F.slot_tuple_index PySem.F.type_tuple_index (mt_tindex K rfl) (pe_glob (v := V.ref (He.ga K "SIDES")) rfl (g_SIDES T) rfl) (pa_cons (pv 3) pa_nil)) rfl))))))), ?_⟩
    refine go (K := K) (σ' := [some (.ref x), some (.int u), some (.int d), some (.str s)]) rfl ?_
    obtain ⟨cu, con⟩ := con_Kin_MOST T
    have c := c_Kin T
    have ix : IA none H x (He.ga K "Kin") [] := ⟨⟨dx, hx⟩, sx_none⟩
    have most : ∀ {ta σ H1}, Ev K none ta σ H1 (.ref x) → Lx none H H1 → Ev K none (tCon K ta "MOST") σ H1 (.int 999) := fun h e => ev_con h (ix.mono e) c con rfl
    refine s_if (b := !(decide (0 ≤ u) && decide (u ≤ 999)) || (!(decide (0 ≤ d) && decide (d ≤ 999)) || !fitsB u d s)) (et_is (et_or (et_not (et_test (ev_chain ev_c (ev_var rfl) rv_I0 (fun _ => most (ev_var rfl) Lx.rfl0) fun _ => rv_I0))) fun _ => et_or (et_not (et_test (ev_chain ev_c (ev_var rfl) rv_I0 (fun _ => most (ev_var rfl) Lx.rfl0) fun _ => rv_I0))) fun _ => et_not (et_B (ev_p0 (v := .bl (fitsB u d s)) (by walk_at "ev") fun _ _ => ⟨rfl, u, d, s, rfl, rfl⟩))) rfl) (fun hb => ?_) (fun hb => s_next ?_)
    · have nk : ¬ KVk (u, d, s) := fun v => by
        have v0 := v.u0
        have v1 := v.u1
        have v2 := v.d0
        have v3 := v.d1
        have v4 := v.fit
        dsimp only at v0 v1 v2 v3 v4
        simp [v0, v1, v2, v3, v4] at hb
      exact s_raise (ea_cons (ev_var rfl) (ea_cons (ev_var rfl) (ea_cons (ev_var rfl) ea_nil))) rfl (by simp) fun d H1 e R => ke nk _ _ _ e R
    have v : KVk (u, d, s) := by
      simp at hb
      obtain ⟨⟨a1, a2⟩, ⟨a3, a4⟩, a5⟩ := hb
      exact ⟨a1, a2, a3, a4, a5⟩
    obtain ⟨j, e1, e2, e3, e4, e5⟩ := side_at v.side
    refine s_fld hx sx_none c (fs' := [("up", .int u)]) (na_Kin_up T) (by simp) (ev_var rfl) (ev_var rfl) rfl ?_
    refine s_fld upd_same sx_none c (fs' := [("up", .int u), ("down", .int d)]) (na_Kin_down T) (by simp) (ev_var rfl) (ev_var rfl) rfl ?_
    rw [upd_upd]
    refine s_fld upd_same sx_none c (fs' := [("up", .int u), ("down", .int d), ("side", .str s)]) (na_Kin_side T) (by simp) (ev_var rfl) (ev_var rfl) rfl ?_
    rw [upd_upd]
    refine s_fld upd_same sx_none c (fs' := [("up", .int u), ("down", .int d), ("side", .str s), ("far", .int (u + d))]) (na_Kin_far T) (by simp) (ev_op (ev_var rfl) (ev_var rfl) rv_I0) (ev_var rfl) rfl ?_
    rw [upd_upd]
    refine s_fld1 upd_same sx_none c (na_Kin_rank T) (by simp) (ev_tindex ev_c (ud_SIDES T) (UA.of0 (u_SIDES T _)) (ev_var rfl) e3 rfl e2 e4 e5) (ev_var rfl) rfl fun H1 e => ?_
    rw [upd_upd] at e
    refine k v _ ?_
    rw [show kinF u d s = ([("up", .int u), ("down", .int d), ("side", .str s), ("far", .int (u + d)), ("rank", .int (j : Int))] : List (Str × V)) by rw [← e1]; rfl]
    exact e
/-! open_kins -/
def a_open (K : PySem.W.Frag) : List V → Hp → Dst → (V → Hp → Prop) → Prop := fun vs H S PP => S = none ∧ ∃ (u d : Nat), vs = [.int (u : Int), .int (d : Int)] ∧ u ≤ 999 ∧ d ≤ 999 ∧ PP = fun v H2 => ∃ p ys, v = .ref p ∧ H p = none ∧ H2 p = some (.lst ys) ∧ KinsL K none H2 ys (openK u d)
theorem ex_mk {tas : TA} {σ : L2.St} {H : Hp} {k : KT} (h : EvA K none tas σ H [.int k.1, .int k.2.1, .str k.2.2]) (kv : KVk k) : EvX K none (StX.tMakeR (He.ga K "Kin") (sp_init (He.ga K "Kin") a_kin) E0 tas) σ H (NewI none H (He.ga K "Kin") (kinF k.1 k.2.1 k.2.2)) :=
  ex_make h (fun _ _ => ⟨_, _, _, rfl, kv, rfl⟩) (fun _ _ _ _ _ _ q => q)
theorem ok_open_kins (T : Txt K mg w) : Ok P w K mg base CX0 6 (He.fAd K ("open_kins", none)) ["up", "down"] (sp_x (a_open K)) := by
  refine okD (F_open_kins T) sc_open_kins (fun _ _ _ _ _ _ us hl => match us, hl with | [_, _], _ => rfl) (fun vs H Q E h => ?_) (fun cdv A outer s H vs Q E hr h => ?_)
  · obtain ⟨S, PP, ⟨rfl, u, d, rfl, _⟩, _⟩ := h; rfl
  · obtain ⟨S, PP, ⟨rfl, u, d, rfl, hu, hd, rfl⟩, _, k⟩ := h
    refine ⟨_, (pss_cons (ps_set (i := 2) sc_open_kins.nd rfl (Or.inl rfl) (pe_lst pa_nil))
      (pss_cons (ps_for PassesOwn.never rfl (pi_range3 (by rfl) (n_range T) (pa_cons (pe_callO (ok_capped T) (hr.mono (by first | decide | omega)) rfl (g_capped T) pass0 (pa_cons (pv 0) (pa_cons (pv 1) pa_nil))) (pa_cons (pe_un un_neg pe_int) (pa_cons (pe_un un_neg pe_int) pa_nil)))) (pg_name (i := 3) sc_open_kins.nd rfl (Or.inl rfl))
      (pss_one (ps_if (PW.pt (pw_or (pt_cmpR op_eq (pv 3) (pv 0) (nomark _)) (pw_or1 (pt_cmpR op_eq (pv 3) (pv 1) (nomark _)))))
      (pss_one (ps_expr (bmK K rfl PySem.F.plainAttrs_list PySem.F.slot_list_append PySem.F.type_list_append mt_append (pv 2) (pa_cons (pe_makeO (M_Kin T) (ok_KinD__initD_ T) (hr.mono (by first | decide | omega)) rfl (g_Kin T) pass0 (pa_cons (pe_op op_sub (pv 0) (pv 3)) (pa_cons (pe_op op_sub (pv 1) (pv 3)) (pa_cons pe_str pa_nil)))) pa_nil))))
      (pss_cons (ps_expr (bmK K rfl PySem.F.plainAttrs_list PySem.F.slot_list_append PySem.F.type_list_append mt_append (pv 2) (pa_cons (pe_makeO (M_Kin T) (ok_KinD__initD_ T) (hr.mono (by first | decide | omega)) rfl (g_Kin T) pass0 (pa_cons (pe_op op_sub (pv 0) (pv 3)) (pa_cons (pe_op op_sub (pv 1) (pv 3)) (pa_cons pe_str pa_nil)))) pa_nil)))
      (pss_one (ps_expr (bmK K rfl PySem.F.plainAttrs_list PySem.F.slot_list_append PySem.F.type_list_append mt_append (pv 2) (pa_cons (pe_makeO (M_Kin T) (ok_KinD__initD_ T) (hr.mono (by first | decide | omega)) rfl (g_Kin T) pass0 (pa_cons (pe_op op_sub (pv 0) (pv 3)) (pa_cons (pe_op op_sub (pv 1) (pv 3)) (pa_cons pe_str pa_nil)))) pa_nil))))))))
      (pss_one (ps_ret (pv 2))))), ?_⟩
    refine go (K := K) (σ' := [some (.int (u : Int)), some (.int (d : Int)), none, none]) rfl ?_
    refine s_asgX (ex_lst (vs := []) ea_nil (len_le (by simp))) ?_
    rintro _ H1 e1 ⟨p, rfl, fp, _, hp⟩
    dsimp only [List.set]
    refine s_forDown (a := min u d) (ea_cons (ev_is (ev_p0 (v := .int (capI (u : Int) (d : Int))) (ea_cons (ev_var rfl) (ea_cons (ev_var rfl) ea_nil)) fun G1 f1 => ⟨rfl, (u : Int), (d : Int), rfl, rfl⟩) (congrArg V.int (by unfold capI; split <;> omega))) (ea_cons (ev_un ev_c (rv_negI)) (ea_cons (ev_un ev_c (rv_negI)) ea_nil))) (by omega) (fun i σ' H' => (∃ v3, σ' = [some (.int (u : Int)), some (.int (d : Int)), some (.ref p), v3]) ∧ Lx none H H' ∧ ∃ ys, H' p = some (.lst ys) ∧ KinsL K none H' ys (openN u d i)) wf0 (fun H2 e2 => ⟨⟨_, rfl⟩, e1.trans e2, [], e2.1 _ _ sx_none hp, KinsL.nil⟩) ?_ ?_
    · rintro i σ' H2 hi ⟨⟨v3, rfl⟩, e2, ys, hys, hk⟩
      dsimp only [List.set]
      have ll := openN_len (u := u) (d := d) (n := i)
      have eu : (u : Int) - ((min u d - i : Nat) : Int) = ((u - min u d + i : Nat) : Int) := by omega
      have ed : (d : Int) - ((min u d - i : Nat) : Int) = ((d - min u d + i : Nat) : Int) := by omega
      have z : ((((min u d - i : Nat) : Int) = (u : Int)) ∨ (((min u d - i : Nat) : Int) = (d : Int))) ↔ (((u - min u d + i : Nat) : Int) = 0 ∨ ((d - min u d + i : Nat) : Int) = 0) := by omega
      have mk : ∀ {G : Hp} {te : TE} {s : Str}, Ev K none te [some (.int (u : Int)), some (.int (d : Int)), some (.ref p), some (.int ((min u d - i : Nat) : Int))] G (.str s) → EvA K none (tCons (tOp (rI0 fun i j => .int (i - j)) (tVar 0) (tVar 3)) (tCons (tOp (rI0 fun i j => .int (i - j)) (tVar 1) (tVar 3)) (tCons te tNil))) [some (.int (u : Int)), some (.int (d : Int)), some (.ref p), some (.int ((min u d - i : Nat) : Int))] G [.int ((u - min u d + i : Nat) : Int), .int ((d - min u d + i : Nat) : Int), .str s] := fun h => ea_cons (ev_is (ev_op (ev_var rfl) (ev_var rfl) rv_I0) (congrArg V.int eu)) (ea_cons (ev_is (ev_op (ev_var rfl) (ev_var rfl) rv_I0) (congrArg V.int ed)) (ea_cons h ea_nil))
      have kv : ∀ {s : Str}, fitsB ((u - min u d + i : Nat) : Int) ((d - min u d + i : Nat) : Int) s = true → KVk (((u - min u d + i : Nat) : Int), ((d - min u d + i : Nat) : Int), s) := fun h => ⟨by dsimp only; omega, by dsimp only; omega, by dsimp only; omega, by dsimp only; omega, h⟩
      refine s_if1 (b := decide (((min u d - i : Nat) : Int) = (u : Int)) || decide (((min u d - i : Nat) : Int) = (d : Int))) (et_is (et_or (et_test (ev_op (ev_var rfl) (ev_var rfl) (rv_eq rfl))) fun _ => et_test (ev_op (ev_var rfl) (ev_var rfl) (rv_eq rfl))) (by simp)) (fun hb => ?_) (fun hb => ?_)
      · have zz := z.mp (by simpa using hb)
        refine s_appX1 hys sx_none (ev_var rfl) (ex_mk (k := (((u - min u d + i : Nat) : Int), ((d - min u d + i : Nat) : Int), "line")) (mk ev_c) (kv (by unfold fitsB; rw [if_pos zz]; rfl))) (by rw [hk.1, sizeLine_eq]; omega) ?_
        rintro _ H3 e3 ⟨b, rfl, fb, kb⟩ H4 e4
        have hys3 := e3.1 _ _ sx_none hys
        refine ⟨⟨_, rfl⟩, ((e2.trans e3).put sx_none fun u z => nomatch (fp.symm.trans z)).trans e4, _, e4.1 _ _ sx_none upd_same, ?_⟩
        have r := (KinsL.snoc (k := (((u - min u d + i : Nat) : Int), ((d - min u d + i : Nat) : Int), "line")) (hk.mono e3) kb).stab (ws := ys ++ [.ref b]) hys3
        rw [openN_succ, show sidesK ((u - min u d + i : Nat) : Int) ((d - min u d + i : Nat) : Int) = [(((u - min u d + i : Nat) : Int), ((d - min u d + i : Nat) : Int), ("line" : Str))] by unfold sidesK; rw [if_pos zz]]
        exact r.mono e4
      · have zz : ¬ (((u - min u d + i : Nat) : Int) = 0 ∨ ((d - min u d + i : Nat) : Int) = 0) := fun h => by
          have := z.mpr h
          simp at hb
          omega
        refine s_appX hys sx_none (ev_var rfl) (ex_mk (k := (((u - min u d + i : Nat) : Int), ((d - min u d + i : Nat) : Int), "elder")) (mk ev_c) (kv (by unfold fitsB; rw [if_neg zz]; rfl))) (by rw [hk.1, sizeLine_eq]; omega) ?_
        rintro _ H3 e3 ⟨b, rfl, fb, kb⟩
        have hys3 := e3.1 _ _ sx_none hys
        have r := (KinsL.snoc (k := (((u - min u d + i : Nat) : Int), ((d - min u d + i : Nat) : Int), "elder")) (hk.mono e3) kb).stab (ws := ys ++ [.ref b]) hys3
        have e3' := (e2.trans e3).put (o := .lst (ys ++ [.ref b])) sx_none (fun u z => nomatch (fp.symm.trans z))
        have hys3' : (upd H3 p (.lst (ys ++ [.ref b]))) p = some (.lst (ys ++ [.ref b])) := upd_same
        refine s_appX1 hys3' sx_none (ev_var rfl) (ex_mk (k := (((u - min u d + i : Nat) : Int), ((d - min u d + i : Nat) : Int), "younger")) (mk ev_c) (kv (by unfold fitsB; rw [if_neg zz]; rfl))) (by rw [List.length_append, hk.1, sizeLine_eq]; simp; omega) ?_
        rintro _ H4 e4 ⟨b', rfl, fb', kb'⟩ H5 e5
        have hys4 := e4.1 _ _ sx_none hys3'
        have r2 := (KinsL.snoc (k := (((u - min u d + i : Nat) : Int), ((d - min u d + i : Nat) : Int), "younger")) (r.mono e4) kb').stab (ws := ys ++ [.ref b] ++ [.ref b']) hys4
        refine ⟨⟨_, rfl⟩, ((e3'.trans e4).put sx_none fun u z => nomatch (fp.symm.trans z)).trans e5, _, e5.1 _ _ sx_none upd_same, ?_⟩
        rw [openN_succ, show sidesK ((u - min u d + i : Nat) : Int) ((d - min u d + i : Nat) : Int) = [(((u - min u d + i : Nat) : Int), ((d - min u d + i : Nat) : Int), ("elder" : Str)), (((u - min u d + i : Nat) : Int), ((d - min u d + i : Nat) : Int), ("younger" : Str))] by unfold sidesK; rw [if_neg zz]]
        have e : openN u d i ++ [(((u - min u d + i : Nat) : Int), ((d - min u d + i : Nat) : Int), ("elder" : Str)), (((u - min u d + i : Nat) : Int), ((d - min u d + i : Nat) : Int), ("younger" : Str))] = openN u d i ++ [(((u - min u d + i : Nat) : Int), ((d - min u d + i : Nat) : Int), ("elder" : Str))] ++ [(((u - min u d + i : Nat) : Int), ((d - min u d + i : Nat) : Int), ("younger" : Str))] := by simp
        rw [e]
        exact r2.mono e5
    · rintro σ' H2 ⟨⟨v3, rfl⟩, e2, ys, hys, hk⟩
      exact s_ret (ev_var rfl) fun H3 e3 => k _ _ (e2.trans e3) ⟨p, ys, rfl, fp, e3.1 _ _ sx_none hys, hk.mono e3⟩
/-! Kin.__mul__ -/
def a_mul (K : PySem.W.Frag) : List V → Hp → Dst → (V → Hp → Prop) → (Value → Addr → Hp → Prop) → Prop := fun vs H S PP PE => S = none ∧ ∃ (a b : Addr) (ka kb : KT), vs = [.ref a, .ref b] ∧ KinA K none H a ka.1 ka.2.1 ka.2.2 ∧ KinA K none H b kb.1 kb.2.1 kb.2.2 ∧ KVk ka ∧ KVk kb ∧
  PP = (fun v H2 => (∀ k ∈ mulK ka kb, KVk k) ∧ ∃ p ys, v = .ref p ∧ H p = none ∧ H2 p = some (.lst ys) ∧ KinsL K none H2 ys (mulK ka kb)) ∧ PE = fun cls d H2 => ∃ k, mulK ka kb = [k] ∧ ¬ KVk k ∧ BadK K none H k cls d H2
theorem okr_KinD__mulD_ (T : Txt K mg w) : Ok P w K mg base (L2N.CX P w) 7 (He.fAd K ("Kin", some "__mul__")) ["self", "other"] (sp_xe (a_mul K)) := by
  refine okDX (F_KinD__mulD_ T) sc_KinD__mulD_ (fun _ _ _ _ _ _ us hl => match us, hl with | [_, _], _ => rfl) (fun vs H Q E h => ?_) (fun cdv A outer s H vs Q E hr h => ?_)
  · obtain ⟨S, PP, PE, ⟨rfl, a, b, ka, kb, rfl, _⟩, _⟩ := h; rfl
  · obtain ⟨S, PP, PE, ⟨rfl, a, b, ka, kb, rfl, ia, ib, va, vb, rfl, rfl⟩, _, k, ke⟩ := h
    refine ⟨_, (pss_cons (ps_if (pt_not (pt_val (pe_callB (isiK K rfl) (by rfl) (n_isinstance T) (by decide +kernel) (pa_cons (pv 1) (pa_cons (pe_glob (v := V.ref (He.ga K "Kin")) rfl (g_Kin T) rfl) pa_nil)))))
      (pss_one ps_never)
      pss_nil)
      (pss_cons (ps_if (pt_cmpR op_lt (fldK K rfl (pv 1)) (fldK K rfl (pv 0)) (nomark _))
      (pss_one (ps_ret (pe_lst (pa_cons (pe_makeO (M_Kin T) (okr_KinD__initD_ T) (hr.mono (by first | decide | omega)) rfl (g_Kin T) (passX (L2N.takes_of rfl rfl rfl rfl)) (pa_cons (fldK K rfl (pv 0)) (pa_cons (pe_op op_add (pe_op op_sub (fldK K rfl (pv 0)) (fldK K rfl (pv 1))) (fldK K rfl (pv 1))) (pa_cons (fldK K rfl (pv 0)) pa_nil)))) pa_nil))))
      pss_nil)
      (pss_cons (ps_if (pt_cmpR op_gt (fldK K rfl (pv 1)) (fldK K rfl (pv 0)) (nomark _))
      (pss_one (ps_ret (pe_lst (pa_cons (pe_makeO (M_Kin T) (okr_KinD__initD_ T) (hr.mono (by first | decide | omega)) rfl (g_Kin T) (passX (L2N.takes_of rfl rfl rfl rfl)) (pa_cons (pe_op op_sub (pe_op op_add (fldK K rfl (pv 0)) (fldK K rfl (pv 1))) (fldK K rfl (pv 0))) (pa_cons (fldK K rfl (pv 1)) (pa_cons (fldK K rfl (pv 1)) pa_nil)))) pa_nil))))
      pss_nil)
      (pss_cons (ps_if (PW.pt (pw_or (pt_cmpR op_eq (fldK K rfl (pv 0)) pe_int (nomark _)) (pw_or1 (pt_cmpR op_eq (fldK K rfl (pv 1)) pe_int (nomark _)))))
      (pss_one (ps_ret (pe_lst (pa_cons (pe_makeO (M_Kin T) (okr_KinD__initD_ T) (hr.mono (by first | decide | omega)) rfl (g_Kin T) (passX (L2N.takes_of rfl rfl rfl rfl)) (pa_cons (fldK K rfl (pv 0)) (pa_cons (fldK K rfl (pv 1)) (pa_cons pe_str pa_nil)))) pa_nil))))
      pss_nil)
      (pss_cons (ps_if (PW.pt (pw_and (pt_cmpR op_eq (fldK K rfl (pv 0)) (fldK K rfl (pv 1)) (nomark _)) (pw_and1 (pt_cmpR op_ne (fldK K rfl (pv 0)) pe_str (nomark _)))))
      (pss_one (ps_ret (pe_lst (pa_cons (pe_makeO (M_Kin T) (okr_KinD__initD_ T) (hr.mono (by first | decide | omega)) rfl (g_Kin T) (passX (L2N.takes_of rfl rfl rfl rfl)) (pa_cons (fldK K rfl (pv 0)) (pa_cons (fldK K rfl (pv 1)) (pa_cons (fldK K rfl (pv 0)) pa_nil)))) pa_nil))))
      pss_nil)
      (pss_one (ps_ret (pe_callO (ok_open_kins T) (hr.mono (by first | decide | omega)) rfl (g_open_kins T) pass0 (pa_cons (fldK K rfl (pv 0)) (pa_cons (fldK K rfl (pv 1)) pa_nil)))))))))), ?_⟩
    refine go (K := K) (σ' := [some (.ref a), some (.ref b)]) rfl ?_
    have c := c_Kin T
    have u1 : Ev K none (tFld K (tVar 0) "up") [some (.ref a), some (.ref b)] H (.int ka.1) := ev_fld (ev_var rfl) ia c (na_Kin_up T) rfl
    have d1 : Ev K none (tFld K (tVar 0) "down") [some (.ref a), some (.ref b)] H (.int ka.2.1) := ev_fld (ev_var rfl) ia c (na_Kin_down T) rfl
    have s1 : Ev K none (tFld K (tVar 0) "side") [some (.ref a), some (.ref b)] H (.str ka.2.2) := ev_fld (ev_var rfl) ia c (na_Kin_side T) rfl
    have u2 : Ev K none (tFld K (tVar 1) "up") [some (.ref a), some (.ref b)] H (.int kb.1) := ev_fld (ev_var rfl) ib c (na_Kin_up T) rfl
    have d2 : Ev K none (tFld K (tVar 1) "down") [some (.ref a), some (.ref b)] H (.int kb.2.1) := ev_fld (ev_var rfl) ib c (na_Kin_down T) rfl
    have s2 : Ev K none (tFld K (tVar 1) "side") [some (.ref a), some (.ref b)] H (.str kb.2.2) := ev_fld (ev_var rfl) ib c (na_Kin_side T) rfl
    -- one kin in a list
    have one : ∀ {tas : TA} {kt : KT}, mulK ka kb = [kt] → EvA K none tas [some (.ref a), some (.ref b)] H [.int kt.1, .int kt.2.1, .str kt.2.2] → EvX K none (tLst (tCons (StX.tMakeR (He.ga K "Kin") (sp_kinX K) E tas) tNil)) [some (.ref a), some (.ref b)] H (fun v H2 => (∀ k ∈ mulK ka kb, KVk k) ∧ ∃ p ys, v = .ref p ∧ H p = none ∧ H2 p = some (.lst ys) ∧ KinsL K none H2 ys (mulK ka kb)) := fun {tas kt} em h => by
      refine (ex_lstX (PA := fun vs H2 => KVk kt ∧ ∃ b, vs = [.ref b] ∧ KinA K none H2 b kt.1 kt.2.1 kt.2.2) (eax_cons (ex_kinX h fun nk cls e H' e1 R => ke _ _ _ e1 ⟨kt, em, nk, R⟩) ?_) ?_).imp ?_
      · rintro _ G1 f1 ⟨kv, b, rfl, _, kb⟩
        exact ea_nil.toX.imp fun w G2 f2 z => ⟨kv, b, by rw [z], kb.mono f2⟩
      · rintro vs G1 ⟨_, b, rfl, _⟩
        exact len_le (by simp)
      · rintro v G1 f1 ⟨vs, G2, ⟨kv, b, rfl, kb⟩, _, e3, p, rfl, fp, _, hp⟩
        rw [em]
        exact ⟨fun k hk => by rw [List.mem_singleton] at hk; rw [hk]; exact kv, p, _, rfl, fp, hp, KinsL.snoc KinsL.nil (kb.mono e3)⟩
    refine s_if (b := false) (et_not (b := true) (et_B (ev_isO (ev_var rfl) ev_c ib c (isc_Kin T) kit_self))) (fun z => nomatch z) (fun _ => s_next ?_)
    refine s_if (et_test (ev_op u2 d1 rv_I0)) (fun h1 => ?_) (fun h1 => s_next ?_)
    · exact s_retX (one (kt := (ka.1, ka.2.1 - kb.1 + kb.2.1, ka.2.2)) (by unfold mulK; rw [if_pos (of_decide_eq_true h1)]) (ea_cons u1 (ea_cons (ev_op (ev_op d1 u2 rv_I0) d2 rv_I0) (ea_cons s1 ea_nil)))) k
    have h1 := of_decide_eq_false h1
    refine s_if (et_test (ev_op u2 d1 rv_I0)) (fun h2 => ?_) (fun h2 => s_next ?_)
    · exact s_retX (one (kt := (ka.1 + kb.1 - ka.2.1, kb.2.1, kb.2.2)) (by unfold mulK; rw [if_neg h1, if_pos (of_decide_eq_true h2)]) (ea_cons (ev_op (ev_op u1 u2 rv_I0) d1 rv_I0) (ea_cons d2 (ea_cons s2 ea_nil)))) k
    have h2 := of_decide_eq_false h2
    refine s_if (b := decide (ka.1 = 0) || decide (kb.2.1 = 0)) (et_is (et_or (et_test (ev_op u1 ev_c (rv_eq rfl))) fun _ => et_test (ev_op d2 ev_c (rv_eq rfl))) (by simp)) (fun h3 => ?_) (fun h3 => s_next ?_)
    · exact s_retX (one (kt := (ka.1, kb.2.1, "line")) (by unfold mulK; rw [if_neg h1, if_neg h2, if_pos (by simpa using h3)]) (ea_cons u1 (ea_cons d2 (ea_cons ev_c ea_nil)))) k
    have h3 : ¬ (ka.1 = 0 ∨ kb.2.1 = 0) := by simpa using h3
    refine s_if (b := decide (ka.2.2 = kb.2.2) && !decide (ka.2.2 = "line")) (et_is (et_and (et_test (ev_op s1 s2 (rv_eq rfl))) fun _ => et_test (ev_op s1 ev_c (rv_ne rfl))) (by simp)) (fun h4 => ?_) (fun h4 => s_next ?_)
    · exact s_retX (one (kt := (ka.1, kb.2.1, ka.2.2)) (by unfold mulK; rw [if_neg h1, if_neg h2, if_neg h3, if_pos (by simpa using h4)]) (ea_cons u1 (ea_cons d2 (ea_cons s1 ea_nil)))) k
    have em : mulK ka kb = openK ka.1.toNat kb.2.1.toNat := by unfold mulK; rw [if_neg h1, if_neg h2, if_neg h3, if_neg (by simpa using h4)]
    have a0 := va.u0
    have a1 := va.u1
    have b0 := vb.d0
    have b1 := vb.d1
    refine s_retX (ex_p0 (P' := fun v H2 => (∀ k ∈ mulK ka kb, KVk k) ∧ ∃ p ys, v = .ref p ∧ H p = none ∧ H2 p = some (.lst ys) ∧ KinsL K none H2 ys (mulK ka kb)) (ea_cons (ev_is u1 (congrArg V.int (show ka.1 = (ka.1.toNat : Int) by omega))) (ea_cons (ev_is d2 (congrArg V.int (show kb.2.1 = (kb.2.1.toNat : Int) by omega))) ea_nil)) fun G1 f1 => ⟨_, ⟨rfl, ka.1.toNat, kb.2.1.toNat, rfl, by omega, by omega, rfl⟩, fun v G2 f2 ⟨p, ys, hv, fp, hp, hk⟩ => ?_⟩) k
    rw [em]
    exact ⟨openK_kv (by omega) (by omega), p, ys, hv, f1.fresh fp, hp, hk⟩
/-! _law_start -/
theorem ok__law_start (T : Txt K mg w) : Ok P w K mg base CX0 1 (He.fAd K ("_law_start", none)) ["script"] (sp_start K) := by
  refine okD (F__law_start T) sc__law_start (fun _ _ _ _ _ _ us hl => match us, hl with | [_], _ => rfl) (fun vs H Q E h => ?_) (fun cdv A outer s H vs Q E hr h => ?_)
  · obtain ⟨a, ns, rfl, _⟩ := h; rfl
  · obtain ⟨a, ns, rfl, hS, k⟩ := h
    refine ⟨_, (pss_one (ps_ret (pe_lst (pa_cons (pe_callTy (listK K rfl) (by rfl) (n_list T) (by decide +kernel) (pa_cons (pv 0) pa_nil)) (pa_cons pe_int (pa_cons pe_int (pa_cons pe_int (pa_cons pe_int pa_nil)))))))), ?_⟩
    refine go (K := K) (σ' := [some (.ref a)]) rfl ?_
    refine s_retX (ex_lstX (PA := fun vs H2 => ∃ l, vs = [.ref l, .int 0, .int 0, .int 0, .int 0] ∧ H l = none ∧ H2 l = some (.lst (ns.map V.int))) ?_ ?_) ?_
    · refine eax_cons (ex_cb (ea_cons (ev_var rfl) ea_nil) (rc_list (LA.of0 hS))) ?_
      rintro v H1 e ⟨l, rfl, hl, _, hl1⟩
      exact (EvA.toX (vs := [.int 0, .int 0, .int 0, .int 0]) (by walk_at "ev")).imp fun vs H2 e2 q => ⟨l, by rw [q], hl, (e2.1 _ _ sx_none hl1)⟩
    · rintro vs H2 ⟨l, rfl, _⟩
      show 5 ≤ sizeLine
      decide
    · rintro v H1 e ⟨vs, H3, ⟨l, rfl, hl, hl1⟩, e3, e4, p, rfl, hp, _, hp1⟩
      exact k p l H1 hp hl e.same ⟨ns, 0, 0, 0, 0, hp1, by decide, e4.1 _ _ sx_none hl1⟩
/-! _law_draw -/
theorem ok__law_draw (T : Txt K mg w) : Ok P w K mg base CX0 1 (He.fAd K ("_law_draw", none)) ["state", "many"] (sp_draw) := by
  refine okD (F__law_draw T) sc__law_draw (fun _ _ _ _ _ _ us hl => match us, hl with | [_, _], _ => rfl) (fun vs H Q E h => ?_) (fun cdv A outer s H vs Q E hr h => ?_)
  · obtain ⟨st, l, m, rfl, _⟩ := h; rfl
  · obtain ⟨st, l, m, rfl, m0, m1, ⟨ns, p, c, n, b, hst, hp0, hl⟩, k⟩ := h
    have nl : ∀ (H' : Hp) (p c n b : Int), H' st = some (.lst [.ref l, .int p, .int c, .int n, .int b]) → H' l = some (.lst (ns.map V.int)) → l ≠ st := fun H' p c n b h1 h2 z => by
      subst z
      rw [h1] at h2
      have z2 := congrArg (fun o => match o with | some (HO.lst (x :: _)) => x | _ => .non) h2
      cases ns with
      | nil => exact nomatch z2
      | cons y r => exact nomatch z2
    have nls := nl H p c n b hst hl
    -- what holds all the while
    let D5 : Hp → Int → Int → Int → Int → Prop := fun H' p c n b => H' st = some (.lst [.ref l, .int p, .int c, .int n, .int b]) ∧ 0 ≤ p ∧ H' l = some (.lst (ns.map V.int)) ∧ ∀ b o, b ≠ st → H b = some o → H' b = some o
    have d0 : D5 H p c n b := ⟨hst, hp0, hl, fun _ _ _ e => e⟩
    have dx : ∀ {H1 H2 p c n b}, D5 H1 p c n b → Lx none H1 H2 → D5 H2 p c n b := fun d e => ⟨e.1 _ _ sx_none d.1, d.2.1, e.1 _ _ sx_none d.2.2.1, fun b o nb eb => e.1 _ _ sx_none (d.2.2.2 b o nb eb)⟩
    have du : ∀ {H1 p c n b} (p' c' n' b' : Int), D5 H1 p c n b → 0 ≤ p' → D5 (upd H1 st (.lst [.ref l, .int p', .int c', .int n', .int b'])) p' c' n' b' := fun p' c' n' b' d h => ⟨upd_same, h, by rw [upd_ne nls]; exact d.2.2.1, fun b o nb eb => by rw [upd_ne nb]; exact d.2.2.2 b o nb eb⟩
    have fin : ∀ (r p c n b : Int) H1, 0 ≤ r → r < m → D5 H1 p c n b → Q (.int r) H1 := fun r p c n b H1 r0 r1 d => k r H1 r0 r1 ⟨ns, p, c, n, b, d.1, d.2.1, d.2.2.1⟩ d.2.2.2
    have LS : ∀ {H1 p c n b}, D5 H1 p c n b → LA K none H1 st [.ref l, .int p, .int c, .int n, .int b] := fun d => LA.of d.1 sx_none
    have LN : ∀ {H1 p c n b}, D5 H1 p c n b → LA K none H1 l (ns.map V.int) := fun d => LA.of d.2.2.1 sx_none
    have mpos : ∀ i : Int, 0 ≤ i % m ∧ i % m < m := fun i => ⟨Int.emod_nonneg _ (by omega), Int.emod_lt_of_pos _ m0⟩
    refine ⟨_, (Evl.pss_cut (ps_if (pt_cmpR op_eq (pe_ix (ixL K rfl) (pv 0) pe_int (fun _ _ => rfl)) pe_int (nomark _))
      (pss_cons (ps_if (pt_cmpR op_ge (pe_ix (ixL K rfl) (pv 0) pe_int (fun _ _ => rfl)) (pe_callB (lenK K rfl) (by rfl) (n_len T) (by decide +kernel) (pa_cons (pe_ix (ixL K rfl) (pv 0) pe_int (fun _ _ => rfl)) pa_nil)) (nomark _))
      (pss_one (ps_ret pe_int))
      pss_nil)
      (pss_cons (ps_asg (pe_ix (ixL K rfl) (pe_ix (ixL K rfl) (pv 0) pe_int (fun _ _ => rfl)) (pe_ix (ixL K rfl) (pv 0) pe_int (fun _ _ => rfl)) (fun _ _ => rfl)) (pg_sub (pv 0) pe_int set_list))
      (pss_cons (ps_asg (pe_op op_add (pe_ix (ixL K rfl) (pv 0) pe_int (fun _ _ => rfl)) pe_int) (pg_sub (pv 0) pe_int set_list))
      (pss_cons (ps_asg pe_int (pg_sub (pv 0) pe_int set_list))
      (pss_cons (ps_asg pe_int (pg_sub (pv 0) pe_int set_list))
      (pss_one (ps_if (pt_cmpR op_ge (pe_ix (ixL K rfl) (pv 0) pe_int (fun _ _ => rfl)) (pe_op op_pow pe_int pe_int) (nomark _))
      (pss_cons (ps_asg pe_int (pg_sub (pv 0) pe_int set_list))
      (pss_one (ps_asg pe_int (pg_sub (pv 0) pe_int set_list))))
      pss_nil)))))))
      pss_nil)
      (pss_cons (ps_asg (pe_op op_sub (pe_ix (ixL K rfl) (pv 0) pe_int (fun _ _ => rfl)) pe_int) (pg_sub (pv 0) pe_int set_list))
      (pss_cons (ps_if (pt_cmpR op_eq (pe_ix (ixL K rfl) (pv 0) pe_int (fun _ _ => rfl)) pe_int (nomark _))
      (pss_cons (ps_set (i := 2) sc__law_draw.nd rfl (Or.inl rfl) (pe_op op_mod (pe_callTy callInt (by rfl) (n_int T) (by decide +kernel) (pa_cons (pe_ix (ixL K rfl) (pv 0) pe_int (fun _ _ => rfl)) pa_nil)) (pv 1)))
      (pss_cons (ps_asg (pe_op op_fdiv (pe_callTy callInt (by rfl) (n_int T) (by decide +kernel) (pa_cons (pe_ix (ixL K rfl) (pv 0) pe_int (fun _ _ => rfl)) pa_nil)) (pv 1)) (pg_sub (pv 0) pe_int set_list))
      (Evl.pss_cut (ps_if (pt_cmpR op_eq (pe_ix (ixL K rfl) (pv 0) pe_int (fun _ _ => rfl)) pe_int (nomark _))
      (pss_one (ps_asg pe_int (pg_sub (pv 0) pe_int set_list)))
      pss_nil)
      (pss_one (ps_ret (pv 2))))))
      pss_nil)
      (pss_cons (ps_set (i := 3) sc__law_draw.nd rfl (Or.inl rfl) (pe_op op_mod (pe_callTy callInt (by rfl) (n_int T) (by decide +kernel) (pa_cons (pe_op op_add (pe_op op_add (pe_op op_mul (pe_ix (ixL K rfl) (pv 0) pe_int (fun _ _ => rfl)) pe_int) (pe_op op_mul (pe_ix (ixL K rfl) (pv 0) pe_int (fun _ _ => rfl)) pe_int)) pe_int) pa_nil)) pe_int))
      (pss_cons (ps_set (i := 3) sc__law_draw.nd rfl (Or.inl rfl) (pe_op op_mod (pe_callTy callInt (by rfl) (n_int T) (by decide +kernel) (pa_cons (pe_op op_add (pe_op op_add (pe_op op_mul (pv 3) pe_int) (pe_op op_fdiv (pv 3) pe_int)) pe_int) pa_nil)) pe_int))
      (pss_one (ps_ret (pe_op op_mod (pe_callTy callInt (by rfl) (n_int T) (by decide +kernel) (pa_cons (pv 3) pa_nil)) (pv 1))))))))), ?_⟩
    refine go (K := K) (σ' := [some (.ref st), some (.int m), none, none]) rfl ?_
    have L1 := LS d0
    have L1n := LN d0
    refine s_ifJ (fun σ' H' => σ' = [some (.ref st), some (.int m), none, none] ∧ ∃ p c n b, D5 H' p c n b) (fun _ _ _ => Lx.rfl0) (by walk_at "ev") (fun _ => ?_) (fun _ => s_nx fun H1 e => ⟨rfl, _, _, _, _, dx d0 e⟩) ?_
    · walk_at "if"
      · intro _
        exact s_ret ev_c fun H1 e => fin 0 _ _ _ _ H1 (by omega) m0 (dx d0 e)
      · intro hlt
        refine s_next ?_
        have hlt' : p < (ns.length : Int) := by
          have z := of_decide_eq_false hlt
          simp only [List.length_map] at z
          omega
        obtain ⟨y, hy⟩ : ∃ y, ns[p.toNat]? = some y := ⟨_, List.getElem?_eq_getElem (by omega)⟩
        have hat : atI (ns.map V.int) p = some (.int y) := at_of (j := p.toNat) (by omega) (by rw [List.getElem?_map, hy]; rfl)
        refine s_setL (v := .int y) (ev_op (ev_op (by walk_at "ev") ev_c (rv_ixL L1 rfl)) (ev_op (by walk_at "ev") ev_c (rv_ixL L1 rfl)) (rv_ixL L1n hat)) (by walk_at "ev") (by walk_at "ev") d0.1 rfl sx_none ?_
        try dsimp only [List.set]
        have d1 := du p y n b d0 hp0
        have L2' := LS d1
        refine s_setL (ev_op (ev_op (ev_var rfl) ev_c (rv_ixL L2' rfl)) ev_c rv_I0) (by walk_at "ev") (by walk_at "ev") d1.1 rfl sx_none ?_
        try dsimp only [List.set]
        have d2 := du (p + 1) y n b d1 (by omega)
        refine s_setL (by walk_at "ev") (by walk_at "ev") (by walk_at "ev") d2.1 rfl sx_none ?_
        try dsimp only [List.set]
        have d3 := du (p + 1) y 10 b d2 (by omega)
        refine s_setL (by walk_at "ev") (by walk_at "ev") (by walk_at "ev") d3.1 rfl sx_none ?_
        try dsimp only [List.set]
        have d4 := du (p + 1) y 10 0 d3 (by omega)
        have L4 := LS d4
        refine s_if1 (et_test (ev_op (ev_op (ev_var rfl) ev_c (rv_ixL L4 rfl)) (ev_op ev_c ev_c (rv_I ⟨by decide, by decide, by decide⟩)) rv_I0)) (fun _ => ?_) (fun _ => s_nx fun H1 e => ⟨rfl, _, _, _, _, dx d4 e⟩)
        refine s_setL (by walk_at "ev") (by walk_at "ev") (by walk_at "ev") d4.1 rfl sx_none ?_
        have d5 := du (p + 1) y 60 0 d4 (by omega)
        refine s_setL1 (by walk_at "ev") (by walk_at "ev") (by walk_at "ev") d5.1 rfl sx_none fun H1 e => ?_
        exact ⟨rfl, _, _, _, _, dx (du (p + 1) y 60 1 d5 (by omega)) e⟩
    · clear L1 L1n d0 hl hst
      rintro σ' H' ⟨rfl, p, c, n, b, d0⟩
      have L1 := LS d0
      refine s_setL (ev_op (ev_op (ev_var rfl) ev_c (rv_ixL L1 rfl)) ev_c rv_I0) (by walk_at "ev") (by walk_at "ev") d0.1 rfl sx_none ?_
      try dsimp only [List.set]
      have d1 := du p c (n - 1) b d0 d0.2.1
      have L1 := LS d1
      refine s_if (et_test (ev_op (ev_op (ev_var rfl) ev_c (rv_ixL L1 rfl)) ev_c (rv_eq rfl))) (fun _ => ?_) (fun _ => s_next ?_)
      · refine s_asg (ev_op (ev_cb (ea_cons (ev_op (ev_var rfl) ev_c (rv_ixL L1 rfl)) ea_nil) rc_int) (ev_var rfl) (rv_I m0)) ?_
        try dsimp only [List.set]
        refine s_setL (ev_op (ev_cb (ea_cons (ev_op (ev_var rfl) ev_c (rv_ixL L1 rfl)) ea_nil) rc_int) (ev_var rfl) (rv_I ⟨m0, m1⟩)) (by walk_at "ev") (by walk_at "ev") d1.1 rfl sx_none ?_
        try dsimp only [List.set]
        have d2 := du p (c / m) (n - 1) b d1 d1.2.1
        have L3 := LS d2
        refine s_ifJ (fun σ' H' => σ' = [some (.ref st), some (.int m), some (.int (c % m)), none] ∧ ∃ p c n b, D5 H' p c n b) (fun _ _ _ => Lx.rfl0) (et_test (ev_op (ev_op (ev_var rfl) ev_c (rv_ixL L3 rfl)) ev_c (rv_eq rfl))) (fun _ => ?_) (fun _ => s_nx fun H1 e => ⟨rfl, _, _, _, _, dx d2 e⟩) ?_
        · refine s_setL1 (by walk_at "ev") (by walk_at "ev") (by walk_at "ev") d2.1 rfl sx_none fun H1 e => ?_
          exact ⟨rfl, _, _, _, _, dx (du _ _ _ _ d2 d2.2.1) e⟩
        · rintro σ' H' ⟨rfl, _, _, _, _, d3⟩
          exact s_ret (ev_var rfl) fun H1 e => fin _ _ _ _ _ H1 (mpos _).1 (mpos _).2 (dx d3 e)
      · refine s_asg (ev_op (ev_cb (ea_cons (ev_op (ev_op (ev_op (ev_op (ev_var rfl) ev_c (rv_ixL L1 rfl)) ev_c (rv_I (.inr (by decide)))) (ev_op (ev_op (ev_var rfl) ev_c (rv_ixL L1 rfl)) ev_c (rv_I (.inr (by decide)))) rv_I0) ev_c rv_I0) ea_nil) rc_int) ev_c (rv_I (by decide))) ?_
        try dsimp only [List.set]
        refine s_asg (ev_op (ev_cb (ea_cons (ev_op (ev_op (ev_op (ev_var rfl) ev_c (rv_I (.inr (by decide)))) (ev_op (ev_var rfl) ev_c (rv_I ⟨by decide, by decide⟩)) rv_I0) ev_c rv_I0) ea_nil) rc_int) ev_c (rv_I (by decide))) ?_
        try dsimp only [List.set]
        exact s_ret (ev_op (ev_cb (ea_cons (ev_var rfl) ea_nil) rc_int) (ev_var rfl) (rv_I m0)) fun H2 e2 => fin _ _ _ _ _ H2 (mpos _).1 (mpos _).2 (dx d1 e2)
/-! _law_is_number -/
theorem ok__law_is_number (T : Txt K mg w) : Ok P w K mg base CX0 1 (He.fAd K ("_law_is_number", none)) ["actual"] (sp_isnum) := by
  refine okD (F__law_is_number T) sc__law_is_number (fun _ _ _ _ _ _ us hl => match us, hl with | [_], _ => rfl) (fun vs H Q E h => ?_) (fun cdv A outer s H vs Q E hr h => ?_)
  · obtain ⟨x, d, rfl, _⟩ := h; rfl
  · obtain ⟨x, d, rfl, r, k⟩ := h
    refine ⟨_, (pss_one (ps_ret (pe_and (pe_callB (isiK K rfl) (by rfl) (n_isinstance T) (by decide +kernel) (pa_cons (pv 0) (pa_cons (pe_bltn (v := .ty "int") (by rfl) (n_int T) (by decide +kernel) rfl) pa_nil))) (pe_one (pe_not (pe_callB (isiK K rfl) (by rfl) (n_isinstance T) (by decide +kernel) (pa_cons (pv 0) (pa_cons (pe_bltn (v := .ty "bool") (by rfl) (n_bool T) (by decide +kernel) rfl) pa_nil)))))))), ?_⟩
    refine go (K := K) (σ' := [some x]) rfl ?_
    have key : ∃ a b, kitB (tyD d) "int" = some a ∧ kitB (tyD d) "bool" = some b ∧ (a && !b) = isNumD d := by
      cases d with
      | none => exact ⟨false, false, kD "NoneType" rfl (by decide +kernel), kD "NoneType" rfl (by decide +kernel), rfl⟩
      | bool _ => exact ⟨true, true, kD "bool" rfl (by decide +kernel), kD "bool" rfl (by decide +kernel), rfl⟩
      | int _ => exact ⟨true, false, kD "int" rfl (by decide +kernel), kD "int" rfl (by decide +kernel), rfl⟩
      | str _ => exact ⟨false, false, kD "str" rfl (by decide +kernel), kD "str" rfl (by decide +kernel), rfl⟩
      | list _ => exact ⟨false, false, kD "list" rfl (by decide +kernel), kD "list" rfl (by decide +kernel), rfl⟩
      | tuple _ => exact ⟨false, false, kD "tuple" rfl (by decide +kernel), kD "tuple" rfl (by decide +kernel), rfl⟩
      | dict _ => cases r
    obtain ⟨a, b, ka, kb, e⟩ := key
    refine s_ret (ev_andV (ev_isi (ev_var rfl) r ka) fun _ => ev_notV (ev_isi (ev_var rfl) r kb)) fun H1 e1 => ?_
    rw [e]
    exact k _ e1
theorem okh__law_is_number (T : Txt K mg w) : OkH P w K mg base CX0 1 (He.fAd K ("_law_is_number", none)) ["actual"] (sp_isnum) := by
  refine okDH (F__law_is_number T) sc__law_is_number (fun _ _ _ _ _ _ us hl => match us, hl with | [_], _ => rfl) (fun vs H Q E h => ?_) (fun cdv A outer s H vs Q E p hot hr h => ?_)
  · obtain ⟨x, d, rfl, _⟩ := h; rfl
  · obtain ⟨x, d, rfl, r, k⟩ := h
    refine ⟨_, (pss_one (ps_ret (pe_and (pe_callB (isiK K rfl) (by rfl) (n_isinstance T) (by decide +kernel) (pa_cons (pv 0) (pa_cons (pe_bltn (v := .ty "int") (by rfl) (n_int T) (by decide +kernel) rfl) pa_nil))) (pe_one (pe_not (pe_callB (isiK K rfl) (by rfl) (n_isinstance T) (by decide +kernel) (pa_cons (pv 0) (pa_cons (pe_bltn (v := .ty "bool") (by rfl) (n_bool T) (by decide +kernel) rfl) pa_nil)))))))), ?_⟩
    refine go (K := K) (σ' := [some x]) rfl ?_
    have key : ∃ a b, kitB (tyD d) "int" = some a ∧ kitB (tyD d) "bool" = some b ∧ (a && !b) = isNumD d := by
      cases d with
      | none => exact ⟨false, false, kD "NoneType" rfl (by decide +kernel), kD "NoneType" rfl (by decide +kernel), rfl⟩
      | bool _ => exact ⟨true, true, kD "bool" rfl (by decide +kernel), kD "bool" rfl (by decide +kernel), rfl⟩
      | int _ => exact ⟨true, false, kD "int" rfl (by decide +kernel), kD "int" rfl (by decide +kernel), rfl⟩
      | str _ => exact ⟨false, false, kD "str" rfl (by decide +kernel), kD "str" rfl (by decide +kernel), rfl⟩
      | list _ => exact ⟨false, false, kD "list" rfl (by decide +kernel), kD "list" rfl (by decide +kernel), rfl⟩
      | tuple _ => exact ⟨false, false, kD "tuple" rfl (by decide +kernel), kD "tuple" rfl (by decide +kernel), rfl⟩
      | dict _ => cases r
    obtain ⟨a, b, ka, kb, e⟩ := key
    refine s_ret (ev_andV (ev_isi (ev_var rfl) r ka) fun _ => ev_notV (ev_isi (ev_var rfl) r kb)) fun H1 e1 => ?_
    rw [e]
    exact k _ e1
/-! _law_same -/
/-- the reading of the walk over the items -/
theorem same_loop {Q : VK} {H H' : Hp} {a b : Addr} {xs ys : List V} {ds : List PyData} {n : Nat} (hd : PyData.depthAll ds < n) (h4 : RpAll none H xs ds) (g4 : RpAll none H ys ds)
    (hx : (H a = some (.lst xs) ∧ H b = some (.lst ys)) ∨ (H a = some (.tup xs) ∧ H b = some (.tup ys))) (h3 : xs.length ≤ 100000) (g3 : ys.length ≤ 100000) (e : Lx none H H') (k : ∀ H', Lx none H H' → Q (.bl true) H') {D : Ends} (hD : D.rt = Q) :
    Fw.St K none (tSeq (tFor (iRng1 (tCons (tCB (rLn K) (tCons (tVar 1) tNil)) tNil)) (gName 2) (tIfS (tNot (tB (tCall (sp_same n) [] E0 (tCons (tOp (rIx K) (tVar 0) (tVar 2)) (tCons (tOp (rIx K) (tVar 1) (tVar 2)) tNil))))) (tRet (tC (.bl false))) tNext)) (tRet (tC (.bl true)))) D [some (.ref a), some (.ref b), none] H' := by
  have sx : SqL K H a xs ∨ SqT K H a xs := hx.imp (fun z => SqL.of z.1) (fun z => SqT.of z.1)
  have sy : SqL K H b ys ∨ SqT K H b ys := hx.imp (fun z => SqL.of z.2) (fun z => SqT.of z.2)
  have mv : ∀ {H1 p zs}, Lx none H H1 → (SqL K H p zs ∨ SqT K H p zs) → (SqL K H1 p zs ∨ SqT K H1 p zs) := fun e z => z.imp (fun z => ((LA.of0 z).mono e).q) (fun z => ((UA.of0 z).mono e).q)
  refine s_forRn (n := (ys.length : Int)) (ea_cons (ev_cb (ea_cons (ev_var rfl) ea_nil) (rc_lenLU (mv e sy) sx_none)) ea_nil) ⟨by omega, by omega⟩ (fun i σ' H1 => (∃ v, σ' = [some (.ref a), some (.ref b), v]) ∧ Lx none H H1) wf0 (fun H1 e1 => ⟨⟨_, rfl⟩, e.trans e1⟩) ?_ ?_
  · rintro i σ' H1 hi ⟨⟨v, rfl⟩, e1⟩
    dsimp only [List.set]
    have il : i < ds.length := by have := g4.length; omega
    obtain ⟨d, hdi⟩ : ∃ d, ds[i]? = some d := ⟨_, List.getElem?_eq_getElem il⟩
    obtain ⟨vx, hvx, rx⟩ := h4.get hdi
    obtain ⟨vy, hvy, ry⟩ := g4.get hdi
    have dep : d.depth < n := Nat.lt_of_le_of_lt (depth_mem hdi) hd
    refine s_if1 (b := false) (et_not (b := true) (et_B (ev_same (ev_op (ev_var rfl) (ev_var rfl) (rv_ix (mv e1 sx) sx_none (at_of rfl hvx))) (ev_op (ev_var rfl) (ev_var rfl) (rv_ix (mv e1 sy) sx_none (at_of rfl hvy))) (rx.m e1) (ry.m e1) dep))) (fun z => nomatch z) (fun _ => s_nx fun H2 e2 => ⟨⟨_, rfl⟩, e1.trans e2⟩)
  · rintro σ' H1 ⟨⟨v, rfl⟩, e1⟩
    refine s_ret ev_c fun H2 e2 => ?_
    rw [hD]
    exact k _ (e1.trans e2)
theorem same_body (T : Txt K mg w) (n : Nat) (IH : Ok P w K mg base CX0 (n + 1) (He.fAd K ("_law_same", none)) ["actual", "expected"] (sp_same n)) : Ok P w K mg base CX0 (n + 1 + 1) (He.fAd K ("_law_same", none)) ["actual", "expected"] (sp_same (n + 1)) := by
  refine okD (F__law_same T) sc__law_same (fun _ _ _ _ _ _ us hl => match us, hl with | [_, _], _ => rfl) (fun vs H Q E h => ?_) (fun cdv A outer s H vs Q E hr h => ?_)
  · obtain ⟨x, y, d, rfl, _⟩ := h; rfl
  · obtain ⟨x, y, d, rfl, hd, rx, ry, k⟩ := h
    refine ⟨_, (pss_cons (ps_if (pt_cmpR op_isN (pv 1) pe_non (nomark _))
      (pss_one (ps_ret (pe_cmpR op_isN (pv 0) pe_non (nomark _))))
      pss_nil)
      (pss_cons (ps_if (pt_val (pe_callB (isiK K rfl) (by rfl) (n_isinstance T) (by decide +kernel) (pa_cons (pv 1) (pa_cons (pe_bltn (v := .ty "bool") (by rfl) (n_bool T) (by decide +kernel) rfl) pa_nil))))
      (pss_one (ps_ret (pe_and (pe_callB (isiK K rfl) (by rfl) (n_isinstance T) (by decide +kernel) (pa_cons (pv 0) (pa_cons (pe_bltn (v := .ty "bool") (by rfl) (n_bool T) (by decide +kernel) rfl) pa_nil))) (pe_one (pe_cmpR op_eq (pv 0) (pv 1) (nomark _))))))
      pss_nil)
      (pss_cons (ps_if (pt_val (pe_callB (isiK K rfl) (by rfl) (n_isinstance T) (by decide +kernel) (pa_cons (pv 1) (pa_cons (pe_bltn (v := .ty "int") (by rfl) (n_int T) (by decide +kernel) rfl) pa_nil))))
      (pss_one (ps_ret (pe_and (pe_callO (ok__law_is_number T) (hr.mono (by first | decide | omega)) rfl (g__law_is_number T) pass0 (pa_cons (pv 0) pa_nil)) (pe_one (pe_cmpR op_eq (pv 0) (pv 1) (nomark _))))))
      pss_nil)
      (pss_cons (ps_if (pt_val (pe_callB (isiK K rfl) (by rfl) (n_isinstance T) (by decide +kernel) (pa_cons (pv 1) (pa_cons (pe_bltn (v := .ty "str") (by rfl) (n_str T) (by decide +kernel) rfl) pa_nil))))
      (pss_one (ps_ret (pe_and (pe_callB (isiK K rfl) (by rfl) (n_isinstance T) (by decide +kernel) (pa_cons (pv 0) (pa_cons (pe_bltn (v := .ty "str") (by rfl) (n_str T) (by decide +kernel) rfl) pa_nil))) (pe_one (pe_cmpR op_eq (pv 0) (pv 1) (nomark _))))))
      pss_nil)
      (Evl.pss_cut (ps_if (pt_val (pe_callB (isiK K rfl) (by rfl) (n_isinstance T) (by decide +kernel) (pa_cons (pv 1) (pa_cons (pe_bltn (v := .ty "list") (by rfl) (n_list T) (by decide +kernel) rfl) pa_nil))))
      (pss_one (ps_if (PW.pt (pw_or (pt_not (pt_val (pe_callB (isiK K rfl) (by rfl) (n_isinstance T) (by decide +kernel) (pa_cons (pv 0) (pa_cons (pe_bltn (v := .ty "list") (by rfl) (n_list T) (by decide +kernel) rfl) pa_nil))))) (pw_or1 (pt_cmpR op_ne (pe_callB (lenK K rfl) (by rfl) (n_len T) (by decide +kernel) (pa_cons (pv 0) pa_nil)) (pe_callB (lenK K rfl) (by rfl) (n_len T) (by decide +kernel) (pa_cons (pv 1) pa_nil)) (nomark _)))))
      (pss_one (ps_ret pe_bl))
      pss_nil))
      (pss_one (ps_if (PW.pt (pw_or (pt_not (pt_val (pe_callB (isiK K rfl) (by rfl) (n_isinstance T) (by decide +kernel) (pa_cons (pv 1) (pa_cons (pe_bltn (v := .ty "tuple") (by rfl) (n_tuple T) (by decide +kernel) rfl) pa_nil))))) (pw_or (pt_not (pt_val (pe_callB (isiK K rfl) (by rfl) (n_isinstance T) (by decide +kernel) (pa_cons (pv 0) (pa_cons (pe_bltn (v := .ty "tuple") (by rfl) (n_tuple T) (by decide +kernel) rfl) pa_nil))))) (pw_or1 (pt_cmpR op_ne (pe_callB (lenK K rfl) (by rfl) (n_len T) (by decide +kernel) (pa_cons (pv 0) pa_nil)) (pe_callB (lenK K rfl) (by rfl) (n_len T) (by decide +kernel) (pa_cons (pv 1) pa_nil)) (nomark _))))))
      (pss_one (ps_ret pe_bl))
      pss_nil)))
      (pss_cons (ps_for PassesOwn.never rfl (pi_range1 (by rfl) (n_range T) (pa_cons (pe_callB (lenK K rfl) (by rfl) (n_len T) (by decide +kernel) (pa_cons (pv 1) pa_nil)) pa_nil)) (pg_name (i := 2) sc__law_same.nd rfl (Or.inl rfl))
      (pss_one (ps_if (pt_not (pt_val (pe_callO IH hr rfl (g__law_same T) pass0 (pa_cons (pe_ix (ixQ K rfl) (pv 0) (pv 2) (fun _ _ => rfl)) (pa_cons (pe_ix (ixQ K rfl) (pv 1) (pv 2) (fun _ _ => rfl)) pa_nil)))))
      (pss_one (ps_ret pe_bl))
      pss_nil)))
      (pss_one (ps_ret pe_bl)))))))), ?_⟩
    refine go (K := K) (σ' := [some x, some y, none]) rfl ?_
    cases d with
    | dict _ => cases rx
    | none =>
      cases rx; cases ry
      refine s_if (b := true) (et_test (ev_op (ev_var rfl) ev_c rv_isN)) (fun _ => ?_) (fun z => nomatch z)
      exact s_ret (ev_op (ev_var rfl) ev_c rv_isN) fun H1 e => k _ e
    | bool b =>
      cases rx; cases ry
      refine s_if (b := false) (et_test (ev_op (ev_var rfl) ev_c rv_isN)) (fun z => nomatch z) (fun _ => s_next ?_)
      refine s_if (b := true) (et_B (ev_isi (ev_var rfl) (.bl b) (kD "bool" rfl (by decide +kernel)))) (fun _ => ?_) (fun z => nomatch z)
      refine s_ret (ev_andV (ev_isi (b := true) (ev_var rfl) (.bl b) (kD "bool" rfl (by decide +kernel))) fun _ => ev_op (ev_var rfl) (ev_var rfl) (rv_eq rfl)) fun H1 e => ?_
      rw [decide_eq_true rfl]
      exact k _ e
    | int b =>
      cases rx; cases ry
      refine s_if (b := false) (et_test (ev_op (ev_var rfl) ev_c rv_isN)) (fun z => nomatch z) (fun _ => s_next ?_)
      refine s_if (b := false) (et_B (ev_isi (ev_var rfl) (.int b) (kD "int" rfl (by decide +kernel)))) (fun z => nomatch z) (fun _ => s_next ?_)
      refine s_if (b := true) (et_B (ev_isi (ev_var rfl) (.int b) (kD "int" rfl (by decide +kernel)))) (fun _ => ?_) (fun z => nomatch z)
      refine s_ret (ev_andV (ev_isnum (ev_var rfl) (.int b)) fun _ => ev_op (ev_var rfl) (ev_var rfl) (rv_eq rfl)) fun H1 e => ?_
      rw [decide_eq_true rfl]
      exact k _ e
    | str b =>
      cases rx; cases ry
      refine s_if (b := false) (et_test (ev_op (ev_var rfl) ev_c rv_isN)) (fun z => nomatch z) (fun _ => s_next ?_)
      refine s_if (b := false) (et_B (ev_isi (ev_var rfl) (.str b) (kD "str" rfl (by decide +kernel)))) (fun z => nomatch z) (fun _ => s_next ?_)
      refine s_if (b := false) (et_B (ev_isi (ev_var rfl) (.str b) (kD "str" rfl (by decide +kernel)))) (fun z => nomatch z) (fun _ => s_next ?_)
      refine s_if (b := true) (et_B (ev_isi (ev_var rfl) (.str b) (kD "str" rfl (by decide +kernel)))) (fun _ => ?_) (fun z => nomatch z)
      refine s_ret (ev_andV (ev_isi (b := true) (ev_var rfl) (.str b) (kD "str" rfl (by decide +kernel))) fun _ => ev_op (ev_var rfl) (ev_var rfl) (rv_eq rfl)) fun H1 e => ?_
      rw [decide_eq_true rfl]
      exact k _ e
    | list ds =>
      have rx' := rx
      have ry' := ry
      cases rx with
      | @lst a xs _ h1 _ h3 h4 => cases ry with
        | @lst b ys _ g1 _ g3 g4 =>
          refine s_if (b := false) (et_test (ev_op (ev_var rfl) ev_c rv_isN)) (fun z => nomatch z) (fun _ => s_next ?_)
          refine s_if (b := false) (et_B (ev_isi (ev_var rfl) ry' (kD "list" rfl (by decide +kernel)))) (fun z => nomatch z) (fun _ => s_next ?_)
          refine s_if (b := false) (et_B (ev_isi (ev_var rfl) ry' (kD "list" rfl (by decide +kernel)))) (fun z => nomatch z) (fun _ => s_next ?_)
          refine s_if (b := false) (et_B (ev_isi (ev_var rfl) ry' (kD "list" rfl (by decide +kernel)))) (fun z => nomatch z) (fun _ => s_next ?_)
          have len : xs.length = ys.length := h4.length.trans g4.length.symm
          refine s_ifJ (fun σ' H' => σ' = [some (.ref a), some (.ref b), none] ∧ Lx none H H') (fun _ _ _ => Lx.rfl0) (b := true) (et_B (ev_isi (ev_var rfl) ry' (kD "list" rfl (by decide +kernel)))) (fun _ => ?_) (fun z => nomatch z) ?_
          · refine s_if1 (b := false) (et_is (et_or (et_not (et_B (ev_isi (ev_var rfl) rx' (b := true) (kD "list" rfl (by decide +kernel))))) fun _ => et_test (ev_op (ev_cb (ea_cons (ev_var rfl) ea_nil) (rc_lenLU (.inl (SqL.of h1)) sx_none)) (ev_cb (ea_cons (ev_var rfl) ea_nil) (rc_lenLU (.inl (SqL.of g1)) sx_none)) (rv_ne rfl))) (by rw [len]; simp)) (fun z => nomatch z) (fun _ => s_nx fun H1 e => ⟨rfl, e⟩)
          · rintro σ' H' ⟨rfl, e⟩
            exact same_loop (Nat.lt_of_succ_lt_succ hd) h4 g4 (.inl ⟨h1, g1⟩) h3 g3 e k (by rfl)
    | tuple ds =>
      have rx' := rx
      have ry' := ry
      cases rx with
      | @tup a xs _ h1 _ h3 h4 => cases ry with
        | @tup b ys _ g1 _ g3 g4 =>
          refine s_if (b := false) (et_test (ev_op (ev_var rfl) ev_c rv_isN)) (fun z => nomatch z) (fun _ => s_next ?_)
          refine s_if (b := false) (et_B (ev_isi (ev_var rfl) ry' (kD "tuple" rfl (by decide +kernel)))) (fun z => nomatch z) (fun _ => s_next ?_)
          refine s_if (b := false) (et_B (ev_isi (ev_var rfl) ry' (kD "tuple" rfl (by decide +kernel)))) (fun z => nomatch z) (fun _ => s_next ?_)
          refine s_if (b := false) (et_B (ev_isi (ev_var rfl) ry' (kD "tuple" rfl (by decide +kernel)))) (fun z => nomatch z) (fun _ => s_next ?_)
          have len : xs.length = ys.length := h4.length.trans g4.length.symm
          refine s_ifJ (fun σ' H' => σ' = [some (.ref a), some (.ref b), none] ∧ Lx none H H') (fun _ _ _ => Lx.rfl0) (b := false) (et_B (ev_isi (ev_var rfl) ry' (kD "tuple" rfl (by decide +kernel)))) (fun z => nomatch z) (fun _ => ?_) ?_
          · refine s_if1 (b := false) (et_is (et_or (et_not (et_B (ev_isi (ev_var rfl) ry' (b := true) (kD "tuple" rfl (by decide +kernel))))) fun _ => et_or (et_not (et_B (ev_isi (ev_var rfl) rx' (b := true) (kD "tuple" rfl (by decide +kernel))))) fun _ => et_test (ev_op (ev_cb (ea_cons (ev_var rfl) ea_nil) (rc_lenLU (.inr (SqT.of h1)) sx_none)) (ev_cb (ea_cons (ev_var rfl) ea_nil) (rc_lenLU (.inr (SqT.of g1)) sx_none)) (rv_ne rfl))) (by rw [len]; simp)) (fun z => nomatch z) (fun _ => s_nx fun H1 e => ⟨rfl, e⟩)
          · rintro σ' H' ⟨rfl, e⟩
            exact same_loop (Nat.lt_of_succ_lt_succ hd) h4 g4 (.inr ⟨h1, g1⟩) h3 g3 e k (by rfl)
theorem ok__law_same (T : Txt K mg w) : Ok P w K mg base CX0 6 (He.fAd K ("_law_same", none)) ["actual", "expected"] (sp_same 5) := by
  have all : ∀ n : Nat, Ok P w K mg base CX0 (n + 1) (He.fAd K ("_law_same", none)) ["actual", "expected"] (sp_same n) := fun n => by
    induction n with
    | zero =>
      refine (ok_zero (F__law_same T) (fun _ _ _ _ _ _ us hl => match us, hl with | [_, _], _ => rfl) fun vs H Q E h => ?_).mono (Nat.zero_le _)
      obtain ⟨_, _, _, _, hd, _⟩ := h
      exact nomatch hd
    | succ n ih => exact same_body T n ih
  exact all 5
theorem same_bodyH (T : Txt K mg w) (n : Nat) (IH : OkH P w K mg base CX0 (n + 1) (He.fAd K ("_law_same", none)) ["actual", "expected"] (sp_same n)) : OkH P w K mg base CX0 (n + 1 + 1) (He.fAd K ("_law_same", none)) ["actual", "expected"] (sp_same (n + 1)) := by
  refine okDH (F__law_same T) sc__law_same (fun _ _ _ _ _ _ us hl => match us, hl with | [_, _], _ => rfl) (fun vs H Q E h => ?_) (fun cdv A outer s H vs Q E p hot hr h => ?_)
  · obtain ⟨x, y, d, rfl, _⟩ := h; rfl
  · obtain ⟨x, y, d, rfl, hd, rx, ry, k⟩ := h
    refine ⟨_, (pss_cons (ps_if (pt_cmpR op_isN (pv 1) pe_non (nomark _))
      (pss_one (ps_ret (pe_cmpR op_isN (pv 0) pe_non (nomark _))))
      pss_nil)
      (pss_cons (ps_if (pt_val (pe_callB (isiK K rfl) (by rfl) (n_isinstance T) (by decide +kernel) (pa_cons (pv 1) (pa_cons (pe_bltn (v := .ty "bool") (by rfl) (n_bool T) (by decide +kernel) rfl) pa_nil))))
      (pss_one (ps_ret (pe_and (pe_callB (isiK K rfl) (by rfl) (n_isinstance T) (by decide +kernel) (pa_cons (pv 0) (pa_cons (pe_bltn (v := .ty "bool") (by rfl) (n_bool T) (by decide +kernel) rfl) pa_nil))) (pe_one (pe_cmpR op_eq (pv 0) (pv 1) (nomark _))))))
      pss_nil)
      (pss_cons (ps_if (pt_val (pe_callB (isiK K rfl) (by rfl) (n_isinstance T) (by decide +kernel) (pa_cons (pv 1) (pa_cons (pe_bltn (v := .ty "int") (by rfl) (n_int T) (by decide +kernel) rfl) pa_nil))))
      (pss_one (ps_ret (pe_and (pe_callOH (hot_in hot) (okh__law_is_number T) (hr.mono (by first | decide | omega)) rfl (g__law_is_number T) pass0 (pa_cons (pv 0) pa_nil)) (pe_one (pe_cmpR op_eq (pv 0) (pv 1) (nomark _))))))
      pss_nil)
      (pss_cons (ps_if (pt_val (pe_callB (isiK K rfl) (by rfl) (n_isinstance T) (by decide +kernel) (pa_cons (pv 1) (pa_cons (pe_bltn (v := .ty "str") (by rfl) (n_str T) (by decide +kernel) rfl) pa_nil))))
      (pss_one (ps_ret (pe_and (pe_callB (isiK K rfl) (by rfl) (n_isinstance T) (by decide +kernel) (pa_cons (pv 0) (pa_cons (pe_bltn (v := .ty "str") (by rfl) (n_str T) (by decide +kernel) rfl) pa_nil))) (pe_one (pe_cmpR op_eq (pv 0) (pv 1) (nomark _))))))
      pss_nil)
      (Evl.pss_cut (ps_if (pt_val (pe_callB (isiK K rfl) (by rfl) (n_isinstance T) (by decide +kernel) (pa_cons (pv 1) (pa_cons (pe_bltn (v := .ty "list") (by rfl) (n_list T) (by decide +kernel) rfl) pa_nil))))
      (pss_one (ps_if (PW.pt (pw_or (pt_not (pt_val (pe_callB (isiK K rfl) (by rfl) (n_isinstance T) (by decide +kernel) (pa_cons (pv 0) (pa_cons (pe_bltn (v := .ty "list") (by rfl) (n_list T) (by decide +kernel) rfl) pa_nil))))) (pw_or1 (pt_cmpR op_ne (pe_callB (lenK K rfl) (by rfl) (n_len T) (by decide +kernel) (pa_cons (pv 0) pa_nil)) (pe_callB (lenK K rfl) (by rfl) (n_len T) (by decide +kernel) (pa_cons (pv 1) pa_nil)) (nomark _)))))
      (pss_one (ps_ret pe_bl))
      pss_nil))
      (pss_one (ps_if (PW.pt (pw_or (pt_not (pt_val (pe_callB (isiK K rfl) (by rfl) (n_isinstance T) (by decide +kernel) (pa_cons (pv 1) (pa_cons (pe_bltn (v := .ty "tuple") (by rfl) (n_tuple T) (by decide +kernel) rfl) pa_nil))))) (pw_or (pt_not (pt_val (pe_callB (isiK K rfl) (by rfl) (n_isinstance T) (by decide +kernel) (pa_cons (pv 0) (pa_cons (pe_bltn (v := .ty "tuple") (by rfl) (n_tuple T) (by decide +kernel) rfl) pa_nil))))) (pw_or1 (pt_cmpR op_ne (pe_callB (lenK K rfl) (by rfl) (n_len T) (by decide +kernel) (pa_cons (pv 0) pa_nil)) (pe_callB (lenK K rfl) (by rfl) (n_len T) (by decide +kernel) (pa_cons (pv 1) pa_nil)) (nomark _))))))
      (pss_one (ps_ret pe_bl))
      pss_nil)))
      (pss_cons (L2H.ps_forH PassesOwn.never (hot_in hot) (L2H.pi_range1H (by rfl) (n_range T) (pa_cons (pe_callB (lenK K rfl) (by rfl) (n_len T) (by decide +kernel) (pa_cons (pv 1) pa_nil)) pa_nil)) (pg_name (i := 2) sc__law_same.nd rfl (Or.inl rfl))
      (pss_one (ps_if (pt_not (pt_val (pe_callOH (hot_in hot) IH hr rfl (g__law_same T) pass0 (pa_cons (pe_ix (ixQ K rfl) (pv 0) (pv 2) (fun _ _ => rfl)) (pa_cons (pe_ix (ixQ K rfl) (pv 1) (pv 2) (fun _ _ => rfl)) pa_nil)))))
      (pss_one (ps_ret pe_bl))
      pss_nil)))
      (pss_one (ps_ret pe_bl)))))))), ?_⟩
    refine go (K := K) (σ' := [some x, some y, none]) rfl ?_
    cases d with
    | dict _ => cases rx
    | none =>
      cases rx; cases ry
      refine s_if (b := true) (et_test (ev_op (ev_var rfl) ev_c rv_isN)) (fun _ => ?_) (fun z => nomatch z)
      exact s_ret (ev_op (ev_var rfl) ev_c rv_isN) fun H1 e => k _ e
    | bool b =>
      cases rx; cases ry
      refine s_if (b := false) (et_test (ev_op (ev_var rfl) ev_c rv_isN)) (fun z => nomatch z) (fun _ => s_next ?_)
      refine s_if (b := true) (et_B (ev_isi (ev_var rfl) (.bl b) (kD "bool" rfl (by decide +kernel)))) (fun _ => ?_) (fun z => nomatch z)
      refine s_ret (ev_andV (ev_isi (b := true) (ev_var rfl) (.bl b) (kD "bool" rfl (by decide +kernel))) fun _ => ev_op (ev_var rfl) (ev_var rfl) (rv_eq rfl)) fun H1 e => ?_
      rw [decide_eq_true rfl]
      exact k _ e
    | int b =>
      cases rx; cases ry
      refine s_if (b := false) (et_test (ev_op (ev_var rfl) ev_c rv_isN)) (fun z => nomatch z) (fun _ => s_next ?_)
      refine s_if (b := false) (et_B (ev_isi (ev_var rfl) (.int b) (kD "int" rfl (by decide +kernel)))) (fun z => nomatch z) (fun _ => s_next ?_)
      refine s_if (b := true) (et_B (ev_isi (ev_var rfl) (.int b) (kD "int" rfl (by decide +kernel)))) (fun _ => ?_) (fun z => nomatch z)
      refine s_ret (ev_andV (ev_isnum (ev_var rfl) (.int b)) fun _ => ev_op (ev_var rfl) (ev_var rfl) (rv_eq rfl)) fun H1 e => ?_
      rw [decide_eq_true rfl]
      exact k _ e
    | str b =>
      cases rx; cases ry
      refine s_if (b := false) (et_test (ev_op (ev_var rfl) ev_c rv_isN)) (fun z => nomatch z) (fun _ => s_next ?_)
      refine s_if (b := false) (et_B (ev_isi (ev_var rfl) (.str b) (kD "str" rfl (by decide +kernel)))) (fun z => nomatch z) (fun _ => s_next ?_)
      refine s_if (b := false) (et_B (ev_isi (ev_var rfl) (.str b) (kD "str" rfl (by decide +kernel)))) (fun z => nomatch z) (fun _ => s_next ?_)
      refine s_if (b := true) (et_B (ev_isi (ev_var rfl) (.str b) (kD "str" rfl (by decide +kernel)))) (fun _ => ?_) (fun z => nomatch z)
      refine s_ret (ev_andV (ev_isi (b := true) (ev_var rfl) (.str b) (kD "str" rfl (by decide +kernel))) fun _ => ev_op (ev_var rfl) (ev_var rfl) (rv_eq rfl)) fun H1 e => ?_
      rw [decide_eq_true rfl]
      exact k _ e
    | list ds =>
      have rx' := rx
      have ry' := ry
      cases rx with
      | @lst a xs _ h1 _ h3 h4 => cases ry with
        | @lst b ys _ g1 _ g3 g4 =>
          refine s_if (b := false) (et_test (ev_op (ev_var rfl) ev_c rv_isN)) (fun z => nomatch z) (fun _ => s_next ?_)
          refine s_if (b := false) (et_B (ev_isi (ev_var rfl) ry' (kD "list" rfl (by decide +kernel)))) (fun z => nomatch z) (fun _ => s_next ?_)
          refine s_if (b := false) (et_B (ev_isi (ev_var rfl) ry' (kD "list" rfl (by decide +kernel)))) (fun z => nomatch z) (fun _ => s_next ?_)
          refine s_if (b := false) (et_B (ev_isi (ev_var rfl) ry' (kD "list" rfl (by decide +kernel)))) (fun z => nomatch z) (fun _ => s_next ?_)
          have len : xs.length = ys.length := h4.length.trans g4.length.symm
          refine s_ifJ (fun σ' H' => σ' = [some (.ref a), some (.ref b), none] ∧ Lx none H H') (fun _ _ _ => Lx.rfl0) (b := true) (et_B (ev_isi (ev_var rfl) ry' (kD "list" rfl (by decide +kernel)))) (fun _ => ?_) (fun z => nomatch z) ?_
          · refine s_if1 (b := false) (et_is (et_or (et_not (et_B (ev_isi (ev_var rfl) rx' (b := true) (kD "list" rfl (by decide +kernel))))) fun _ => et_test (ev_op (ev_cb (ea_cons (ev_var rfl) ea_nil) (rc_lenLU (.inl (SqL.of h1)) sx_none)) (ev_cb (ea_cons (ev_var rfl) ea_nil) (rc_lenLU (.inl (SqL.of g1)) sx_none)) (rv_ne rfl))) (by rw [len]; simp)) (fun z => nomatch z) (fun _ => s_nx fun H1 e => ⟨rfl, e⟩)
          · rintro σ' H' ⟨rfl, e⟩
            exact same_loop (Nat.lt_of_succ_lt_succ hd) h4 g4 (.inl ⟨h1, g1⟩) h3 g3 e k (by rfl)
    | tuple ds =>
      have rx' := rx
      have ry' := ry
      cases rx with
      | @tup a xs _ h1 _ h3 h4 => cases ry with
        | @tup b ys _ g1 _ g3 g4 =>
          refine s_if (b := false) (et_test (ev_op (ev_var rfl) ev_c rv_isN)) (fun z => nomatch z) (fun _ => s_next ?_)
          refine s_if (b := false) (et_B (ev_isi (ev_var rfl) ry' (kD "tuple" rfl (by decide +kernel)))) (fun z => nomatch z) (fun _ => s_next ?_)
          refine s_if (b := false) (et_B (ev_isi (ev_var rfl) ry' (kD "tuple" rfl (by decide +kernel)))) (fun z => nomatch z) (fun _ => s_next ?_)
          refine s_if (b := false) (et_B (ev_isi (ev_var rfl) ry' (kD "tuple" rfl (by decide +kernel)))) (fun z => nomatch z) (fun _ => s_next ?_)
          have len : xs.length = ys.length := h4.length.trans g4.length.symm
          refine s_ifJ (fun σ' H' => σ' = [some (.ref a), some (.ref b), none] ∧ Lx none H H') (fun _ _ _ => Lx.rfl0) (b := false) (et_B (ev_isi (ev_var rfl) ry' (kD "tuple" rfl (by decide +kernel)))) (fun z => nomatch z) (fun _ => ?_) ?_
          · refine s_if1 (b := false) (et_is (et_or (et_not (et_B (ev_isi (ev_var rfl) ry' (b := true) (kD "tuple" rfl (by decide +kernel))))) fun _ => et_or (et_not (et_B (ev_isi (ev_var rfl) rx' (b := true) (kD "tuple" rfl (by decide +kernel))))) fun _ => et_test (ev_op (ev_cb (ea_cons (ev_var rfl) ea_nil) (rc_lenLU (.inr (SqT.of h1)) sx_none)) (ev_cb (ea_cons (ev_var rfl) ea_nil) (rc_lenLU (.inr (SqT.of g1)) sx_none)) (rv_ne rfl))) (by rw [len]; simp)) (fun z => nomatch z) (fun _ => s_nx fun H1 e => ⟨rfl, e⟩)
          · rintro σ' H' ⟨rfl, e⟩
            exact same_loop (Nat.lt_of_succ_lt_succ hd) h4 g4 (.inr ⟨h1, g1⟩) h3 g3 e k (by rfl)
theorem okh__law_same (T : Txt K mg w) : OkH P w K mg base CX0 6 (He.fAd K ("_law_same", none)) ["actual", "expected"] (sp_same 5) := by
  have all : ∀ n : Nat, OkH P w K mg base CX0 (n + 1) (He.fAd K ("_law_same", none)) ["actual", "expected"] (sp_same n) := fun n => by
    induction n with
    | zero =>
      refine (ok_zeroH (F__law_same T) (fun _ _ _ _ _ _ us hl => match us, hl with | [_, _], _ => rfl) fun vs H Q E h => ?_).mono (Nat.zero_le _)
      obtain ⟨_, _, _, _, hd, _⟩ := h
      exact nomatch hd
    | succ n ih => exact same_bodyH T n ih
  exact all 5
/-! _law_sides -/
def a_sides : List V → Hp → Dst → (V → Hp → Prop) → Prop := fun vs H S PP => S = none ∧ ∃ u d, vs = [.int u, .int d] ∧ PP = NewL none H (sidesL u d)
theorem ok__law_sides (T : Txt K mg w) : Ok P w K mg base CX0 1 (He.fAd K ("_law_sides", none)) ["up", "down"] (sp_x a_sides) := by
  refine okD (F__law_sides T) sc__law_sides (fun _ _ _ _ _ _ us hl => match us, hl with | [_, _], _ => rfl) (fun vs H Q E h => ?_) (fun cdv A outer s H vs Q E hr h => ?_)
  · obtain ⟨S, PP, ⟨rfl, u, d, rfl, rfl⟩, _⟩ := h; rfl
  · obtain ⟨S, PP, ⟨rfl, u, d, rfl, rfl⟩, _, k⟩ := h
    refine ⟨_, (pss_cons (ps_if (PW.pt (pw_or (pt_cmpR op_eq (pv 0) pe_int (nomark _)) (pw_or1 (pt_cmpR op_eq (pv 1) pe_int (nomark _)))))
      (pss_one (ps_ret (pe_lst (pa_cons pe_str pa_nil))))
      pss_nil)
      (pss_one (ps_ret (pe_lst (pa_cons pe_str (pa_cons pe_str pa_nil)))))), ?_⟩
    refine go (K := K) (σ' := [some (.int u), some (.int d)]) rfl ?_
    walk_at "if"
    · intro h1
      refine s_retX (ex_lst (by walk_at "ev") (len_le (by simp))) fun v H1 e p => k _ _ e ?_
      rw [show sidesL u d = [.str "line"] by unfold sidesL; rw [if_pos (by simpa using h1)]]
      exact p
    · intro h1
      refine s_next (s_retX (ex_lst (by walk_at "ev") (len_le (by simp))) fun v H1 e p => k _ _ e ?_)
      rw [show sidesL u d = [.str "elder", .str "younger"] by unfold sidesL; rw [if_neg (by simp at h1; omega)]]
      exact p
/-- sides = _law_sides(up, down) -/
theorem ex_sides {S : Dst} {ta tb : TE} {σ : L2.St} {H : Hp} {u d : Int} (ha : Ev K S ta σ H (.int u)) (hb : Ev K S tb σ H (.int d)) : EvX K S (tCall (sp_x a_sides) [] E0 (tCons ta (tCons tb tNil))) σ H (NewL S H (sidesL u d)) :=
  (ex_p0 (P' := fun v H2 => ∃ p, v = .ref p ∧ H p = none ∧ ¬ Sx S p ∧ H2 p = some (.lst (sidesL u d))) (ea_cons ha (ea_cons hb ea_nil)) fun H1 e => ⟨_, ⟨rfl, u, d, rfl, rfl⟩, fun v H2 e2 p => newL_up e p⟩)
/-- sides[_law_draw(state, len(sides))] -/
theorem ex_side {st l : Addr} {ta tb tc : TE} {σ : L2.St} {H : Hp} {p : Addr} {u d : Int} (ha : Ev K (some (st, l)) ta σ H (.ref p)) (hp : LA K (some (st, l)) H p (sidesL u d)) (hb : Ev K (some (st, l)) tb σ H (.ref st)) (hc : Ev K (some (st, l)) tc σ H (.ref p)) :
    EvX K (some (st, l)) (tOp (rIxL K) ta (tCall sp_draw [] E0 (tCons tb (tCons (tCB (rLn K) (tCons tc tNil)) tNil)))) σ H (fun v _ => ∃ s, v = .str s ∧ fitsB u d s = true) := by
  have hl := sides_len u d
  refine ex_op2 ha (ex_draw hb (ev_cb (ea_cons hc ea_nil) (rc_len hp)) (by omega) (by omega)) ?_
  rintro y H1 e ⟨r, rfl, r0, r1⟩
  obtain ⟨s, h1, h2⟩ := sides_get r0 r1
  exact (ev_op ev_c ev_c (rv_ixL (hp.mono e) h1)).toX.imp fun w _ _ q => ⟨s, q, h2⟩
/-- (up, down, sides[..]) -/
theorem ex_row {st l : Addr} {ta tb tc : TE} {σ : L2.St} {H : Hp} {u d : Int} (v : 0 ≤ u ∧ u ≤ 999 ∧ 0 ≤ d ∧ d ≤ 999) (ha : Ev K (some (st, l)) ta σ H (.int u)) (hb : Ev K (some (st, l)) tb σ H (.int d)) (hc : EvX K (some (st, l)) tc σ H (fun v _ => ∃ s, v = .str s ∧ fitsB u d s = true)) :
    EvX K (some (st, l)) (tTup (tCons ta (tCons tb (tCons tc tNil)))) σ H (fun v H2 => ∃ u d s, Row none H2 v u d s ∧ KV u d s) := by
  refine (ex_tupX (PA := fun vs _ => ∃ s, vs = pv u d s ∧ fitsB u d s = true) (eax_cons ha.toX ?_) ?_).imp ?_
  · rintro _ H1 e1 rfl
    refine eax_cons (hb.mono e1).toX ?_
    rintro _ H2 e2 rfl
    refine eax_cons (fun H3 e3 Q q => hc H3 ((e1.trans e2).trans e3) Q q) ?_
    rintro _ H3 e3 ⟨s, rfl, f⟩
    exact ea_nil.toX.imp fun w _ _ z => ⟨s, by rw [z], f⟩
  · rintro vs H2 ⟨s, rfl, _⟩
    exact len_le (by simp)
  · rintro w H2 e ⟨vs, H3, ⟨s, rfl, f⟩, _, _, p, rfl, _, _, hp⟩
    exact ⟨u, d, s, ⟨p, rfl, hp, sx_none⟩, ⟨v.1, v.2.1, v.2.2.1, v.2.2.2, f⟩⟩
/-! _law_other_side -/
def a_other : List V → Hp → Dst → (V → Hp → Prop) → Prop := fun vs H S PP => S = none ∧ ∃ s, vs = [.str s] ∧ PP = fun v _ => v = .str (otherS s)
theorem ok__law_other_side (T : Txt K mg w) : Ok P w K mg base CX0 1 (He.fAd K ("_law_other_side", none)) ["side"] (sp_x a_other) := by
  refine okD (F__law_other_side T) sc__law_other_side (fun _ _ _ _ _ _ us hl => match us, hl with | [_], _ => rfl) (fun vs H Q E h => ?_) (fun cdv A outer s H vs Q E hr h => ?_)
  · obtain ⟨S, PP, ⟨rfl, s, rfl, rfl⟩, _⟩ := h; rfl
  · obtain ⟨S, PP, ⟨rfl, s, rfl, rfl⟩, _, k⟩ := h
    refine ⟨_, (pss_cons (ps_if (pt_cmpR op_eq (pv 0) pe_str (nomark _))
      (pss_one (ps_ret pe_str))
      pss_nil)
      (pss_cons (ps_if (pt_cmpR op_eq (pv 0) pe_str (nomark _))
      (pss_one (ps_ret pe_str))
      pss_nil)
      (pss_one (ps_ret (pv 0))))), ?_⟩
    refine go (K := K) (σ' := [some (.str s)]) rfl ?_
    walk_at "if"
    · intro h1
      refine s_ret ev_c fun H1 e => k _ _ e ?_
      have z : s = "elder" := by simpa using h1
      subst z
      rfl
    · intro h1
      refine s_next ?_
      walk_at "if"
      · intro h2
        refine s_ret ev_c fun H1 e => k _ _ e ?_
        have z : s = "younger" := by simpa using h2
        subst z
        rfl
      · intro h2
        refine s_next (s_ret (ev_var rfl) fun H1 e => k _ _ e ?_)
        unfold otherS
        rw [if_neg (by simpa using h1), if_neg (by simpa using h2)]
/-! _law_minus -/
def a_minus : List V → Hp → Dst → (V → Hp → Prop) → Prop := fun vs H S PP => S = none ∧ ∃ v u d s, vs = [v] ∧ Row none H v u d s ∧ PP = fun v H2 => Row none H2 v d u (otherS s)
theorem ok__law_minus (T : Txt K mg w) : Ok P w K mg base CX0 2 (He.fAd K ("_law_minus", none)) ["parts"] (sp_x a_minus) := by
  refine okD (F__law_minus T) sc__law_minus (fun _ _ _ _ _ _ us hl => match us, hl with | [_], _ => rfl) (fun vs H Q E h => ?_) (fun cdv A outer s H vs Q E hr h => ?_)
  · obtain ⟨S, PP, ⟨rfl, v, u, d, s, rfl, _⟩, _⟩ := h; rfl
  · obtain ⟨S, PP, ⟨rfl, v, u, d, s, rfl, r, rfl⟩, _, k⟩ := h
    refine ⟨_, (pss_one (ps_ret (pe_tup (pa_cons (pe_ix (ixU K rfl) (pv 0) pe_int (fun _ _ => rfl)) (pa_cons (pe_ix (ixU K rfl) (pv 0) pe_int (fun _ _ => rfl)) (pa_cons (pe_callO (ok__law_other_side T) (hr.mono (by first | decide | omega)) rfl (g__law_other_side T) pass0 (pa_cons (pe_ix (ixU K rfl) (pv 0) pe_int (fun _ _ => rfl)) pa_nil)) pa_nil)))))), ?_⟩
    refine go (K := K) (σ' := [some v]) rfl ?_
    refine s_retX (ex_tup (vs := pv d u (otherS s)) (ea_cons (r.ev1 (ev_var rfl)) (ea_cons (r.ev0 (ev_var rfl)) (ea_cons (ev_p0 (ea_cons (r.ev2 (ev_var rfl)) ea_nil) fun H1 e => ⟨rfl, s, rfl, rfl⟩) ea_nil))) (len_le (by simp))) ?_
    rintro w H1 e ⟨p, rfl, _, _, hp⟩
    exact k _ _ e ⟨p, rfl, hp, sx_none⟩
/-! _law_kin -/
def a_mkin (K : PySem.W.Frag) : List V → Hp → Dst → (V → Hp → Prop) → Prop := fun vs H S PP => S = none ∧ ∃ v u d s, vs = [v] ∧ Row none H v u d s ∧ KV u d s ∧ PP = NewI none H (He.ga K "Kin") (kinF u d s)
theorem ok__law_kin (T : Txt K mg w) : Ok P w K mg base CX0 6 (He.fAd K ("_law_kin", none)) ["parts"] (sp_x (a_mkin K)) := by
  refine okD (F__law_kin T) sc__law_kin (fun _ _ _ _ _ _ us hl => match us, hl with | [_], _ => rfl) (fun vs H Q E h => ?_) (fun cdv A outer s H vs Q E hr h => ?_)
  · obtain ⟨S, PP, ⟨rfl, v, u, d, s, rfl, _⟩, _⟩ := h; rfl
  · obtain ⟨S, PP, ⟨rfl, v, u, d, s, rfl, r, kv, rfl⟩, _, k⟩ := h
    refine ⟨_, (pss_one (ps_ret (pe_makeO (M_Kin T) (ok_KinD__initD_ T) (hr.mono (by first | decide | omega)) rfl (g_Kin T) pass0 (pa_cons (pe_ix (ixU K rfl) (pv 0) pe_int (fun _ _ => rfl)) (pa_cons (pe_ix (ixU K rfl) (pv 0) pe_int (fun _ _ => rfl)) (pa_cons (pe_ix (ixU K rfl) (pv 0) pe_int (fun _ _ => rfl)) pa_nil)))))), ?_⟩
    refine go (K := K) (σ' := [some v]) rfl ?_
    refine s_retX (ex_make (fs := kinF u d s) (vs := pv u d s) (ea_cons (r.ev0 (ev_var rfl)) (ea_cons (r.ev1 (ev_var rfl)) (ea_cons (r.ev2 (ev_var rfl)) ea_nil))) (fun _ _ => ⟨u, d, s, rfl, kv, rfl⟩) (fun _ _ _ _ _ _ q => q)) fun w H1 e p => k _ _ e p
/-! _law_is_kin -/
def a_iskin (K : PySem.W.Frag) : List V → Hp → Dst → (V → Hp → Prop) → Prop := fun vs H S PP => S = none ∧ ∃ a v u d s, vs = [.ref a, v] ∧ KinA K none H a u d s ∧ Row none H v u d s ∧ PP = fun v _ => v = .bl true
theorem rp_kin {S : Dst} {H : Hp} {p : Addr} {u d : Int} {s : Str} (h : H p = some (.lst (pv u d s))) (n : ¬ Sx S p) : Rp S H (.ref p) (.list [.int u, .int d, .str s]) := .lst h n (by simp) (.cons (.int u) (.cons (.int d) (.cons (.str s) .nil)))
theorem ok__law_is_kin (T : Txt K mg w) : Ok P w K mg base CX0 7 (He.fAd K ("_law_is_kin", none)) ["actual", "parts"] (sp_x (a_iskin K)) := by
  refine okD (F__law_is_kin T) sc__law_is_kin (fun _ _ _ _ _ _ us hl => match us, hl with | [_, _], _ => rfl) (fun vs H Q E h => ?_) (fun cdv A outer s H vs Q E hr h => ?_)
  · obtain ⟨S, PP, ⟨rfl, a, v, u, d, s, rfl, _⟩, _⟩ := h; rfl
  · obtain ⟨S, PP, ⟨rfl, a, v, u, d, s, rfl, ka, r, rfl⟩, _, k⟩ := h
    refine ⟨_, (pss_cons (ps_if (pt_not (pt_val (pe_callB (isiK K rfl) (by rfl) (n_isinstance T) (by decide +kernel) (pa_cons (pv 0) (pa_cons (pe_glob (v := V.ref (He.ga K "Kin")) rfl (g_Kin T) rfl) pa_nil)))))
      (pss_one (ps_ret pe_bl))
      pss_nil)
      (pss_one (ps_ret (pe_callO (ok__law_same T) (hr.mono (by first | decide | omega)) rfl (g__law_same T) pass0 (pa_cons (pe_lst (pa_cons (fldK K rfl (pv 0)) (pa_cons (fldK K rfl (pv 0)) (pa_cons (fldK K rfl (pv 0)) pa_nil)))) (pa_cons (pe_lst (pa_cons (pe_ix (ixU K rfl) (pv 1) pe_int (fun _ _ => rfl)) (pa_cons (pe_ix (ixU K rfl) (pv 1) pe_int (fun _ _ => rfl)) (pa_cons (pe_ix (ixU K rfl) (pv 1) pe_int (fun _ _ => rfl)) pa_nil)))) pa_nil)))))), ?_⟩
    refine go (K := K) (σ' := [some (.ref a), some v]) rfl ?_
    have c := c_Kin T
    refine s_if (b := false) (et_not (b := true) (et_B (ev_isO (ev_var rfl) ev_c ka c (isc_Kin T) kit_self))) (fun z => nomatch z) (fun _ => s_next ?_)
    refine s_retX (P := fun v _ => v = .bl true) (ex_callX (PA := fun vs H2 => ∃ p q, vs = [.ref p, .ref q] ∧ H2 p = some (.lst (pv u d s)) ∧ H2 q = some (.lst (pv u d s))) (eax_cons (ex_lst (vs := pv u d s) (ea_cons (ev_fld (ev_var rfl) ka c (na_Kin_up T) rfl) (ea_cons (ev_fld (ev_var rfl) ka c (na_Kin_down T) rfl) (ea_cons (ev_fld (ev_var rfl) ka c (na_Kin_side T) rfl) ea_nil))) (len_le (by simp))) ?_) ?_) ?_
    · rintro w H1 e1 ⟨p, rfl, _, _, hp⟩
      have r1 := r.mono e1
      refine eax_cons (ex_lst (vs := pv u d s) (ea_cons (r1.ev0 (ev_var rfl)) (ea_cons (r1.ev1 (ev_var rfl)) (ea_cons (r1.ev2 (ev_var rfl)) ea_nil))) (len_le (by simp))) ?_
      rintro w H2 e2 ⟨q, rfl, _, _, hq⟩
      exact ea_nil.toX.imp fun w H3 e3 z => ⟨p, q, by rw [z], (e2.trans e3).1 _ _ sx_none hp, e3.1 _ _ sx_none hq⟩
    · rintro vs H1 e1 ⟨p, q, rfl, hp, hq⟩
      exact spx_same (n := 5) (rp_kin hp sx_none) (rp_kin hq sx_none) (by simp [PyData.depth, PyData.depthAll])
    · rintro w H1 e rfl
      exact k _ _ e rfl
/-! _law_are_kins -/
def a_arekins (K : PySem.W.Frag) : List V → Hp → Dst → (V → Hp → Prop) → Prop := fun vs H S PP => S = none ∧ ∃ (p q : Addr) (ys zs : List V) (ks : List KT), vs = [.ref p, .ref q] ∧ H p = some (.lst ys) ∧ H q = some (.lst zs) ∧ KinsL K none H ys ks ∧ RowsK none H zs ks ∧ ks.length ≤ 5000 ∧ PP = fun v _ => v = .bl true
theorem ok__law_are_kins (T : Txt K mg w) : Ok P w K mg base CX0 8 (He.fAd K ("_law_are_kins", none)) ["actual", "expected"] (sp_x (a_arekins K)) := by
  refine okD (F__law_are_kins T) sc__law_are_kins (fun _ _ _ _ _ _ us hl => match us, hl with | [_, _], _ => rfl) (fun vs H Q E h => ?_) (fun cdv A outer s H vs Q E hr h => ?_)
  · obtain ⟨S, PP, ⟨rfl, p, q, ys, zs, ks, rfl, _⟩, _⟩ := h; rfl
  · obtain ⟨S, PP, ⟨rfl, p, q, ys, zs, ks, rfl, hp, hq, hk, hz, hl, rfl⟩, _, k⟩ := h
    refine ⟨_, (pss_cons (ps_if (PW.pt (pw_or (pt_not (pt_val (pe_callB (isiK K rfl) (by rfl) (n_isinstance T) (by decide +kernel) (pa_cons (pv 0) (pa_cons (pe_bltn (v := .ty "list") (by rfl) (n_list T) (by decide +kernel) rfl) pa_nil))))) (pw_or1 (pt_cmpR op_ne (pe_callB (lenK K rfl) (by rfl) (n_len T) (by decide +kernel) (pa_cons (pv 0) pa_nil)) (pe_callB (lenK K rfl) (by rfl) (n_len T) (by decide +kernel) (pa_cons (pv 1) pa_nil)) (nomark _)))))
      (pss_one (ps_ret pe_bl))
      pss_nil)
      (pss_cons (ps_for PassesOwn.never rfl (pi_range1 (by rfl) (n_range T) (pa_cons (pe_callB (lenK K rfl) (by rfl) (n_len T) (by decide +kernel) (pa_cons (pv 1) pa_nil)) pa_nil)) (pg_name (i := 2) sc__law_are_kins.nd rfl (Or.inl rfl))
      (pss_one (ps_if (pt_not (pt_val (pe_callO (ok__law_is_kin T) (hr.mono (by first | decide | omega)) rfl (g__law_is_kin T) pass0 (pa_cons (pe_ix (ixL K rfl) (pv 0) (pv 2) (fun _ _ => rfl)) (pa_cons (pe_ix (ixL K rfl) (pv 1) (pv 2) (fun _ _ => rfl)) pa_nil)))))
      (pss_one (ps_ret pe_bl))
      pss_nil)))
      (pss_one (ps_ret pe_bl)))), ?_⟩
    refine go (K := K) (σ' := [some (.ref p), some (.ref q), none]) rfl ?_
    have lp : ∀ {σ : L2.St} {t0 : TE} {H' : Hp}, Lx none H H' → Ev K none t0 σ H' (.ref p) → Ev K none (tCB (rLn K) (tCons t0 tNil)) σ H' (.int (ks.length : Int)) := fun e h => ev_is (ev_cb (ea_cons h ea_nil) (rc_len (LA.of (e.1 _ _ sx_none hp) sx_none))) (by rw [hk.1])
    have lq : ∀ {σ : L2.St} {t0 : TE} {H' : Hp}, Lx none H H' → Ev K none t0 σ H' (.ref q) → Ev K none (tCB (rLn K) (tCons t0 tNil)) σ H' (.int (ks.length : Int)) := fun e h => ev_is (ev_cb (ea_cons h ea_nil) (rc_len (LA.of (e.1 _ _ sx_none hq) sx_none))) (by rw [hz.1])
    refine s_if (b := false) (et_is (et_or (et_not (et_B (ev_cb (ea_cons (ev_var rfl) (ea_cons ev_c ea_nil)) (rc_isList hp sx_none)))) fun _ => et_test (ev_op (lp Lx.rfl0 (ev_var rfl)) (lq Lx.rfl0 (ev_var rfl)) (rv_ne rfl))) (by simp)) (fun z => nomatch z) (fun _ => s_next ?_)
    refine s_forRn (n := (ks.length : Int)) (ea_cons (lq Lx.rfl0 (ev_var rfl)) ea_nil) ⟨by omega, by omega⟩ (fun i σ' H' => (∃ v2, σ' = [some (.ref p), some (.ref q), v2]) ∧ Lx none H H') wf0 (fun H1 e => ⟨⟨_, rfl⟩, e⟩) ?_ ?_
    · rintro i σ' H1 hi ⟨⟨v2, rfl⟩, e1⟩
      dsimp only [List.set]
      have hki := List.getElem?_eq_getElem (l := ks) (i := i) (by omega)
      generalize ks[i]'(by omega) = kt at hki
      obtain ⟨b, hy, kb⟩ := hk.get hki
      have hzi := List.getElem?_eq_getElem (l := zs) (i := i) (by rw [hz.1]; omega)
      have rw0 := hz.2 i _ _ hzi hki
      refine s_if1 (b := false) (et_not (b := true) (et_B (ev_p0 (ea_cons (ev_op (ev_var rfl) (ev_var rfl) (rv_ixL (LA.of (e1.1 _ _ sx_none hp) sx_none) (at_of rfl hy))) (ea_cons (ev_op (ev_var rfl) (ev_var rfl) (rv_ixL (LA.of (e1.1 _ _ sx_none hq) sx_none) (at_of rfl hzi))) ea_nil)) fun G1 f1 => ⟨rfl, b, _, kt.1, kt.2.1, kt.2.2, rfl, kb.mono (e1.trans f1), rw0.mono (e1.trans f1), rfl⟩))) (fun z => nomatch z) (fun _ => s_nx fun H2 e2 => ⟨⟨_, rfl⟩, e1.trans e2⟩)
    · rintro σ' H1 ⟨⟨v2, rfl⟩, e1⟩
      exact s_ret ev_c fun H2 e2 => k _ _ (e1.trans e2) rfl
/-! _law_product -/
def a_prod : List V → Hp → Dst → (V → Hp → Prop) → Prop := fun vs H S PP => S = none ∧ ∃ (v w : V) (ka kb : KT), vs = [v, w] ∧ Row none H v ka.1 ka.2.1 ka.2.2 ∧ Row none H w kb.1 kb.2.1 kb.2.2 ∧ KVk ka ∧ KVk kb ∧ PP = fun x H2 => ∃ p ys, x = .ref p ∧ H p = none ∧ H2 p = some (.lst ys) ∧ RowsK none H2 ys (mulK ka kb)
theorem ok__law_product (T : Txt K mg w) : Ok P w K mg base CX0 2 (He.fAd K ("_law_product", none)) ["a", "b"] (sp_x a_prod) := by
  refine okD (F__law_product T) sc__law_product (fun _ _ _ _ _ _ us hl => match us, hl with | [_, _], _ => rfl) (fun vs H Q E h => ?_) (fun cdv A outer s H vs Q E hr h => ?_)
  · obtain ⟨S, PP, ⟨rfl, v, w, ka, kb, rfl, _⟩, _⟩ := h; rfl
  · obtain ⟨S, PP, ⟨rfl, v, w, ka, kb, rfl, ra, rb, va, vb, rfl⟩, _, k⟩ := h
    refine ⟨_, (pss_cons (ps_if (pt_cmpR op_lt (pe_ix (ixU K rfl) (pv 1) pe_int (fun _ _ => rfl)) (pe_ix (ixU K rfl) (pv 0) pe_int (fun _ _ => rfl)) (nomark _))
      (pss_one (ps_ret (pe_lst (pa_cons (pe_tup (pa_cons (pe_ix (ixU K rfl) (pv 0) pe_int (fun _ _ => rfl)) (pa_cons (pe_op op_add (pe_op op_sub (pe_ix (ixU K rfl) (pv 0) pe_int (fun _ _ => rfl)) (pe_ix (ixU K rfl) (pv 1) pe_int (fun _ _ => rfl))) (pe_ix (ixU K rfl) (pv 1) pe_int (fun _ _ => rfl))) (pa_cons (pe_ix (ixU K rfl) (pv 0) pe_int (fun _ _ => rfl)) pa_nil)))) pa_nil))))
      pss_nil)
      (pss_cons (ps_if (pt_cmpR op_gt (pe_ix (ixU K rfl) (pv 1) pe_int (fun _ _ => rfl)) (pe_ix (ixU K rfl) (pv 0) pe_int (fun _ _ => rfl)) (nomark _))
      (pss_one (ps_ret (pe_lst (pa_cons (pe_tup (pa_cons (pe_op op_sub (pe_op op_add (pe_ix (ixU K rfl) (pv 0) pe_int (fun _ _ => rfl)) (pe_ix (ixU K rfl) (pv 1) pe_int (fun _ _ => rfl))) (pe_ix (ixU K rfl) (pv 0) pe_int (fun _ _ => rfl))) (pa_cons (pe_ix (ixU K rfl) (pv 1) pe_int (fun _ _ => rfl)) (pa_cons (pe_ix (ixU K rfl) (pv 1) pe_int (fun _ _ => rfl)) pa_nil)))) pa_nil))))
      pss_nil)
      (pss_cons (ps_if (PW.pt (pw_or (pt_cmpR op_eq (pe_ix (ixU K rfl) (pv 0) pe_int (fun _ _ => rfl)) pe_int (nomark _)) (pw_or1 (pt_cmpR op_eq (pe_ix (ixU K rfl) (pv 1) pe_int (fun _ _ => rfl)) pe_int (nomark _)))))
      (pss_one (ps_ret (pe_lst (pa_cons (pe_tup (pa_cons (pe_ix (ixU K rfl) (pv 0) pe_int (fun _ _ => rfl)) (pa_cons (pe_ix (ixU K rfl) (pv 1) pe_int (fun _ _ => rfl)) (pa_cons pe_str pa_nil)))) pa_nil))))
      pss_nil)
      (pss_cons (ps_if (PW.pt (pw_and (pt_cmpR op_eq (pe_ix (ixU K rfl) (pv 0) pe_int (fun _ _ => rfl)) (pe_ix (ixU K rfl) (pv 1) pe_int (fun _ _ => rfl)) (nomark _)) (pw_and1 (pt_cmpR op_ne (pe_ix (ixU K rfl) (pv 0) pe_int (fun _ _ => rfl)) pe_str (nomark _)))))
      (pss_one (ps_ret (pe_lst (pa_cons (pe_tup (pa_cons (pe_ix (ixU K rfl) (pv 0) pe_int (fun _ _ => rfl)) (pa_cons (pe_ix (ixU K rfl) (pv 1) pe_int (fun _ _ => rfl)) (pa_cons (pe_ix (ixU K rfl) (pv 0) pe_int (fun _ _ => rfl)) pa_nil)))) pa_nil))))
      pss_nil)
      (pss_cons (ps_set (i := 2) sc__law_product.nd rfl (Or.inl rfl) (pe_lst pa_nil))
      (pss_cons (ps_set (i := 3) sc__law_product.nd rfl (Or.inl rfl) (pe_callB (call_min2 rfl) (by rfl) (n_min T) (by decide +kernel) (pa_cons (pe_callTy callInt (by rfl) (n_int T) (by decide +kernel) (pa_cons (pe_ix (ixU K rfl) (pv 0) pe_int (fun _ _ => rfl)) pa_nil)) (pa_cons (pe_callTy callInt (by rfl) (n_int T) (by decide +kernel) (pa_cons (pe_ix (ixU K rfl) (pv 1) pe_int (fun _ _ => rfl)) pa_nil)) pa_nil))))
      (pss_cons (ps_for PassesOwn.never rfl (pi_range1 (by rfl) (n_range T) (pa_cons (pe_op op_add (pv 3) pe_int) pa_nil)) (pg_name (i := 4) sc__law_product.nd rfl (Or.inl rfl))
      (pss_cons (ps_set (i := 5) sc__law_product.nd rfl (Or.inl rfl) (pe_op op_add (pe_op op_sub (pe_ix (ixU K rfl) (pv 0) pe_int (fun _ _ => rfl)) (pv 3)) (pv 4)))
      (pss_cons (ps_set (i := 6) sc__law_product.nd rfl (Or.inl rfl) (pe_op op_add (pe_op op_sub (pe_ix (ixU K rfl) (pv 1) pe_int (fun _ _ => rfl)) (pv 3)) (pv 4)))
      (pss_one (ps_for PassesOwn.never rfl (piLK K rfl (pe_callO (ok__law_sides T) (hr.mono (by first | decide | omega)) rfl (g__law_sides T) pass0 (pa_cons (pv 5) (pa_cons (pv 6) pa_nil)))) (pg_name (i := 7) sc__law_product.nd rfl (Or.inl rfl))
      (pss_one (ps_expr (bmK K rfl PySem.F.plainAttrs_list PySem.F.slot_list_append PySem.F.type_list_append mt_append (pv 2) (pa_cons (pe_tup (pa_cons (pv 5) (pa_cons (pv 6) (pa_cons (pv 7) pa_nil)))) pa_nil)))))))))
      (pss_one (ps_ret (pv 2)))))))))), ?_⟩
    refine go (K := K) (σ' := [some v, some w, none, none, none, none, none, none]) rfl ?_
    have u1 := ra.ev0 (K := K) (σ := [some v, some w, none, none, none, none, none, none]) (te := tVar 0) (ev_var rfl)
    have d1 := ra.ev1 (K := K) (σ := [some v, some w, none, none, none, none, none, none]) (te := tVar 0) (ev_var rfl)
    have s1 := ra.ev2 (K := K) (σ := [some v, some w, none, none, none, none, none, none]) (te := tVar 0) (ev_var rfl)
    have u2 := rb.ev0 (K := K) (σ := [some v, some w, none, none, none, none, none, none]) (te := tVar 1) (ev_var rfl)
    have d2 := rb.ev1 (K := K) (σ := [some v, some w, none, none, none, none, none, none]) (te := tVar 1) (ev_var rfl)
    have s2 := rb.ev2 (K := K) (σ := [some v, some w, none, none, none, none, none, none]) (te := tVar 1) (ev_var rfl)
    have one : ∀ {tas : TA} {kt : KT}, mulK ka kb = [kt] → EvA K none tas [some v, some w, none, none, none, none, none, none] H (pv kt.1 kt.2.1 kt.2.2) → EvX K none (tLst (tCons (tTup tas) tNil)) [some v, some w, none, none, none, none, none, none] H (fun x H2 => ∃ p ys, x = .ref p ∧ H p = none ∧ H2 p = some (.lst ys) ∧ RowsK none H2 ys (mulK ka kb)) := fun {tas kt} em h => by
      refine (ex_lstX (PA := fun vs H2 => ∃ y, vs = [y] ∧ Row none H2 y kt.1 kt.2.1 kt.2.2) (eax_cons (ex_tup h (len_le (by simp))) ?_) ?_).imp ?_
      · rintro _ G1 f1 ⟨q, rfl, _, nq, hq⟩
        exact ea_nil.toX.imp fun w G2 f2 z => ⟨.ref q, by rw [z], q, rfl, f2.1 _ _ sx_none hq, sx_none⟩
      · rintro vs G1 ⟨y, rfl, _⟩
        exact len_le (by simp)
      · rintro x G1 f1 ⟨vs, G2, ⟨y, rfl, hy⟩, _, e3, p, rfl, fp, _, hp⟩
        rw [em]
        exact ⟨p, _, rfl, fp, hp, RowsK.snoc RowsK.nil (hy.mono e3)⟩
    refine s_if (et_test (ev_op u2 d1 rv_I0)) (fun h1 => ?_) (fun h1 => s_next ?_)
    · exact s_retX (one (kt := (ka.1, ka.2.1 - kb.1 + kb.2.1, ka.2.2)) (by unfold mulK; rw [if_pos (of_decide_eq_true h1)]) (ea_cons u1 (ea_cons (ev_op (ev_op d1 u2 rv_I0) d2 rv_I0) (ea_cons s1 ea_nil)))) k
    have h1 := of_decide_eq_false h1
    refine s_if (et_test (ev_op u2 d1 rv_I0)) (fun h2 => ?_) (fun h2 => s_next ?_)
    · exact s_retX (one (kt := (ka.1 + kb.1 - ka.2.1, kb.2.1, kb.2.2)) (by unfold mulK; rw [if_neg h1, if_pos (of_decide_eq_true h2)]) (ea_cons (ev_op (ev_op u1 u2 rv_I0) d1 rv_I0) (ea_cons d2 (ea_cons s2 ea_nil)))) k
    have h2 := of_decide_eq_false h2
    refine s_if (b := decide (ka.1 = 0) || decide (kb.2.1 = 0)) (et_is (et_or (et_test (ev_op u1 ev_c (rv_eq rfl))) fun _ => et_test (ev_op d2 ev_c (rv_eq rfl))) (by simp)) (fun h3 => ?_) (fun h3 => s_next ?_)
    · exact s_retX (one (kt := (ka.1, kb.2.1, "line")) (by unfold mulK; rw [if_neg h1, if_neg h2, if_pos (by simpa using h3)]) (ea_cons u1 (ea_cons d2 (ea_cons ev_c ea_nil)))) k
    have h3 : ¬ (ka.1 = 0 ∨ kb.2.1 = 0) := by simpa using h3
    refine s_if (b := decide (ka.2.2 = kb.2.2) && !decide (ka.2.2 = "line")) (et_is (et_and (et_test (ev_op s1 s2 (rv_eq rfl))) fun _ => et_test (ev_op s1 ev_c (rv_ne rfl))) (by simp)) (fun h4 => ?_) (fun h4 => s_next ?_)
    · exact s_retX (one (kt := (ka.1, kb.2.1, ka.2.2)) (by unfold mulK; rw [if_neg h1, if_neg h2, if_neg h3, if_pos (by simpa using h4)]) (ea_cons u1 (ea_cons d2 (ea_cons s1 ea_nil)))) k
    have em : mulK ka kb = openK ka.1.toNat kb.2.1.toNat := by unfold mulK; rw [if_neg h1, if_neg h2, if_neg h3, if_neg (by simpa using h4)]
    have a0 := va.u0
    have a1 := va.u1
    have b0 := vb.d0
    have b1 := vb.d1
    obtain ⟨u, hu⟩ := Int.eq_ofNat_of_zero_le a0
    obtain ⟨d, hd⟩ := Int.eq_ofNat_of_zero_le b0
    rw [hu, hd] at em
    simp only [Int.ofNat_eq_natCast, Int.toNat_natCast] at em
    refine s_asgX (ex_lst (vs := []) ea_nil (len_le (by simp))) ?_
    rintro _ H1 e1 ⟨p, rfl, fp, _, hp⟩
    dsimp only [List.set]
    refine s_asg (v := .int ((min u d : Nat) : Int)) (ev_is (ev_cb (ea_cons (ev_cb (ea_cons (ev_is ((ra.mono e1).ev0 (ev_var rfl)) (congrArg V.int hu)) ea_nil) rc_int) (ea_cons (ev_cb (ea_cons (ev_is ((rb.mono e1).ev1 (ev_var rfl)) (congrArg V.int hd)) ea_nil) rc_int) ea_nil)) rc_min2) (congrArg V.int (by omega))) ?_
    dsimp only [List.set]
    refine s_forRn (n := ((min u d : Nat) : Int) + 1) (ea_cons (ev_op (ev_var rfl) ev_c rv_I0) ea_nil) ⟨by omega, by omega⟩ (fun i σ' H' => (∃ v4 v5 v6 v7, σ' = [some v, some w, some (.ref p), some (.int ((min u d : Nat) : Int)), v4, v5, v6, v7]) ∧ Lx none H H' ∧ ∃ ys, H' p = some (.lst ys) ∧ RowsK none H' ys (openN u d i)) wf0 (fun H2 e2 => ⟨⟨_, _, _, _, rfl⟩, e1.trans e2, [], e2.1 _ _ sx_none hp, RowsK.nil⟩) ?_ ?_
    · rintro i σ' H2 hi ⟨⟨v4, v5, v6, v7, rfl⟩, e2, ys, hys, hr⟩
      dsimp only [List.set]
      have ll := openN_len (u := u) (d := d) (n := i)
      refine s_asg (v := .int ((u - min u d + i : Nat) : Int)) (ev_is (ev_op (ev_op (ev_is ((ra.mono e2).ev0 (ev_var rfl)) (congrArg V.int hu)) (ev_var rfl) rv_I0) (ev_var rfl) rv_I0) (congrArg V.int (by omega))) ?_
      dsimp only [List.set]
      refine s_asg (v := .int ((d - min u d + i : Nat) : Int)) (ev_is (ev_op (ev_op (ev_is ((rb.mono e2).ev1 (ev_var rfl)) (congrArg V.int hd)) (ev_var rfl) rv_I0) (ev_var rfl) rv_I0) (congrArg V.int (by omega))) ?_
      dsimp only [List.set]
      refine s_forLX1 (ex_sides (ev_var rfl) (ev_var rfl)) ?_
      rintro _ H3 e3 ⟨q, rfl, fq, _, hq⟩
      have qp : q ≠ p := (ne_of_none hys fq).symm
      have sl : sidesL ((u - min u d + i : Nat) : Int) ((d - min u d + i : Nat) : Int) = (sidesK ((u - min u d + i : Nat) : Int) ((d - min u d + i : Nat) : Int)).map (fun k => V.str k.2.2) ∧ (∀ k ∈ sidesK ((u - min u d + i : Nat) : Int) ((d - min u d + i : Nat) : Int), k.1 = ((u - min u d + i : Nat) : Int) ∧ k.2.1 = ((d - min u d + i : Nat) : Int)) := by
        unfold sidesL sidesK
        split
        · exact ⟨rfl, fun k hk => by rw [List.mem_singleton] at hk; subst hk; exact ⟨rfl, rfl⟩⟩
        · exact ⟨rfl, fun k hk => by simp only [List.mem_cons, List.mem_nil_iff, or_false] at hk; rcases hk with rfl | rfl <;> exact ⟨rfl, rfl⟩⟩
      obtain ⟨sl, su⟩ := sl
      have l2 : (sidesK ((u - min u d + i : Nat) : Int) ((d - min u d + i : Nat) : Int)).length ≤ 2 := by unfold sidesK; split <;> simp
      rw [sl] at hq
      refine s_forLn1 ev_c (LA.of hq sx_none) (fun m σ' H' => (∃ v7, σ' = [some v, some w, some (.ref p), some (.int ((min u d : Nat) : Int)), some (.int (i : Int)), some (.int ((u - min u d + i : Nat) : Int)), some (.int ((d - min u d + i : Nat) : Int)), v7]) ∧ Lx none H H' ∧ H' q = some (.lst ((sidesK ((u - min u d + i : Nat) : Int) ((d - min u d + i : Nat) : Int)).map (fun k => V.str k.2.2))) ∧ ∃ ys, H' p = some (.lst ys) ∧ RowsK none H' ys (openN u d i ++ (sidesK ((u - min u d + i : Nat) : Int) ((d - min u d + i : Nat) : Int)).take m)) wf0
        (fun H4 e4 => ⟨⟨_, rfl⟩, (e2.trans e3).trans e4, e4.1 _ _ sx_none hq, ys, (e3.trans e4).1 _ _ sx_none hys, by simpa using hr.mono (e3.trans e4)⟩) (fun m σ' H' _ z => LA.of z.2.2.1 sx_none) ?_ ?_
      · rintro m x σ' H4 hm ⟨⟨v7, rfl⟩, e4, hq4, ys4, hys4, hr4⟩
        dsimp only [List.set]
        rw [List.getElem?_map] at hm
        obtain ⟨kt, hk, rfl⟩ := Option.map_eq_some_iff.mp hm
        obtain ⟨k1, k2⟩ := su kt (List.mem_of_getElem? hk)
        refine s_appX1 hys4 sx_none (ev_var rfl) (ex_tup (vs := pv kt.1 kt.2.1 kt.2.2) (ea_cons (ev_is (ev_var rfl) (congrArg V.int k1.symm)) (ea_cons (ev_is (ev_var rfl) (congrArg V.int k2.symm)) (ea_cons (ev_var rfl) ea_nil))) (len_le (by simp))) (by rw [hr4.1, List.length_append, List.length_take, sizeLine_eq]; omega) ?_
        rintro _ H5 e5 ⟨t, rfl, _, _, ht⟩ H6 e6
        have hys5 := e5.1 _ _ sx_none hys4
        refine ⟨⟨_, rfl⟩, ((e4.trans e5).put sx_none fun u z => nomatch (fp.symm.trans z)).trans e6, e6.1 _ _ sx_none (by rw [upd_ne qp]; exact e5.1 _ _ sx_none hq4), _, e6.1 _ _ sx_none upd_same, ?_⟩
        rw [List.take_succ, hk, Option.toList_some, ← List.append_assoc]
        exact ((RowsK.snoc (hr4.mono e5) ⟨t, rfl, ht, sx_none⟩).stab hys5).mono e6
      · rintro σ' H4 ⟨⟨v7, rfl⟩, e4, hq4, ys4, hys4, hr4⟩
        rw [List.length_map, List.take_length] at hr4
        exact ⟨⟨_, _, _, _, rfl⟩, e4, ys4, hys4, by rw [openN_succ]; exact hr4⟩
    · rintro σ' H2 ⟨⟨v4, v5, v6, v7, rfl⟩, e2, ys, hys, hr⟩
      rw [show (((min u d : Nat) : Int) + 1).toNat = min u d + 1 by omega] at hr
      exact s_ret (ev_var rfl) fun H3 e3 => k _ _ (e2.trans e3) ⟨p, ys, rfl, fp, e3.1 _ _ sx_none hys, by rw [em]; exact hr.mono e3⟩
/-! _law_multiplied -/
def a_multd (K : PySem.W.Frag) : List V → Hp → Dst → (V → Hp → Prop) → Prop := fun vs H S PP => S = none ∧ ∃ (a b q : Addr) (zs : List V) (ka kb : KT), vs = [.ref a, .ref b, .ref q] ∧ KinA K none H a ka.1 ka.2.1 ka.2.2 ∧ KinA K none H b kb.1 kb.2.1 kb.2.2 ∧ KVk ka ∧ KVk kb ∧ H q = some (.lst zs) ∧ RowsK none H zs (mulK ka kb) ∧ PP = fun v _ => v = .bl true
theorem ok__law_multiplied (T : Txt K mg w) : Ok P w K mg base CX0 9 (He.fAd K ("_law_multiplied", none)) ["left", "right", "due"] (sp_x (a_multd K)) := by
  refine okD (F__law_multiplied T) sc__law_multiplied (fun _ _ _ _ _ _ us hl => match us, hl with | [_, _, _], _ => rfl) (fun vs H Q E h => ?_) (fun cdv A outer s H vs Q E hr h => ?_)
  · obtain ⟨S, PP, ⟨rfl, a, b, q, zs, ka, kb, rfl, _⟩, _⟩ := h; rfl
  · obtain ⟨S, PP, ⟨rfl, a, b, q, zs, ka, kb, rfl, ia, ib, va, vb, hq, hz, rfl⟩, _, k⟩ := h
    refine ⟨_, (pss_cons (ps_set (i := 3) sc__law_multiplied.nd rfl (Or.inl rfl) (pe_or (pe_cmpR op_gt (pe_ix (ixU K rfl) (pe_ix (ixL K rfl) (pv 2) pe_int (fun _ _ => rfl)) pe_int (fun _ _ => rfl)) pe_int (nomark _)) (pe_one (pe_cmpR op_gt (pe_ix (ixU K rfl) (pe_ix (ixL K rfl) (pv 2) pe_int (fun _ _ => rfl)) pe_int (fun _ _ => rfl)) pe_int (nomark _)))))
      (pss_cons (L2N.fw_try_first (i := 5) rfl rfl sc__law_multiplied.nd rfl rfl ⟨rfl, by decide, .inl (g_BadKin T)⟩ (fun W pn xe tk _ => (pss_one (ps_set (i := 4) sc__law_multiplied.nd rfl (Or.inl rfl) (pe_binS (op := .Mult) K rfl (sf_Kin T) (m_KinD__mulD_ T) (okr_KinD__mulD_ T) (hr.mono (by first | decide | omega)) (passS tk) (pv 0) (pv 1))))) (fun a oe cls d pn hz hf => (pss_cons (ps_if (PW.pt (pw_or (pt_not (pt_val (pv 3))) (pw_or1 (pt_val (pe_callB (call_isX hz.zc hf) (by rfl) (n_isinstance T) (by decide +kernel) (pa_cons (pv 5) (pa_cons (pe_glob (v := V.ref (He.ga K "BadReach")) rfl (g_BadReach T) rfl) pa_nil)))))))
      (pss_one (ps_ret pe_bl))
      pss_nil)
      (pss_one (ps_ret (pe_callOH (hot_suite hz hf) (okh__law_same T) (L2H.roomH_mark (hr.mono (by first | decide | omega)) _) rfl (g__law_same T) pass0 (pa_cons (pe_lst (pa_cons (pe_xf (xf_BadKin T) (nf_BadKin_up T) hz.zc hf (pv 5)) (pa_cons (pe_xf (xf_BadKin T) (nf_BadKin_down T) hz.zc hf (pv 5)) (pa_cons (pe_xf (xf_BadKin T) (nf_BadKin_side T) hz.zc hf (pv 5)) (pa_cons (pe_xf (xf_BadKin T) (nf_BadKin_reason T) hz.zc hf (pv 5)) pa_nil))))) (pa_cons (pe_lst (pa_cons (pe_ix (ixU K rfl) (pe_ix (ixL K rfl) (pv 2) pe_int (fun _ _ => rfl)) pe_int (fun _ _ => rfl)) (pa_cons (pe_ix (ixU K rfl) (pe_ix (ixL K rfl) (pv 2) pe_int (fun _ _ => rfl)) pe_int (fun _ _ => rfl)) (pa_cons (pe_ix (ixU K rfl) (pe_ix (ixL K rfl) (pv 2) pe_int (fun _ _ => rfl)) pe_int (fun _ _ => rfl)) (pa_cons pe_str pa_nil))))) pa_nil))))))))
      (pss_cons (ps_if (PW.pt (pw_or (pt_val (pv 3)) (pw_or1 (pt_not (pt_val (pe_callO (ok__law_are_kins T) (hr.mono (by first | decide | omega)) rfl (g__law_are_kins T) pass0 (pa_cons (pv 4) (pa_cons (pv 2) pa_nil))))))))
      (pss_one (ps_ret pe_bl))
      pss_nil)
      (pss_cons (ps_expr (bmK K rfl PySem.F.plainAttrs_list PySem.F.slot_list_append PySem.F.type_list_append mt_append (pv 4) (pa_cons (pv 0) pa_nil)))
      (pss_one (ps_ret (pe_callO (ok__law_are_kins T) (hr.mono (by first | decide | omega)) rfl (g__law_are_kins T) pass0 (pa_cons (pe_op (op_binS (op := .Mult) K rfl (sf_Kin T) (m_KinD__mulD_ T) (okr_KinD__mulD_ T) (hr.mono (by first | decide | omega)) passN) (pv 0) (pv 1)) (pa_cons (pv 2) pa_nil))))))))), ?_⟩
    refine go (K := K) (σ' := [some (.ref a), some (.ref b), some (.ref q), none, none, none]) rfl ?_
    obtain ⟨k0, rest, em⟩ := mulK_ne (a := ka) (b := kb)
    have ml := mulK_len va vb
    have fit := mulK_fit va vb
    have zl : 0 < zs.length := by rw [hz.1, em]; simp
    have hz0 := List.getElem?_eq_getElem zl
    generalize zs[0]'zl = z0 at hz0
    have r0 : Row none H z0 k0.1 k0.2.1 k0.2.2 := hz.2 0 z0 k0 hz0 (by rw [em]; rfl)
    have due0 : ∀ {σ : L2.St} {t0 : TE} {H' : Hp}, Lx none H H' → Ev K none t0 σ H' (.ref q) → Ev K none (tOp (rIxL K) t0 (tC (.int 0))) σ H' z0 := fun e h => ev_op h ev_c (rv_ixL (LA.of (e.1 _ _ sx_none hq) sx_none) (at_of (j := 0) rfl hz0))
    refine s_asg (v := .bl (decide (k0.1 > 999) || decide (k0.2.1 > 999))) (ev_orV (ev_op (r0.ev0 (due0 Lx.rfl0 (ev_var rfl))) ev_c rv_I0) fun _ => ev_op (r0.ev1 (due0 Lx.rfl0 (ev_var rfl))) ev_c rv_I0) ?_
    dsimp only [List.set]
    refine s_sq (s_tryB (P := fun v H2 => (∀ k ∈ mulK ka kb, KVk k) ∧ ∃ p ys, v = .ref p ∧ H p = none ∧ H2 p = some (.lst ys) ∧ KinsL K none H2 ys (mulK ka kb)) (PE := fun cls d H2 => ∃ k, mulK ka kb = [k] ∧ ¬ KVk k ∧ BadK K none H k cls d H2) (ev_var rfl) (ev_var rfl) ia ib (fun H1 e1 Q1 E1 kQ kE => ⟨none, _, _, ⟨rfl, a, b, ka, kb, rfl, ia.mono e1, ib.mono e1, va, vb, rfl, rfl⟩, Lx.rfl0, fun v H2 e2 ⟨h1, p, ys, h2, h3, h4⟩ => kQ v H2 e2 ⟨h1, p, ys, h2, e1.fresh h3, h4⟩, fun cls d H2 e2 ⟨kt, h1, h2, h3⟩ => kE cls d H2 e2 ⟨kt, h1, h2, h3.back e1⟩⟩) ?_ ?_)
    · rintro v H1 e1 ⟨all, p, ys, rfl, fp, hp, hk⟩
      dsimp only [List.set]
      have kv0 := all k0 (by rw [em]; simp)
      have g1 := kv0.u1
      have g2 := kv0.d1
      have gf : (decide (k0.1 > 999) || decide (k0.2.1 > 999)) = false := by simp; omega
      rw [gf]
      refine go (K := K) (σ' := [some (.ref a), some (.ref b), some (.ref q), some (.bl false), some (.ref p), none]) rfl ?_
      refine s_if (b := false) (et_is (et_or (et_B (ev_var rfl)) fun _ => et_not (et_B (ev_p0 (v := .bl true) (ea_cons (ev_var rfl) (ea_cons (ev_var rfl) ea_nil)) fun G1 f1 => ⟨rfl, p, q, ys, zs, mulK ka kb, rfl, f1.1 _ _ sx_none hp, (e1.trans f1).1 _ _ sx_none hq, hk.mono f1, hz.mono (e1.trans f1), by omega, rfl⟩))) rfl) (fun z => nomatch z) (fun _ => s_next ?_)
      refine s_app (v := .ref a) hp sx_none (ev_var rfl) (ev_var rfl) (by rw [hk.1, sizeLine_eq]; omega) ?_
      have e2 := e1.put (o := .lst (ys ++ [.ref a])) sx_none (fun u z => nomatch (fp.symm.trans z))
      refine s_retX (P := fun v _ => v = .bl true) (ex_callX (PA := fun vs H3 => Lx none H H3 ∧ ∃ p ys, vs = [.ref p, .ref q] ∧ H3 p = some (.lst ys) ∧ KinsL K none H3 ys (mulK ka kb)) (eax_cons (P := fun v H2 => ∃ p ys, v = .ref p ∧ H2 p = some (.lst ys) ∧ KinsL K none H2 ys (mulK ka kb)) (ex_op (ev_var rfl) (ev_var rfl) (rvx_binS (ia.mono e2) (ib.mono e2) (spx_xN fun H3 e3 => ⟨_, _, ⟨rfl, a, b, ka, kb, rfl, ia.mono (e2.trans e3), ib.mono (e2.trans e3), va, vb, rfl, rfl⟩, fun v H4 e4 ⟨_, p, ys, h2, _, h4, h5⟩ => ⟨p, ys, h2, h4, h5⟩, fun cls d H4 ⟨kt, h1, h2, _⟩ => h2 (all kt (by rw [h1]; simp))⟩))) ?_) ?_) fun w H3 e3 hv => k _ _ (e2.trans e3) hv
      · rintro _ H3 e3 ⟨p', ys', rfl, hp', hk'⟩
        exact (ea_cons (ev_var rfl) ea_nil).toX.imp fun u H4 e4 z => ⟨(e2.trans e3).trans e4, p', ys', by rw [z], e4.1 _ _ sx_none hp', hk'.mono e4⟩
      · rintro vs H3 e3 ⟨e4, p', ys', rfl, hp', hk'⟩
        rw [List.append_nil]
        exact spx_0 fun H4 e5 => ⟨_, ⟨rfl, p', q, ys', zs, mulK ka kb, rfl, e5.1 _ _ sx_none hp', (e4.trans e5).1 _ _ sx_none hq, hk'.mono e5, hz.mono (e4.trans e5), by omega, rfl⟩, fun _ _ _ z => z⟩
    · rintro cls d H2 e2 ⟨kt, ek, nk, ⟨rfl, fd, nd, hd⟩⟩
      refine ⟨exm_BadKin_BadKin T, fun x hx => ?_⟩
      dsimp only [List.set]
      have kk : kt = k0 := by rw [em] at ek; cases ek; rfl
      subst kk
      have f0 := fit kt (by rw [em]; simp)
      have gt : (decide (kt.1 > 999) || decide (kt.2.1 > 999)) = true := by
        by_cases z : kt.1 ≤ 999 ∧ kt.2.1 ≤ 999
        · exact absurd ⟨f0.1, z.1, f0.2.1, z.2, f0.2.2⟩ nk
        · simp; omega
      rw [gt]
      refine s_if (b := false) (et_is (et_or (et_not (et_B (ev_var rfl))) fun _ => et_B (ev_isx (ev_var rfl) ev_c rfl (xc_BadKin T) rfl hd nd (fun u h => h) (kit_BadKin_BadReach T))) rfl) (fun z => nomatch z) (fun _ => s_next ?_)
      refine s_retX (P := fun v _ => v = .bl true) (ex_callX (PA := fun vs H3 => ∃ p q, vs = [.ref p, .ref q] ∧ H3 p = some (.lst [.int kt.1, .int kt.2.1, .str kt.2.2, .str "bad kin"]) ∧ H3 q = some (.lst [.int kt.1, .int kt.2.1, .str kt.2.2, .str "bad kin"])) (eax_cons (ex_lst (vs := [.int kt.1, .int kt.2.1, .str kt.2.2, .str "bad kin"]) (ea_cons (ev_xf (ev_var rfl) rfl rfl hd nd rfl) (ea_cons (ev_xf (ev_var rfl) rfl rfl hd nd rfl) (ea_cons (ev_xf (ev_var rfl) rfl rfl hd nd rfl) (ea_cons (ev_xf (ev_var rfl) rfl rfl hd nd rfl) ea_nil)))) (len_le (by simp))) ?_) ?_) fun v H3 e3 hv => k _ _ (e2.trans e3) hv
      · rintro _ H3 e3 ⟨p, rfl, _, _, hp⟩
        have e23 := e2.trans e3
        have r3 := r0.mono e23
        refine eax_cons (ex_lst (vs := [.int kt.1, .int kt.2.1, .str kt.2.2, .str "bad kin"]) (ea_cons (r3.ev0 (due0 e23 (ev_var rfl))) (ea_cons (r3.ev1 (due0 e23 (ev_var rfl))) (ea_cons (r3.ev2 (due0 e23 (ev_var rfl))) (ea_cons ev_c ea_nil)))) (len_le (by simp))) ?_
        rintro _ H4 e4 ⟨q', rfl, _, _, hq'⟩
        exact ea_nil.toX.imp fun u H5 e5 z => ⟨p, q', by rw [z], (e4.trans e5).1 _ _ sx_none hp, e5.1 _ _ sx_none hq'⟩
      · rintro vs H3 e3 ⟨p, q', rfl, hp, hq'⟩
        have rp : ∀ {p : Addr}, H3 p = some (.lst [.int kt.1, .int kt.2.1, .str kt.2.2, .str "bad kin"]) → Rp none H3 (.ref p) (.list [.int kt.1, .int kt.2.1, .str kt.2.2, .str "bad kin"]) := fun h => .lst h sx_none (by simp) (.cons (.int _) (.cons (.int _) (.cons (.str _) (.cons (.str _) .nil))))
        exact spx_same (n := 5) (rp hp) (rp hq') (by simp [PyData.depth, PyData.depthAll])
/-! _law_great -/
def a_great (K : PySem.W.Frag) : List V → Hp → Dst → (V → Hp → Prop) → Prop := fun vs H S PP => S = none ∧ ∃ (a b : Addr) (ka kb kt : KT), vs = [.ref a, .ref b] ∧ KinA K none H a ka.1 ka.2.1 ka.2.2 ∧ KinA K none H b kb.1 kb.2.1 kb.2.2 ∧ KVk ka ∧ KVk kb ∧ mulK ka kb = [kt] ∧ ¬ KVk kt ∧ PP = fun v _ => v = .bl true
theorem ok__law_great (T : Txt K mg w) : Ok P w K mg base CX0 8 (He.fAd K ("_law_great", none)) ["left", "right"] (sp_x (a_great K)) := by
  refine okD (F__law_great T) sc__law_great (fun _ _ _ _ _ _ us hl => match us, hl with | [_, _], _ => rfl) (fun vs H Q E h => ?_) (fun cdv A outer s H vs Q E hr h => ?_)
  · obtain ⟨S, PP, ⟨rfl, a, b, ka, kb, kt, rfl, _⟩, _⟩ := h; rfl
  · obtain ⟨S, PP, ⟨rfl, a, b, ka, kb, kt, rfl, ia, ib, va, vb, em, nk, rfl⟩, _, k⟩ := h
    refine ⟨_, (pss_cons (L2N.ps_try_as (i := 3) rfl rfl sc__law_great.nd rfl rfl ⟨rfl, by decide, .inl (g_ForkError T)⟩ takesN0 (fun W pn xe tk _ => (pss_one (ps_set (i := 2) sc__law_great.nd rfl (Or.inl rfl) (pe_binS (op := .Mult) K rfl (sf_Kin T) (m_KinD__mulD_ T) (okr_KinD__mulD_ T) (hr.mono (by first | decide | omega)) (passS tk) (pv 0) (pv 1))))) (fun a oe cls d pn hz hf => (pss_one (ps_ret (pe_and (pe_callB (call_isX hz.zc hf) (by rfl) (n_isinstance T) (by decide +kernel) (pa_cons (pv 3) (pa_cons (pe_bltn (v := .ty "ValueError") (by rfl) (n_ValueError T) (by decide +kernel) rfl) pa_nil))) (pe_one (pe_callB (call_isX hz.zc hf) (by rfl) (n_isinstance T) (by decide +kernel) (pa_cons (pv 3) (pa_cons (pe_glob (v := V.ref (He.ga K "BadKin")) rfl (g_BadKin T) rfl) pa_nil)))))))))
      (pss_one (ps_ret (pe_cmpR op_isN (pv 2) pe_non (nomark _))))), ?_⟩
    refine go (K := K) (σ' := [some (.ref a), some (.ref b), none, none]) rfl ?_
    refine s_sq (s_tryB (P := fun v H2 => False) (PE := fun cls d H2 => BadK K none H kt cls d H2) (ev_var rfl) (ev_var rfl) ia ib (fun H1 e1 Q1 E1 kQ kE => ⟨none, _, _, ⟨rfl, a, b, ka, kb, rfl, ia.mono e1, ib.mono e1, va, vb, rfl, rfl⟩, Lx.rfl0, fun v H2 e2 ⟨h1, _⟩ => absurd (h1 kt (by rw [em]; simp)) nk, fun cls d H2 e2 ⟨kt', h1, h2, h3⟩ => kE cls d H2 e2 (by rw [em] at h1; cases h1; exact h3.back e1)⟩) (fun v H2 e2 z => z.elim) ?_)
    rintro cls d H2 e2 ⟨rfl, fd, nd, hd⟩
    refine ⟨exm_BadKin_ForkError T, fun x hx => ?_⟩
    dsimp only [List.set]
    exact s_ret (ev_andV (ev_isx (ev_var rfl) ev_c rfl (xc_BadKin T) rfl hd nd (fun u h => h) (kitV_BadKin T)) fun _ => ev_isx (ev_var rfl) ev_c rfl (xc_BadKin T) rfl hd nd (fun u h => h) (kit_BadKin_BadKin T)) fun H3 e3 => k _ _ (e2.trans e3) rfl
/-! law -/
def sp_law (K : PySem.W.Frag) : Sp := fun vs H Q _ => ∃ (a : Addr) (ns : List Int), vs = [.ref a] ∧ SqL K H a (ns.map V.int) ∧ ns.length ≤ 63 ∧ ∀ H', Q (.bl true) H'
theorem sp_law_of {H : Hp} {a : Addr} {ns : List Int} {E : XK} (hl : ns.length ≤ 63) (hS : SqL K H a (ns.map V.int)) : sp_law K [.ref a] H (fun v _ => v = .bl true) E := ⟨a, ns, rfl, hS, hl, fun _ => rfl⟩
theorem sides_fit {u d : Int} {i : Nat} {x : V} (h : (sidesL u d)[i]? = some x) : ∃ s, x = .str s ∧ fitsB u d s = true := by
  unfold sidesL at h
  unfold fitsB
  split at h
  · rename_i z
    cases i with
    | zero => simp at h; exact ⟨"line", h.symm, by rw [if_pos z]; rfl⟩
    | succ i => simp at h
  · rename_i z
    match i, h with
    | 0, h => simp at h; exact ⟨"elder", h.symm, by rw [if_neg z]; rfl⟩
    | 1, h => simp at h; exact ⟨"younger", h.symm, by rw [if_neg z]; rfl⟩
    | i + 2, h => simp at h
theorem fit_other {u d : Int} {s : Str} (h : fitsB u d s = true) : fitsB d u (otherS s) = true := by
  unfold fitsB at h ⊢
  by_cases z : u = 0 ∨ d = 0
  · rw [if_pos z] at h
    rw [if_pos (by omega)]
    have := of_decide_eq_true h
    subst this
    decide
  · rw [if_neg z] at h
    rw [if_neg (by omega)]
    rw [Bool.or_eq_true] at h
    rcases h with h | h
    · have := of_decide_eq_true h; subst this; decide
    · have := of_decide_eq_true h; subst this; decide
theorem ev_multd (T : Txt K mg w) {σ : L2.St} {H : Hp} {t1 t2 t3 : TE} {ka kb : KT} (va : KVk ka) (vb : KVk kb) (h1 : EvX K none t1 σ H fun v H2 => ∃ a, v = .ref a ∧ KinA K none H2 a ka.1 ka.2.1 ka.2.2) (h2 : ∀ H1, Lx none H H1 → EvX K none t2 σ H1 fun v H2 => ∃ a, v = .ref a ∧ KinA K none H2 a kb.1 kb.2.1 kb.2.2)
    (h3 : ∀ H1, Lx none H H1 → EvX K none t3 σ H1 fun v H2 => ∃ q zs, v = .ref q ∧ H2 q = some (.lst zs) ∧ RowsK none H2 zs (mulK ka kb)) : Ev K none (tCall (sp_x (a_multd K)) [] E0 (tCons t1 (tCons t2 (tCons t3 tNil)))) σ H (.bl true) := by
  refine (ex_callX (P := fun v _ => v = .bl true) (PA := fun vs H2 => ∃ a b q zs, vs = [.ref a, .ref b, .ref q] ∧ KinA K none H2 a ka.1 ka.2.1 ka.2.2 ∧ KinA K none H2 b kb.1 kb.2.1 kb.2.2 ∧ H2 q = some (.lst zs) ∧ RowsK none H2 zs (mulK ka kb)) (eax_cons h1 ?_) ?_).ev fun _ _ _ z => z
  · rintro _ G1 f1 ⟨a, rfl, ia⟩
    refine eax_cons (h2 G1 f1) ?_
    rintro _ G2 f2 ⟨b, rfl, ib⟩
    refine eax_cons (h3 G2 (f1.trans f2)) ?_
    rintro _ G3 f3 ⟨q, zs, rfl, hq, hz⟩
    exact ea_nil.toX.imp fun u G4 f4 z => ⟨a, b, q, zs, by rw [z], ia.mono ((f2.trans f3).trans f4), ib.mono (f3.trans f4), f4.1 _ _ sx_none hq, hz.mono f4⟩
  · rintro vs G1 f1 ⟨a, b, q, zs, rfl, ia, ib, hq, hz⟩
    rw [List.append_nil]
    exact spx_0 fun G2 f2 => ⟨_, ⟨rfl, a, b, q, zs, ka, kb, rfl, ia.mono f2, ib.mono f2, va, vb, f2.1 _ _ sx_none hq, hz.mono f2, rfl⟩, fun _ _ _ z => z⟩
theorem ex_lkin {σ : L2.St} {H : Hp} {t : TE} {k : KT} (kv : KVk k) (h : EvX K none t σ H fun v H2 => Row none H2 v k.1 k.2.1 k.2.2) : EvX K none (tCall (sp_x (a_mkin K)) [] E0 (tCons t tNil)) σ H fun v H2 => ∃ a, v = .ref a ∧ KinA K none H2 a k.1 k.2.1 k.2.2 :=
  ex_p0X (PA := fun vs H2 => ∃ v, vs = [v] ∧ Row none H2 v k.1 k.2.1 k.2.2) (eax_cons h fun v G1 f1 r => ea_nil.toX.imp fun u G2 f2 z => ⟨v, by rw [z], r.mono f2⟩) fun vs G1 f1 ⟨v, hv, r⟩ G2 f2 => ⟨_, ⟨rfl, v, _, _, _, hv, r.mono f2, kv, rfl⟩, fun w G3 f3 ⟨a, hw, _, ia⟩ => ⟨a, hw, ia⟩⟩
theorem ex_lprod {σ : L2.St} {H : Hp} {t1 t2 : TE} {v w : V} {ka kb : KT} (va : KVk ka) (vb : KVk kb) (h1 : Ev K none t1 σ H v) (h2 : Ev K none t2 σ H w) (ra : Row none H v ka.1 ka.2.1 ka.2.2) (rb : Row none H w kb.1 kb.2.1 kb.2.2) : EvX K none (tCall (sp_x a_prod) [] E0 (tCons t1 (tCons t2 tNil))) σ H fun x H2 => ∃ q zs, x = .ref q ∧ H2 q = some (.lst zs) ∧ RowsK none H2 zs (mulK ka kb) :=
  ex_p0 (ea_cons h1 (ea_cons h2 ea_nil)) fun G1 f1 => ⟨_, ⟨rfl, v, w, ka, kb, rfl, ra.mono f1, rb.mono f1, va, vb, rfl⟩, fun x G2 f2 ⟨p, ys, hx, _, hp, hr⟩ => ⟨p, ys, hx, hp, hr⟩⟩
theorem ex_row7 {σ : L2.St} {H : Hp} {t1 t2 t3 : TE} {k : KT} (h1 : Ev K none t1 σ H (.int k.1)) (h2 : Ev K none t2 σ H (.int k.2.1)) (h3 : Ev K none t3 σ H (.str k.2.2)) : EvX K none (tTup (tCons t1 (tCons t2 (tCons t3 tNil)))) σ H fun v H2 => Row none H2 v k.1 k.2.1 k.2.2 :=
  (ex_tup (vs := pv k.1 k.2.1 k.2.2) (ea_cons h1 (ea_cons h2 (ea_cons h3 ea_nil))) (len_le (by simp))).imp fun v G _ ⟨q, hv, _, _, hq⟩ => ⟨q, hv, hq, sx_none⟩
theorem ok_law (T : Txt K mg w) : Ok P w K mg base CX0 10 (He.fAd K ("law", none)) ["script"] (sp_law K) := by
  refine okD (F_law T) sc_law (fun _ _ _ _ _ _ us hl => match us, hl with | [_], _ => rfl) (fun vs H Q E h => ?_) (fun cdv A outer s H vs Q E hr h => ?_)
  · obtain ⟨a, ns, rfl, _⟩ := h; rfl
  · obtain ⟨a, ns, rfl, hS, hl, k⟩ := h
    refine ⟨_, (pss_cons (ps_set (i := 1) sc_law.nd rfl (Or.inl rfl) (pe_callO (ok__law_start T) (hr.mono (by first | decide | omega)) rfl (g__law_start T) pass0 (pa_cons (pv 0) pa_nil)))
      (pss_cons (ps_set (i := 2) sc_law.nd rfl (Or.inl rfl) (pe_callO (ok__law_draw T) (hr.mono (by first | decide | omega)) rfl (g__law_draw T) pass0 (pa_cons (pv 1) (pa_cons pe_int pa_nil))))
      (pss_cons (ps_set (i := 3) sc_law.nd rfl (Or.inl rfl) (pe_ix (ixL K rfl) (pe_lst (pa_cons pe_int (pa_cons pe_int (pa_cons pe_int (pa_cons pe_int pa_nil))))) (pe_callO (ok__law_draw T) (hr.mono (by first | decide | omega)) rfl (g__law_draw T) pass0 (pa_cons (pv 1) (pa_cons pe_int pa_nil))) (fun _ _ => rfl)))
      (pss_cons (ps_set (i := 4) sc_law.nd rfl (Or.inl rfl) (pe_callO (ok__law_draw T) (hr.mono (by first | decide | omega)) rfl (g__law_draw T) pass0 (pa_cons (pv 1) (pa_cons (pe_op op_add (pv 3) pe_int) pa_nil))))
      (pss_cons (ps_set (i := 5) sc_law.nd rfl (Or.inl rfl) (pe_callO (ok__law_draw T) (hr.mono (by first | decide | omega)) rfl (g__law_draw T) pass0 (pa_cons (pv 1) (pa_cons (pe_op op_add (pv 3) pe_int) pa_nil))))
      (pss_cons (ps_set (i := 6) sc_law.nd rfl (Or.inl rfl) (pe_callO (ok__law_draw T) (hr.mono (by first | decide | omega)) rfl (g__law_draw T) pass0 (pa_cons (pv 1) (pa_cons (pe_op op_add (pv 3) pe_int) pa_nil))))
      (pss_cons (ps_set (i := 7) sc_law.nd rfl (Or.inl rfl) (pv 5))
      (Evl.pss_cut (ps_if (pt_cmpR op_eq (pv 2) pe_int (nomark _))
      (pss_one (ps_set (i := 7) sc_law.nd rfl (Or.inl rfl) (pe_callO (ok__law_draw T) (hr.mono (by first | decide | omega)) rfl (g__law_draw T) pass0 (pa_cons (pv 1) (pa_cons (pe_op op_add (pv 3) pe_int) pa_nil)))))
      pss_nil)
      (Evl.pss_cut (ps_if (pt_cmpR op_eq (pv 2) pe_int (nomark _))
      (pss_one (ps_set (i := 7) sc_law.nd rfl (Or.inl rfl) (pe_callB (call_max2 rfl) (by rfl) (n_max T) (by decide +kernel) (pa_cons pe_int (pa_cons (pe_op op_add (pe_op op_sub (pv 5) pe_int) (pe_op op_mul pe_int (pe_callO (ok__law_draw T) (hr.mono (by first | decide | omega)) rfl (g__law_draw T) pass0 (pa_cons (pv 1) (pa_cons pe_int pa_nil))))) pa_nil)))))
      pss_nil)
      (Evl.pss_cut (ps_if (pt_cmpR op_eq (pv 2) pe_int (nomark _))
      (pss_cons (ps_set (i := 5) sc_law.nd rfl (Or.inl rfl) pe_int)
      (pss_one (ps_set (i := 7) sc_law.nd rfl (Or.inl rfl) pe_int)))
      pss_nil)
      (pss_cons (ps_set (i := 7) sc_law.nd rfl (Or.inl rfl) (pe_callB (call_min2 rfl) (by rfl) (n_min T) (by decide +kernel) (pa_cons pe_int (pa_cons (pv 7) pa_nil))))
      (Evl.pss_cut (ps_if (PW.pt (pw_and (pt_cmpR op_eq (pv 7) (pv 5) (nomark _)) (pw_and1 (pt_cmpR op_gt (pv 3) pe_int (nomark _)))))
      (pss_one (ps_set (i := 6) sc_law.nd rfl (Or.inl rfl) (pe_callB (call_min2 rfl) (by rfl) (n_min T) (by decide +kernel) (pa_cons pe_int (pa_cons (pv 6) pa_nil)))))
      pss_nil)
      (pss_cons (ps_for PassesOwn.never rfl (piLK K rfl (pe_callO (ok__law_sides T) (hr.mono (by first | decide | omega)) rfl (g__law_sides T) pass0 (pa_cons (pv 4) (pa_cons (pv 5) pa_nil)))) (pg_name (i := 8) sc_law.nd rfl (Or.inl rfl))
      (pss_one (ps_for PassesOwn.never rfl (piLK K rfl (pe_callO (ok__law_sides T) (hr.mono (by first | decide | omega)) rfl (g__law_sides T) pass0 (pa_cons (pv 7) (pa_cons (pv 6) pa_nil)))) (pg_name (i := 9) sc_law.nd rfl (Or.inl rfl))
      (pss_cons (ps_set (i := 10) sc_law.nd rfl (Or.inl rfl) (pe_tup (pa_cons (pv 4) (pa_cons (pv 5) (pa_cons (pv 8) pa_nil)))))
      (pss_cons (ps_set (i := 11) sc_law.nd rfl (Or.inl rfl) (pe_tup (pa_cons (pv 7) (pa_cons (pv 6) (pa_cons (pv 9) pa_nil)))))
      (pss_cons (ps_set (i := 12) sc_law.nd rfl (Or.inl rfl) (pe_callO (ok__law_kin T) (hr.mono (by first | decide | omega)) rfl (g__law_kin T) pass0 (pa_cons (pv 10) pa_nil)))
      (pss_cons (ps_set (i := 13) sc_law.nd rfl (Or.inl rfl) (pe_callO (ok__law_kin T) (hr.mono (by first | decide | omega)) rfl (g__law_kin T) pass0 (pa_cons (pv 11) pa_nil)))
      (pss_cons (ps_if (pt_not (pt_val (pe_callO (ok__law_multiplied T) (hr.mono (by first | decide | omega)) rfl (g__law_multiplied T) pass0 (pa_cons (pv 12) (pa_cons (pv 13) (pa_cons (pe_callO (ok__law_product T) (hr.mono (by first | decide | omega)) rfl (g__law_product T) pass0 (pa_cons (pv 10) (pa_cons (pv 11) pa_nil))) pa_nil))))))
      (pss_one (ps_ret pe_bl))
      pss_nil)
      (pss_one (ps_if (PW.pt (pw_or (pt_not (pt_val (pe_callO (ok__law_is_kin T) (hr.mono (by first | decide | omega)) rfl (g__law_is_kin T) pass0 (pa_cons (pv 12) (pa_cons (pv 10) pa_nil))))) (pw_or1 (pt_not (pt_val (pe_callO (ok__law_is_kin T) (hr.mono (by first | decide | omega)) rfl (g__law_is_kin T) pass0 (pa_cons (pv 13) (pa_cons (pv 11) pa_nil))))))))
      (pss_one (ps_ret pe_bl))
      pss_nil))))))))))
      (pss_cons (ps_set (i := 14) sc_law.nd rfl (Or.inl rfl) (pe_tup (pa_cons (pe_callB (call_min2 rfl) (by rfl) (n_min T) (by decide +kernel) (pa_cons pe_int (pa_cons (pv 4) pa_nil))) (pa_cons (pv 5) (pa_cons (pe_ix (ixL K rfl) (pe_callO (ok__law_sides T) (hr.mono (by first | decide | omega)) rfl (g__law_sides T) pass0 (pa_cons (pv 4) (pa_cons (pv 5) pa_nil))) pe_int (fun _ _ => rfl)) pa_nil)))))
      (pss_cons (ps_set (i := 15) sc_law.nd rfl (Or.inl rfl) (pe_callO (ok__law_minus T) (hr.mono (by first | decide | omega)) rfl (g__law_minus T) pass0 (pa_cons (pv 14) pa_nil)))
      (pss_cons (ps_if (pt_not (pt_val (pe_callO (ok__law_multiplied T) (hr.mono (by first | decide | omega)) rfl (g__law_multiplied T) pass0 (pa_cons (pe_callO (ok__law_kin T) (hr.mono (by first | decide | omega)) rfl (g__law_kin T) pass0 (pa_cons (pv 14) pa_nil)) (pa_cons (pe_callO (ok__law_kin T) (hr.mono (by first | decide | omega)) rfl (g__law_kin T) pass0 (pa_cons (pv 15) pa_nil)) (pa_cons (pe_callO (ok__law_product T) (hr.mono (by first | decide | omega)) rfl (g__law_product T) pass0 (pa_cons (pv 14) (pa_cons (pv 15) pa_nil))) pa_nil))))))
      (pss_one (ps_ret pe_bl))
      pss_nil)
      (pss_cons (ps_set (i := 16) sc_law.nd rfl (Or.inl rfl) (pe_callB (call_min2 rfl) (by rfl) (n_min T) (by decide +kernel) (pa_cons pe_int (pa_cons (pv 4) pa_nil))))
      (pss_cons (ps_set (i := 12) sc_law.nd rfl (Or.inl rfl) (pe_callO (ok__law_kin T) (hr.mono (by first | decide | omega)) rfl (g__law_kin T) pass0 (pa_cons (pe_tup (pa_cons pe_int (pa_cons (pe_op op_sub pe_int (pv 16)) (pa_cons pe_str pa_nil)))) pa_nil)))
      (pss_cons (ps_set (i := 13) sc_law.nd rfl (Or.inl rfl) (pe_callO (ok__law_kin T) (hr.mono (by first | decide | omega)) rfl (g__law_kin T) pass0 (pa_cons (pe_tup (pa_cons pe_int (pa_cons (pv 16) (pa_cons pe_str pa_nil)))) pa_nil)))
      (pss_cons (ps_if (pt_not (pt_val (pe_callO (ok__law_multiplied T) (hr.mono (by first | decide | omega)) rfl (g__law_multiplied T) pass0 (pa_cons (pv 12) (pa_cons (pv 13) (pa_cons (pe_lst (pa_cons (pe_tup (pa_cons pe_int (pa_cons pe_int (pa_cons pe_str pa_nil)))) pa_nil)) pa_nil))))))
      (pss_one (ps_ret pe_bl))
      pss_nil)
      (pss_one (ps_ret (pe_callO (ok__law_great T) (hr.mono (by first | decide | omega)) rfl (g__law_great T) pass0 (pa_cons (pv 12) (pa_cons (pe_callO (ok__law_kin T) (hr.mono (by first | decide | omega)) rfl (g__law_kin T) pass0 (pa_cons (pe_tup (pa_cons pe_int (pa_cons (pe_op op_add (pv 16) pe_int) (pa_cons pe_str pa_nil)))) pa_nil)) pa_nil))))))))))))))))))))))))), ?_⟩
    refine go (K := K) (σ' := [some (.ref a), none, none, none, none, none, none, none, none, none, none, none, none, none, none, none, none]) rfl ?_
    refine s_asgX (ex_start (ev_var rfl) hS) ?_
    rintro v H1 _ ⟨st, l, rfl, d1⟩
    dsimp only [List.set]
    refine s_S d1 ?_
    refine s_asgX (ex_draw (ev_var rfl) ev_c (by omega) (by omega)) ?_
    rintro _ H2 e2 ⟨kd, rfl, _, _⟩
    dsimp only [List.set]
    refine s_asgX (P := fun v _ => ∃ m : Int, v = .int m ∧ 6 ≤ m ∧ m ≤ 999) (ex_op1 (ex_lst (vs := [.int 6, .int 6, .int 999, .int 6]) (ea_cons ev_c (ea_cons ev_c (ea_cons ev_c (ea_cons ev_c ea_nil)))) (len_le (by simp))) ?_) ?_
    · rintro _ G1 f1 ⟨p, rfl, _, np, hp⟩
      refine ex_op2 ev_c (ex_draw (ev_var rfl) ev_c (by omega) (by omega)) ?_
      rintro _ G2 f2 ⟨j, rfl, j0, j1⟩
      have hp2 := f2.1 _ _ np hp
      rcases (show j = 0 ∨ j = 1 ∨ j = 2 ∨ j = 3 by omega) with rfl | rfl | rfl | rfl
      · exact (ev_op ev_c ev_c (rv_ixL (LA.of hp2 np) (at_of (j := 0) rfl rfl))).toX.imp fun w _ _ z => ⟨6, z, by omega, by omega⟩
      · exact (ev_op ev_c ev_c (rv_ixL (LA.of hp2 np) (at_of (j := 1) rfl rfl))).toX.imp fun w _ _ z => ⟨6, z, by omega, by omega⟩
      · exact (ev_op ev_c ev_c (rv_ixL (LA.of hp2 np) (at_of (j := 2) rfl rfl))).toX.imp fun w _ _ z => ⟨999, z, by omega, by omega⟩
      · exact (ev_op ev_c ev_c (rv_ixL (LA.of hp2 np) (at_of (j := 3) rfl rfl))).toX.imp fun w _ _ z => ⟨6, z, by omega, by omega⟩
    rintro _ H3 e3 ⟨mo, rfl, mo0, mo1⟩
    dsimp only [List.set]
    refine s_asgX (ex_draw (m := mo + 1) (ev_var rfl) (ev_op (ev_var rfl) ev_c rv_I0) (by omega) (by omega)) ?_
    rintro _ H4 e4 ⟨up, rfl, up0, up1⟩
    dsimp only [List.set]
    refine s_asgX (ex_draw (m := mo + 1) (ev_var rfl) (ev_op (ev_var rfl) ev_c rv_I0) (by omega) (by omega)) ?_
    rintro _ H5 e5 ⟨mi, rfl, mi0, mi1⟩
    dsimp only [List.set]
    refine s_asgX (ex_draw (m := mo + 1) (ev_var rfl) (ev_op (ev_var rfl) ev_c rv_I0) (by omega) (by omega)) ?_
    rintro _ H6 e6 ⟨dn, rfl, dn0, dn1⟩
    dsimp only [List.set]
    refine s_asg (ev_var rfl) ?_
    dsimp only [List.set]
    let M : L2.St → Hp → Prop := fun σ' H' => ∃ mi cl : Int, 0 ≤ mi ∧ mi ≤ 999 ∧ 0 ≤ cl ∧ cl ≤ 1000 ∧ σ' = [some (.ref a), some (.ref st), some (.int kd), some (.int mo), some (.int up), some (.int mi), some (.int dn), some (.int cl), none, none, none, none, none, none, none, none, none] ∧ Lx (some (st, l)) H6 H'
    have mw : ∀ σ' H', M σ' H' → Lx (some (st, l)) H' H' := fun _ _ ⟨_, _, _, _, _, _, _, e⟩ => e.refl
    refine s_ifJ M mw (et_test (ev_op (ev_var rfl) ev_c (rv_eq rfl))) (fun _ => ?_) (fun _ => s_nx fun G f => ⟨mi, mi, mi0, by omega, mi0, by omega, rfl, f⟩) ?_
    · refine s_asg1X (ex_draw (m := mo + 1) (ev_var rfl) (ev_op (ev_var rfl) ev_c rv_I0) (by omega) (by omega)) ?_
      rintro _ G f ⟨n, rfl, n0, n1⟩
      exact ⟨mi, n, mi0, by omega, n0, by omega, rfl, f⟩
    rintro σ' H7 ⟨mi, cl, mi0, mi1, cl0, cl1, rfl, e7⟩
    refine s_ifJ M mw (et_test (ev_op (ev_var rfl) ev_c (rv_eq rfl))) (fun _ => ?_) (fun _ => s_nx fun G f => ⟨mi, cl, mi0, mi1, cl0, cl1, rfl, e7.trans f⟩) ?_
    · refine s_asg1X (P := fun v _ => ∃ n : Int, v = .int n ∧ 0 ≤ n ∧ n ≤ 1000) (ex_cbX (PA := fun vs _ => ∃ n : Int, vs = [.int 0, .int n] ∧ n ≤ 1000) (eax_cons ev_c.toX ?_) ?_) ?_
      · rintro _ G1 f1 rfl
        refine eax_cons (P := fun v _ => ∃ n : Int, v = .int n ∧ n ≤ 1000) (ex_op2 (ev_op (ev_var rfl) ev_c rv_I0) (ex_op2 ev_c (ex_draw (ev_var rfl) ev_c (by omega) (by omega)) (P := fun v _ => ∃ n : Int, v = .int n ∧ n ≤ 2) ?_) ?_) ?_
        · rintro _ G2 f2 ⟨n, rfl, n0, n1⟩
          exact (ev_op ev_c ev_c (rv_I (.inl (by decide)))).toX.imp fun w _ _ z => ⟨2 * n, z, by omega⟩
        · rintro _ G2 f2 ⟨n, rfl, n1⟩
          exact (ev_op ev_c ev_c rv_I0).toX.imp fun w _ _ z => ⟨_, z, by omega⟩
        · rintro _ G2 f2 ⟨n, rfl, n1⟩
          exact ea_nil.toX.imp fun w _ _ z => ⟨n, by rw [z], n1⟩
      · rintro vs G1 f1 ⟨n, rfl, n1⟩
        intro G2 f2 Q q2
        exact rc_max2 (K := K) G2 f2 Q fun G3 f3 => q2 _ G3 f3 ⟨max 0 n, rfl, by omega, by omega⟩
      rintro _ G f ⟨n, rfl, n0, n1⟩
      exact ⟨mi, n, mi0, mi1, n0, n1, rfl, e7.trans f⟩
    clear cl0 cl1
    rintro σ' H8 ⟨mi, cl, mi0, mi1, cl0, cl1, rfl, e8⟩
    refine s_ifJ M mw (et_test (ev_op (ev_var rfl) ev_c (rv_eq rfl))) (fun _ => s_asg ev_c (s_asg1 ev_c fun G f => ⟨0, 0, by omega, by omega, by omega, by omega, rfl, e8.trans f⟩)) (fun _ => s_nx fun G f => ⟨mi, cl, mi0, mi1, cl0, cl1, rfl, e8.trans f⟩) ?_
    clear mi0 mi1 cl0 cl1
    rintro σ' H9 ⟨mi, cl, mi0, mi1, cl0, cl1, rfl, e9⟩
    refine s_asg (v := .int (min 999 cl)) (ev_cb (ea_cons ev_c (ea_cons (ev_var rfl) ea_nil)) rc_min2) ?_
    dsimp only [List.set]
    obtain ⟨cl, hcl⟩ : ∃ c, c = min 999 cl := ⟨_, rfl⟩
    rw [← hcl]
    have cl0 : 0 ≤ cl := by omega
    have cl1 : cl ≤ 999 := by omega
    refine s_ifJ (fun σ' H' => ∃ dn : Int, 0 ≤ dn ∧ dn ≤ 999 ∧ σ' = [some (.ref a), some (.ref st), some (.int kd), some (.int mo), some (.int up), some (.int mi), some (.int dn), some (.int cl), none, none, none, none, none, none, none, none, none] ∧ Lx (some (st, l)) H9 H') (fun _ _ ⟨_, _, _, _, e⟩ => e.refl) (et_and (et_test (ev_op (ev_var rfl) (ev_var rfl) (rv_eq rfl))) fun _ => et_test (ev_op (ev_var rfl) ev_c rv_I0)) (fun _ => s_asg1 (ev_cb (ea_cons ev_c (ea_cons (ev_var rfl) ea_nil)) rc_min2) fun G f => ⟨min 30 dn, by omega, by omega, rfl, f⟩) (fun _ => s_nx fun G f => ⟨dn, by omega, by omega, rfl, f⟩) ?_
    clear dn0 dn1
    rintro σ' H10 ⟨dn, dn0, dn1, rfl, e10⟩
    refine s_N fun H11 e11 => ?_
    refine s_forLX (ex_sides (u := up) (d := mi) (ev_var rfl) (ev_var rfl)) ?_
    rintro _ H12 e12 ⟨q1, rfl, _, _, hq1⟩
    refine s_forLn ev_c (LA.of hq1 sx_none) (fun i σ' H' => (∃ v8 v9 v10 v11 v12 v13, σ' = [some (.ref a), some (.ref st), some (.int kd), some (.int mo), some (.int up), some (.int mi), some (.int dn), some (.int cl), v8, v9, v10, v11, v12, v13, none, none, none]) ∧ Lx none H12 H') wf0 (fun G f => ⟨⟨_, _, _, _, _, _, rfl⟩, f⟩) (fun i σ' H' _ z => LA.of (z.2.1 _ _ sx_none hq1) sx_none) ?_ ?_
    · rintro i x σ' H13 hi ⟨⟨v8, v9, v10, v11, v12, v13, rfl⟩, e13⟩
      dsimp only [List.set]
      obtain ⟨s, rfl, fs⟩ := sides_fit hi
      have kva : KVk (up, mi, s) := ⟨up0, by dsimp only; omega, mi0, mi1, fs⟩
      refine s_forLX1 (ex_sides (u := cl) (d := dn) (ev_var rfl) (ev_var rfl)) ?_
      rintro _ H14 e14 ⟨q2, rfl, _, _, hq2⟩
      refine s_forLn1 ev_c (LA.of hq2 sx_none) (fun i σ' H' => (∃ v9 v10 v11 v12 v13, σ' = [some (.ref a), some (.ref st), some (.int kd), some (.int mo), some (.int up), some (.int mi), some (.int dn), some (.int cl), some (.str s), v9, v10, v11, v12, v13, none, none, none]) ∧ Lx none H14 H') wf0 (fun G f => ⟨⟨_, _, _, _, _, rfl⟩, f⟩) (fun i σ' H' _ z => LA.of (z.2.1 _ _ sx_none hq2) sx_none) ?_ ?_
      · rintro j x σ' H15 hj ⟨⟨v9, v10, v11, v12, v13, rfl⟩, e15⟩
        dsimp only [List.set]
        obtain ⟨s', rfl, fs'⟩ := sides_fit hj
        have kvb : KVk (cl, dn, s') := ⟨cl0, cl1, dn0, dn1, fs'⟩
        refine s_asgX (ex_row7 (k := (up, mi, s)) (ev_var rfl) (ev_var rfl) (ev_var rfl)) ?_
        rintro va G1 f1 ra
        dsimp only [List.set]
        refine s_asgX (ex_row7 (k := (cl, dn, s')) (ev_var rfl) (ev_var rfl) (ev_var rfl)) ?_
        rintro vb G2 f2 rb
        dsimp only [List.set]
        refine s_asgX (ex_lkin kva ((ev_var rfl).toX.imp fun v G f z => by rw [z]; exact (ra.mono f2).mono f)) ?_
        rintro _ G3 f3 ⟨la, rfl, ia⟩
        dsimp only [List.set]
        refine s_asgX (ex_lkin kvb ((ev_var rfl).toX.imp fun v G f z => by rw [z]; exact (rb.mono f3).mono f)) ?_
        rintro _ G4 f4 ⟨lb, rfl, ib⟩
        dsimp only [List.set]
        have ra4 := ra.mono ((f2.trans f3).trans f4)
        have rb4 := rb.mono (f3.trans f4)
        have ia4 := ia.mono f4
        refine s_if (b := false) (et_not (b := true) (et_B (ev_multd T kva kvb ((ev_var rfl).toX.imp fun v G f z => ⟨la, z, ia4.mono f⟩) (fun G f => (ev_var rfl).toX.imp fun v G' f' z => ⟨lb, z, ib.mono (f.trans f')⟩) (fun G f => ex_lprod kva kvb (ev_var rfl) (ev_var rfl) (ra4.mono f) (rb4.mono f))))) (fun z => nomatch z) (fun _ => s_next ?_)
        exact s_if1 (b := false) (et_is (et_or (et_not (et_B (ev_p0 (v := .bl true) (ea_cons (ev_var rfl) (ea_cons (ev_var rfl) ea_nil)) fun G f => ⟨rfl, la, va, up, mi, s, rfl, ia4.mono f, ra4.mono f, rfl⟩))) fun _ => et_not (et_B (ev_p0 (v := .bl true) (ea_cons (ev_var rfl) (ea_cons (ev_var rfl) ea_nil)) fun G f => ⟨rfl, lb, vb, cl, dn, s', rfl, ib.mono f, rb4.mono f, rfl⟩))) rfl) (fun z => nomatch z) (fun _ => s_nx fun G f => ⟨⟨_, _, _, _, _, rfl⟩, (((((e15.trans f1).trans f2).trans f3).trans f4).trans f)⟩)
      · rintro σ' H15 ⟨⟨v9, v10, v11, v12, v13, rfl⟩, e15⟩
        exact ⟨⟨_, _, _, _, _, _, rfl⟩, (e13.trans e14).trans e15⟩
    rintro σ' H13 ⟨⟨v8, v9, v10, v11, v12, v13, rfl⟩, e13⟩
    obtain ⟨s, hs, fs⟩ : ∃ s : Str, (sidesL up mi)[0]? = some (.str s) ∧ fitsB up mi s = true := by
      have h0 := List.getElem?_eq_getElem (l := sidesL up mi) (i := 0) (by have := sides_len up mi; omega)
      obtain ⟨s, e, f⟩ := sides_fit h0
      exact ⟨s, by rw [h0, e], f⟩
    obtain ⟨u3, hu3⟩ : ∃ u, u = min 30 up := ⟨_, rfl⟩
    have fs3 : fitsB u3 mi s = true := by
      unfold fitsB at fs ⊢
      by_cases z : up = 0 ∨ mi = 0
      · rw [if_pos z] at fs; rw [if_pos (by omega)]; exact fs
      · rw [if_neg z] at fs; rw [if_neg (by omega)]; exact fs
    have kvc : KVk (u3, mi, s) := ⟨by dsimp only; omega, by dsimp only; omega, mi0, mi1, fs3⟩
    have kvd : KVk (mi, u3, otherS s) := ⟨mi0, mi1, by dsimp only; omega, by dsimp only; omega, fit_other fs3⟩
    refine s_asgX (P := fun v H2 => Row none H2 v u3 mi s) ((ex_tupX (PA := fun vs _ => vs = pv u3 mi s) (eax_cons (ev_cb (ea_cons ev_c (ea_cons (ev_var rfl) ea_nil)) rc_min2).toX ?_) ?_).imp ?_) ?_
    · rintro _ G1 f1 rfl
      refine eax_cons (ev_var rfl).toX ?_
      rintro _ G2 f2 rfl
      refine eax_cons (P := fun v _ => v = .str s) (ex_op1 (ex_sides (u := up) (d := mi) (ev_var rfl) (ev_var rfl)) ?_) ?_
      · rintro _ G3 f3 ⟨q, rfl, _, nq, hq⟩
        exact (ev_op ev_c ev_c (rv_ixL (LA.of hq nq) (at_of (j := 0) rfl hs))).toX
      · rintro _ G3 f3 rfl
        exact ea_nil.toX.imp fun w _ _ z => by rw [z, hu3]
    · rintro vs G1 rfl
      exact len_le (by simp)
    · rintro v G1 f1 ⟨vs, G2, rfl, _, _, p, hv, _, _, hp⟩
      exact ⟨p, hv, hp, sx_none⟩
    rintro vc G1 f1 rc
    dsimp only [List.set]
    refine s_asgX (P := fun v H2 => Row none H2 v mi u3 (otherS s)) (ex_p0 (ea_cons (ev_var rfl) ea_nil) fun G f => ⟨_, ⟨rfl, vc, u3, mi, s, rfl, rc.mono f, rfl⟩, fun _ _ _ z => z⟩) ?_
    rintro vd G2 f2 rd
    dsimp only [List.set]
    have rc2 := rc.mono f2
    refine s_if (b := false) (et_not (b := true) (et_B (ev_multd T kvc kvd (ex_lkin kvc ((ev_var rfl).toX.imp fun v G f z => by rw [z]; exact rc2.mono f)) (fun G f => ex_lkin kvd ((ev_var rfl).toX.imp fun v G' f' z => by rw [z]; exact rd.mono (f.trans f'))) (fun G f => ex_lprod kvc kvd (ev_var rfl) (ev_var rfl) (rc2.mono f) (rd.mono f))))) (fun z => nomatch z) (fun _ => s_next ?_)
    obtain ⟨pt, hpt⟩ : ∃ u, u = min 998 up := ⟨_, rfl⟩
    refine s_asg (v := .int pt) (ev_is (ev_cb (ea_cons ev_c (ea_cons (ev_var rfl) ea_nil)) rc_min2) (congrArg V.int hpt.symm)) ?_
    dsimp only [List.set]
    have kl : KVk (0, 999 - pt, ("line" : Str)) := ⟨by dsimp only; omega, by dsimp only; omega, by dsimp only; omega, by dsimp only; omega, by unfold fitsB; rw [if_pos (.inl rfl)]; rfl⟩
    have kr : KVk (0, pt, ("line" : Str)) := ⟨by dsimp only; omega, by dsimp only; omega, by dsimp only; omega, by dsimp only; omega, by unfold fitsB; rw [if_pos (.inl rfl)]; rfl⟩
    have kg : KVk (0, pt + 1, ("line" : Str)) := ⟨by dsimp only; omega, by dsimp only; omega, by dsimp only; omega, by dsimp only; omega, by unfold fitsB; rw [if_pos (.inl rfl)]; rfl⟩
    have m1 : mulK (0, 999 - pt, ("line" : Str)) (0, pt, ("line" : Str)) = [(0, 999, ("line" : Str))] := by
      unfold mulK
      rw [if_pos (by dsimp only; omega)]
      dsimp only
      rw [show (999 : Int) - pt - 0 + pt = 999 by omega]
    have m2 : mulK (0, 999 - pt, ("line" : Str)) (0, pt + 1, ("line" : Str)) = [(0, 1000, ("line" : Str))] := by
      unfold mulK
      rw [if_pos (by dsimp only; omega)]
      dsimp only
      rw [show (999 : Int) - pt - 0 + (pt + 1) = 1000 by omega]
    refine s_asgX (ex_lkin kl (ex_row7 (k := (0, 999 - pt, ("line" : Str))) ev_c (ev_op ev_c (ev_var rfl) rv_I0) ev_c)) ?_
    rintro _ G3 f3 ⟨la, rfl, ia⟩
    dsimp only [List.set]
    refine s_asgX (ex_lkin kr (ex_row7 (k := (0, pt, ("line" : Str))) ev_c (ev_var rfl) ev_c)) ?_
    rintro _ G4 f4 ⟨lb, rfl, ib⟩
    dsimp only [List.set]
    have ia4 := ia.mono f4
    refine s_if (b := false) (et_not (b := true) (et_B (ev_multd T kl kr ((ev_var rfl).toX.imp fun v G f z => ⟨la, z, ia4.mono f⟩) (fun G f => (ev_var rfl).toX.imp fun v G' f' z => ⟨lb, z, ib.mono (f.trans f')⟩) (fun G f => ?_)))) (fun z => nomatch z) (fun _ => s_next ?_)
    · refine (ex_lstX (PA := fun vs H2 => ∃ y, vs = [y] ∧ Row none H2 y 0 999 "line") (eax_cons (ex_row7 (k := (0, 999, ("line" : Str))) ev_c ev_c ev_c) ?_) ?_).imp ?_
      · rintro y G5 f5 ry
        exact ea_nil.toX.imp fun w G6 f6 z => ⟨y, by rw [z], ry.mono f6⟩
      · rintro vs G5 ⟨y, rfl, _⟩
        exact len_le (by simp)
      · rintro x G5 f5 ⟨vs, G6, ⟨y, rfl, ry⟩, _, e3, p, rfl, _, _, hp⟩
        rw [m1]
        exact ⟨p, _, rfl, hp, RowsK.snoc (k := (0, 999, ("line" : Str))) RowsK.nil (ry.mono e3)⟩
    refine s_retX (P := fun v _ => v = .bl true) (ex_p0X (PA := fun vs H2 => ∃ b, vs = [.ref la, .ref b] ∧ KinA K none H2 la 0 (999 - pt) "line" ∧ KinA K none H2 b 0 (pt + 1) "line") (eax_cons (ev_var rfl).toX ?_) ?_) fun v G5 f5 hv => by rw [hv]; exact k _
    · rintro _ G5 f5 rfl
      refine eax_cons (ex_lkin kg (ex_row7 (k := (0, pt + 1, ("line" : Str))) ev_c (ev_op (ev_var rfl) ev_c rv_I0) ev_c)) ?_
      rintro _ G6 f6 ⟨b, rfl, kb⟩
      exact ea_nil.toX.imp fun w G7 f7 z => ⟨b, by rw [z], ia4.mono ((f5.trans f6).trans f7), kb.mono f7⟩
    · rintro vs G5 f5 ⟨b, rfl, k1, k2⟩ G6 f6
      exact ⟨_, ⟨rfl, la, b, (0, 999 - pt, "line"), (0, pt + 1, "line"), (0, 1000, "line"), rfl, k1.mono f6, k2.mono f6, kl, kg, m2, fun z => by have := z.d1; dsimp only at this; omega, rfl⟩, fun _ _ _ z => z⟩
end
end Fk
set_option maxHeartbeats 0
namespace Fk
open PySem PySem.W PySem.Calls PyProof.Rows
def loose : List PySem.Str := (["_wall", "ForkError", "BadKin", "BadReach", "BadText", "DIGITS", "MOST_DIGITS", "read_number", "SIDES", "OPPOSITE", "capped", "fits_side", "Kin", "line_word", "open_kins", "_law_start", "_law_draw", "_law_is_number", "_law_same", "_law_sides", "_law_other_side", "_law_minus", "_law_kin", "_law_is_kin", "_law_are_kins", "_law_product", "_law_multiplied", "_law_great"] : List PySem.Str)
abbrev R : PySem.W.OpenRow := PySem.W.OpenLaw.row PySem.Challenge.rw_forkwaits_k07_products_of_kins
abbrev asf : Fw.AsF := Fw.asS ((["capped", "fits_side", "open_kins", "_law_start", "_law_draw", "_law_is_number", "_law_same", "_law_sides", "_law_other_side", "_law_minus", "_law_kin", "_law_is_kin", "_law_are_kins", "_law_product", "_law_multiplied", "_law_great", "law", "SIDES", "OPPOSITE"] : List PySem.Str)) ["BadKin", "BadReach", "ForkError", "Kin"] (([("Kin", "__init__"), ("Kin", "__mul__"), ("ForkError", "__init__"), ("BadKin", "__init__"), ("BadReach", "__init__")] : List (PySem.Str × PySem.Str)))
abbrev hk : PySem.W.Hook := Fw.hookE asf fa ts exB fn P.main.file fs
def ob (s : PySem.W.SharedT) : Fw.AlE := Fw.obsE asf fa ts exB fn P.main.file fs (HandSHeadRun.getT s)
theorem ob_eq (s : PySem.W.SharedT) : ob s = hk.obs s.abs := Fw.obsE_eq (HandSHeadRun.getT_eq s)
theorem run0 (w : World) : HandSHeadRun.RunEq R (PySem.W.view R.prog [32]) hk ob 9000 loose (w.withFollow "special-get-raises" false) := by
  refine fun os => ?_
  kernel_rfl
theorem run1 (w : World) : HandSHeadRun.RunEq R (PySem.W.view R.prog [32]) hk ob 9000 loose (w.withFollow "special-get-raises" true) := by
  refine fun os => ?_
  kernel_rfl
theorem run (w : World) : HandSHeadRun.RunEq R (PySem.W.view R.prog [32]) hk ob 9000 loose w :=
  byRow2 "special-get-raises" (P := fun w => HandSHeadRun.RunEq R (PySem.W.view R.prog [32]) hk ob 9000 loose w) run0 run1 w
end Fk
open PySem PySem.W PySem.Calls PyProof.Rows
theorem PySem.Challenge.cw_forkwaits_k07_products_of_kins_holds : PySem.Challenge.rw_forkwaits_k07_products_of_kins.Holds := by
  w_on; o_law
  refine HandSHeadRun.head_any (r := OpenLaw.row PySem.Challenge.rw_forkwaits_k07_products_of_kins) (q := view (OpenLaw.row PySem.Challenge.rw_forkwaits_k07_products_of_kins).prog [32]) (H := Fk.hk) (ob := Fk.ob) (M := 9000) (loose := Fk.loose) (d := HandSHeadRun.topDef (OpenLaw.row PySem.Challenge.rw_forkwaits_k07_products_of_kins).prog 32) (kwd := []) Fk.ob_eq
    (by kernel_rfl) (fun s => by kernel_rfl) Fk.run (by kernel_rfl) (by kernel_rfl) (by kernel_rfl) (by rfl) (by first | assumption | decide +kernel) (by decide +kernel) ⟨rfl, rfl, rfl, rfl, rfl, by decide +kernel⟩ ?hw ?hc
  case hw => w_witness2
  case hc =>
    refine L2.walk_ofE (l := PySem.Challenge.rw_forkwaits_k07_products_of_kins) (n := 63) (k := 10) (x := "script") (CX := L2.CX0) rfl (by decide) (by kernel_rfl) ⟨rfl, by decide, by decide⟩ ?F (fun _ _ _ _ z => z)
    intro w mg fa h Y G hmg0
    obtain ⟨K, KX, c, d⟩ := Y
    have hmg : mg ("law" : PySem.Str) = some (.ref fa) := by
      have e : (HandSHeadRun.topDef (OpenLaw.row PySem.Challenge.rw_forkwaits_k07_products_of_kins).prog 32).name = ("law" : PySem.Str) := by kernel_rfl
      rw [← e]
      exact hmg0
    have T : Fk.Txt K mg w := ⟨h, KX, G, c, d⟩
    have e := hmg.symm.trans (Fk.g_law T)
    cases e
    obtain ⟨fd, F⟩ := Fk.F_law T
    have hb := L2.FunD.bindsA (ps := ["script"]) F fun _ _ _ _ _ _ us hl => match us, hl with | [_], _ => rfl
    refine ⟨K, fd, Fk.sp_law K, KX, fun s v => hb s [v] rfl, fun H a ns hl _ hS => Fk.sp_law_of hl hS, fun base _ _ => ?_⟩
    exact (Fk.ok_law (base := base) T).fn F
