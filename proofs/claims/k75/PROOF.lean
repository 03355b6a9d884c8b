import PyProof.Rows.All
import Wide.All
import OpenK.AllK
import Wide.FinOn
import HandS.ForMost
import HandS.IsInst
import HandS.Evl
import HandS.More
import HandS.Defaults
import HandS.HeadHook4
import KE.KStateDown
import HandS.HeadEnd
import HandS.Head0
import HandS.Head1
import HandS.Head2
import PySem.Challenge.RW_forkwaits_k75_delays_of_tasks
set_option Elab.async false
set_option linter.all false
set_option maxRecDepth 100000
set_option maxHeartbeats 4000000
namespace Fw
open PySem PySem.Spec PyProof.Rows L2

/-! ### the drawing state, the order of heaps -/
/-- a drawing state at st, its numbers at l -/
def Drw (H : Hp) (st l : Addr) : Prop := ∃ (ns : List Int) (p c n b : Int), H st = some (.lst [.ref l, .int p, .int c, .int n, .int b]) ∧ 0 ≤ p ∧ H l = some (.lst (ns.map V.int))
/-- where a drawing state stands, if there is one -/
abbrev Dst := Option (Addr × Addr)
def Sx (S : Dst) (b : Addr) : Prop := ∃ p, S = some p ∧ (b = p.1 ∨ b = p.2)
/-- what may happen: new objects; at the places of S the drawing goes on -/
def Lx (S : Dst) (H H' : Hp) : Prop := (∀ b o, ¬ Sx S b → H b = some o → H' b = some o) ∧ ∀ p, S = some p → Drw H' p.1 p.2
theorem sx_none {b : Addr} : ¬ Sx none b := fun ⟨_, h, _⟩ => nomatch h
section
variable {S : Dst} {H H1 H2 H' : Hp}
theorem Lx.refl (h : Lx S H H1) : Lx S H1 H1 := ⟨fun _ _ _ e => e, h.2⟩
theorem Lx.rfl0 : Lx none H H := ⟨fun _ _ _ e => e, fun _ h => nomatch h⟩
theorem Lx.trans (a : Lx S H H1) (b : Lx S H1 H2) : Lx S H H2 := ⟨fun c o n e => b.1 c o n (a.1 c o n e), b.2⟩
theorem Lx.ns (h : Lx S H H1) {p : Addr} (e : H1 p = none) : ¬ Sx S p := fun ⟨q, hq, hp⟩ => by
  obtain ⟨_, _, _, _, _, h1, _, h2⟩ := h.2 q hq
  rcases hp with rfl | rfl
  · rw [e] at h1; cases h1
  · rw [e] at h2; cases h2
theorem Drw.put {st l p : Addr} {o : HO} (h : Drw H st l) (h1 : st ≠ p) (h2 : l ≠ p) : Drw (upd H p o) st l := by
  obtain ⟨ns, x, c, n, d, q, h0, hl⟩ := h
  exact ⟨ns, x, c, n, d, by rw [upd_ne h1]; exact q, h0, by rw [upd_ne h2]; exact hl⟩
/-- an own object is laid or changed -/
theorem Lx.put (h : Lx S H H1) {p : Addr} (n : ¬ Sx S p) (f : ∀ u, H p = some u → False) {o : HO} : Lx S H (upd H1 p o) := by
  refine ⟨fun b u nb q => ?_, fun q hq => ?_⟩
  · have z : b ≠ p := fun z => by subst z; exact f u q
    rw [upd_ne z]; exact h.1 b u nb q
  · exact (h.2 q hq).put (fun z => n ⟨q, hq, .inl z.symm⟩) (fun z => n ⟨q, hq, .inr z.symm⟩)
theorem Lx.new (h : Lx S H H1) {p : Addr} (e : H1 p = none) {o : HO} : Lx S H1 (upd H1 p o) := h.refl.put (h.ns e) fun u q => by rw [e] at q; cases q
theorem Lx.fresh (h : Lx S H H1) {p : Addr} (e : H1 p = none) : H p = none := by
  cases q : H p with
  | none => rfl
  | some o =>
    have z := h.1 p o (h.ns e) q
    rw [e] at z; cases z
theorem Lx.of0 (w : Lx S H H1) (h : Lx none H1 H2) : Lx S H1 H2 := by
  refine ⟨fun b o _ e => h.1 b o sx_none e, fun q hq => ?_⟩
  obtain ⟨ns, x, c, n, d, q, h0, hl⟩ := w.2 q hq
  exact ⟨ns, x, c, n, d, h.1 _ _ sx_none q, h0, h.1 _ _ sx_none hl⟩
theorem Lx.same (h : Lx none H H1) : Same H H1 := fun b o e => h.1 b o sx_none e
theorem lx_same (h : Same H H1) : Lx none H H1 := ⟨fun b o _ e => h b o e, fun _ z => nomatch z⟩
/-- an own object is changed, the heap goes on -/
theorem Lx.upd (e : Lx S H H1) {l : Addr} {o : HO} (n : ¬ Sx S l) : Lx S (upd H l o) (upd H1 l o) := by
  refine ⟨fun b u nb q => ?_, fun q hq => ?_⟩
  · by_cases hb : b = l
    · subst hb
      rw [upd_same] at q ⊢
      exact q
    · rw [upd_ne hb] at q ⊢
      exact e.1 b u nb q
  · exact (e.2 q hq).put (fun z => n ⟨q, hq, .inl z.symm⟩) (fun z => n ⟨q, hq, .inr z.symm⟩)
end
/-- a list, a tuple to be read at a; it stays -/
structure LA (K : PySem.W.Frag) (S : Dst) (H : Hp) (a : Addr) (xs : List V) : Prop where
  q : SqL K H a xs
  n : ¬ Sx S a
structure UA (K : PySem.W.Frag) (S : Dst) (H : Hp) (a : Addr) (xs : List V) : Prop where
  q : SqT K H a xs
  n : ¬ Sx S a
section
variable {K : PySem.W.Frag} {S : Dst} {H H1 H2 H' : Hp} {a : Addr} {xs : List V}
theorem Rd.mono {u : HO} (e : Lx S H H1) (n : ¬ Sx S a) (h : Rd H a u) : Rd H1 a u := by
  rcases h with h | ⟨o, h⟩
  · exact Or.inl (e.1 a _ n h)
  · exact Or.inr ⟨o, e.1 a _ n h⟩
theorem LA.mono (h : LA K S H a xs) (e : Lx S H H1) : LA K S H1 a xs := ⟨h.q.imp (Rd.mono e h.n) id, h.n⟩
theorem UA.mono (h : UA K S H a xs) (e : Lx S H H1) : UA K S H1 a xs := ⟨h.q.imp (Rd.mono e h.n) id, h.n⟩
theorem LA.of (h : H a = some (.lst xs)) (n : ¬ Sx S a) : LA K S H a xs := ⟨SqL.of h, n⟩
theorem UA.of (h : H a = some (.tup xs)) (n : ¬ Sx S a) : UA K S H a xs := ⟨SqT.of h, n⟩
theorem LA.of0 (h : SqL K H a xs) : LA K none H a xs := ⟨h, sx_none⟩
theorem UA.of0 (h : SqT K H a xs) : UA K none H a xs := ⟨h, sx_none⟩
end

/-! ### what evaluates to what -/
def Ev (K : PySem.W.Frag) (S : Dst) (te : TE) (σ : L2.St) (H : Hp) (v : V) : Prop := ∀ H1, Lx S H H1 → ∀ Q : VK, (∀ H2, Lx S H1 H2 → Q v H2) → te σ H1 Q
def EvX (K : PySem.W.Frag) (S : Dst) (te : TE) (σ : L2.St) (H : Hp) (P : V → Hp → Prop) : Prop := ∀ H1, Lx S H H1 → ∀ Q : VK, (∀ v H2, Lx S H1 H2 → P v H2 → Q v H2) → te σ H1 Q
def EvT (K : PySem.W.Frag) (S : Dst) (tt : TT) (σ : L2.St) (H : Hp) (b : Bool) : Prop := ∀ H1, Lx S H H1 → ∀ Q : Bool → Hp → Prop, (∀ H2, Lx S H1 H2 → Q b H2) → tt σ H1 Q
def EvA (K : PySem.W.Frag) (S : Dst) (ta : TA) (σ : L2.St) (H : Hp) (vs : List V) : Prop := ∀ H1, Lx S H H1 → ∀ Q : List V → Hp → Prop, (∀ H2, Lx S H1 H2 → Q vs H2) → ta σ H1 Q
def EvAX (K : PySem.W.Frag) (S : Dst) (ta : TA) (σ : L2.St) (H : Hp) (P : List V → Hp → Prop) : Prop := ∀ H1, Lx S H H1 → ∀ Q : List V → Hp → Prop, (∀ vs H2, Lx S H1 H2 → P vs H2 → Q vs H2) → ta σ H1 Q
def EvTX (K : PySem.W.Frag) (S : Dst) (tt : TT) (σ : L2.St) (H : Hp) (P : Bool → Hp → Prop) : Prop := ∀ H1, Lx S H H1 → ∀ Q : Bool → Hp → Prop, (∀ b H2, Lx S H1 H2 → P b H2 → Q b H2) → tt σ H1 Q
/-- a new list with items xs; a new tuple -/
abbrev NewL (S : Dst) (H : Hp) (xs : List V) : V → Hp → Prop := fun v H2 => ∃ p, v = .ref p ∧ H p = none ∧ ¬ Sx S p ∧ H2 p = some (.lst xs)
abbrev NewU (S : Dst) (H : Hp) (xs : List V) : V → Hp → Prop := fun v H2 => ∃ p, v = .ref p ∧ H p = none ∧ ¬ Sx S p ∧ H2 p = some (.tup xs)
/-- a two-place operation on values; a one-place one; a call on values -/
def RV (K : PySem.W.Frag) (S : Dst) (r : R2) (x y : V) (H : Hp) (z : V) : Prop := ∀ H1, Lx S H H1 → ∀ Q : VK, (∀ H2, Lx S H1 H2 → Q z H2) → r x y H1 Q
def RVX (K : PySem.W.Frag) (S : Dst) (r : R2) (x y : V) (H : Hp) (P : V → Hp → Prop) : Prop := ∀ H1, Lx S H H1 → ∀ Q : VK, (∀ z H2, Lx S H1 H2 → P z H2 → Q z H2) → r x y H1 Q
def RU (K : PySem.W.Frag) (S : Dst) (r : V → Hp → VK → Prop) (x : V) (H : Hp) (z : V) : Prop := ∀ H1, Lx S H H1 → ∀ Q : VK, (∀ H2, Lx S H1 H2 → Q z H2) → r x H1 Q
def RC (K : PySem.W.Frag) (S : Dst) (r : List V → Hp → VK → Prop) (vs : List V) (H : Hp) (z : V) : Prop := ∀ H1, Lx S H H1 → ∀ Q : VK, (∀ H2, Lx S H1 H2 → Q z H2) → r vs H1 Q
def RCX (K : PySem.W.Frag) (S : Dst) (r : List V → Hp → VK → Prop) (vs : List V) (H : Hp) (P : V → Hp → Prop) : Prop := ∀ H1, Lx S H H1 → ∀ Q : VK, (∀ z H2, Lx S H1 H2 → P z H2 → Q z H2) → r vs H1 Q
def SpX (K : PySem.W.Frag) (S : Dst) (sp : Sp) (vs : List V) (H : Hp) (E : XK) (P : V → Hp → Prop) : Prop := ∀ H1, Lx S H H1 → ∀ Q : VK, (∀ z H2, Lx S H1 H2 → P z H2 → Q z H2) → sp vs H1 Q E
/-- a block from heaps that go on from H -/
def St (K : PySem.W.Frag) (S : Dst) (ts : TS) (D : Ends) (σ : L2.St) (H : Hp) : Prop := ∀ H1, Lx S H H1 → ts D σ H1

section
variable {K : PySem.W.Frag} {S : Dst} {σ : L2.St} {H H' : Hp} {ta tb tc te tx : TE} {tas : TA} {t u : TT} {x y z v : V} {r : R2} {P P' : V → Hp → Prop} {b c : Bool} {vs : List V}
theorem Ev.toX (h : Ev K S te σ H v) : EvX K S te σ H (fun w _ => w = v) := fun H1 e Q q => h H1 e Q fun H2 e2 => q v H2 e2 rfl
theorem EvX.imp (h : EvX K S te σ H P) (i : ∀ w H2, Lx S H H2 → P w H2 → P' w H2) : EvX K S te σ H P' := fun H1 e Q q => h H1 e Q fun w H2 e2 p => q w H2 e2 (i w H2 (e.trans e2) p)
theorem EvX.ev (h : EvX K S te σ H P) (i : ∀ w H2, Lx S H H2 → P w H2 → w = v) : Ev K S te σ H v := fun H1 e Q q => h H1 e Q fun w H2 e2 p => by
  have z := i w H2 (e.trans e2) p
  subst z
  exact q H2 e2
theorem EvA.toX (h : EvA K S tas σ H vs) : EvAX K S tas σ H (fun w _ => w = vs) := fun H1 e Q q => h H1 e Q fun H2 e2 => q vs H2 e2 rfl
theorem EvT.toX (h : EvT K S t σ H b) : EvTX K S t σ H (fun w _ => w = b) := fun H1 e Q q => h H1 e Q fun H2 e2 => q b H2 e2 rfl
theorem Ev.mono (e : Lx S H H') (h : Ev K S te σ H v) : Ev K S te σ H' v := fun H1 a Q q => h H1 (e.trans a) Q q
theorem St.mono {ts : TS} {D : Ends} (e : Lx S H H') (h : St K S ts D σ H) : St K S ts D σ H' := fun H1 a => h H1 (e.trans a)

theorem ev_var {i : Nat} (h : σ[i]? = some (some v)) : Ev K S (tVar i) σ H v := fun H1 e _ q => ⟨v, h, q H1 e.refl⟩
theorem ev_c : Ev K S (tC v) σ H v := fun H1 e _ q => q H1 e.refl
theorem ev_op (ha : Ev K S ta σ H x) (hb : Ev K S tb σ H y) (hr : RV K S r x y H z) : Ev K S (tOp r ta tb) σ H z := fun H1 e Q q =>
  ha H1 e _ fun H2 e2 => hb H2 (e.trans e2) _ fun H3 e3 => hr H3 ((e.trans e2).trans e3) Q fun H4 e4 => q H4 ((e2.trans e3).trans e4)
theorem ex_op (ha : Ev K S ta σ H x) (hb : Ev K S tb σ H y) (hr : RVX K S r x y H P) : EvX K S (tOp r ta tb) σ H P := fun H1 e Q q =>
  ha H1 e _ fun H2 e2 => hb H2 (e.trans e2) _ fun H3 e3 => hr H3 ((e.trans e2).trans e3) Q fun z H4 e4 p => q z H4 ((e2.trans e3).trans e4) p
theorem ex_op1 (ha : EvX K S ta σ H P') (k : ∀ x H1, Lx S H H1 → P' x H1 → EvX K S (tOp r (tC x) tb) σ H1 P) : EvX K S (tOp r ta tb) σ H P := fun H1 e Q q =>
  ha H1 e _ fun x H2 e2 p => k x H2 (e.trans e2) p H2 (e.trans e2).refl Q fun z H3 e3 p => q z H3 (e2.trans e3) p
theorem ex_op2 (ha : Ev K S ta σ H x) (hb : EvX K S tb σ H P') (k : ∀ y H1, Lx S H H1 → P' y H1 → EvX K S (tOp r (tC x) (tC y)) σ H1 P) : EvX K S (tOp r ta tb) σ H P := fun H1 e Q q =>
  ha H1 e _ fun H2 e2 => hb H2 (e.trans e2) _ fun y H3 e3 p => k y H3 ((e.trans e2).trans e3) p H3 ((e.trans e2).trans e3).refl Q fun z H4 e4 p => q z H4 ((e2.trans e3).trans e4) p
theorem ev_un {r : V → Hp → VK → Prop} (ha : Ev K S ta σ H x) (hr : RU K S r x H z) : Ev K S (tUn r ta) σ H z := fun H1 e Q q =>
  ha H1 e _ fun H2 e2 => hr H2 (e.trans e2) Q fun H3 e3 => q H3 (e2.trans e3)

/-! operations by values -/
theorem rv_I0 {g : Int → Int → V} {i j : Int} : RV K S (rI0 g) (.int i) (.int j) H (g i j) := fun H1 e _ q => ⟨i, j, rfl, rfl, q H1 e.refl⟩
theorem rv_I {C : Int → Int → Prop} {g : Int → Int → V} {i j : Int} (hc : C i j) : RV K S (rI C g) (.int i) (.int j) H (g i j) := fun H1 e _ q => ⟨i, j, rfl, rfl, hc, q H1 e.refl⟩
theorem ru_U {g : Int → V} {i : Int} : RU K S (rU g) (.int i) H (g i) := fun H1 e _ q => ⟨i, rfl, q H1 e.refl⟩
theorem rv_eq (h : scal x y = true) : RV K S rEq x y H (.bl (decide (x = y))) := fun H1 e _ q => ⟨h, q H1 e.refl⟩
theorem rv_ne (h : scal x y = true) : RV K S rNe x y H (.bl (!decide (x = y))) := fun H1 e _ q => ⟨h, q H1 e.refl⟩
theorem rv_isN : RV K S (fun x y H Q => y = .non ∧ Q (.bl (decide (x = .non))) H) x .non H (.bl (decide (x = .non))) := fun H1 e _ q => ⟨rfl, q H1 e.refl⟩
theorem rv_notN : RV K S (fun x y H Q => y = .non ∧ Q (.bl (!decide (x = .non))) H) x .non H (.bl (!decide (x = .non))) := fun H1 e _ q => ⟨rfl, q H1 e.refl⟩
theorem rv_ixL {p : Addr} {xs : List V} {i : Int} (h : LA K S H p xs) (ha : atI xs i = some v) : RV K S (rIxL K) (.ref p) (.int i) H v := fun H1 e _ q => ⟨p, xs, i, v, rfl, rfl, (h.mono e).q, ha, q H1 e.refl⟩
theorem rv_ixT {p : Addr} {xs : List V} {i : Int} (h : UA K S H p xs) (ha : atI xs i = some v) : RV K S (rIxT K) (.ref p) (.int i) H v := fun H1 e _ q => ⟨p, xs, i, v, rfl, rfl, (h.mono e).q, ha, q H1 e.refl⟩
theorem rv_inL {neg : Bool} {p : Addr} {xs : List V} (h : LA K S H p xs) (hx : flatV x = true) (ha : xs.all flatV = true) : RV K S (rIn K neg) x (.ref p) H (.bl (if neg then !inV x xs else inV x xs)) :=
  fun H1 e _ q => ⟨p, xs, rfl, Or.inl (h.mono e).q, hx, ha, q H1 e.refl⟩
theorem rv_inT {neg : Bool} {p : Addr} {xs : List V} (h : UA K S H p xs) (hx : flatV x = true) (ha : xs.all flatV = true) : RV K S (rIn K neg) x (.ref p) H (.bl (if neg then !inV x xs else inV x xs)) :=
  fun H1 e _ q => ⟨p, xs, rfl, Or.inr (h.mono e).q, hx, ha, q H1 e.refl⟩

/-! tests -/
theorem et_test (h : Ev K S te σ H (.bl b)) : EvT K S (tTest te) σ H b := fun H1 e _ q => h H1 e _ fun H2 e2 => ⟨b, rfl, q H2 e2⟩
theorem et_B (h : Ev K S te σ H (.bl b)) : EvT K S (tB te) σ H b := fun H1 e _ q => h H1 e _ fun H2 e2 => ⟨b, rfl, q H2 e2⟩
theorem et_and (h1 : EvT K S t σ H b) (h2 : b = true → EvT K S u σ H c) : EvT K S (tAnd t u) σ H (b && c) := fun H1 e Q q => h1 H1 e _ fun H2 e2 => by
  cases b with
  | true =>
    show u σ H2 Q
    exact h2 rfl H2 (e.trans e2) Q fun H3 e3 => q H3 (e2.trans e3)
  | false =>
    show Q false H2
    exact q H2 e2
theorem et_or (h1 : EvT K S t σ H b) (h2 : b = false → EvT K S u σ H c) : EvT K S (tOr t u) σ H (b || c) := fun H1 e Q q => h1 H1 e _ fun H2 e2 => by
  cases b with
  | true =>
    show Q true H2
    exact q H2 e2
  | false =>
    show u σ H2 Q
    exact h2 rfl H2 (e.trans e2) Q fun H3 e3 => q H3 (e2.trans e3)
theorem et_not (h1 : EvT K S t σ H b) : EvT K S (tNot t) σ H (!b) := fun H1 e _ q => h1 H1 e _ fun H2 e2 => q H2 e2
theorem etx_test {PB : Bool → Hp → Prop} (h : EvX K S te σ H fun v H2 => ∃ b, v = .bl b ∧ PB b H2) : EvTX K S (tTest te) σ H PB := fun H1 e Q q => h H1 e _ fun v H2 e2 ⟨b, hv, p⟩ => ⟨b, hv, q b H2 e2 p⟩
theorem etx_B {PB : Bool → Hp → Prop} (h : EvX K S te σ H fun v H2 => ∃ b, v = .bl b ∧ PB b H2) : EvTX K S (tB te) σ H PB := fun H1 e Q q => h H1 e _ fun v H2 e2 ⟨b, hv, p⟩ => ⟨b, hv, q b H2 e2 p⟩
theorem etx_and {PB : Bool → Hp → Prop} (h1 : EvT K S t σ H b) (h2 : b = true → EvTX K S u σ H PB) (h3 : b = false → ∀ H2, Lx S H H2 → PB false H2) : EvTX K S (tAnd t u) σ H PB := fun H1 e Q q => h1 H1 e _ fun H2 e2 => by
  cases b with
  | true =>
    show u σ H2 Q
    exact h2 rfl H2 (e.trans e2) Q fun b H3 e3 p => q b H3 (e2.trans e3) p
  | false =>
    show Q false H2
    exact q false H2 e2 (h3 rfl H2 (e.trans e2))
theorem etx_or {PB : Bool → Hp → Prop} (h1 : EvT K S t σ H b) (h2 : b = false → EvTX K S u σ H PB) (h3 : b = true → ∀ H2, Lx S H H2 → PB true H2) : EvTX K S (tOr t u) σ H PB := fun H1 e Q q => h1 H1 e _ fun H2 e2 => by
  cases b with
  | false =>
    show u σ H2 Q
    exact h2 rfl H2 (e.trans e2) Q fun b H3 e3 p => q b H3 (e2.trans e3) p
  | true =>
    show Q true H2
    exact q true H2 e2 (h3 rfl H2 (e.trans e2))
theorem etx_not {PB : Bool → Hp → Prop} (h : EvTX K S t σ H fun b H2 => PB (!b) H2) : EvTX K S (tNot t) σ H PB := fun H1 e Q q => h H1 e _ fun b H2 e2 p => q (!b) H2 e2 p
theorem EvTX.imp {PB PB' : Bool → Hp → Prop} (h : EvTX K S t σ H PB) (i : ∀ b H2, Lx S H H2 → PB b H2 → PB' b H2) : EvTX K S t σ H PB' := fun H1 e Q q => h H1 e Q fun b H2 e2 p => q b H2 e2 (i b H2 (e.trans e2) p)
/-- one after the other, what is known so far carried on -/
theorem etx_and2 {PA PB : Bool → Hp → Prop} (h1 : EvTX K S t σ H PA) (h2 : ∀ H1, Lx S H H1 → PA true H1 → EvTX K S u σ H1 PB) (h3 : ∀ H2, Lx S H H2 → PA false H2 → PB false H2) : EvTX K S (tAnd t u) σ H PB := fun H1 e Q q => h1 H1 e _ fun b H2 e2 p => by
  cases b with
  | true =>
    show u σ H2 Q
    exact h2 H2 (e.trans e2) p H2 (e.trans e2).refl Q fun b H3 e3 p => q b H3 (e2.trans e3) p
  | false =>
    show Q false H2
    exact q false H2 e2 (h3 H2 (e.trans e2) p)
theorem etx_or2 {PA PB : Bool → Hp → Prop} (h1 : EvTX K S t σ H PA) (h2 : ∀ H1, Lx S H H1 → PA false H1 → EvTX K S u σ H1 PB) (h3 : ∀ H2, Lx S H H2 → PA true H2 → PB true H2) : EvTX K S (tOr t u) σ H PB := fun H1 e Q q => h1 H1 e _ fun b H2 e2 p => by
  cases b with
  | false =>
    show u σ H2 Q
    exact h2 H2 (e.trans e2) p H2 (e.trans e2).refl Q fun b H3 e3 p => q b H3 (e2.trans e3) p
  | true =>
    show Q true H2
    exact q true H2 e2 (h3 H2 (e.trans e2) p)
theorem et_is (h : EvT K S t σ H b) (e : b = c) : EvT K S t σ H c := e ▸ h
theorem ev_is {w : V} (h : Ev K S te σ H v) (e : v = w) : Ev K S te σ H w := e ▸ h
theorem ev_andV (h1 : Ev K S ta σ H (.bl b)) (h2 : b = true → Ev K S tb σ H (.bl c)) : Ev K S (tAndV ta tb) σ H (.bl (b && c)) := fun H1 e Q q => h1 H1 e _ fun H2 e2 => ⟨b, rfl, by
  cases b with
  | true =>
    show tb σ H2 Q
    exact h2 rfl H2 (e.trans e2) Q fun H3 e3 => q H3 (e2.trans e3)
  | false =>
    show Q (.bl false) H2
    exact q H2 e2⟩
theorem ev_orV (h1 : Ev K S ta σ H (.bl b)) (h2 : b = false → Ev K S tb σ H (.bl c)) : Ev K S (tOrV ta tb) σ H (.bl (b || c)) := fun H1 e Q q => h1 H1 e _ fun H2 e2 => ⟨b, rfl, by
  cases b with
  | true =>
    show Q (.bl true) H2
    exact q H2 e2
  | false =>
    show tb σ H2 Q
    exact h2 rfl H2 (e.trans e2) Q fun H3 e3 => q H3 (e2.trans e3)⟩
theorem ev_notV (h1 : Ev K S ta σ H (.bl b)) : Ev K S (tNotV ta) σ H (.bl (!b)) := fun H1 e _ q => h1 H1 e _ fun H2 e2 => ⟨b, rfl, q H2 e2⟩
theorem ex_if (h : EvT K S t σ H b) (h1 : b = true → EvX K S ta σ H P) (h2 : b = false → EvX K S tb σ H P) : EvX K S (tIf t ta tb) σ H P := fun H1 e Q q => h H1 e _ fun H2 e2 => by
  cases b with
  | true =>
    show ta σ H2 Q
    exact h1 rfl H2 (e.trans e2) Q fun z H3 e3 p => q z H3 (e2.trans e3) p
  | false =>
    show tb σ H2 Q
    exact h2 rfl H2 (e.trans e2) Q fun z H3 e3 p => q z H3 (e2.trans e3) p
theorem ev_if {w : V} (h : EvT K S t σ H b) (h1 : b = true → Ev K S ta σ H v) (h2 : b = false → Ev K S tb σ H w) : Ev K S (tIf t ta tb) σ H (if b = true then v else w) :=
  (ex_if (P := fun z _ => z = if b = true then v else w) h (fun e => (h1 e).toX.imp fun z _ _ q => by rw [q, if_pos e]) fun e => (h2 e).toX.imp fun z _ _ q => by rw [q, if_neg (by rw [e]; decide)]).ev fun _ _ _ q => q

/-! arguments, displays -/
theorem ea_nil : EvA K S tNil σ H [] := fun H1 e _ q => q H1 e.refl
theorem ea_cons (h : Ev K S ta σ H x) (hr : EvA K S tas σ H vs) : EvA K S (tCons ta tas) σ H (x :: vs) := fun H1 e _ q =>
  h H1 e _ fun H2 e2 => hr H2 (e.trans e2) _ fun H3 e3 => q H3 (e2.trans e3)
theorem eax_cons {PA : List V → Hp → Prop} (h : EvX K S ta σ H P) (k : ∀ v H1, Lx S H H1 → P v H1 → EvAX K S tas σ H1 fun vs H2 => PA (v :: vs) H2) : EvAX K S (tCons ta tas) σ H PA := fun H1 e Q q =>
  h H1 e _ fun v H2 e2 p => k v H2 (e.trans e2) p H2 (e.trans e2).refl _ fun vs H3 e3 p3 => q (v :: vs) H3 (e2.trans e3) p3
theorem EvAX.imp {PA PA' : List V → Hp → Prop} (h : EvAX K S tas σ H PA) (i : ∀ w H2, Lx S H H2 → PA w H2 → PA' w H2) : EvAX K S tas σ H PA' := fun H1 e Q q => h H1 e Q fun w H2 e2 p => q w H2 e2 (i w H2 (e.trans e2) p)
theorem ex_lst (h : EvA K S tas σ H vs) (hl : vs.length ≤ sizeLine) : EvX K S (tLst tas) σ H (NewL S H vs) := fun H1 e _ q =>
  h H1 e _ fun H2 e2 => ⟨hl, fun p hp => q _ _ (e2.trans ((e.trans e2).new hp)) ⟨p, rfl, (e.trans e2).fresh hp, (e.trans e2).ns hp, upd_same⟩⟩
theorem ex_tup (h : EvA K S tas σ H vs) (hl : vs.length ≤ sizeLine) : EvX K S (tTup tas) σ H (NewU S H vs) := fun H1 e _ q =>
  h H1 e _ fun H2 e2 => ⟨hl, fun p hp => q _ _ (e2.trans ((e.trans e2).new hp)) ⟨p, rfl, (e.trans e2).fresh hp, (e.trans e2).ns hp, upd_same⟩⟩
theorem ex_lstX {PA : List V → Hp → Prop} (h : EvAX K S tas σ H PA) (hl : ∀ vs H2, PA vs H2 → vs.length ≤ sizeLine) : EvX K S (tLst tas) σ H (fun v H2 => ∃ vs H3, PA vs H3 ∧ Lx S H H3 ∧ Lx S H3 H2 ∧ NewL S H vs v H2) := fun H1 e _ q =>
  h H1 e _ fun vs H2 e2 p2 => ⟨hl vs H2 p2, fun p hp => q _ _ (e2.trans ((e.trans e2).new hp)) ⟨vs, H2, p2, e.trans e2, (e.trans e2).new hp, p, rfl, (e.trans e2).fresh hp, (e.trans e2).ns hp, upd_same⟩⟩
theorem ex_tupX {PA : List V → Hp → Prop} (h : EvAX K S tas σ H PA) (hl : ∀ vs H2, PA vs H2 → vs.length ≤ sizeLine) : EvX K S (tTup tas) σ H (fun v H2 => ∃ vs H3, PA vs H3 ∧ Lx S H H3 ∧ Lx S H3 H2 ∧ NewU S H vs v H2) := fun H1 e _ q =>
  h H1 e _ fun vs H2 e2 p2 => ⟨hl vs H2 p2, fun p hp => q _ _ (e2.trans ((e.trans e2).new hp)) ⟨vs, H2, p2, e.trans e2, (e.trans e2).new hp, p, rfl, (e.trans e2).fresh hp, (e.trans e2).ns hp, upd_same⟩⟩

/-! calls -/
theorem ex_call {sp : Sp} {dvs : List V} {E : XK} (h : EvA K S tas σ H vs) (k : SpX K S sp (vs ++ dvs) H E P) : EvX K S (tCall sp dvs E tas) σ H P := fun H1 e Q q =>
  h H1 e _ fun H2 e2 => k H2 (e.trans e2) Q fun z H3 e3 p => q z H3 (e2.trans e3) p
theorem ex_callX {sp : Sp} {dvs : List V} {E : XK} {PA : List V → Hp → Prop} (h : EvAX K S tas σ H PA) (k : ∀ vs H1, Lx S H H1 → PA vs H1 → SpX K S sp (vs ++ dvs) H1 E P) : EvX K S (tCall sp dvs E tas) σ H P := fun H1 e Q q =>
  h H1 e _ fun vs H2 e2 p2 => k vs H2 (e.trans e2) p2 H2 (e.trans e2).refl Q fun z H3 e3 p => q z H3 (e2.trans e3) p
theorem ev_cb {r : List V → Hp → VK → Prop} (h : EvA K S tas σ H vs) (k : RC K S r vs H z) : Ev K S (tCB r tas) σ H z := fun H1 e Q q =>
  h H1 e _ fun H2 e2 => k H2 (e.trans e2) Q fun H3 e3 => q H3 (e2.trans e3)
theorem ex_cb {r : List V → Hp → VK → Prop} (h : EvA K S tas σ H vs) (k : RCX K S r vs H P) : EvX K S (tCB r tas) σ H P := fun H1 e Q q =>
  h H1 e _ fun H2 e2 => k H2 (e.trans e2) Q fun z H3 e3 p => q z H3 (e2.trans e3) p
theorem ex_cbX {r : List V → Hp → VK → Prop} {PA : List V → Hp → Prop} (h : EvAX K S tas σ H PA) (k : ∀ vs H1, Lx S H H1 → PA vs H1 → RCX K S r vs H1 P) : EvX K S (tCB r tas) σ H P := fun H1 e Q q =>
  h H1 e _ fun vs H2 e2 p2 => k vs H2 (e.trans e2) p2 H2 (e.trans e2).refl Q fun z H3 e3 p => q z H3 (e2.trans e3) p
def rLn (K : PySem.W.Frag) : List V → Hp → VK → Prop := fun xs H Q => ∃ p ys, xs = [.ref p] ∧ (SqL K H p ys ∨ SqT K H p ys) ∧ Q (.int ys.length) H
def rLst (K : PySem.W.Frag) : List V → Hp → VK → Prop := fun xs H Q => ∃ p ys, xs = [.ref p] ∧ (SqL K H p ys ∨ SqT K H p ys) ∧ ∀ l, H l = none → Q (.ref l) (upd H l (.lst ys))
theorem rc_len {p : Addr} {ys : List V} (h : LA K S H p ys) : RC K S (rLn K) [.ref p] H (.int (ys.length : Int)) := fun H1 e _ q => ⟨p, ys, rfl, .inl (h.mono e).q, q H1 e.refl⟩
theorem rc_lenT {p : Addr} {ys : List V} (h : UA K S H p ys) : RC K S (rLn K) [.ref p] H (.int (ys.length : Int)) := fun H1 e _ q => ⟨p, ys, rfl, .inr (h.mono e).q, q H1 e.refl⟩
theorem rc_list {p : Addr} {ys : List V} (h : LA K S H p ys) : RCX K S (rLst K) [.ref p] H (NewL S H ys) := fun H1 e _ q => ⟨p, ys, rfl, .inl (h.mono e).q, fun l hl => q _ _ (e.new hl) ⟨l, rfl, e.fresh hl, e.ns hl, upd_same⟩⟩
theorem rc_listT {p : Addr} {ys : List V} (h : UA K S H p ys) : RCX K S (rLst K) [.ref p] H (NewL S H ys) := fun H1 e _ q => ⟨p, ys, rfl, .inr (h.mono e).q, fun l hl => q _ _ (e.new hl) ⟨l, rfl, e.fresh hl, e.ns hl, upd_same⟩⟩
def rInt1 : List V → Hp → VK → Prop := fun xs H Q => (∃ i, xs = [.int i] ∧ Q (.int i) H) ∨ ∃ k, xs = [.bl k] ∧ Q (.int (if k then 1 else 0)) H
theorem rc_int {i : Int} : RC K S rInt1 [.int i] H (.int i) := fun H1 e _ q => .inl ⟨i, rfl, q H1 e.refl⟩
end
/-! the rules over a written part told by name (a comprehension's block has the def's) -/
def rTup1 (K : PySem.W.Frag) : List V → Hp → VK → Prop := fun xs H Q => ∃ p ys, xs = [.ref p] ∧ ((SqL K H p ys ∧ ∀ l, H l = none → Q (.ref l) (upd H l (.tup ys))) ∨ (SqT K H p ys ∧ Q (.ref p) H))
section
variable {X : Cx} (K : PySem.W.Frag) (h : X.K = K)
include h
theorem lenK : CallR X (.builtin "len") (rLn K) := by subst h; exact call_len_seq
theorem listK : CallR X (.type "list") (rLst K) := by subst h; exact call_list_of
theorem tupleK : CallR X (.type "tuple") (rTup1 K) := by subst h; exact call_tuple_of
theorem isiK : CallR X (.builtin "isinstance") (rIsi K) := by subst h; exact call_isi
theorem isiTK : CallR X (.builtin "isinstance") (rIsiT K) := by subst h; exact call_isiT
theorem minK (c : X.calm = true) : CallR X (.builtin "min") (rMin K) := by subst h; exact cr_min c
theorem maxK (c : X.calm = true) : CallR X (.builtin "max") (rMax K) := by subst h; exact cr_max c
theorem allK (c : X.calm = true) : CallR X (.builtin "all") (rAll K) := by subst h; exact cr_all c
theorem anyK (c : X.calm = true) : CallR X (.builtin "any") (rAny K) := by subst h; exact cr_any c
theorem sumK (c : X.calm = true) : CallR X (.builtin "sum") (rSum K) := by subst h; exact cr_sum c
theorem ixL : IxR X (rIxL K) := by subst h; exact ix_list
theorem ixU : IxR X (rIxT K) := by subst h; exact ix_tup
theorem ixQ : IxR X (rIx K) := by subst h; exact ix_seq
theorem inK : OpR X (compareOp .In) (rIn K false) := by subst h; exact op_in_seq
theorem notInK : OpR X (compareOp .NotIn) (rIn K true) := by subst h; exact op_notIn_seq
theorem eqDK (hu : X.A.units + 64 < cLine) : OpR X (compareOp .Eq) (rEqD K) := by subst h; exact op_eqD hu
theorem neDK (hu : X.A.units + 64 < cLine) : OpR X (compareOp .NotEq) (rNeD K) := by subst h; exact op_neD hu
theorem slLK : SlR X (rSlL K) := by subst h; exact sl_list
theorem slUK : SlR X (rSlT K) := by subst h; exact sl_tup
theorem kdK {w : World} (h2 : X.w = w) : IxR X (rIxD K w) := by subst h; subst h2; exact ix_kdict
variable {tg o l e : Expr} {tl ta te : TE} {f : Str} {pos : Pos}
theorem piLK (hl : PE X l tl) : PI X tg l (iList K tl) := by subst h; exact pi_list hl
theorem piUK (hl : PE X l tl) : PI X tg l (iTup K tl) := by subst h; exact pi_tup hl
theorem fldK (he : PE X e ta) (hb : attributeBase e f X.env (eval e X.env) = eval e X.env := by rfl) : PE X (.Attribute e f pos) (tFld K ta f) := by subst h; exact pe_fld he hb
theorem conK (he : PE X e ta) (hb : attributeBase e f X.env (eval e X.env) = eval e X.env := by rfl) : PE X (.Attribute e f pos) (tCon K ta f) := by subst h; exact pe_con he hb
theorem bmK {es : List Expr} {to : TE} {t : TA} {name : Str} {apos cpos : Pos} {T id : String} {r : V → List V → Hp → VK → Prop} (pa : PlainAttrs T) (slot : Slot T name id) (hty : typeOf (.builtin id) = pure (.type "method_descriptor")) (hm : MtR X id r) (ho : PE X o to) (ha : PA X (e :: es) t)
    (hbase : attributeBase o name X.env (eval o X.env) = eval o X.env := by rfl)
    (hfew : ((backTo cpos (starEach (e :: es) X.env)).all (fun x => !x.1) && (backToKw cpos (keywordEach [] X.env)).all (fun x => x.1.isSome)
      && decide ((e :: es).length + ([] : List Keyword).length + (if ([] : List Keyword).isEmpty then 0 else 1) < 30)) = true := by rfl)
    (hline : (apos.endLine == cpos.line) = true := by rfl) (he : starEach (e :: es) X.env = (false, eval e X.env) :: starEach es X.env := by rfl) (hpl : (backTo cpos (starEach es X.env)).any (·.1) = false := by rfl) :
    PE X (.Call (.Attribute o name apos) (e :: es) [] cpos) (tBM K T r to t) := by subst h; exact pe_bm pa slot hty hm ho ha hbase hfew hline he hpl
theorem bm0K {to : TE} {name : Str} {apos cpos : Pos} {T id : String} {r : V → List V → Hp → VK → Prop} (pa : PlainAttrs T) (slot : Slot T name id) (hty : typeOf (.builtin id) = pure (.type "method_descriptor")) (hm : MtR X id r) (ho : PE X o to)
    (hbase : attributeBase o name X.env (eval o X.env) = eval o X.env := by rfl) (hline : (apos.endLine == cpos.line) = true := by rfl) : PE X (.Call (.Attribute o name apos) [] [] cpos) (tBM0 K T r to) := by subst h; exact pe_bm0 pa slot hty hm ho hbase (hline := hline)
end
theorem callInt {X : Cx} : CallR X (.type "int") rInt1 := call_int1

/-! ### statements -/
section
variable {K : PySem.W.Frag} {S : Dst} {σ : L2.St} {H H' : Hp} {ta tb tc te tx : TE} {tas : TA} {t u : TT} {x y z v : V} {r : R2} {P P' : V → Hp → Prop} {b c : Bool} {vs : List V} {D : Ends} {tu tw tz : TS} {i : Nat}
theorem s_asg (h : Ev K S te σ H v) (k : St K S tz D (σ.set i (some v)) H) : St K S (tSeq (tAsg te (gName i)) tz) D σ H := fun H1 e => h H1 e _ fun H2 e2 => k H2 (e.trans e2)
theorem s_asgX (h : EvX K S te σ H P) (k : ∀ v H1, Lx S H H1 → P v H1 → St K S tz D (σ.set i (some v)) H1) : St K S (tSeq (tAsg te (gName i)) tz) D σ H := fun H1 e => h H1 e _ fun v H2 e2 p => k v H2 (e.trans e2) p H2 (e.trans e2).refl
theorem s_asg1 (h : Ev K S te σ H v) (k : ∀ H1, Lx S H H1 → D.nx (σ.set i (some v)) H1) : St K S (tAsg te (gName i)) D σ H := fun H1 e => h H1 e _ fun H2 e2 => k H2 (e.trans e2)
theorem s_asg1X (h : EvX K S te σ H P) (k : ∀ v H1, Lx S H H1 → P v H1 → D.nx (σ.set i (some v)) H1) : St K S (tAsg te (gName i)) D σ H := fun H1 e => h H1 e _ fun v H2 e2 p => k v H2 (e.trans e2) p
theorem s_ret (h : Ev K S te σ H v) (k : ∀ H1, Lx S H H1 → D.rt v H1) : St K S (tRet te) D σ H := fun H1 e => h H1 e _ fun H2 e2 => k H2 (e.trans e2)
theorem s_retX (h : EvX K S te σ H P) (k : ∀ v H1, Lx S H H1 → P v H1 → D.rt v H1) : St K S (tRet te) D σ H := fun H1 e => h H1 e _ fun v H2 e2 p => k v H2 (e.trans e2) p
theorem s_if (h : EvT K S t σ H b) (h1 : b = true → St K S tu { D with nx := tz D } σ H) (h2 : b = false → St K S tw { D with nx := tz D } σ H) : St K S (tSeq (tIfS t tu tw) tz) D σ H := fun H1 e => h H1 e _ fun H2 e2 => by
  cases b with
  | true => exact h1 rfl H2 (e.trans e2)
  | false => exact h2 rfl H2 (e.trans e2)
theorem s_if1 (h : EvT K S t σ H b) (h1 : b = true → St K S tu D σ H) (h2 : b = false → St K S tw D σ H) : St K S (tIfS t tu tw) D σ H := fun H1 e => h H1 e _ fun H2 e2 => by
  cases b with
  | true => exact h1 rfl H2 (e.trans e2)
  | false => exact h2 rfl H2 (e.trans e2)
theorem s_ifX {PB : Bool → Hp → Prop} (h : EvTX K S t σ H PB) (h1 : ∀ H1, Lx S H H1 → PB true H1 → St K S tu { D with nx := tz D } σ H1) (h2 : ∀ H1, Lx S H H1 → PB false H1 → St K S tw { D with nx := tz D } σ H1) : St K S (tSeq (tIfS t tu tw) tz) D σ H := fun H1 e => h H1 e _ fun b H2 e2 p => by
  cases b with
  | true => exact h1 H2 (e.trans e2) p H2 (e.trans e2).refl
  | false => exact h2 H2 (e.trans e2) p H2 (e.trans e2).refl
open Evl (tCut) in
/-- an if, a word where its two ways meet -/
theorem s_ifJ (M : L2.St → Hp → Prop) (wf : ∀ σ' H', M σ' H' → Lx S H' H') (h : EvT K S t σ H b) (h1 : b = true → St K S tu { D with nx := M } σ H) (h2 : b = false → St K S tw { D with nx := M } σ H) (k : ∀ σ' H', M σ' H' → St K S tz D σ' H') : St K S (tCut (tIfS t tu tw) tz) D σ H := fun H1 e =>
  ⟨M, h H1 e _ fun H2 e2 => by
    cases b with
    | true => exact h1 rfl H2 (e.trans e2)
    | false => exact h2 rfl H2 (e.trans e2), fun σ' H' m => k σ' H' m H' (wf σ' H' m)⟩
open Evl (tCut) in
theorem s_ifc (h : EvT K S t σ H b) (h1 : b = true → St K S tu { D with nx := tz D } σ H) (h2 : b = false → St K S tw { D with nx := tz D } σ H) : St K S (tCut (tIfS t tu tw) tz) D σ H := fun H1 e =>
  ⟨tz D, h H1 e _ fun H2 e2 => by
    cases b with
    | true => exact h1 rfl H2 (e.trans e2)
    | false => exact h2 rfl H2 (e.trans e2), fun _ _ m => m⟩
theorem s_next (k : St K S tz D σ H) : St K S tNext { D with nx := tz D } σ H := k
open Evl (tCut) in
theorem s_ifJX {PB : Bool → Hp → Prop} (M : L2.St → Hp → Prop) (wf : ∀ σ' H', M σ' H' → Lx S H' H') (h : EvTX K S t σ H PB) (h1 : ∀ H1, Lx S H H1 → PB true H1 → St K S tu { D with nx := M } σ H1) (h2 : ∀ H1, Lx S H H1 → PB false H1 → St K S tw { D with nx := M } σ H1) (k : ∀ σ' H', M σ' H' → St K S tz D σ' H') : St K S (tCut (tIfS t tu tw) tz) D σ H := fun H1 e =>
  ⟨M, h H1 e _ fun b H2 e2 p => by
    cases b with
    | true => exact h1 H2 (e.trans e2) p H2 (e.trans e2).refl
    | false => exact h2 H2 (e.trans e2) p H2 (e.trans e2).refl, fun σ' H' m => k σ' H' m H' (wf σ' H' m)⟩
open Evl (tCut) in
theorem s_ifcX {PB : Bool → Hp → Prop} (h : EvTX K S t σ H PB) (h1 : ∀ H1, Lx S H H1 → PB true H1 → St K S tu { D with nx := tz D } σ H1) (h2 : ∀ H1, Lx S H H1 → PB false H1 → St K S tw { D with nx := tz D } σ H1) : St K S (tCut (tIfS t tu tw) tz) D σ H := fun H1 e =>
  ⟨tz D, h H1 e _ fun b H2 e2 p => by
    cases b with
    | true => exact h1 H2 (e.trans e2) p H2 (e.trans e2).refl
    | false => exact h2 H2 (e.trans e2) p H2 (e.trans e2).refl, fun _ _ m => m⟩
theorem s_if1X {PB : Bool → Hp → Prop} (h : EvTX K S t σ H PB) (h1 : ∀ H1, Lx S H H1 → PB true H1 → St K S tu D σ H1) (h2 : ∀ H1, Lx S H H1 → PB false H1 → St K S tw D σ H1) : St K S (tIfS t tu tw) D σ H := fun H1 e => h H1 e _ fun b H2 e2 p => by
  cases b with
  | true => exact h1 H2 (e.trans e2) p H2 (e.trans e2).refl
  | false => exact h2 H2 (e.trans e2) p H2 (e.trans e2).refl
theorem s_nx (k : ∀ H1, Lx S H H1 → D.nx σ H1) : St K S tNext D σ H := k
theorem s_drop (h : Ev K S te σ H v) (k : St K S tz D σ H) : St K S (tSeq (tDrop te) tz) D σ H := fun H1 e => h H1 e _ fun H2 e2 => k H2 (e.trans e2)
theorem s_dropX (h : EvX K S te σ H P) (k : ∀ v H1, Lx S H H1 → P v H1 → St K S tz D σ H1) : St K S (tSeq (tDrop te) tz) D σ H := fun H1 e => h H1 e _ fun v H2 e2 p => k v H2 (e.trans e2) p H2 (e.trans e2).refl
theorem s_aug {f : Int → Int → Int} {a b : Int} (hx : σ[i]? = some (some (.int a))) (h : Ev K S te σ H (.int b)) (k : St K S tz D (σ.set i (some (.int (f a b)))) H) : St K S (tSeq (tAug i te (ipI f)) tz) D σ H := fun H1 e => ⟨_, hx, h H1 e _ fun H2 e2 => ⟨a, b, rfl, rfl, k H2 (e.trans e2)⟩⟩
theorem s_aug1 {f : Int → Int → Int} {a b : Int} (hx : σ[i]? = some (some (.int a))) (h : Ev K S te σ H (.int b)) (k : ∀ H1, Lx S H H1 → D.nx (σ.set i (some (.int (f a b)))) H1) : St K S (tAug i te (ipI f)) D σ H := fun H1 e => ⟨_, hx, h H1 e _ fun H2 e2 => ⟨a, b, rfl, rfl, k H2 (e.trans e2)⟩⟩

theorem s_setL {l : Addr} {xs : List V} {j : Int} {n : Nat} (h : Ev K S te σ H v) (ho : Ev K S ta σ H (.ref l)) (hi : Ev K S tb σ H (.int j)) (hl : H l = some (.lst xs)) (hj : ixN xs.length j = some n) (ns : ¬ Sx S l)
    (k : St K S tz D σ (upd H l (.lst (xs.set n v)))) : St K S (tSeq (tAsg te (gSub ta tb rSetL)) tz) D σ H := fun H1 e => h H1 e _ fun H2 e2 => ho H2 (e.trans e2) _ fun H3 e3 => hi H3 ((e.trans e2).trans e3) _ fun H4 e4 =>
  have e5 := ((e.trans e2).trans e3).trans e4
  ⟨l, xs, j, n, rfl, rfl, e5.1 l _ ns hl, hj, k _ (e5.upd ns)⟩
theorem s_setL1 {l : Addr} {xs : List V} {j : Int} {n : Nat} (h : Ev K S te σ H v) (ho : Ev K S ta σ H (.ref l)) (hi : Ev K S tb σ H (.int j)) (hl : H l = some (.lst xs)) (hj : ixN xs.length j = some n) (ns : ¬ Sx S l)
    (k : ∀ H1, Lx S (upd H l (.lst (xs.set n v))) H1 → D.nx σ H1) : St K S (tAsg te (gSub ta tb rSetL)) D σ H := fun H1 e => h H1 e _ fun H2 e2 => ho H2 (e.trans e2) _ fun H3 e3 => hi H3 ((e.trans e2).trans e3) _ fun H4 e4 =>
  have e5 := ((e.trans e2).trans e3).trans e4
  ⟨l, xs, j, n, rfl, rfl, e5.1 l _ ns hl, hj, k _ (e5.upd ns)⟩
theorem s_setLX {l : Addr} (h : Ev K S te σ H v) (ho : Ev K S ta σ H (.ref l)) (hi : EvX K S tb σ H P) (ns : ¬ Sx S l)
    (k : ∀ i H1, Lx S H H1 → P i H1 → ∃ (xs : List V) (j : Int) (n : Nat), i = .int j ∧ H1 l = some (.lst xs) ∧ ixN xs.length j = some n ∧ St K S tz D σ (upd H1 l (.lst (xs.set n v)))) : St K S (tSeq (tAsg te (gSub ta tb rSetL)) tz) D σ H := fun H1 e => h H1 e _ fun H2 e2 => ho H2 (e.trans e2) _ fun H3 e3 => hi H3 ((e.trans e2).trans e3) _ fun i H4 e4 p => by
  have e5 := ((e.trans e2).trans e3).trans e4
  obtain ⟨xs, j, n, rfl, hl, hj, z⟩ := k i H4 e5 p
  exact ⟨l, xs, j, n, rfl, rfl, hl, hj, z _ (e5.refl.upd ns)⟩
theorem s_app {l : Addr} {xs : List V} (hl : H l = some (.lst xs)) (ns : ¬ Sx S l) (ha : Ev K S ta σ H (.ref l)) (h : Ev K S te σ H v) (hz : xs.length < sizeLine) (k : St K S tz D σ (upd H l (.lst (xs ++ [v])))) :
    St K S (tSeq (tDrop (tBM K "list" rAppend ta (tCons te tNil))) tz) D σ H := fun H1 e => ha H1 e _ fun H2 e2 => ⟨.inl ⟨rfl, _, SqL.of ((e.trans e2).1 l _ ns hl)⟩, h H2 (e.trans e2) _ fun H3 e3 =>
  have e5 := (e.trans e2).trans e3
  ⟨l, xs, v, rfl, rfl, e5.1 l _ ns hl, hz, k _ (e5.upd ns)⟩⟩
theorem s_app1 {l : Addr} {xs : List V} (hl : H l = some (.lst xs)) (ns : ¬ Sx S l) (ha : Ev K S ta σ H (.ref l)) (h : Ev K S te σ H v) (hz : xs.length < sizeLine) (k : ∀ H1, Lx S (upd H l (.lst (xs ++ [v]))) H1 → D.nx σ H1) :
    St K S (tDrop (tBM K "list" rAppend ta (tCons te tNil))) D σ H := fun H1 e => ha H1 e _ fun H2 e2 => ⟨.inl ⟨rfl, _, SqL.of ((e.trans e2).1 l _ ns hl)⟩, h H2 (e.trans e2) _ fun H3 e3 =>
  have e5 := (e.trans e2).trans e3
  ⟨l, xs, v, rfl, rfl, e5.1 l _ ns hl, hz, k _ (e5.upd ns)⟩⟩
/-- what is appended is made on the way -/
theorem s_appX {l : Addr} {xs : List V} (hl : H l = some (.lst xs)) (ns : ¬ Sx S l) (ha : Ev K S ta σ H (.ref l)) (h : EvX K S te σ H P) (hz : xs.length < sizeLine) (k : ∀ v H1, Lx S H H1 → P v H1 → St K S tz D σ (upd H1 l (.lst (xs ++ [v])))) :
    St K S (tSeq (tDrop (tBM K "list" rAppend ta (tCons te tNil))) tz) D σ H := fun H1 e => ha H1 e _ fun H2 e2 => ⟨.inl ⟨rfl, _, SqL.of ((e.trans e2).1 l _ ns hl)⟩, h H2 (e.trans e2) _ fun v H3 e3 p =>
  have e5 := (e.trans e2).trans e3
  ⟨l, xs, v, rfl, rfl, e5.1 l _ ns hl, hz, k v H3 e5 p _ (e5.refl.upd ns)⟩⟩
theorem s_appX1 {l : Addr} {xs : List V} (hl : H l = some (.lst xs)) (ns : ¬ Sx S l) (ha : Ev K S ta σ H (.ref l)) (h : EvX K S te σ H P) (hz : xs.length < sizeLine) (k : ∀ v H1, Lx S H H1 → P v H1 → ∀ H2, Lx S (upd H1 l (.lst (xs ++ [v]))) H2 → D.nx σ H2) :
    St K S (tDrop (tBM K "list" rAppend ta (tCons te tNil))) D σ H := fun H1 e => ha H1 e _ fun H2 e2 => ⟨.inl ⟨rfl, _, SqL.of ((e.trans e2).1 l _ ns hl)⟩, h H2 (e.trans e2) _ fun v H3 e3 p =>
  have e5 := (e.trans e2).trans e3
  ⟨l, xs, v, rfl, rfl, e5.1 l _ ns hl, hz, k v H3 e5 p _ (e5.refl.upd ns)⟩⟩
/-! loops: Pv holds between the turns -/
theorem s_forL {a : Addr} {xs : List V} {tl : TE} {g : TG} (h : Ev K S tl σ H (.ref a)) (hx : LA K S H a xs) (Pv : Nat → L2.St → Hp → Prop) (h0 : ∀ H1, Lx S H H1 → Pv 0 σ H1) (hl : ∀ i σ' H', i ≤ xs.length → Pv i σ' H' → LA K S H' a xs)
    (hs : ∀ i x σ' H', xs[i]? = some x → Pv i σ' H' → g x σ' H' fun σ2 H2 => tu { D with nx := Pv (i + 1), ct := Pv (i + 1), bk := tz D } σ2 H2) (hd : ∀ σ' H', Pv xs.length σ' H' → tz D σ' H') : St K S (tSeq (tFor (iList K tl) g tu) tz) D σ H := fun H1 e =>
  h H1 e _ fun H2 e2 => ⟨a, rfl, ⟨xs, (hx.mono (e.trans e2)).q⟩, for_list (xs := xs) (D := { D with nx := tz D }) Pv (h0 H2 (e.trans e2)) (fun i σ' H' hi p => (hl i σ' H' hi p).q) hs hd⟩
theorem s_forL1 {a : Addr} {xs : List V} {tl : TE} {g : TG} (h : Ev K S tl σ H (.ref a)) (hx : LA K S H a xs) (Pv : Nat → L2.St → Hp → Prop) (h0 : ∀ H1, Lx S H H1 → Pv 0 σ H1) (hl : ∀ i σ' H', i ≤ xs.length → Pv i σ' H' → LA K S H' a xs)
    (hs : ∀ i x σ' H', xs[i]? = some x → Pv i σ' H' → g x σ' H' fun σ2 H2 => tu { D with nx := Pv (i + 1), ct := Pv (i + 1), bk := D.nx } σ2 H2) (hd : ∀ σ' H', Pv xs.length σ' H' → D.nx σ' H') : St K S (tFor (iList K tl) g tu) D σ H := fun H1 e =>
  h H1 e _ fun H2 e2 => ⟨a, rfl, ⟨xs, (hx.mono (e.trans e2)).q⟩, for_list (xs := xs) Pv (h0 H2 (e.trans e2)) (fun i σ' H' hi p => (hl i σ' H' hi p).q) hs hd⟩
theorem s_forR1 {tas : TA} {g : TG} {n : Int} (h : EvA K S tas σ H [.int n]) (hn : n ≤ 1000000 ∧ -1000000 ≤ n) (Pv : Nat → L2.St → Hp → Prop) (h0 : ∀ H1, Lx S H H1 → Pv 0 σ H1)
    (hs : ∀ (i : Nat) σ' H', (i : Int) < n → Pv i σ' H' → g (.int i) σ' H' fun σ2 H2 => tu { D with nx := Pv (i + 1), ct := Pv (i + 1), bk := tz D } σ2 H2) (hd : ∀ σ' H', Pv n.toNat σ' H' → tz D σ' H') : St K S (tSeq (tFor (iRng1 tas) g tu) tz) D σ H := fun H1 e =>
  h H1 e _ fun H2 e2 => ⟨n, rfl, by omega, by omega, for_range (lo := 0) (n := n.toNat) (D := { D with nx := tz D }) Pv (h0 H2 (e.trans e2)) (fun i σ' H' hi p => by
    have q := hs i σ' H' (by omega) p
    rw [show (0 : Int) + (i : Int) = (i : Int) from Int.zero_add _]
    exact q) hd⟩
theorem s_forR11 {tas : TA} {g : TG} {n : Int} (h : EvA K S tas σ H [.int n]) (hn : n ≤ 1000000 ∧ -1000000 ≤ n) (Pv : Nat → L2.St → Hp → Prop) (h0 : ∀ H1, Lx S H H1 → Pv 0 σ H1)
    (hs : ∀ (i : Nat) σ' H', (i : Int) < n → Pv i σ' H' → g (.int i) σ' H' fun σ2 H2 => tu { D with nx := Pv (i + 1), ct := Pv (i + 1), bk := D.nx } σ2 H2) (hd : ∀ σ' H', Pv n.toNat σ' H' → D.nx σ' H') : St K S (tFor (iRng1 tas) g tu) D σ H := fun H1 e =>
  h H1 e _ fun H2 e2 => ⟨n, rfl, by omega, by omega, for_range (lo := 0) (n := n.toNat) Pv (h0 H2 (e.trans e2)) (fun i σ' H' hi p => by
    have q := hs i σ' H' (by omega) p
    rw [show (0 : Int) + (i : Int) = (i : Int) from Int.zero_add _]
    exact q) hd⟩
theorem s_forR2 {tas : TA} {g : TG} {m n : Int} (h : EvA K S tas σ H [.int m, .int n]) (hn : n ≤ 1000000 ∧ -1000000 ≤ n ∧ m ≤ 1000000 ∧ -1000000 ≤ m) (Pv : Nat → L2.St → Hp → Prop) (h0 : ∀ H1, Lx S H H1 → Pv 0 σ H1)
    (hs : ∀ (i : Nat) σ' H', m + (i : Int) < n → Pv i σ' H' → g (.int (m + i)) σ' H' fun σ2 H2 => tu { D with nx := Pv (i + 1), ct := Pv (i + 1), bk := tz D } σ2 H2) (hd : ∀ σ' H', Pv (n - m).toNat σ' H' → tz D σ' H') : St K S (tSeq (tFor (iRng2 tas) g tu) tz) D σ H := fun H1 e =>
  h H1 e _ fun H2 e2 => ⟨m, n, rfl, by omega, for_range (lo := m) (n := (n - m).toNat) (D := { D with nx := tz D }) Pv (h0 H2 (e.trans e2)) (fun i σ' H' hi p => hs i σ' H' (by omega) p) hd⟩
theorem s_forT {a : Addr} {xs : List V} {tl : TE} {g : TG} (h : Ev K S tl σ H (.ref a)) (hx : UA K S H a xs) (Pv : Nat → L2.St → Hp → Prop) (h0 : ∀ H1, Lx S H H1 → Pv 0 σ H1) (hl : ∀ i σ' H', i ≤ xs.length → Pv i σ' H' → UA K S H' a xs)
    (hs : ∀ i x σ' H', xs[i]? = some x → Pv i σ' H' → g x σ' H' fun σ2 H2 => tu { D with nx := Pv (i + 1), ct := Pv (i + 1), bk := tz D } σ2 H2) (hd : ∀ σ' H', Pv xs.length σ' H' → tz D σ' H') : St K S (tSeq (tFor (iTup K tl) g tu) tz) D σ H := fun H1 e =>
  h H1 e _ fun H2 e2 => ⟨a, rfl, ⟨xs, (hx.mono (e.trans e2)).q⟩, for_tup (xs := xs) (D := { D with nx := tz D }) Pv (h0 H2 (e.trans e2)) (fun i σ' H' hi p => (hl i σ' H' hi p).q) hs hd⟩
theorem s_while (W : Nat → L2.St → Hp → Prop) (m0 : Nat) (h0 : ∀ H1, Lx S H H1 → W m0 σ H1)
    (hs : ∀ m σ' H', W m σ' H' → EvTX K S t σ' H' fun b H1 => (b = true → ∃ N : L2.St → Hp → Prop, (∀ σ2 H2, N σ2 H2 → ∃ m', m' < m ∧ W m' σ2 H2) ∧ tu { D with nx := N, ct := N, bk := tz D } σ' H1) ∧ (b = false → tz D σ' H1))
    (wf : ∀ m σ' H', W m σ' H' → Lx S H' H') : St K S (tSeq (tWhile t tu) tz) D σ H := fun H1 e => ⟨W, ⟨m0, h0 H1 e⟩, fun m σ' H' w => hs m σ' H' w H' (wf m σ' H' w) _ fun b H2 e2 p => by
  cases b with
  | true =>
    obtain ⟨N, n1, n2⟩ := p.1 rfl
    show ∃ N : L2.St → Hp → Prop, _
    exact ⟨N, n1, n2⟩
  | false => exact p.2 rfl⟩
/-! comprehensions: Pv D i acc H, acc what is made so far, at D -/
theorem ex_lcL {a : Addr} {xs : List V} {tl : TE} {j : Nat} {ws : List Nat} (h : Ev K S tl σ H (.ref a)) (hx : LA K S H a xs) (hz : xs.length < sizeLine) (hw : ∀ x, wipe ((wipe σ ws).set j (some x)) ws = wipe σ ws)
    (Pv : Addr → Nat → List V → Hp → Prop) (h0 : ∀ D H1, H D = none → Lx S H H1 → H1 D = some (.lst []) → Pv D 0 [] H1)
    (hs : ∀ D i x acc H1, H D = none → H1 D = some (.lst acc) → xs[i]? = some x → Lx S H H1 → Pv D i acc H1 → EvTX K S t ((wipe σ ws).set j (some x)) H1 fun b H2 =>
      (b = true → EvX K S te ((wipe σ ws).set j (some x)) H2 fun y H3 => Pv D (i + 1) (acc ++ [y]) (upd H3 D (.lst (acc ++ [y])))) ∧ (b = false → Pv D (i + 1) acc H2)) :
    EvX K S (tLc (iList K tl) (gName j) t te ws) σ H (fun v H2 => ∃ p acc, v = .ref p ∧ H p = none ∧ ¬ Sx S p ∧ H2 p = some (.lst acc) ∧ acc.length ≤ xs.length ∧ Pv p xs.length acc H2) := fun H0 e Q q => h H0 e _ fun H1 e1 => ⟨a, rfl, ⟨xs, (hx.mono (e.trans e1)).q⟩, fun Dl hD => by
  have w1 : Lx S H H1 := e.trans e1
  have nD : ¬ Sx S Dl := w1.ns hD
  have fD : H Dl = none := w1.fresh hD
  refine lc_list (xs := xs) (fun i H' => ∃ acc, H' Dl = some (.lst acc) ∧ acc.length ≤ i ∧ Lx S H1 H' ∧ Pv Dl i acc H') ⟨[], upd_same, Nat.le_refl _, w1.new hD, h0 Dl _ fD (w1.trans (w1.new hD)) upd_same⟩ (fun i H' _ ⟨acc, _, _, e2, _⟩ => (hx.mono (w1.trans e2)).q) ?_ ?_
  · rintro i x H' hi ⟨acc, g1, g2, e2, p⟩
    refine ⟨hw x, hs Dl i x acc H' fD g1 hi (w1.trans e2) p H' e2.refl _ fun b H2 e3 pb => ?_⟩
    cases b with
    | true =>
      show te _ H2 _
      refine pb.1 rfl H2 ((w1.trans e2).trans e3).refl _ fun y H3 e4 py => ⟨acc, e4.1 _ _ nD (e3.1 _ _ nD g1), Nat.lt_of_le_of_lt g2 (Nat.lt_of_lt_of_le ((List.getElem?_eq_some_iff.mp hi).1) (Nat.le_of_lt hz)), acc ++ [y], upd_same, ?_, ?_, py⟩
      · rw [List.length_append]; exact Nat.succ_le_succ g2
      · have e5 := (e2.trans e3).trans e4
        exact e5.put nD fun u z => by rw [hD] at z; cases z
    | false =>
      show ∃ acc, _
      exact ⟨acc, e3.1 _ _ nD g1, Nat.le_succ_of_le g2, e2.trans e3, pb.2 rfl⟩
  · rintro H' ⟨acc, g1, g2, e2, p⟩
    exact q _ _ (e1.trans e2) ⟨Dl, acc, rfl, fD, nD, g1, g2, p⟩⟩
theorem ex_lcR {n : Int} {tas : TA} {j : Nat} {ws : List Nat} (h : EvA K S tas σ H [.int n]) (hn : n ≤ 1000000 ∧ -1000000 ≤ n) (hw : ∀ x, wipe ((wipe σ ws).set j (some x)) ws = wipe σ ws)
    (Pv : Addr → Nat → List V → Hp → Prop) (h0 : ∀ D H1, H D = none → Lx S H H1 → H1 D = some (.lst []) → Pv D 0 [] H1)
    (hs : ∀ D (i : Nat) acc H1, H D = none → H1 D = some (.lst acc) → (i : Int) < n → Lx S H H1 → Pv D i acc H1 → EvTX K S t ((wipe σ ws).set j (some (.int i))) H1 fun b H2 =>
      (b = true → EvX K S te ((wipe σ ws).set j (some (.int i))) H2 fun y H3 => Pv D (i + 1) (acc ++ [y]) (upd H3 D (.lst (acc ++ [y])))) ∧ (b = false → Pv D (i + 1) acc H2)) :
    EvX K S (tLc (iRng1 tas) (gName j) t te ws) σ H (fun v H2 => ∃ p acc, v = .ref p ∧ H p = none ∧ ¬ Sx S p ∧ H2 p = some (.lst acc) ∧ acc.length ≤ n.toNat ∧ Pv p n.toNat acc H2) := fun H0 e Q q => h H0 e _ fun H1 e1 => ⟨n, rfl, by omega, by omega, fun Dl hD => by
  have w1 : Lx S H H1 := e.trans e1
  have nD : ¬ Sx S Dl := w1.ns hD
  have fD : H Dl = none := w1.fresh hD
  refine lc_range (lo := 0) (n := n.toNat) (fun i H' => ∃ acc, H' Dl = some (.lst acc) ∧ acc.length ≤ i ∧ Lx S H1 H' ∧ Pv Dl i acc H') ⟨[], upd_same, Nat.le_refl _, w1.new hD, h0 Dl _ fD (w1.trans (w1.new hD)) upd_same⟩ ?_ ?_
  · rintro i H' hi ⟨acc, g1, g2, e2, p⟩
    show wipe ((wipe σ ws).set j (some (.int ((0 : Int) + (i : Int))))) ws = wipe σ ws ∧ t ((wipe σ ws).set j (some (.int ((0 : Int) + (i : Int))))) H' _
    rw [show (0 : Int) + (i : Int) = (i : Int) from Int.zero_add _]
    refine ⟨hw _, hs Dl i acc H' fD g1 (by omega) (w1.trans e2) p H' e2.refl _ fun b H2 e3 pb => ?_⟩
    cases b with
    | true =>
      show te _ H2 _
      refine pb.1 rfl H2 ((w1.trans e2).trans e3).refl _ fun y H3 e4 py => ⟨acc, e4.1 _ _ nD (e3.1 _ _ nD g1), Nat.lt_of_le_of_lt g2 (by have : sizeLine = 16777216 := sizeLine_eq; omega), acc ++ [y], upd_same, ?_, ?_, py⟩
      · rw [List.length_append]; exact Nat.succ_le_succ g2
      · have e5 := (e2.trans e3).trans e4
        exact e5.put nD fun u z => by rw [hD] at z; cases z
    | false =>
      show ∃ acc, _
      exact ⟨acc, e3.1 _ _ nD g1, Nat.le_succ_of_le g2, e2.trans e3, pb.2 rfl⟩
  · rintro H' ⟨acc, g1, g2, e2, p⟩
    exact q _ _ (e1.trans e2) ⟨Dl, acc, rfl, fD, nD, g1, g2, p⟩⟩
theorem et_yes : EvTX K S tYes σ H (fun b _ => b = true) := fun H1 e _ q => q true H1 e.refl rfl
/-- each item a value: [f x for x in xs] -/
theorem ex_map {a : Addr} {xs : List V} {tl : TE} {j : Nat} {ws : List Nat} (f : V → V) (h : Ev K S tl σ H (.ref a)) (hx : LA K S H a xs) (hz : xs.length < sizeLine) (hw : ∀ x, wipe ((wipe σ ws).set j (some x)) ws = wipe σ ws)
    (hs : ∀ x ∈ xs, Ev K S te ((wipe σ ws).set j (some x)) H (f x)) : EvX K S (tLc (iList K tl) (gName j) tYes te ws) σ H (NewL S H (xs.map f)) := by
  refine (ex_lcL h hx hz hw (fun _ i acc _ => acc = (xs.take i).map f) (fun _ _ _ _ _ => by simp) ?_).imp ?_
  · intro D i x acc H1 _ _ hi e p H2 e2 Q q
    refine q true H2 e2.refl ⟨fun _ H3 e3 Q3 q3 => hs x (List.mem_of_getElem? hi) H3 ((e.trans e2).trans e3) _ fun H4 e4 => q3 _ _ e4 ?_, fun z => nomatch z⟩
    rw [p, List.take_succ, hi]
    simp
  · rintro v H2 e ⟨p, acc, rfl, f1, f2, f3, _, g⟩
    rw [List.take_length] at g
    subst g
    exact ⟨p, rfl, f1, f2, f3⟩
theorem ex_filterMap {a : Addr} {xs : List V} {tl : TE} {j : Nat} {ws : List Nat} (g : V → Bool) (f : V → V) (h : Ev K S tl σ H (.ref a)) (hx : LA K S H a xs) (hz : xs.length < sizeLine) (hw : ∀ x, wipe ((wipe σ ws).set j (some x)) ws = wipe σ ws)
    (ht : ∀ x ∈ xs, EvT K S t ((wipe σ ws).set j (some x)) H (g x)) (hs : ∀ x ∈ xs, g x = true → Ev K S te ((wipe σ ws).set j (some x)) H (f x)) : EvX K S (tLc (iList K tl) (gName j) t te ws) σ H (NewL S H ((xs.filter g).map f)) := by
  refine (ex_lcL h hx hz hw (fun _ i acc _ => acc = ((xs.take i).filter g).map f) (fun _ _ _ _ _ => by simp) ?_).imp ?_
  · intro D i x acc H1 _ _ hi e p H2 e2 Q q
    refine ht x (List.mem_of_getElem? hi) H2 (e.trans e2) _ fun H3 e3 => q (g x) H3 e3 ⟨fun b H4 e4 Q4 q4 => hs x (List.mem_of_getElem? hi) b H4 (((e.trans e2).trans e3).trans e4) _ fun H5 e5 => q4 _ _ e5 ?_, fun b => ?_⟩
    · rw [p, List.take_succ, hi]
      simp [List.filter_append, b]
    · rw [p, List.take_succ, hi]
      simp [List.filter_append, b]
  · rintro v H2 e ⟨p, acc, rfl, f1, f2, f3, _, g⟩
    rw [List.take_length] at g
    subst g
    exact ⟨p, rfl, f1, f2, f3⟩
end
/-! loops whose target is a name -/
section
variable {K : PySem.W.Frag} {S : Dst} {σ : L2.St} {H H' : Hp} {tas : TA} {tl : TE} {D : Ends} {tu tz : TS} {j : Nat}
theorem s_forLn {a : Addr} {xs : List V} (h : Ev K S tl σ H (.ref a)) (hx : LA K S H a xs) (Pv : Nat → L2.St → Hp → Prop) (wf : ∀ i σ' H', Pv i σ' H' → Lx S H' H') (h0 : ∀ H1, Lx S H H1 → Pv 0 σ H1) (hl : ∀ i σ' H', i ≤ xs.length → Pv i σ' H' → LA K S H' a xs)
    (hs : ∀ i x σ' H', xs[i]? = some x → Pv i σ' H' → St K S tu { D with nx := Pv (i + 1), ct := Pv (i + 1), bk := tz D } (σ'.set j (some x)) H') (hd : ∀ σ' H', Pv xs.length σ' H' → St K S tz D σ' H') : St K S (tSeq (tFor (iList K tl) (gName j) tu) tz) D σ H :=
  s_forL h hx Pv h0 hl (fun i x σ' H' hi p => hs i x σ' H' hi p H' (wf i σ' H' p)) (fun σ' H' p => hd σ' H' p H' (wf _ σ' H' p))
theorem s_forLn1 {a : Addr} {xs : List V} (h : Ev K S tl σ H (.ref a)) (hx : LA K S H a xs) (Pv : Nat → L2.St → Hp → Prop) (wf : ∀ i σ' H', Pv i σ' H' → Lx S H' H') (h0 : ∀ H1, Lx S H H1 → Pv 0 σ H1) (hl : ∀ i σ' H', i ≤ xs.length → Pv i σ' H' → LA K S H' a xs)
    (hs : ∀ i x σ' H', xs[i]? = some x → Pv i σ' H' → St K S tu { D with nx := Pv (i + 1), ct := Pv (i + 1), bk := D.nx } (σ'.set j (some x)) H') (hd : ∀ σ' H', Pv xs.length σ' H' → D.nx σ' H') : St K S (tFor (iList K tl) (gName j) tu) D σ H :=
  s_forL1 h hx Pv h0 hl (fun i x σ' H' hi p => hs i x σ' H' hi p H' (wf i σ' H' p)) (hd)
theorem s_forTn {a : Addr} {xs : List V} (h : Ev K S tl σ H (.ref a)) (hx : UA K S H a xs) (Pv : Nat → L2.St → Hp → Prop) (wf : ∀ i σ' H', Pv i σ' H' → Lx S H' H') (h0 : ∀ H1, Lx S H H1 → Pv 0 σ H1) (hl : ∀ i σ' H', i ≤ xs.length → Pv i σ' H' → UA K S H' a xs)
    (hs : ∀ i x σ' H', xs[i]? = some x → Pv i σ' H' → St K S tu { D with nx := Pv (i + 1), ct := Pv (i + 1), bk := tz D } (σ'.set j (some x)) H') (hd : ∀ σ' H', Pv xs.length σ' H' → St K S tz D σ' H') : St K S (tSeq (tFor (iTup K tl) (gName j) tu) tz) D σ H :=
  s_forT h hx Pv h0 hl (fun i x σ' H' hi p => hs i x σ' H' hi p H' (wf i σ' H' p)) (fun σ' H' p => hd σ' H' p H' (wf _ σ' H' p))
theorem s_forRn {n : Int} (h : EvA K S tas σ H [.int n]) (hn : n ≤ 1000000 ∧ -1000000 ≤ n) (Pv : Nat → L2.St → Hp → Prop) (wf : ∀ i σ' H', Pv i σ' H' → Lx S H' H') (h0 : ∀ H1, Lx S H H1 → Pv 0 σ H1)
    (hs : ∀ (i : Nat) σ' H', (i : Int) < n → Pv i σ' H' → St K S tu { D with nx := Pv (i + 1), ct := Pv (i + 1), bk := tz D } (σ'.set j (some (.int i))) H') (hd : ∀ σ' H', Pv n.toNat σ' H' → St K S tz D σ' H') : St K S (tSeq (tFor (iRng1 tas) (gName j) tu) tz) D σ H :=
  s_forR1 h hn Pv h0 (fun i σ' H' hi p => hs i σ' H' hi p H' (wf i σ' H' p)) (fun σ' H' p => hd σ' H' p H' (wf _ σ' H' p))
theorem s_forRn1 {n : Int} (h : EvA K S tas σ H [.int n]) (hn : n ≤ 1000000 ∧ -1000000 ≤ n) (Pv : Nat → L2.St → Hp → Prop) (wf : ∀ i σ' H', Pv i σ' H' → Lx S H' H') (h0 : ∀ H1, Lx S H H1 → Pv 0 σ H1)
    (hs : ∀ (i : Nat) σ' H', (i : Int) < n → Pv i σ' H' → St K S tu { D with nx := Pv (i + 1), ct := Pv (i + 1), bk := D.nx } (σ'.set j (some (.int i))) H') (hd : ∀ σ' H', Pv n.toNat σ' H' → D.nx σ' H') : St K S (tFor (iRng1 tas) (gName j) tu) D σ H :=
  s_forR11 h hn Pv h0 (fun i σ' H' hi p => hs i σ' H' hi p H' (wf i σ' H' p)) (hd)
theorem s_forQn {m n : Int} (h : EvA K S tas σ H [.int m, .int n]) (hn : n ≤ 1000000 ∧ -1000000 ≤ n ∧ m ≤ 1000000 ∧ -1000000 ≤ m) (Pv : Nat → L2.St → Hp → Prop) (wf : ∀ i σ' H', Pv i σ' H' → Lx S H' H') (h0 : ∀ H1, Lx S H H1 → Pv 0 σ H1)
    (hs : ∀ (i : Nat) σ' H', m + (i : Int) < n → Pv i σ' H' → St K S tu { D with nx := Pv (i + 1), ct := Pv (i + 1), bk := tz D } (σ'.set j (some (.int (m + i)))) H') (hd : ∀ σ' H', Pv (n - m).toNat σ' H' → St K S tz D σ' H') : St K S (tSeq (tFor (iRng2 tas) (gName j) tu) tz) D σ H :=
  s_forR2 h hn Pv h0 (fun i σ' H' hi p => hs i σ' H' hi p H' (wf i σ' H' p)) (fun σ' H' p => hd σ' H' p H' (wf _ σ' H' p))
theorem go {ts : TS} {σ' : L2.St} (e : σ = σ') (h : St K none ts D σ' H) : ts D σ H := by
  subst e
  exact h H Lx.rfl0
theorem lx_start {st l : Addr} (d : Drw H st l) : Lx (some (st, l)) H H := ⟨fun _ _ _ e => e, fun p hp => by cases hp; exact d⟩
/-- a drawing state has been made -/
theorem s_S {ts : TS} {st l : Addr} (d : Drw H st l) (h : St K (some (st, l)) ts D σ H) : St K none ts D σ H := fun H1 e => h H1 ((lx_start d).of0 e)
theorem goS {ts : TS} {σ' : L2.St} {st l : Addr} (e : σ = σ') (d : Drw H st l) (h : St K (some (st, l)) ts D σ' H) : ts D σ H := by
  subst e
  exact h H (lx_start d)
theorem ns_of {st l b : Addr} (h1 : b ≠ st) (h2 : b ≠ l) : ¬ Sx (some (st, l)) b := fun ⟨p, hp, z⟩ => by
  cases hp
  rcases z with z | z
  · exact h1 z
  · exact h2 z
theorem wf0 {Pv : Nat → L2.St → Hp → Prop} : ∀ i σ' H', Pv i σ' H' → Lx none H' H' := fun _ _ _ _ => Lx.rfl0
end
/-! ### the drawing -/
section
variable {K : PySem.W.Frag} {S : Dst} {σ : L2.St} {H : Hp}
def sp_draw : Sp := fun vs H Q _ => ∃ (st l : Addr) (m : Int), vs = [.ref st, .int m] ∧ 0 < m ∧ m < 1073741824 ∧ Drw H st l ∧ ∀ r H', 0 ≤ r → r < m → Drw H' st l → (∀ b o, b ≠ st → H b = some o → H' b = some o) → Q (.int r) H'
/-- what a draw gives: any number below m -/
abbrev Drawn (m : Int) : V → Hp → Prop := fun v _ => ∃ r : Int, v = .int r ∧ 0 ≤ r ∧ r < m
theorem spx_draw {st l : Addr} {m : Int} {E : XK} (h0 : 0 < m) (h1 : m < 1073741824) : SpX K (some (st, l)) sp_draw [.ref st, .int m] H E (Drawn m) := by
  intro H1 e Q q
  refine ⟨st, l, m, rfl, h0, h1, e.2 (st, l) rfl, fun r H' r0 r1 d k => q _ _ ⟨fun b o nb eb => k b o (fun z => nb ⟨_, rfl, .inl z⟩) eb, fun p hp => ?_⟩ ⟨r, rfl, r0, r1⟩⟩
  cases hp
  exact d
theorem ex_draw {st l : Addr} {m : Int} {E : XK} {ta tm : TE} (hs : Ev K (some (st, l)) ta σ H (.ref st)) (hm : Ev K (some (st, l)) tm σ H (.int m)) (h0 : 0 < m) (h1 : m < 1073741824) :
    EvX K (some (st, l)) (tCall sp_draw [] E (tCons ta (tCons tm tNil))) σ H (Drawn m) := ex_call (ea_cons hs (ea_cons hm ea_nil)) (spx_draw h0 h1)
def sp_start (K : PySem.W.Frag) : Sp := fun vs H Q _ => ∃ (a : Addr) (ns : List Int), vs = [.ref a] ∧ SqL K H a (ns.map V.int) ∧ ∀ st l H', H st = none → H l = none → Same H H' → Drw H' st l → Q (.ref st) H'
theorem ex_start {σ : L2.St} {H : Hp} {te : TE} {E : XK} {a : Addr} {ns : List Int} (h : Ev K none te σ H (.ref a)) (hS : SqL K H a (ns.map V.int)) : EvX K none (tCall (sp_start K) [] E (tCons te tNil)) σ H (fun v H2 => ∃ st l, v = .ref st ∧ Drw H2 st l) :=
  ex_call (ea_cons h ea_nil) fun H1 e Q q => ⟨a, ns, rfl, ((LA.of0 hS).mono e).q, fun st l H' _ _ sm d => q _ _ (lx_same sm) ⟨st, l, rfl, d⟩⟩
end
end Fw

namespace Fw
open PySem PySem.Spec PyProof.Rows L2
/-! ### a def that keeps a promise, however its object looks -/
def Ok (P : Program) (w : World) (K : PySem.W.Frag) (mg : Str → Option Value) (base : Heap) (CX : CXT) (k : Nat) (f : Addr) (ps : List Str) (sp : Sp) : Prop :=
  ∃ fd : FuncData, FnOk P w K mg base CX k f fd ps sp ∧ Binds K fd ps [] ∧ PySem.W.keepIn K (.ref f) = true ∧ ∃ oc od osl, K.lookup f = some ⟨oc, od, .func fd, osl⟩
abbrev FnIs (K : PySem.W.Frag) (x qual : Str) (st : Stmt) (f : Addr) : Prop := ∃ fd, FunD K x qual (defArgs st) (defBody st) (defScope st) [] [] f fd
section
variable {P : Program} {w : World} {K : PySem.W.Frag} {mg : Str → Option Value} {base : Heap}
theorem Ok.mono {CX : CXT} {j k : Nat} {f : Addr} {ps : List Str} {sp : Sp} (h : Ok P w K mg base CX j f ps sp) (l : j ≤ k) : Ok P w K mg base CX k f ps sp := by
  obtain ⟨fd, a, b, c⟩ := h
  exact ⟨fd, a.mono l, b, c⟩
theorem Ok.imp {CX : CXT} {k : Nat} {f : Addr} {ps : List Str} {sp sp' : Sp} (h : Ok P w K mg base CX k f ps sp) (i : ∀ vs H Q E, sp' vs H Q E → sp vs H Q E) : Ok P w K mg base CX k f ps sp' := by
  obtain ⟨fd, a, b, c⟩ := h
  exact ⟨fd, a.imp i, b, c⟩
/-- a def that lets nothing out: its body, read -/
theorem okD {x qual : Str} {st : Stmt} {f : Addr} {N ps : List Str} {k : Nat} {sp : Sp} (F : FnIs K x qual st f) (S : FnScope N ps (defScope st))
    (hb : ∀ (kV doc pm : Value) (an : Option Addr) (cdv ct : Value) (us : List Value), us.length = ps.length → bindArgs (PySem.W.fnOf x qual (defArgs st) (defBody st) (defScope st) .none kV doc pm an cdv ct) ⟨us, []⟩ = pure (ps.zip us))
    (len : ∀ vs H Q E, sp vs H Q E → vs.length = ps.length)
    (hbody : ∀ (cdv : Value) (A : Around) (outer : List Env) (s : Shared) (H : Hp) (vs : List V) (Q : VK) (E : XK), Room k (A.deeper (envOfC qual (defScope st) s.heap.objs.size f cdv)) → sp vs H Q E →
      ∃ t, PSs (cxOf CX0 P w K mg base N qual (defScope st) f cdv A outer s H E).nox (defBody st) t ∧ t { nx := fun _ H' => Q .non H', rt := Q } (start N vs) H) : Ok P w K mg base CX0 (k + 1) f ps sp := by
  obtain ⟨fd, F⟩ := F
  refine ⟨fd, F.ok S len fun cdv A outer s H vs Q E hr hsp => ?_, F.bindsN hb, F.kp, by obtain ⟨oc, od, _, _, _, _, _, _, _, osl, _, lk, _⟩ := F.ex; exact ⟨oc, od, osl, lk⟩⟩
  obtain ⟨t, h, q⟩ := hbody cdv A outer s H vs Q E hr hsp
  exact ⟨t, h.nox, q⟩
/-- the promise of the law's own def -/
theorem Ok.fn {CX : CXT} {k : Nat} {f : Addr} {ps : List Str} {sp : Sp} {x qual : Str} {params : Arguments} {body : List Stmt} {scope : Scope} {dvs : List V} {kws : List (Str × V)} {fd : FuncData} (h : Ok P w K mg base CX k f ps sp)
    (F : FunD K x qual params body scope dvs kws f fd) : FnOk P w K mg base CX k f fd ps sp := by
  obtain ⟨fd', a, _, _, oc, od, osl, lk⟩ := h
  obtain ⟨_, _, _, _, _, _, _, _, _, _, _, lk2, _⟩ := F.ex
  rw [lk] at lk2
  injection lk2 with e
  injection e with _ _ e _
  injection e with e
  subst e
  exact a
end
section
variable {X : Cx} {CX : CXT} {k : Nat} {f C : Addr} {ps : List Str} {sp : Sp} {E : XK} {x m : Str} {p pos apos : Pos} {e o : Expr} {es : List Expr} {t : TA} {ta : TE}
theorem pe_callO (F : Ok X.prog X.w X.K X.mg X.base CX k f ps sp) (hr : Room k X.A) (hg : Gl X x) (hm : X.mg x = some (.ref f)) (hx : Passes CX X E) (ha : PA X (e :: es) t)
    (hdb : (x == ("__debug__" : Str)) = false := by decide) (he : starEach (e :: es) X.env = (false, eval e X.env) :: starEach es X.env := by rfl) (hpl : (backTo pos (starEach es X.env)).any (·.1) = false := by rfl) :
    PE X (.Call (.Name x p) (e :: es) [] pos) (tCall sp [] E t) := by
  obtain ⟨fd, F, hb, hk, _⟩ := F
  exact pe_call F hr hg hm hk hb .nil hx ha hdb he hpl
end
/-! ### d.get(k), d a written dict of text keys -/
def tKGet (K : PySem.W.Frag) (w : World) (td ty : TE) : TE := fun σ H Q => td σ H fun x H1 => ∃ (a : Addr) (es : Array DictEntry) (n : Nat), x = .ref a ∧ KDict K w a es n ∧ ty σ H1 fun y H2 => ∃ (z : Str) (r : Option Value) (v : V), y = .str z ∧ PySem.W.nsIn K a z = some r ∧ RelV v (r.getD .none) ∧ Q v H2
section
variable {X : Cx} {o e : Expr} {apos cpos : Pos} {td ty : TE}
theorem pe_kget (K : PySem.W.Frag) (hK : X.K = K) {w : World} (hw : X.w = w) (ho : PE X o td) (he : PE X e ty) (m : M1 X o "get" apos e cpos) : PE X (.Call (.Attribute o "get" apos) [e] [] cpos) (tKGet K w td ty) := by
  subst hK
  subst hw
  refine ⟨fun pins s σ H Q I h => ?_⟩
  refine wpAny_Call_method m.base m.few m.line PySem.F.plainAttrs_dict PySem.F.slot_dict_get PySem.F.type_dict_get (thn (ho.run pins s σ H _ I h) fun u s1 ⟨x, H1, I1, rx, a, es, n, ex, D, q1⟩ => ?_)
  subst ex
  obtain rfl : u = Value.ref a := rx
  refine ⟨kd_type D I1, fun b eb => ?_, ?_⟩
  · cases eb
    exact ⟨_, I1.kIn _ _ D.at_, rfl⟩
  rw [m.trees]
  refine Calls.callWith_builtin rfl (Calls.evalArgs_plain (Calls.spliced_cons (thn (he.run pins s1 σ H1 _ I1 q1) fun iv s2 ⟨y, H2, I2, ry, z, r, v, ey, en, rv, q2⟩ => Calls.spliced_nil ?_)))
  subst ey
  obtain ⟨t, rfl⟩ := ry
  refine call_meetsIn PySem.F.slot_dict_get (kd_type D I2) PySem.F.entry_dict_get (PySem.F.args_dict_get_2 _ _) (meets_dict_get (strKind X.prog X.w) a (PySem.strKind_is X.prog X.w z t) D.low) ⟨_, PySem.W.mapOf_K (prog := X.prog) I2.kIn D.at_ D.lit, v, H2, I2.tok _, ?_, q2⟩
  rw [PySem.W.find_K D.at_ en]
  exact rv
end
/-! ### data: what a value stands for -/
mutual
inductive Rp (S : Dst) (H : Hp) : V → PyData → Prop
  | non : Rp S H .non .none
  | bl (b : Bool) : Rp S H (.bl b) (.bool b)
  | int (i : Int) : Rp S H (.int i) (.int i)
  | str (x : Str) : Rp S H (.str x) (.str x)
  | lst {a : Addr} {xs : List V} {ds : List PyData} : H a = some (.lst xs) → ¬ Sx S a → xs.length ≤ 100000 → RpAll S H xs ds → Rp S H (.ref a) (.list ds)
  | tup {a : Addr} {xs : List V} {ds : List PyData} : H a = some (.tup xs) → ¬ Sx S a → xs.length ≤ 100000 → RpAll S H xs ds → Rp S H (.ref a) (.tuple ds)
inductive RpAll (S : Dst) (H : Hp) : List V → List PyData → Prop
  | nil : RpAll S H [] []
  | cons {v : V} {vs : List V} {d : PyData} {ds : List PyData} : Rp S H v d → RpAll S H vs ds → RpAll S H (v :: vs) (d :: ds)
end
section
variable {K : PySem.W.Frag} {S : Dst} {H H' : Hp}
mutual
theorem Rp.mono (e : Lx S H H') : ∀ (d : PyData) (v : V), Rp S H v d → Rp S H' v d
  | .none, _, h => by cases h; exact .non
  | .bool b, _, h => by cases h; exact .bl b
  | .int b, _, h => by cases h; exact .int b
  | .str b, _, h => by cases h; exact .str b
  | .list ds, _, h => by
    cases h with
    | lst h1 h2 h3 h4 => exact .lst (e.1 _ _ h2 h1) h2 h3 (RpAll.mono e ds _ h4)
  | .tuple ds, _, h => by
    cases h with
    | tup h1 h2 h3 h4 => exact .tup (e.1 _ _ h2 h1) h2 h3 (RpAll.mono e ds _ h4)
  | .dict kvs, _, h => by cases h
theorem RpAll.mono (e : Lx S H H') : ∀ (ds : List PyData) (vs : List V), RpAll S H vs ds → RpAll S H' vs ds
  | [], _, h => by cases h; exact .nil
  | d :: ds, _, h => by
    cases h with
    | cons h1 h2 => exact .cons (Rp.mono e d _ h1) (RpAll.mono e ds _ h2)
end
mutual
theorem Rp.to0 : ∀ (d : PyData) (v : V), Rp S H v d → Rp none H v d
  | .none, _, h => by cases h; exact .non
  | .bool b, _, h => by cases h; exact .bl b
  | .int b, _, h => by cases h; exact .int b
  | .str b, _, h => by cases h; exact .str b
  | .list ds, _, h => by
    cases h with
    | lst h1 h2 h3 h4 => exact .lst h1 sx_none h3 (RpAll.to0 ds _ h4)
  | .tuple ds, _, h => by
    cases h with
    | tup h1 h2 h3 h4 => exact .tup h1 sx_none h3 (RpAll.to0 ds _ h4)
  | .dict kvs, _, h => by cases h
theorem RpAll.to0 : ∀ (ds : List PyData) (vs : List V), RpAll S H vs ds → RpAll none H vs ds
  | [], _, h => by cases h; exact .nil
  | d :: ds, _, h => by
    cases h with
    | cons h1 h2 => exact .cons (Rp.to0 d _ h1) (RpAll.to0 ds _ h2)
end
theorem Rp.m {d : PyData} {v : V} (h : Rp S H v d) (e : Lx S H H') : Rp S H' v d := Rp.mono e d v h
theorem Rp.z {d : PyData} {v : V} (h : Rp S H v d) : Rp none H v d := Rp.to0 d v h
theorem RpAll.m {ds : List PyData} {vs : List V} (h : RpAll S H vs ds) (e : Lx S H H') : RpAll S H' vs ds := RpAll.mono e ds vs h
theorem RpAll.length : ∀ {vs : List V} {ds : List PyData}, RpAll S H vs ds → vs.length = ds.length
  | _, _, .nil => rfl
  | _, _, .cons _ h => congrArg Nat.succ (RpAll.length h)
theorem RpAll.get : ∀ {vs : List V} {ds : List PyData}, RpAll S H vs ds → ∀ {i : Nat} {d : PyData}, ds[i]? = some d → ∃ v, vs[i]? = some v ∧ Rp S H v d
  | _, _, .nil, i, d, h => by simp at h
  | _, _, .cons a _, 0, d, h => by
    have e := Option.some.inj h
    subst e
    exact ⟨_, rfl, a⟩
  | _, _, .cons _ r, i + 1, d, h => RpAll.get r (i := i) h
theorem RpAll.of {vs : List V} {ds : List PyData} (hl : vs.length = ds.length) (h : ∀ (i : Nat) v d, vs[i]? = some v → ds[i]? = some d → Rp S H v d) : RpAll S H vs ds := by
  induction vs generalizing ds with
  | nil => cases ds with
    | nil => exact .nil
    | cons d ds => exact nomatch hl
  | cons v vs ih => cases ds with
    | nil => exact nomatch hl
    | cons d ds => exact .cons (h 0 v d rfl rfl) (ih (Nat.succ.inj hl) fun i v' d' a b => h (i + 1) v' d' a b)
theorem RpAll.map {α : Type} {f : α → V} {g : α → PyData} {xs : List α} (h : ∀ x ∈ xs, Rp S H (f x) (g x)) : RpAll S H (xs.map f) (xs.map g) := by
  induction xs with
  | nil => exact .nil
  | cons x xs ih => exact .cons (h x (by simp)) (ih fun y hy => h y (by simp [hy]))
/-- the name of a datum's type -/
def tyD : PyData → String
  | .none => "NoneType" | .bool _ => "bool" | .int _ => "int" | .str _ => "str" | .list _ => "list" | .tuple _ => "tuple" | .dict _ => "dict"
theorem Rp.ty {d : PyData} {v : V} (h : Rp S H v d) : TyX K H v (.type (tyD d)) := by
  cases h with
  | non => exact .base .non
  | bl b => exact .base (.bl b)
  | int b => exact .base (.int b)
  | str b => exact .base (.str b)
  | lst h1 h2 h3 h4 => exact .base (.lst h1)
  | tup h1 h2 h3 h4 => exact .base (.tup h1)
theorem kD {d : PyData} (t : String) {n : String} {b : Bool} (h : tyD d = t) (k : kitB t n = some b) : kitB (tyD d) n = some b := h ▸ k
def rIsiA (K : PySem.W.Frag) : List V → Hp → VK → Prop := rIsi K
theorem rc_isi {d : PyData} {v : V} {n : String} {b : Bool} (h : Rp S H v d) (hk : kitB (tyD d) n = some b) : RC K S (rIsi K) [v, .ty n] H (.bl b) := fun H1 e _ q =>
  ⟨v, .ty n, _, _, b, rfl, .ty n, (h.m e).ty, kit_ty hk, q H1 e.refl⟩
theorem ev_isi {d : PyData} {v : V} {n : String} {b : Bool} {σ : L2.St} {te : TE} (he : Ev K S te σ H v) (h : Rp S H v d) (hk : kitB (tyD d) n = some b) : Ev K S (tCB (rIsi K) (tCons te (tCons (tC (.ty n)) tNil))) σ H (.bl b) :=
  ev_cb (ea_cons he (ea_cons ev_c ea_nil)) (rc_isi h hk)
theorem depth_mem : ∀ {ds : List PyData} {i : Nat} {d : PyData}, ds[i]? = some d → d.depth ≤ PyData.depthAll ds
  | [], i, d, h => by simp at h
  | x :: xs, 0, d, h => by
    have e := Option.some.inj h
    subst e
    rw [PyData.depthAll]
    exact Nat.le_max_left _ _
  | x :: xs, i + 1, d, h => by
    have q := depth_mem (ds := xs) (i := i) h
    rw [PyData.depthAll]
    exact Nat.le_trans q (Nat.le_max_right _ _)
/-! _law_is_number, _law_same of what is the same -/
def isNumD : PyData → Bool
  | .int _ => true
  | _ => false
def sp_isnum : Sp := fun vs H Q _ => ∃ (x : V) (d : PyData), vs = [x] ∧ Rp none H x d ∧ ∀ H', Lx none H H' → Q (.bl (isNumD d)) H'
theorem ev_isnum {te : TE} {σ : L2.St} {x : V} {d : PyData} {E : XK} (h : Ev K S te σ H x) (r : Rp S H x d) : Ev K S (tCall sp_isnum [] E (tCons te tNil)) σ H (.bl (isNumD d)) :=
  (ex_call (P := fun v _ => v = .bl (isNumD d)) (ea_cons h ea_nil) fun H1 e Q q => ⟨x, d, rfl, (r.m e).z, fun H' e2 => q _ _ (e.refl.of0 e2) rfl⟩).ev fun _ _ _ z => z
def sp_same (n : Nat) : Sp := fun vs H Q _ => ∃ (x y : V) (d : PyData), vs = [x, y] ∧ d.depth < n ∧ Rp none H x d ∧ Rp none H y d ∧ ∀ H', Lx none H H' → Q (.bl true) H'
theorem ev_same {ta tb : TE} {σ : L2.St} {x y : V} {d : PyData} {E : XK} {n : Nat} (ha : Ev K S ta σ H x) (hb : Ev K S tb σ H y) (rx : Rp S H x d) (ry : Rp S H y d) (hd : d.depth < n) : Ev K S (tCall (sp_same n) [] E (tCons ta (tCons tb tNil))) σ H (.bl true) :=
  (ex_call (P := fun v _ => v = .bl true) (ea_cons ha (ea_cons hb ea_nil)) fun H1 e Q q => ⟨x, y, d, rfl, hd, (rx.m e).z, (ry.m e).z, fun H' e2 => q _ _ (e.refl.of0 e2) rfl⟩).ev fun _ _ _ z => z
theorem spx_same {x y : V} {d : PyData} {E : XK} {n : Nat} (rx : Rp S H x d) (ry : Rp S H y d) (hd : d.depth < n) : SpX K S (sp_same n) [x, y] H E (fun v _ => v = .bl true) := fun H1 e Q q => ⟨x, y, d, rfl, hd, (rx.m e).z, (ry.m e).z, fun H' e2 => q _ _ (e.refl.of0 e2) rfl⟩
theorem ok_zero {P : Program} {w : World} {mg : Str → Option Value} {base : Heap} {CX : CXT} {x qual : Str} {st : Stmt} {f : Addr} {ps : List Str} {sp : Sp} (F : FnIs K x qual st f)
    (hb : ∀ (kV doc pm : Value) (an : Option Addr) (cdv ct : Value) (us : List Value), us.length = ps.length → bindArgs (PySem.W.fnOf x qual (defArgs st) (defBody st) (defScope st) .none kV doc pm an cdv ct) ⟨us, []⟩ = pure (ps.zip us)) (h : ∀ vs H Q E, ¬ sp vs H Q E) : Ok P w K mg base CX 0 f ps sp := by
  obtain ⟨fd, F⟩ := F
  exact ⟨fd, ⟨fun _ _ _ _ z => (h _ _ _ _ z).elim, fun _ _ _ _ _ _ _ _ _ _ _ _ _ z => (h _ _ _ _ z).elim⟩, F.bindsN hb, F.kp, by obtain ⟨oc, od, _, _, _, _, _, _, _, osl, _, lk, _⟩ := F.ex; exact ⟨oc, od, osl, lk⟩⟩
/-- an item of a list or a tuple -/
theorem rv_ix {p : Addr} {xs : List V} {i : Int} {v : V} (h : SqL K H p xs ∨ SqT K H p xs) (n : ¬ Sx S p) (ha : atI xs i = some v) : RV K S (rIx K) (.ref p) (.int i) H v := fun H1 e _ q => by
  rcases h with h | h
  · exact .inl ⟨p, xs, i, v, rfl, rfl, ((⟨h, n⟩ : LA K S H p xs).mono e).q, ha, q H1 e.refl⟩
  · exact .inr (.inl ⟨p, xs, i, v, rfl, rfl, ((⟨h, n⟩ : UA K S H p xs).mono e).q, ha, q H1 e.refl⟩)
theorem rc_lenLU {p : Addr} {xs : List V} (h : SqL K H p xs ∨ SqT K H p xs) (n : ¬ Sx S p) : RC K S (rLn K) [.ref p] H (.int (xs.length : Int)) := fun H1 e _ q => by
  rcases h with h | h
  · exact ⟨p, xs, rfl, .inl ((⟨h, n⟩ : LA K S H p xs).mono e).q, q H1 e.refl⟩
  · exact ⟨p, xs, rfl, .inr ((⟨h, n⟩ : UA K S H p xs).mono e).q, q H1 e.refl⟩
end
end Fw

namespace Dl
/-! delays, as numbers: n tasks; first t: what it begins with; ov c f t: the wait of t is over when those of f at most c have ended -/
section
variable (n : Nat) (first : Nat → Option Nat) (aw : Nat → List Nat) (md : Nat → Bool)
def leO (o : Option Nat) (c : Nat) : Bool := match o with
  | some m => decide (m ≤ c)
  | none => false
def over (ts : List Nat) (any : Bool) (d : Nat → Bool) : Bool := if any then ts.any d else ts.all d
def ov (c : Nat) (f : Nat → Option Nat) (t : Nat) : Bool := over (aw t) (md t) fun u => leO (f u) c
def step (c : Nat) (f : Nat → Option Nat) (t : Nat) : Option Nat := match f t with
  | some m => some m
  | none => if ov aw md c f t then some (c + 1) else none
def N : Nat → Nat → Option Nat
  | 0 => first
  | c + 1 => step aw md c (N c)
abbrev F : Nat → Option Nat := N first aw md (n + 1)
variable {n first aw md}
theorem N_succ {c t m : Nat} (h : N first aw md c t = some m) : N first aw md (c + 1) t = some m := by
  show step aw md c (N first aw md c) t = some m
  unfold step; rw [h]
theorem N_mono {c d t m : Nat} (h : N first aw md c t = some m) (l : c ≤ d) : N first aw md d t = some m := by
  obtain ⟨k, rfl⟩ : ∃ k, d = c + k := ⟨d - c, by omega⟩
  clear l
  induction k with
  | zero => exact h
  | succ k ih => exact N_succ ih
theorem N_late {c d t m : Nat} (h0 : N first aw md c t = none) (h : N first aw md d t = some m) : c < m := by
  by_cases l : d ≤ c
  · rw [N_mono h l] at h0; cases h0
  · obtain ⟨k, rfl⟩ : ∃ k, d = c + k := ⟨d - c, by omega⟩
    clear l
    induction k with
    | zero => rw [show c + 0 = c from rfl, h0] at h; cases h
    | succ k ih =>
      cases e : N first aw md (c + k) t with
      | some m' =>
        have z := N_succ e
        rw [show c + k + 1 = c + (k + 1) by omega, h] at z
        cases z
        exact ih e
      | none =>
        have z : step aw md (c + k) (N first aw md (c + k)) t = some m := h
        unfold step at z; rw [e] at z
        simp only at z
        split at z
        · cases z; omega
        · cases z
theorem done_eq {c u : Nat} (l : c ≤ n + 1) : leO (N first aw md c u) c = leO (F n first aw md u) c := by
  cases e : N first aw md c u with
  | some m => rw [show F n first aw md u = some m from N_mono e l]
  | none =>
    cases e2 : F n first aw md u with
    | none => rfl
    | some m =>
      have := N_late e e2
      show false = decide (m ≤ c)
      rw [decide_eq_false (by omega)]
theorem ov_eq {c t : Nat} (l : c ≤ n + 1) : ov aw md c (N first aw md c) t = ov aw md c (F n first aw md) t := by
  unfold ov
  rw [show (fun u => leO (N first aw md c u) c) = fun u => leO (F n first aw md u) c from funext fun u => done_eq l]
/-- when a waiting task gets its number -/
theorem F_some {t m : Nat} (h0 : first t = none) (h : F n first aw md t = some m) : ∃ c, c ≤ n ∧ m = c + 1 ∧ ov aw md c (F n first aw md) t = true ∧ ∀ c', c' < c → ov aw md c' (F n first aw md) t = false := by
  have key : ∀ d, d ≤ n + 1 → (N first aw md d t = none ∧ ∀ c', c' < d → ov aw md c' (F n first aw md) t = false) ∨ ∃ c, c < d ∧ N first aw md d t = some (c + 1) ∧ ov aw md c (F n first aw md) t = true ∧ ∀ c', c' < c → ov aw md c' (F n first aw md) t = false := fun d => by
    induction d with
    | zero => exact fun _ => .inl ⟨h0, fun _ z => absurd z (by omega)⟩
    | succ d ih =>
      intro l
      rcases ih (by omega) with ⟨e, q⟩ | ⟨c, l1, e, o1, o2⟩
      · have z : N first aw md (d + 1) t = if ov aw md d (N first aw md d) t then some (d + 1) else none := by
          show step aw md d (N first aw md d) t = _
          unfold step; rw [e]
        rw [ov_eq (n := n) (by omega)] at z
        cases o : ov aw md d (F n first aw md) t with
        | true => exact .inr ⟨d, by omega, by rw [z, o]; rfl, o, q⟩
        | false =>
          refine .inl ⟨by rw [z, o]; rfl, fun c' l' => ?_⟩
          by_cases e : c' = d
          · subst e; exact o
          · exact q c' (by omega)
      · exact .inr ⟨c, by omega, N_succ e, o1, o2⟩
  rcases key (n + 1) (Nat.le_refl _) with ⟨e, _⟩ | ⟨c, l, e, o1, o2⟩
  · rw [show F n first aw md t = N first aw md (n + 1) t from rfl, e] at h; cases h
  · rw [show F n first aw md t = N first aw md (n + 1) t from rfl, e] at h
    cases h
    exact ⟨c, by omega, rfl, o1, o2⟩
theorem F_none {t : Nat} (h : F n first aw md t = none) : ∀ c, c ≤ n → ov aw md c (F n first aw md) t = false := fun c l => by
  cases o : ov aw md c (F n first aw md) t with
  | false => rfl
  | true =>
    have z : N first aw md (c + 1) t ≠ none := by
      show step aw md c (N first aw md c) t ≠ none
      unfold step
      cases e : N first aw md c t with
      | some m => exact fun z => nomatch z
      | none => rw [ov_eq (n := n) (by omega), o]; exact fun z => nomatch z
    cases e : N first aw md (c + 1) t with
    | none => exact absurd e z
    | some m =>
      rw [show F n first aw md t = N first aw md (n + 1) t from rfl, N_mono e (by omega)] at h
      cases h
/-- every number below a number is taken -/
theorem taken (hf : ∀ t m, first t = some m → m ≤ 1) (hr : ∀ t u, t < n → u ∈ aw t → u < n) {t m : Nat} (ht : t < n) (h : F n first aw md t = some (m + 2)) : ∃ u, u < n ∧ F n first aw md u = some (m + 1) := by
  have h0 : first t = none := by
    cases e : first t with
    | none => rfl
    | some k =>
      have := hf t k e
      have z : F n first aw md t = some k := N_mono (c := 0) e (by omega)
      rw [h] at z; cases z; omega
  obtain ⟨c, hc, e, o1, o2⟩ := F_some h0 h
  obtain rfl : c = m + 1 := by omega
  have o3 := o2 m (by omega)
  apply Classical.byContradiction
  intro hn
  have z : ov aw md (m + 1) (F n first aw md) t = ov aw md m (F n first aw md) t := by
    have le : ∀ u ∈ aw t, leO (F n first aw md u) (m + 1) = leO (F n first aw md u) m := fun u hu => by
      cases e : F n first aw md u with
      | none => rfl
      | some k =>
        have : k ≠ m + 1 := fun z => hn ⟨u, hr t u ht hu, by rw [e, z]⟩
        show decide (k ≤ m + 1) = decide (k ≤ m)
        by_cases l : k ≤ m
        · rw [decide_eq_true l, decide_eq_true (by omega)]
        · rw [decide_eq_false l, decide_eq_false (by omega)]
    unfold ov over
    cases md t with
    | true =>
      simp only [if_true]
      rw [Bool.eq_iff_iff, List.any_eq_true, List.any_eq_true]
      exact ⟨fun ⟨u, a, b⟩ => ⟨u, a, by rw [← le u a]; exact b⟩, fun ⟨u, a, b⟩ => ⟨u, a, by rw [le u a]; exact b⟩⟩
    | false =>
      simp only [Bool.false_eq_true, if_false]
      rw [Bool.eq_iff_iff, List.all_eq_true, List.all_eq_true]
      exact ⟨fun a u b => by rw [← le u b]; exact a u b, fun a u b => by rw [le u b]; exact a u b⟩
  rw [o1, o3] at z; cases z
theorem cnt (hf : ∀ t m, first t = some m → m ≤ 1) (hr : ∀ t u, t < n → u ∈ aw t → u < n) : ∀ (m : Nat) (t : Nat), t < n → F n first aw md t = some (m + 1) → m + 1 ≤ (List.range n).countP fun u => match F n first aw md u with | some k => decide (1 ≤ k ∧ k ≤ m + 1) | none => false := by
  intro m
  induction m with
  | zero =>
    intro t ht h
    exact List.countP_pos_iff.mpr ⟨t, List.mem_range.mpr ht, by rw [h]; decide⟩
  | succ m ih =>
    intro t ht h
    obtain ⟨u, hu, e⟩ := taken hf hr ht h
    have q := ih u hu e
    have lt : (List.range n).countP (fun u => match F n first aw md u with | some k => decide (1 ≤ k ∧ k ≤ m + 1) | none => false) < (List.range n).countP fun u => match F n first aw md u with | some k => decide (1 ≤ k ∧ k ≤ m + 1 + 1) | none => false := by
      have gen : ∀ l : List Nat, t ∈ l → l.countP (fun u => match F n first aw md u with | some k => decide (1 ≤ k ∧ k ≤ m + 1) | none => false) < l.countP fun u => match F n first aw md u with | some k => decide (1 ≤ k ∧ k ≤ m + 1 + 1) | none => false := fun l => by
        induction l with
        | nil => intro z; cases z
        | cons a l ihl =>
          intro hm
          have mono : l.countP (fun u => match F n first aw md u with | some k => decide (1 ≤ k ∧ k ≤ m + 1) | none => false) ≤ l.countP fun u => match F n first aw md u with | some k => decide (1 ≤ k ∧ k ≤ m + 1 + 1) | none => false :=
            List.countP_mono_left fun x _ hx => by
              cases e : F n first aw md x with
              | none => rw [e] at hx; cases hx
              | some k => rw [e] at hx; simp only [decide_eq_true_eq] at hx ⊢; omega
          rw [List.countP_cons, List.countP_cons]
          by_cases ha : t = a
          · subst ha
            rw [h]
            simp only [decide_eq_true_eq]
            split <;> split <;> omega
          · have q := ihl (by rcases List.mem_cons.mp hm with z | z; exact absurd z ha; exact z)
            cases e : F n first aw md a with
            | none => simp only [Bool.false_eq_true, if_false]; omega
            | some k =>
              simp only [decide_eq_true_eq]
              split <;> split <;> omega
      exact gen _ (List.mem_range.mpr ht)
    omega
theorem F_le (hf : ∀ t m, first t = some m → m ≤ 1) (hr : ∀ t u, t < n → u ∈ aw t → u < n) {t m : Nat} (ht : t < n) (h : F n first aw md t = some m) : m ≤ n := by
  cases m with
  | zero => omega
  | succ m =>
    have q := cnt hf hr m t ht h
    have l := List.countP_le_length (p := fun u => match F n first aw md u with | some k => decide (1 ≤ k ∧ k ≤ m + 1) | none => false) (l := List.range n)
    rw [List.length_range] at l
    omega
/-- what the law asks of a waiting task: ks the numbers of its targets -/
def Due (ks : List (Option Nat)) (any : Bool) (o : Option Nat) : Prop :=
  if (ks.filterMap id = [] ∨ (any = false ∧ (ks.filterMap id).length < ks.length)) then o = none
  else if any = true then ∃ m, m ∈ ks.filterMap id ∧ (∀ y ∈ ks.filterMap id, m ≤ y) ∧ o = some (1 + m) else ∃ m, m ∈ ks.filterMap id ∧ (∀ y ∈ ks.filterMap id, y ≤ m) ∧ o = some (1 + m)
theorem ex_min : ∀ l : List Nat, l ≠ [] → ∃ m, m ∈ l ∧ ∀ y ∈ l, m ≤ y
  | [], h => absurd rfl h
  | [a], _ => ⟨a, by simp, by simp⟩
  | a :: b :: l, _ => by
    obtain ⟨m, h1, h2⟩ := ex_min (b :: l) (by simp)
    by_cases h : a ≤ m
    · exact ⟨a, by simp, fun y hy => by rcases List.mem_cons.mp hy with rfl | hy; exact Nat.le_refl _; exact Nat.le_trans h (h2 y hy)⟩
    · exact ⟨m, by simp [List.mem_cons.mp h1], fun y hy => by rcases List.mem_cons.mp hy with rfl | hy; omega; exact h2 y hy⟩
theorem ex_max : ∀ l : List Nat, l ≠ [] → ∃ m, m ∈ l ∧ ∀ y ∈ l, y ≤ m
  | [], h => absurd rfl h
  | [a], _ => ⟨a, by simp, by simp⟩
  | a :: b :: l, _ => by
    obtain ⟨m, h1, h2⟩ := ex_max (b :: l) (by simp)
    by_cases h : m ≤ a
    · exact ⟨a, by simp, fun y hy => by rcases List.mem_cons.mp hy with rfl | hy; exact Nat.le_refl _; exact Nat.le_trans (h2 y hy) h⟩
    · exact ⟨m, by simp [List.mem_cons.mp h1], fun y hy => by rcases List.mem_cons.mp hy with rfl | hy; omega; exact h2 y hy⟩
theorem mem_fm {ts : List Nat} {f : Nat → Option Nat} {k : Nat} : k ∈ (ts.map f).filterMap id ↔ ∃ u ∈ ts, f u = some k := by
  simp [List.mem_filterMap]
theorem fm_full : ∀ {ts : List Nat} {f : Nat → Option Nat}, ((ts.map f).filterMap id).length < ts.length ↔ ∃ u ∈ ts, f u = none
  | [], f => by simp
  | a :: ts, f => by
    have ih := fm_full (ts := ts) (f := f)
    have le : ((ts.map f).filterMap id).length ≤ ts.length := by
      have := List.length_filterMap_le id (ts.map f)
      rwa [List.length_map] at this
    cases e : f a with
    | none =>
      rw [List.map_cons, List.filterMap_cons_none (show id (f a) = none from e), List.length_cons]
      exact ⟨fun _ => ⟨a, by simp, e⟩, fun _ => by omega⟩
    | some k =>
      rw [List.map_cons, List.filterMap_cons_some (show id (f a) = some k from e), List.length_cons, List.length_cons]
      constructor
      · intro h
        obtain ⟨u, hu, eu⟩ := ih.mp (by omega)
        exact ⟨u, by simp [hu], eu⟩
      · rintro ⟨u, hu, eu⟩
        rcases List.mem_cons.mp hu with rfl | hu
        · rw [e] at eu; cases eu
        · have := ih.mpr ⟨u, hu, eu⟩
          omega
theorem F_due (hf : ∀ t m, first t = some m → m ≤ 1) (hr : ∀ t u, t < n → u ∈ aw t → u < n) {t : Nat} (ht : t < n) (h0 : first t = none) (hne : aw t ≠ []) : Due ((aw t).map (F n first aw md)) (md t) (F n first aw md t) := by
  have ovA : md t = true → ∀ c, (ov aw md c (F n first aw md) t = true ↔ ∃ u ∈ aw t, ∃ k, F n first aw md u = some k ∧ k ≤ c) := fun e c => by
    unfold ov over; rw [e]
    simp only [if_true, List.any_eq_true]
    refine ⟨fun ⟨u, a, b⟩ => ⟨u, a, ?_⟩, fun ⟨u, a, k, b, l⟩ => ⟨u, a, by rw [b]; exact decide_eq_true l⟩⟩
    cases e2 : F n first aw md u with
    | none => rw [e2] at b; cases b
    | some k => rw [e2] at b; exact ⟨k, rfl, of_decide_eq_true b⟩
  have ovE : md t = false → ∀ c, (ov aw md c (F n first aw md) t = true ↔ ∀ u ∈ aw t, ∃ k, F n first aw md u = some k ∧ k ≤ c) := fun e c => by
    unfold ov over; rw [e]
    simp only [Bool.false_eq_true, if_false, List.all_eq_true]
    refine ⟨fun h u a => ?_, fun h u a => ?_⟩
    · have b := h u a
      cases e2 : F n first aw md u with
      | none => rw [e2] at b; cases b
      | some k => rw [e2] at b; exact ⟨k, rfl, of_decide_eq_true b⟩
    · obtain ⟨k, b, l⟩ := h u a
      rw [b]; exact decide_eq_true l
  unfold Due
  split
  · rename_i hc
    cases e : F n first aw md t with
    | none => rfl
    | some m =>
      obtain ⟨c, _, _, o, _⟩ := F_some h0 e
      exfalso
      cases em : md t with
      | true =>
        obtain ⟨u, hu, k, ek, _⟩ := (ovA em c).mp o
        rcases hc with hc | hc
        · have := mem_fm.mpr ⟨u, hu, ek⟩
          rw [hc] at this; cases this
        · rw [em] at hc; cases hc.1
      | false =>
        have hall := (ovE em c).mp o
        rcases hc with hc | hc
        · cases ha : aw t with
          | nil => exact hne ha
          | cons u l =>
            obtain ⟨k, ek, _⟩ := hall u (by rw [ha]; simp)
            have := (mem_fm (ts := aw t)).mpr ⟨u, (by rw [ha]; simp), ek⟩
            rw [hc] at this; cases this
        · rw [List.length_map] at hc
          obtain ⟨u, hu, eu⟩ := fm_full.mp hc.2
          obtain ⟨k, ek, _⟩ := hall u hu
          rw [eu] at ek; cases ek
  · rename_i hc
    have hc1 : ((aw t).map (F n first aw md)).filterMap id ≠ [] := fun z => hc (.inl z)
    split
    · rename_i em
      obtain ⟨m, h1, h2⟩ := ex_min _ hc1
      refine ⟨m, h1, h2, ?_⟩
      obtain ⟨u, hu, eu⟩ := mem_fm.mp h1
      have lm := F_le hf hr (hr t u ht hu) eu
      cases e : F n first aw md t with
      | none =>
        have := F_none e m lm
        rw [(ovA em m).mpr ⟨u, hu, m, eu, Nat.le_refl _⟩] at this
        cases this
      | some k =>
        obtain ⟨c, hcn, ek, o1, o2⟩ := F_some h0 e
        obtain ⟨u', hu', k', ek', lk'⟩ := (ovA em c).mp o1
        have l1 := h2 k' (mem_fm.mpr ⟨u', hu', ek'⟩)
        by_cases l2 : m < c
        · have := o2 m l2
          rw [(ovA em m).mpr ⟨u, hu, m, eu, Nat.le_refl _⟩] at this
          cases this
        · rw [ek, show 1 + m = c + 1 by omega]
    · rename_i em
      have em : md t = false := by cases h : md t with | true => exact absurd h em | false => rfl
      have hfull : ¬ ∃ u ∈ aw t, F n first aw md u = none := fun z => hc (.inr ⟨em, by rw [List.length_map]; exact fm_full.mpr z⟩)
      obtain ⟨m, h1, h2⟩ := ex_max _ hc1
      refine ⟨m, h1, h2, ?_⟩
      obtain ⟨u, hu, eu⟩ := mem_fm.mp h1
      have lm := F_le hf hr (hr t u ht hu) eu
      have hall : ∀ u ∈ aw t, ∃ k, F n first aw md u = some k ∧ k ≤ m := fun v hv => by
        cases e : F n first aw md v with
        | none => exact absurd ⟨v, hv, e⟩ hfull
        | some k => exact ⟨k, rfl, h2 k (mem_fm.mpr ⟨v, hv, e⟩)⟩
      cases e : F n first aw md t with
      | none =>
        have := F_none e m lm
        rw [(ovE em m).mpr hall] at this
        cases this
      | some k =>
        obtain ⟨c, hcn, ek, o1, o2⟩ := F_some h0 e
        obtain ⟨k', ek', lk'⟩ := (ovE em c).mp o1 u hu
        rw [eu] at ek'; cases ek'
        by_cases l2 : m < c
        · have := o2 m l2
          rw [(ovE em m).mpr hall] at this
          cases this
        · rw [ek, show 1 + m = c + 1 by omega]
end
end Dl

namespace Fk
open PySem PySem.Spec PyProof.Rows L2 Fw
def top (i : Nat) : Stmt := PySem.Challenge.pw_forkwaits_k75_delays_of_tasks.main.body.getD i (.Pass ⟨0, 0, 0, 0⟩)
abbrev s_is_over : Stmt := top 1
theorem sc_is_over : FnScope ["targets", "any_of", "done", "target"] ["targets", "any_of", "done"] (defScope s_is_over) := ⟨rfl, rfl, rfl, by decide +kernel, rfl, by decide +kernel, by decide +kernel⟩
abbrev s_delays : Stmt := top 4
theorem sc_delays : FnScope ["phases", "awaited", "modes", "numbers", "phase", "count", "done", "number", "task"] ["phases", "awaited", "modes"] (defScope s_delays) := ⟨rfl, rfl, rfl, by decide +kernel, rfl, by decide +kernel, by decide +kernel⟩
abbrev s__law_start : Stmt := top 6
theorem sc__law_start : FnScope ["script"] ["script"] (defScope s__law_start) := ⟨rfl, rfl, rfl, by decide +kernel, rfl, by decide +kernel, by decide +kernel⟩
abbrev s__law_draw : Stmt := top 7
theorem sc__law_draw : FnScope ["state", "many", "value", "mixed"] ["state", "many"] (defScope s__law_draw) := ⟨rfl, rfl, rfl, by decide +kernel, rfl, by decide +kernel, by decide +kernel⟩
abbrev s__law_is_number : Stmt := top 8
theorem sc__law_is_number : FnScope ["actual"] ["actual"] (defScope s__law_is_number) := ⟨rfl, rfl, rfl, by decide +kernel, rfl, by decide +kernel, by decide +kernel⟩
abbrev s__law_same : Stmt := top 9
theorem sc__law_same : FnScope ["actual", "expected", "k"] ["actual", "expected"] (defScope s__law_same) := ⟨rfl, rfl, rfl, by decide +kernel, rfl, by decide +kernel, by decide +kernel⟩
abbrev s__law_drawn_phase : Stmt := top 10
theorem sc__law_drawn_phase : FnScope ["state", "shape", "task", "size", "phase"] ["state", "shape", "task", "size"] (defScope s__law_drawn_phase) := ⟨rfl, rfl, rfl, by decide +kernel, rfl, by decide +kernel, by decide +kernel⟩
abbrev s__law_drawn_targets : Stmt := top 11
theorem sc__law_drawn_targets : FnScope ["state", "shape", "task", "size", "phase", "many", "k"] ["state", "shape", "task", "size", "phase"] (defScope s__law_drawn_targets) := ⟨rfl, rfl, rfl, by decide +kernel, rfl, by decide +kernel, by decide +kernel⟩
abbrev s__law_is_delay : Stmt := top 12
theorem sc__law_is_delay : FnScope ["number", "phase", "known", "mode", "met", "one"] ["number", "phase", "known", "mode"] (defScope s__law_is_delay) := ⟨rfl, rfl, rfl, by decide +kernel, rfl, by decide +kernel, by decide +kernel⟩
abbrev s__law_delays_kept : Stmt := top 13
theorem sc__law_delays_kept : FnScope ["phases", "awaited", "modes", "lists", "row", "told", "number", "task", "known", "target"] ["phases", "awaited", "modes"] (defScope s__law_delays_kept) := ⟨rfl, rfl, rfl, by decide +kernel, rfl, by decide +kernel, by decide +kernel⟩
abbrev s_law : Stmt := top 14
theorem sc_law : FnScope ["script", "state", "shape", "size", "phases", "awaited", "modes", "task", "phase"] ["script"] (defScope s_law) := ⟨rfl, rfl, rfl, by decide +kernel, rfl, by decide +kernel, by decide +kernel⟩
abbrev fn : List He.DefD := [
  ⟨("is_over", none), "is_over", "is_over", defArgs s_is_over, defBody s_is_over, defScope s_is_over, [], []⟩,
  ⟨("delays", none), "delays", "delays", defArgs s_delays, defBody s_delays, defScope s_delays, [], []⟩,
  ⟨("_law_start", none), "_law_start", "_law_start", defArgs s__law_start, defBody s__law_start, defScope s__law_start, [], []⟩,
  ⟨("_law_draw", none), "_law_draw", "_law_draw", defArgs s__law_draw, defBody s__law_draw, defScope s__law_draw, [], []⟩,
  ⟨("_law_is_number", none), "_law_is_number", "_law_is_number", defArgs s__law_is_number, defBody s__law_is_number, defScope s__law_is_number, [], []⟩,
  ⟨("_law_same", none), "_law_same", "_law_same", defArgs s__law_same, defBody s__law_same, defScope s__law_same, [], []⟩,
  ⟨("_law_drawn_phase", none), "_law_drawn_phase", "_law_drawn_phase", defArgs s__law_drawn_phase, defBody s__law_drawn_phase, defScope s__law_drawn_phase, [], []⟩,
  ⟨("_law_drawn_targets", none), "_law_drawn_targets", "_law_drawn_targets", defArgs s__law_drawn_targets, defBody s__law_drawn_targets, defScope s__law_drawn_targets, [], []⟩,
  ⟨("_law_is_delay", none), "_law_is_delay", "_law_is_delay", defArgs s__law_is_delay, defBody s__law_is_delay, defScope s__law_is_delay, [], []⟩,
  ⟨("_law_delays_kept", none), "_law_delays_kept", "_law_delays_kept", defArgs s__law_delays_kept, defBody s__law_delays_kept, defScope s__law_delays_kept, [], []⟩,
  ⟨("law", none), "law", "law", defArgs s_law, defBody s_law, defScope s_law, [], []⟩]
abbrev fa : List He.Fa := [
  .glo "is_over",
  .glo "delays",
  .glo "_law_start",
  .glo "_law_draw",
  .glo "_law_is_number",
  .glo "_law_same",
  .glo "_law_drawn_phase",
  .glo "_law_drawn_targets",
  .glo "_law_is_delay",
  .glo "_law_delays_kept",
  .glo "law",
  .free "len",
  .free "range",
  .free "list",
  .free "int",
  .free "str",
  .free "bool",
  .free "tuple",
  .free "isinstance",
  .free "min",
  .free "max",
  .glo "FIRST"]
abbrev ts : List He.Tab := [(fun K => He.ga K "FIRST", ["ended", "running"])]
abbrev exs (K : PySem.W.Frag) : List Bool := [He.valsB K (He.ga K "FIRST") [("ended", .int 0)],
  He.valsB K (He.ga K "FIRST") [("running", .int 1)],
  He.eqO (PySem.W.nsIn K (He.ga K "FIRST") "waiting") (some none)]
abbrev exB (K : PySem.W.Frag) : Bool := (exs K).all id
structure Txt (K : PySem.W.Frag) (mg : Str → Option Value) (w : World) : Prop where
  hh : ∃ h : Heap, K.In h ∧ h.Ns mainGlobals mg ∧ He.SaysX fa fn ts [] exB w h K
theorem Txt.c {K : PySem.W.Frag} {mg : Str → Option Value} {w : World} (T : Txt K mg w) : He.SaysX fa fn ts [] exB w (Classical.choose T.hh) K := (Classical.choose_spec T.hh).2.2
theorem Txt.X {K : PySem.W.Frag} {mg : Str → Option Value} {w : World} (T : Txt K mg w) : K.In (Classical.choose T.hh) := (Classical.choose_spec T.hh).1
theorem Txt.G {K : PySem.W.Frag} {mg : Str → Option Value} {w : World} (T : Txt K mg w) : (Classical.choose T.hh).Ns mainGlobals mg := (Classical.choose_spec T.hh).2.1
theorem Txt.ex {K : PySem.W.Frag} {mg : Str → Option Value} {w : World} (T : Txt K mg w) (i : Nat) {b : Bool} (h : (exs K)[i]? = some b) : b = true :=
  List.all_eq_true.mp (show (exs K).all id = true from T.c.more) b (List.mem_of_getElem? h)
section
variable {K : PySem.W.Frag} {mg : Str → Option Value} {w : World}
theorem g_is_over (T : Txt K mg w) : mg "is_over" = some (.ref (He.fAd K ("is_over", none))) := He.glo_ok T.X T.G (T.c.t.d.fact 0 rfl)
theorem g_delays (T : Txt K mg w) : mg "delays" = some (.ref (He.fAd K ("delays", none))) := He.glo_ok T.X T.G (T.c.t.d.fact 1 rfl)
theorem g__law_start (T : Txt K mg w) : mg "_law_start" = some (.ref (He.fAd K ("_law_start", none))) := He.glo_ok T.X T.G (T.c.t.d.fact 2 rfl)
theorem g__law_draw (T : Txt K mg w) : mg "_law_draw" = some (.ref (He.fAd K ("_law_draw", none))) := He.glo_ok T.X T.G (T.c.t.d.fact 3 rfl)
theorem g__law_is_number (T : Txt K mg w) : mg "_law_is_number" = some (.ref (He.fAd K ("_law_is_number", none))) := He.glo_ok T.X T.G (T.c.t.d.fact 4 rfl)
theorem g__law_same (T : Txt K mg w) : mg "_law_same" = some (.ref (He.fAd K ("_law_same", none))) := He.glo_ok T.X T.G (T.c.t.d.fact 5 rfl)
theorem g__law_drawn_phase (T : Txt K mg w) : mg "_law_drawn_phase" = some (.ref (He.fAd K ("_law_drawn_phase", none))) := He.glo_ok T.X T.G (T.c.t.d.fact 6 rfl)
theorem g__law_drawn_targets (T : Txt K mg w) : mg "_law_drawn_targets" = some (.ref (He.fAd K ("_law_drawn_targets", none))) := He.glo_ok T.X T.G (T.c.t.d.fact 7 rfl)
theorem g__law_is_delay (T : Txt K mg w) : mg "_law_is_delay" = some (.ref (He.fAd K ("_law_is_delay", none))) := He.glo_ok T.X T.G (T.c.t.d.fact 8 rfl)
theorem g__law_delays_kept (T : Txt K mg w) : mg "_law_delays_kept" = some (.ref (He.fAd K ("_law_delays_kept", none))) := He.glo_ok T.X T.G (T.c.t.d.fact 9 rfl)
theorem g_law (T : Txt K mg w) : mg "law" = some (.ref (He.fAd K ("law", none))) := He.glo_ok T.X T.G (T.c.t.d.fact 10 rfl)
theorem n_len (T : Txt K mg w) : mg "len" = none := He.free_ok T.X T.G (T.c.t.d.fact 11 rfl)
theorem n_range (T : Txt K mg w) : mg "range" = none := He.free_ok T.X T.G (T.c.t.d.fact 12 rfl)
theorem n_list (T : Txt K mg w) : mg "list" = none := He.free_ok T.X T.G (T.c.t.d.fact 13 rfl)
theorem n_int (T : Txt K mg w) : mg "int" = none := He.free_ok T.X T.G (T.c.t.d.fact 14 rfl)
theorem n_str (T : Txt K mg w) : mg "str" = none := He.free_ok T.X T.G (T.c.t.d.fact 15 rfl)
theorem n_bool (T : Txt K mg w) : mg "bool" = none := He.free_ok T.X T.G (T.c.t.d.fact 16 rfl)
theorem n_tuple (T : Txt K mg w) : mg "tuple" = none := He.free_ok T.X T.G (T.c.t.d.fact 17 rfl)
theorem n_isinstance (T : Txt K mg w) : mg "isinstance" = none := He.free_ok T.X T.G (T.c.t.d.fact 18 rfl)
theorem n_min (T : Txt K mg w) : mg "min" = none := He.free_ok T.X T.G (T.c.t.d.fact 19 rfl)
theorem n_max (T : Txt K mg w) : mg "max" = none := He.free_ok T.X T.G (T.c.t.d.fact 20 rfl)
theorem g_FIRST (T : Txt K mg w) : mg "FIRST" = some (.ref (He.ga K "FIRST")) := He.glo_ok T.X T.G (T.c.t.d.fact 21 rfl)
theorem kd_FIRST (T : Txt K mg w) : ∃ es n, KDict K w (He.ga K "FIRST") es n := T.c.t.tab 0 rfl
theorem kv_FIRST_ended (T : Txt K mg w) : ∃ u, PySem.W.nsIn K (He.ga K "FIRST") "ended" = some (some u) ∧ RelV (V.int 0) u := He.valsB_ok (q := ("ended", .int 0)) (T.ex 0 rfl) (by simp)
theorem kv_FIRST_running (T : Txt K mg w) : ∃ u, PySem.W.nsIn K (He.ga K "FIRST") "running" = some (some u) ∧ RelV (V.int 1) u := He.valsB_ok (q := ("running", .int 1)) (T.ex 1 rfl) (by simp)
theorem kn_FIRST_waiting (T : Txt K mg w) : PySem.W.nsIn K (He.ga K "FIRST") "waiting" = some none := He.eqO_ok (T.ex 2 rfl)
theorem F_is_over (T : Txt K mg w) : FnIs K "is_over" "is_over" s_is_over (He.fAd K ("is_over", none)) := T.c.t.d.def_ 0 rfl
theorem F_delays (T : Txt K mg w) : FnIs K "delays" "delays" s_delays (He.fAd K ("delays", none)) := T.c.t.d.def_ 1 rfl
theorem F__law_start (T : Txt K mg w) : FnIs K "_law_start" "_law_start" s__law_start (He.fAd K ("_law_start", none)) := T.c.t.d.def_ 2 rfl
theorem F__law_draw (T : Txt K mg w) : FnIs K "_law_draw" "_law_draw" s__law_draw (He.fAd K ("_law_draw", none)) := T.c.t.d.def_ 3 rfl
theorem F__law_is_number (T : Txt K mg w) : FnIs K "_law_is_number" "_law_is_number" s__law_is_number (He.fAd K ("_law_is_number", none)) := T.c.t.d.def_ 4 rfl
theorem F__law_same (T : Txt K mg w) : FnIs K "_law_same" "_law_same" s__law_same (He.fAd K ("_law_same", none)) := T.c.t.d.def_ 5 rfl
theorem F__law_drawn_phase (T : Txt K mg w) : FnIs K "_law_drawn_phase" "_law_drawn_phase" s__law_drawn_phase (He.fAd K ("_law_drawn_phase", none)) := T.c.t.d.def_ 6 rfl
theorem F__law_drawn_targets (T : Txt K mg w) : FnIs K "_law_drawn_targets" "_law_drawn_targets" s__law_drawn_targets (He.fAd K ("_law_drawn_targets", none)) := T.c.t.d.def_ 7 rfl
theorem F__law_is_delay (T : Txt K mg w) : FnIs K "_law_is_delay" "_law_is_delay" s__law_is_delay (He.fAd K ("_law_is_delay", none)) := T.c.t.d.def_ 8 rfl
theorem F__law_delays_kept (T : Txt K mg w) : FnIs K "_law_delays_kept" "_law_delays_kept" s__law_delays_kept (He.fAd K ("_law_delays_kept", none)) := T.c.t.d.def_ 9 rfl
theorem F_law (T : Txt K mg w) : FnIs K "law" "law" s_law (He.fAd K ("law", none)) := T.c.t.d.def_ 10 rfl
end
end Fk
namespace Fk
open PySem PySem.Spec PyProof.Rows L2 Fw
local macro_rules | `(tactic| walk_at "ev") => `(tactic| first
  | exact ev_var rfl
  | exact ev_c
  | exact rv_I0
  | exact rv_eq rfl
  | exact rv_ne rfl
  | exact rv_isN
  | exact rv_notN
  | exact ea_nil
  | exact rc_int
  | exact rv_ixL (by assumption) (by first | assumption | rfl)
  | exact rv_ixT (by assumption) (by first | assumption | rfl)
  | exact rc_len (by assumption)
  | exact rc_lenT (by assumption)
  | exact rv_I (by first | assumption | (constructor <;> decide) | decide)
  | exact rv_I (.inr (by constructor <;> decide))
  | exact ru_U
  | assumption
  | (refine' ev_op ?a ?b ?c; (case a => walk_at "ev"); (case b => walk_at "ev"); (case c => walk_at "ev"))
  | (refine' ea_cons ?a ?b; (case a => walk_at "ev"); (case b => walk_at "ev"))
  | (refine' et_test ?a; (case a => walk_at "ev"))
  | (refine' et_B ?a; (case a => walk_at "ev"))
  | (refine' et_not ?a; (case a => walk_at "ev"))
  | (refine' ev_notV ?a; (case a => walk_at "ev"))
  | (refine' ev_un ?a ?b; (case a => walk_at "ev"); (case b => walk_at "ev"))
  | (refine' ev_cb ?a ?b; (case a => walk_at "ev"); (case b => walk_at "ev"))
  | (refine' et_and ?a (fun hand => ?b); (case a => walk_at "ev"); (case b => walk_at "ev"))
  | (refine' et_or ?a (fun hor => ?b); (case a => walk_at "ev"); (case b => walk_at "ev"))
  | (refine' ev_andV ?a (fun hand => ?b); (case a => walk_at "ev"); (case b => walk_at "ev"))
  | (refine' ev_orV ?a (fun hor => ?b); (case a => walk_at "ev"); (case b => walk_at "ev")))
local macro_rules | `(tactic| walk_at "asg") => `(tactic| (first | (refine' s_asg ?a ?b; (case a => walk_at "ev"); dsimp only [List.set]) | (refine' s_asg1 ?a ?b; (case a => walk_at "ev"); dsimp only [List.set])))
local macro_rules | `(tactic| walk_at "if") => `(tactic| (first | (refine' s_if ?a ?b ?c; (case a => walk_at "ev")) | (refine' s_ifc ?a ?b ?c; (case a => walk_at "ev")) | (refine' s_if1 ?a ?b ?c; (case a => walk_at "ev"))))
local macro_rules | `(tactic| walk_at "ret") => `(tactic| (refine' s_ret ?a ?b; (case a => walk_at "ev")))
local macro_rules | `(tactic| walk_at "setL") => `(tactic| (first | (refine' s_setL ?a ?b ?c ?d ?e ?f ?g; (case a => walk_at "ev"); (case b => walk_at "ev"); (case c => walk_at "ev"); (case d => first | assumption | exact upd_same); (case e => first | rfl | assumption); (case f => first | assumption | exact sx_none); (try rw [upd_upd]); dsimp only [List.set]) | (refine' s_setL1 ?a ?b ?c ?d ?e ?f ?g; (case a => walk_at "ev"); (case b => walk_at "ev"); (case c => walk_at "ev"); (case d => first | assumption | exact upd_same); (case e => first | rfl | assumption); (case f => first | assumption | exact sx_none); (try rw [upd_upd]); dsimp only [List.set])))
section
variable {P : Program} {w : World} {K : PySem.W.Frag} {mg : Str → Option Value} {base : Heap}
/-! is_over -/
def isOver (ts : List Nat) (any : Bool) (ds : List Bool) : Bool := if any then ts.any (fun i => ds.getD i false) else ts.all (fun i => ds.getD i false)
theorem isOver_step {ts : List Nat} {any : Bool} {ds : List Bool} {i t : Nat} (h : ts[i]? = some t) (p : isOver (ts.take i) any ds = !any) :
    isOver (ts.take (i + 1)) any ds = if any then ds.getD t false else ds.getD t false := by
  unfold isOver at p ⊢
  rw [List.take_succ, h]
  cases any <;> simp_all
def sp_is_over (K : PySem.W.Frag) : Sp := fun vs H Q _ => ∃ (a b : Addr) (ts : List Nat) (any : Bool) (ds : List Bool), vs = [.ref a, .bl any, .ref b] ∧ SqL K H a (ts.map fun i : Nat => V.int (i : Int)) ∧ SqL K H b (ds.map V.bl) ∧ (∀ i ∈ ts, i < ds.length) ∧
  ∀ H', Lx none H H' → Q (.bl (isOver ts any ds)) H'
theorem ok_is_over (T : Txt K mg w) : Ok P w K mg base CX0 1 (He.fAd K ("is_over", none)) ["targets", "any_of", "done"] (sp_is_over K) := by
  refine okD (F_is_over T) sc_is_over (fun _ _ _ _ _ _ us hl => match us, hl with | [_, _, _], _ => rfl) (fun vs H Q E h => ?_) (fun cdv A outer s H vs Q E hr h => ?_)
  · obtain ⟨a, b, ts, any, ds, rfl, _⟩ := h; rfl
  · obtain ⟨a, b, ts, any, ds, rfl, ha, hb, hlt, k⟩ := h
    refine ⟨_, (pss_cons (ps_for PassesOwn.never rfl (piLK K rfl (pv 0)) (pg_name (i := 3) sc_is_over.nd rfl (Or.inl rfl))
      (pss_cons (ps_if (PW.pt (pw_and (pt_val (pv 1)) (pw_and1 (pt_val (pe_ix (ixL K rfl) (pv 2) (pv 3) (fun _ _ => rfl))))))
      (pss_one (ps_ret pe_bl))
      pss_nil)
      (pss_one (ps_if (PW.pt (pw_and (pt_not (pt_val (pv 1))) (pw_and1 (pt_not (pt_val (pe_ix (ixL K rfl) (pv 2) (pv 3) (fun _ _ => rfl)))))))
      (pss_one (ps_ret pe_bl))
      pss_nil))))
      (pss_one (ps_ret (pe_not (pv 1))))), ?_⟩
    refine go (K := K) (σ' := [some (.ref a), some (.bl any), some (.ref b), none]) rfl ?_
    refine s_forLn (by walk_at "ev") (LA.of0 ha) (fun i σ' H' => (∃ v, σ' = [some (.ref a), some (.bl any), some (.ref b), v]) ∧ Lx none H H' ∧ isOver (ts.take i) any ds = !any) wf0
      (fun H1 e => ⟨⟨_, rfl⟩, e, by cases any <;> rfl⟩) (fun i σ' H' _ p => (LA.of0 ha).mono p.2.1) ?_ ?_
    · rintro i x σ' H' hi ⟨⟨v, rfl⟩, e, p⟩
      rw [List.getElem?_map] at hi
      obtain ⟨t, ht, rfl⟩ := Option.map_eq_some_iff.mp hi
      have hlen := hlt t (List.mem_of_getElem? ht)
      have hbL := (LA.of0 hb).mono e
      have hat : atI (ds.map V.bl) (t : Int) = some (.bl (ds.getD t false)) := at_of rfl (by rw [List.getElem?_map, List.getElem?_eq_getElem hlen]; simp [List.getD, hlen])
      have step := isOver_step ht p
      dsimp only [List.set]
      walk_at "if"
      · intro hc
        have hc' : any = true ∧ ds.getD t false = true := by simpa using hc
        refine s_ret ev_c fun H1 e1 => ?_
        have z : isOver ts any ds = true := by
          unfold isOver; rw [hc'.1]
          simp only [if_true, List.any_eq_true]
          exact ⟨t, List.mem_of_getElem? ht, hc'.2⟩
        rw [← z]; exact k _ (e.trans e1)
      · intro hc
        refine s_next ?_
        walk_at "if"
        · intro hd
          have hd' : any = false ∧ ds.getD t false = false := by simpa using hd
          refine s_ret ev_c fun H2 e2 => ?_
          have z : isOver ts any ds = false := by
            unfold isOver; rw [hd'.1]
            simp only [Bool.false_eq_true, if_false, List.all_eq_false]
            exact ⟨t, List.mem_of_getElem? ht, by rw [hd'.2]; decide⟩
          rw [← z]; exact k _ (e.trans e2)
        · intro hd
          refine s_nx fun H2 e2 => ⟨⟨_, rfl⟩, e.trans e2, ?_⟩
          rw [step]
          cases any <;> simp_all
    · rintro σ' H' ⟨⟨v, rfl⟩, e, p⟩
      refine s_ret (by walk_at "ev") fun H1 e1 => ?_
      rw [List.length_map, List.take_length] at p
      rw [← p]; exact k _ (e.trans e1)
/-! delays -/
open Dl in
def optV : Option Nat → V
  | none => .non
  | some k => .int (k : Int)
def firstO (x : Str) : Option Nat := if x = "ended" then some 0 else if x = "running" then some 1 else none
structure Tb where
  phs : List Str
  aws : List (List Nat)
  mds : List Bool
def Tb.first (t : Tb) (i : Nat) : Option Nat := (t.phs[i]?).bind firstO
def Tb.aw (t : Tb) (i : Nat) : List Nat := t.aws.getD i []
def Tb.md (t : Tb) (i : Nat) : Bool := t.mds.getD i false
def Tb.N (t : Tb) (c : Nat) : Nat → Option Nat := Dl.N t.first t.aw t.md c
structure Tb.Ok (t : Tb) : Prop where
  l1 : t.aws.length = t.phs.length
  l2 : t.mds.length = t.phs.length
  small : t.phs.length ≤ 100
  word : ∀ x ∈ t.phs, x = "ended" ∨ x = "running" ∨ x = "waiting"
  rng : ∀ ts ∈ t.aws, ∀ u ∈ ts, u < t.phs.length
  short : ∀ ts ∈ t.aws, ts.length ≤ 10
def row (n : Nat) (f : Nat → Option Nat) : List V := (List.range n).map fun u => optV (f u)
theorem row_get {n u : Nat} {f : Nat → Option Nat} (h : u < n) : (row n f)[u]? = some (optV (f u)) := by
  unfold row; rw [List.getElem?_map, List.getElem?_range h]; rfl
theorem row_len {n : Nat} {f : Nat → Option Nat} : (row n f).length = n := by unfold row; rw [List.length_map, List.length_range]
/-- the rows of targets stand in the heap -/
structure RowsAt (K : PySem.W.Frag) (S : Dst) (H : Hp) (b : Addr) (rs : List Addr) (aws : List (List Nat)) : Prop where
  at_ : LA K S H b (rs.map V.ref)
  len : rs.length = aws.length
  each : ∀ (i : Nat) r ts, rs[i]? = some r → aws[i]? = some ts → LA K S H r (ts.map fun u : Nat => V.int (u : Int))
theorem RowsAt.mono {S : Dst} {H H' : Hp} {b : Addr} {rs : List Addr} {aws : List (List Nat)} (h : RowsAt K S H b rs aws) (e : Lx S H H') : RowsAt K S H' b rs aws := ⟨h.at_.mono e, h.len, fun i r ts a c => (h.each i r ts a c).mono e⟩
def sp_delays (K : PySem.W.Frag) : Sp := fun vs H Q _ => ∃ (a b c : Addr) (rs : List Addr) (t : Tb), vs = [.ref a, .ref b, .ref c] ∧ t.Ok ∧ LA K none H a (t.phs.map V.str) ∧ RowsAt K none H b rs t.aws ∧ LA K none H c (t.mds.map V.bl) ∧
  ∀ p H', Lx none H H' → H p = none → H' p = some (.lst (row t.phs.length (t.N (t.phs.length + 1)))) → Q (.ref p) H'
theorem ev_over {ta tb tc : TE} {σ : L2.St} {H : Hp} {E : XK} {a b : Addr} {ts : List Nat} {any : Bool} {ds : List Bool} (ha : Ev K none ta σ H (.ref a)) (hb : Ev K none tb σ H (.bl any)) (hc : Ev K none tc σ H (.ref b))
    (h1 : LA K none H a (ts.map fun i : Nat => V.int (i : Int))) (h2 : LA K none H b (ds.map V.bl)) (h3 : ∀ i ∈ ts, i < ds.length) : Ev K none (tCall (sp_is_over K) [] E (tCons ta (tCons tb (tCons tc tNil)))) σ H (.bl (isOver ts any ds)) :=
  (ex_call (P := fun v _ => v = .bl (isOver ts any ds)) (ea_cons ha (ea_cons hb (ea_cons hc ea_nil))) fun H1 e Q q => ⟨a, b, ts, any, ds, rfl, (h1.mono e).q, (h2.mono e).q, h3, fun H' e2 => q _ _ e2 rfl⟩).ev fun _ _ _ z => z
theorem ev_kget {td ty : TE} {σ : L2.St} {H : Hp} {a : Addr} {z : Str} {r : Option Value} {v : V} (hd : Ev K none td σ H (.ref a)) (hy : Ev K none ty σ H (.str z)) (D : ∃ es n, KDict K w a es n) (hn : PySem.W.nsIn K a z = some r) (hv : RelV v (r.getD .none)) : Ev K none (tKGet K w td ty) σ H v := by
  intro H1 e Q q
  obtain ⟨es, n, D⟩ := D
  exact hd H1 e _ fun H2 e2 => ⟨a, es, n, rfl, D, hy H2 (e.trans e2) _ fun H3 e3 => ⟨z, r, v, rfl, hn, hv, q H3 (e2.trans e3)⟩⟩
def leB (c : Nat) : V → V
  | .int k => .bl (decide (k ≤ (c : Int)))
  | _ => .bl false
theorem leB_opt {c : Nat} {o : Option Nat} : leB c (optV o) = .bl (Dl.leO o c) := by
  cases o with
  | none => rfl
  | some k =>
    show V.bl (decide ((k : Int) ≤ (c : Int))) = V.bl (decide (k ≤ c))
    congr 1
    simp
/-- the turn's list: the first i tasks looked at -/
def mix (t : Tb) (c i : Nat) (u : Nat) : Option Nat := if u < i then t.N (c + 1) u else t.N c u
theorem row_congr {n : Nat} {f g : Nat → Option Nat} (h : ∀ u, u < n → f u = g u) : row n f = row n g := by
  unfold row
  exact List.map_congr_left fun u hu => by rw [h u (List.mem_range.mp hu)]
theorem row_set {n u : Nat} {f : Nat → Option Nat} {o : Option Nat} : (row n f).set u (optV o) = row n fun x => if x = u then o else f x := by
  apply List.ext_getElem?
  intro i
  by_cases h : i < n
  · rw [row_get h]
    by_cases e : u = i
    · subst e
      rw [List.getElem?_set_self (by rw [row_len]; exact h), if_pos rfl]
    · rw [List.getElem?_set_ne e, row_get h, if_neg (fun z => e z.symm)]
  · rw [List.getElem?_eq_none (by rw [List.length_set, row_len]; omega), List.getElem?_eq_none (by rw [row_len]; omega)]
theorem ok_delays (T : Txt K mg w) : Ok P w K mg base CX0 2 (He.fAd K ("delays", none)) ["phases", "awaited", "modes"] (sp_delays K) := by
  refine okD (F_delays T) sc_delays (fun _ _ _ _ _ _ us hl => match us, hl with | [_, _, _], _ => rfl) (fun vs H Q E h => ?_) (fun cdv A outer s H vs Q E hr h => ?_)
  · obtain ⟨a, b, c, rs, t, rfl, _⟩ := h; rfl
  · obtain ⟨a, b, c, rs, t, rfl, ok, ha, hb, hc, k⟩ := h
    refine ⟨_, (pss_cons (ps_setLc (i := 3) (own := [("phase", 4)]) (by rfl) sc_delays.nd rfl rfl (sw_true rfl rfl rfl (by decide +kernel)) (piLK K rfl (pv 0)) (blkOk_by (own := [("phase", 4)]) (N := ["phases", "awaited", "modes", "numbers", "phase", "count", "done", "number", "task"]) (sc := defScope s_delays) (by decide +kernel)) (fun _ _ _ _ _ => by exact (pg_name (i := 4) sc_delays.nd rfl (Or.inl rfl))) (fun _ _ _ _ _ => by exact pts_nil) (fun _ _ _ _ _ => by exact (pe_kget K rfl rfl (pe_glob (v := V.ref (He.ga K "FIRST")) rfl (g_FIRST T) rfl) (pv 4) ⟨by rfl, by rfl, by rfl, by rfl⟩)))
      (pss_cons (ps_for PassesOwn.never rfl (pi_range1 (by rfl) (n_range T) (pa_cons (pe_op op_add (pe_callB (lenK K rfl) (by rfl) (n_len T) (by decide +kernel) (pa_cons (pv 0) pa_nil)) pe_int) pa_nil)) (pg_name (i := 5) sc_delays.nd rfl (Or.inr rfl))
      (pss_cons (ps_setLc (i := 6) (own := [("number", 7)]) (by rfl) sc_delays.nd rfl rfl (sw_true rfl rfl rfl (by decide +kernel)) (piLK K rfl (pv 3)) (blkOk_by (own := [("number", 7)]) (N := ["phases", "awaited", "modes", "numbers", "phase", "count", "done", "number", "task"]) (sc := defScope s_delays) (by decide +kernel)) (fun _ _ _ _ _ => by exact (pg_name (i := 7) sc_delays.nd rfl (Or.inl rfl))) (fun _ _ _ _ _ => by exact pts_nil) (fun _ _ _ _ _ => by exact (pe_and (pe_cmpR op_notN (pv 7) pe_non (nomark _)) (pe_one (pe_cmpR op_le (pv 7) (pv 5) (nomark _))))))
      (pss_one (ps_for PassesOwn.never rfl (pi_range1 (by rfl) (n_range T) (pa_cons (pe_callB (lenK K rfl) (by rfl) (n_len T) (by decide +kernel) (pa_cons (pv 0) pa_nil)) pa_nil)) (pg_name (i := 8) sc_delays.nd rfl (Or.inl rfl))
      (pss_one (ps_if (PW.pt (pw_and (pt_cmpR op_isN (pe_ix (ixL K rfl) (pv 3) (pv 8) (fun _ _ => rfl)) pe_non (nomark _)) (pw_and1 (pt_val (pe_callO (ok_is_over T) (hr.mono (by first | decide | omega)) rfl (g_is_over T) pass0 (pa_cons (pe_ix (ixL K rfl) (pv 1) (pv 8) (fun _ _ => rfl)) (pa_cons (pe_ix (ixL K rfl) (pv 2) (pv 8) (fun _ _ => rfl)) (pa_cons (pv 6) pa_nil))))))))
      (pss_one (ps_asg (pe_op op_add (pv 5) pe_int) (pg_sub (pv 3) (pv 8) set_list)))
      pss_nil))))))
      (pss_one (ps_ret (pv 3))))), ?_⟩
    refine go (K := K) (σ' := [some (.ref a), some (.ref b), some (.ref c), none, none, none, none, none, none]) rfl ?_
    -- numbers = [FIRST.get(phase) for phase in phases]
    refine s_asgX (ex_map (fun v => match v with | .str x => optV (firstO x) | _ => .non) (ev_var rfl) ha (by rw [List.length_map]; have := ok.small; have := sizeLine_eq; omega) (fun _ => rfl) (fun x hx => ?_)) ?_
    · obtain ⟨y, hy, rfl⟩ := List.mem_map.mp hx
      rcases ok.word y hy with rfl | rfl | rfl
      · obtain ⟨u, e1, e2⟩ := kv_FIRST_ended T
        exact ev_kget ev_c (ev_var rfl) (kd_FIRST T) e1 e2
      · obtain ⟨u, e1, e2⟩ := kv_FIRST_running T
        exact ev_kget ev_c (ev_var rfl) (kd_FIRST T) e1 e2
      · exact ev_kget ev_c (ev_var rfl) (kd_FIRST T) (kn_FIRST_waiting T) rfl
    · rintro v H1 e1 ⟨p, rfl, hp0, _, hp1⟩
      have r0 : ((t.phs.map V.str).map fun v => match v with | .str x => optV (firstO x) | _ => .non) = row t.phs.length (t.N 0) := by
        apply List.ext_getElem?
        intro i
        by_cases h : i < t.phs.length
        · rw [row_get h, List.getElem?_map, List.getElem?_map, List.getElem?_eq_getElem h]
          show some (optV (firstO t.phs[i])) = some (optV (t.first i))
          unfold Tb.first
          rw [List.getElem?_eq_getElem h]; rfl
        · rw [List.getElem?_eq_none (by simp; omega), List.getElem?_eq_none (by rw [row_len]; omega)]
      rw [r0] at hp1
      dsimp only [List.set]
      -- for count in range(len(phases) + 1)
      refine s_forRn (n := ((t.phs.map V.str).length : Int) + 1) (ea_cons (ev_op (ev_cb (ea_cons (ev_var rfl) ea_nil) (rc_len (ha.mono e1))) ev_c rv_I0) ea_nil) ⟨by rw [List.length_map]; have := ok.small; omega, by omega⟩
        (fun i σ' H' => (∃ v4 v5 v6 v7 v8, σ' = [some (.ref a), some (.ref b), some (.ref c), some (.ref p), v4, v5, v6, v7, v8]) ∧ Lx none H H' ∧ H' p = some (.lst (row t.phs.length (t.N i)))) wf0
        (fun H2 e2 => ⟨⟨_, _, _, _, _, rfl⟩, e1.trans e2, e2.1 _ _ sx_none hp1⟩) ?_ ?_
      · rintro i σ' H2 hi ⟨⟨v4, v5, v6, v7, v8, rfl⟩, e2, hp2⟩
        dsimp only [List.set]
        -- done
        refine s_asgX (ex_map (leB i) (ev_var rfl) (LA.of hp2 sx_none) (by rw [row_len]; have := ok.small; have := sizeLine_eq; omega) (fun _ => rfl) (fun x hx => ?_)) ?_
        · obtain ⟨u, _, rfl⟩ := List.mem_map.mp hx
          cases t.N i u with
          | none => exact ev_andV (b := false) (c := false) (ev_op (ev_var rfl) ev_c rv_notN) fun z => nomatch z
          | some m => exact ev_andV (b := true) (ev_op (ev_var rfl) ev_c rv_notN) fun _ => ev_op (ev_var rfl) (ev_var rfl) rv_I0
        · rintro v H3 e3 ⟨d, rfl, hd0, _, hd1⟩
          dsimp only [List.set]
          have hd2 : (row t.phs.length (t.N i)).map (leB i) = ((List.range t.phs.length).map fun u => Dl.leO (t.N i u) i).map V.bl := by
            unfold row
            rw [List.map_map, List.map_map]
            exact List.map_congr_left fun u _ => leB_opt
          rw [hd2] at hd1
          have npd : d ≠ p := fun z => by rw [z, hp2] at hd0; cases hd0
          -- for task in range(len(phases))
          refine s_forRn1 (n := ((t.phs.map V.str).length : Int)) (ea_cons (ev_cb (ea_cons (ev_var rfl) ea_nil) (rc_len (ha.mono (e2.trans e3)))) ea_nil) ⟨by rw [List.length_map]; have := ok.small; omega, by omega⟩
            (fun j σ' H' => (∃ v8, σ' = [some (.ref a), some (.ref b), some (.ref c), some (.ref p), v4, some (.int (i : Int)), some (.ref d), v7, v8]) ∧ Lx none H H' ∧ H' p = some (.lst (row t.phs.length (mix t i j))) ∧ H' d = some (.lst (((List.range t.phs.length).map fun u => Dl.leO (t.N i u) i).map V.bl))) wf0
            (fun H4 e4 => ⟨⟨_, rfl⟩, (e2.trans e3).trans e4, by rw [e4.1 _ _ sx_none (e3.1 _ _ sx_none hp2), show row t.phs.length (mix t i 0) = row t.phs.length (t.N i) from row_congr fun u hu => by unfold mix; rw [if_neg (by omega)]], e4.1 _ _ sx_none hd1⟩) ?_ ?_
          · rintro j σ' H4 hj ⟨⟨v8, rfl⟩, e4, hp4, hd4⟩
            dsimp only [List.set]
            rw [List.length_map] at hj
            have hj : j < t.phs.length := by omega
            have hjr : j < rs.length := by rw [hb.len, ok.l1]; exact hj
            have hja : j < t.aws.length := by rw [ok.l1]; exact hj
            obtain ⟨r, hr⟩ : ∃ r, rs[j]? = some r := ⟨_, List.getElem?_eq_getElem hjr⟩
            obtain ⟨ts, hts⟩ : ∃ ts, t.aws[j]? = some ts := ⟨_, List.getElem?_eq_getElem hja⟩
            have eaw : t.aw j = ts := by unfold Tb.aw; rw [List.getD_eq_getElem?_getD, hts] <;> rfl
            have hmd : j < t.mds.length := by rw [ok.l2]; exact hj
            have emd : t.mds[j]? = some (t.md j) := by unfold Tb.md; rw [List.getD_eq_getElem?_getD, List.getElem?_eq_getElem hmd] <;> rfl
            have hP := LA.of (K := K) hp4 (sx_none)
            have hB := hb.mono e4
            have i1 : atI (row t.phs.length (mix t i j)) (j : Int) = some (optV (mix t i j j)) := at_of rfl (row_get hj)
            have i2 : atI (rs.map V.ref) (j : Int) = some (.ref r) := at_of rfl (by rw [List.getElem?_map, hr]; rfl)
            have i3 : atI (t.mds.map V.bl) (j : Int) = some (.bl (t.md j)) := at_of rfl (by rw [List.getElem?_map, emd]; rfl)
            have mj : mix t i j j = t.N i j := by unfold mix; rw [if_neg (by omega)]
            have ovE : isOver ts (t.md j) ((List.range t.phs.length).map fun u => Dl.leO (t.N i u) i) = Dl.ov t.aw t.md i (t.N i) j := by
              unfold Dl.ov Dl.over isOver
              rw [eaw]
              have g : ∀ u ∈ ts, ((List.range t.phs.length).map fun u => Dl.leO (t.N i u) i).getD u false = Dl.leO (t.N i u) i := fun u hu => by
                have := ok.rng ts (List.mem_of_getElem? hts) u hu
                rw [List.getD_eq_getElem?_getD, List.getElem?_map, List.getElem?_range this]; rfl
              cases t.md j with
              | true =>
                simp only [if_true]
                rw [Bool.eq_iff_iff, List.any_eq_true, List.any_eq_true]
                exact ⟨fun ⟨u, x, y⟩ => ⟨u, x, by rw [← g u x]; exact y⟩, fun ⟨u, x, y⟩ => ⟨u, x, by rw [g u x]; exact y⟩⟩
              | false =>
                simp only [Bool.false_eq_true, if_false]
                rw [Bool.eq_iff_iff, List.all_eq_true, List.all_eq_true]
                exact ⟨fun x u y => by rw [← g u y]; exact x u y, fun x u y => by rw [g u y]; exact x u y⟩
            have nx : ∀ u, mix t i (j + 1) u = if u = j then Dl.step t.aw t.md i (t.N i) j else mix t i j u := fun u => by
              unfold mix
              by_cases h1 : u = j
              · subst h1
                rw [if_pos (by omega), if_pos rfl]; rfl
              · by_cases h2 : u < j
                · rw [if_pos (by omega), if_neg h1, if_pos h2]
                · rw [if_neg (by omega), if_neg h1, if_neg h2]
            refine s_if1 (et_and (et_test (ev_op (ev_op (ev_var rfl) (ev_var rfl) (rv_ixL hP i1)) ev_c rv_isN)) fun _ => et_B (ev_over (ts := ts) (any := t.md j) (ds := (List.range t.phs.length).map fun u => Dl.leO (t.N i u) i) (ev_op (ev_var rfl) (ev_var rfl) (rv_ixL hB.at_ i2)) (ev_op (ev_var rfl) (ev_var rfl) (rv_ixL (hc.mono e4) i3)) (ev_var rfl) (hB.each j r ts hr hts) (LA.of hd4 sx_none)
              (fun u hu => by rw [List.length_map, List.length_range]; exact ok.rng ts (List.mem_of_getElem? hts) u hu))) (fun hyes => ?_) (fun hno => ?_)
            · rw [mj, ovE] at hyes
              obtain ⟨y1, y2⟩ := Bool.and_eq_true_iff.mp hyes
              have y3 : t.N i j = none := by
                cases q : t.N i j with
                | none => rfl
                | some m => rw [q] at y1; cases (of_decide_eq_true y1 : V.int (m : Int) = V.non)
              refine s_setL1 (n := j) (ev_op (ev_var rfl) ev_c rv_I0) (ev_var rfl) (ev_var rfl) hp4 (by rw [row_len]; unfold ixN; rw [if_pos (by omega), if_pos (by omega)]; simp) sx_none fun H5 e5 => ⟨⟨_, rfl⟩, ⟨fun b o _ eb => ?_, fun _ z => nomatch z⟩, ?_, ?_⟩
              · have nb : b ≠ p := fun z => by rw [z, hp0] at eb; cases eb
                exact e5.1 _ _ sx_none (by rw [upd_ne nb]; exact e4.1 _ _ sx_none eb)
              · rw [e5.1 _ _ sx_none upd_same]
                congr 2
                have z : V.int ((i : Int) + 1) = optV (some (i + 1)) := by show V.int _ = V.int _; congr 1
                rw [z, row_set]
                exact row_congr fun u _ => by
                  rw [nx u]
                  by_cases h1 : u = j
                  · rw [if_pos h1, if_pos h1]; unfold Dl.step; rw [y3, y2]; rfl
                  · rw [if_neg h1, if_neg h1]
              · exact e5.1 _ _ sx_none (by rw [upd_ne npd]; exact hd4)
            · rw [mj, ovE] at hno
              refine s_nx fun H5 e5 => ⟨⟨_, rfl⟩, e4.trans e5, ?_, e5.1 _ _ sx_none hd4⟩
              rw [e5.1 _ _ sx_none hp4]
              congr 2
              exact row_congr fun u _ => by
                rw [nx u]
                by_cases h1 : u = j
                · subst h1
                  rw [if_pos rfl, mj]
                  unfold Dl.step
                  cases q : t.N i u with
                  | some m => rfl
                  | none =>
                    rw [q] at hno
                    have : Dl.ov t.aw t.md i (t.N i) u = false := by simpa [optV] using hno
                    rw [this]; rfl
                · rw [if_neg h1]
          · rintro σ' H4 ⟨⟨v8, rfl⟩, e4, hp4, _⟩
            refine ⟨⟨_, _, _, _, _, rfl⟩, e4, ?_⟩
            rw [hp4]
            congr 2
            exact row_congr fun u hu => by unfold mix; rw [if_pos (by rw [List.length_map]; omega)]
      · rintro σ' H2 ⟨⟨v4, v5, v6, v7, v8, rfl⟩, e2, hp2⟩
        refine s_ret (ev_var rfl) fun H3 e3 => k p H3 (e2.trans e3) hp0 ?_
        rw [List.length_map, show ((t.phs.length : Int) + 1).toNat = t.phs.length + 1 by omega] at hp2
        exact e3.1 _ _ sx_none hp2
/-! _law_start -/
theorem ok__law_start (T : Txt K mg w) : Ok P w K mg base CX0 1 (He.fAd K ("_law_start", none)) ["script"] (sp_start K) := by
  refine okD (F__law_start T) sc__law_start (fun _ _ _ _ _ _ us hl => match us, hl with | [_], _ => rfl) (fun vs H Q E h => ?_) (fun cdv A outer s H vs Q E hr h => ?_)
  · obtain ⟨a, ns, rfl, _⟩ := h; rfl
  · obtain ⟨a, ns, rfl, hS, k⟩ := h
    refine ⟨_, (pss_one (ps_ret (pe_lst (pa_cons (pe_callTy (listK K rfl) (by rfl) (n_list T) (by decide +kernel) (pa_cons (pv 0) pa_nil)) (pa_cons pe_int (pa_cons pe_int (pa_cons pe_int (pa_cons pe_int pa_nil)))))))), ?_⟩
    refine go (K := K) (σ' := [some (.ref a)]) rfl ?_
    refine s_retX (ex_lstX (PA := fun vs H2 => ∃ l, vs = [.ref l, .int 0, .int 0, .int 0, .int 0] ∧ H l = none ∧ H2 l = some (.lst (ns.map V.int))) ?_ ?_) ?_
    · refine eax_cons (ex_cb (ea_cons (ev_var rfl) ea_nil) (rc_list (LA.of0 hS))) ?_
      rintro v H1 e ⟨l, rfl, hl, _, hl1⟩
      exact (EvA.toX (vs := [.int 0, .int 0, .int 0, .int 0]) (by walk_at "ev")).imp fun vs H2 e2 q => ⟨l, by rw [q], hl, (e2.1 _ _ sx_none hl1)⟩
    · rintro vs H2 ⟨l, rfl, _⟩
      show 5 ≤ sizeLine
      decide
    · rintro v H1 e ⟨vs, H3, ⟨l, rfl, hl, hl1⟩, e3, e4, p, rfl, hp, _, hp1⟩
      exact k p l H1 hp hl e.same ⟨ns, 0, 0, 0, 0, hp1, by decide, e4.1 _ _ sx_none hl1⟩
/-! _law_draw -/
theorem ok__law_draw (T : Txt K mg w) : Ok P w K mg base CX0 1 (He.fAd K ("_law_draw", none)) ["state", "many"] (sp_draw) := by
  refine okD (F__law_draw T) sc__law_draw (fun _ _ _ _ _ _ us hl => match us, hl with | [_, _], _ => rfl) (fun vs H Q E h => ?_) (fun cdv A outer s H vs Q E hr h => ?_)
  · obtain ⟨st, l, m, rfl, _⟩ := h; rfl
  · obtain ⟨st, l, m, rfl, m0, m1, ⟨ns, p, c, n, b, hst, hp0, hl⟩, k⟩ := h
    have nl : ∀ (H' : Hp) (p c n b : Int), H' st = some (.lst [.ref l, .int p, .int c, .int n, .int b]) → H' l = some (.lst (ns.map V.int)) → l ≠ st := fun H' p c n b h1 h2 z => by
      subst z
      rw [h1] at h2
      have z2 := congrArg (fun o => match o with | some (HO.lst (x :: _)) => x | _ => .non) h2
      cases ns with
      | nil => exact nomatch z2
      | cons y r => exact nomatch z2
    have nls := nl H p c n b hst hl
    -- what holds all the while
    let D5 : Hp → Int → Int → Int → Int → Prop := fun H' p c n b => H' st = some (.lst [.ref l, .int p, .int c, .int n, .int b]) ∧ 0 ≤ p ∧ H' l = some (.lst (ns.map V.int)) ∧ ∀ b o, b ≠ st → H b = some o → H' b = some o
    have d0 : D5 H p c n b := ⟨hst, hp0, hl, fun _ _ _ e => e⟩
    have dx : ∀ {H1 H2 p c n b}, D5 H1 p c n b → Lx none H1 H2 → D5 H2 p c n b := fun d e => ⟨e.1 _ _ sx_none d.1, d.2.1, e.1 _ _ sx_none d.2.2.1, fun b o nb eb => e.1 _ _ sx_none (d.2.2.2 b o nb eb)⟩
    have du : ∀ {H1 p c n b} (p' c' n' b' : Int), D5 H1 p c n b → 0 ≤ p' → D5 (upd H1 st (.lst [.ref l, .int p', .int c', .int n', .int b'])) p' c' n' b' := fun p' c' n' b' d h => ⟨upd_same, h, by rw [upd_ne nls]; exact d.2.2.1, fun b o nb eb => by rw [upd_ne nb]; exact d.2.2.2 b o nb eb⟩
    have fin : ∀ (r p c n b : Int) H1, 0 ≤ r → r < m → D5 H1 p c n b → Q (.int r) H1 := fun r p c n b H1 r0 r1 d => k r H1 r0 r1 ⟨ns, p, c, n, b, d.1, d.2.1, d.2.2.1⟩ d.2.2.2
    have LS : ∀ {H1 p c n b}, D5 H1 p c n b → LA K none H1 st [.ref l, .int p, .int c, .int n, .int b] := fun d => LA.of d.1 sx_none
    have LN : ∀ {H1 p c n b}, D5 H1 p c n b → LA K none H1 l (ns.map V.int) := fun d => LA.of d.2.2.1 sx_none
    have mpos : ∀ i : Int, 0 ≤ i % m ∧ i % m < m := fun i => ⟨Int.emod_nonneg _ (by omega), Int.emod_lt_of_pos _ m0⟩
    refine ⟨_, (Evl.pss_cut (ps_if (pt_cmpR op_eq (pe_ix (ixL K rfl) (pv 0) pe_int (fun _ _ => rfl)) pe_int (nomark _))
      (pss_cons (ps_if (pt_cmpR op_ge (pe_ix (ixL K rfl) (pv 0) pe_int (fun _ _ => rfl)) (pe_callB (lenK K rfl) (by rfl) (n_len T) (by decide +kernel) (pa_cons (pe_ix (ixL K rfl) (pv 0) pe_int (fun _ _ => rfl)) pa_nil)) (nomark _))
      (pss_one (ps_ret pe_int))
      pss_nil)
      (pss_cons (ps_asg (pe_ix (ixL K rfl) (pe_ix (ixL K rfl) (pv 0) pe_int (fun _ _ => rfl)) (pe_ix (ixL K rfl) (pv 0) pe_int (fun _ _ => rfl)) (fun _ _ => rfl)) (pg_sub (pv 0) pe_int set_list))
      (pss_cons (ps_asg (pe_op op_add (pe_ix (ixL K rfl) (pv 0) pe_int (fun _ _ => rfl)) pe_int) (pg_sub (pv 0) pe_int set_list))
      (pss_cons (ps_asg pe_int (pg_sub (pv 0) pe_int set_list))
      (pss_cons (ps_asg pe_int (pg_sub (pv 0) pe_int set_list))
      (pss_one (ps_if (pt_cmpR op_ge (pe_ix (ixL K rfl) (pv 0) pe_int (fun _ _ => rfl)) (pe_op op_pow pe_int pe_int) (nomark _))
      (pss_cons (ps_asg pe_int (pg_sub (pv 0) pe_int set_list))
      (pss_one (ps_asg pe_int (pg_sub (pv 0) pe_int set_list))))
      pss_nil)))))))
      pss_nil)
      (pss_cons (ps_asg (pe_op op_sub (pe_ix (ixL K rfl) (pv 0) pe_int (fun _ _ => rfl)) pe_int) (pg_sub (pv 0) pe_int set_list))
      (pss_cons (ps_if (pt_cmpR op_eq (pe_ix (ixL K rfl) (pv 0) pe_int (fun _ _ => rfl)) pe_int (nomark _))
      (pss_cons (ps_set (i := 2) sc__law_draw.nd rfl (Or.inl rfl) (pe_op op_mod (pe_callTy callInt (by rfl) (n_int T) (by decide +kernel) (pa_cons (pe_ix (ixL K rfl) (pv 0) pe_int (fun _ _ => rfl)) pa_nil)) (pv 1)))
      (pss_cons (ps_asg (pe_op op_fdiv (pe_callTy callInt (by rfl) (n_int T) (by decide +kernel) (pa_cons (pe_ix (ixL K rfl) (pv 0) pe_int (fun _ _ => rfl)) pa_nil)) (pv 1)) (pg_sub (pv 0) pe_int set_list))
      (Evl.pss_cut (ps_if (pt_cmpR op_eq (pe_ix (ixL K rfl) (pv 0) pe_int (fun _ _ => rfl)) pe_int (nomark _))
      (pss_one (ps_asg pe_int (pg_sub (pv 0) pe_int set_list)))
      pss_nil)
      (pss_one (ps_ret (pv 2))))))
      pss_nil)
      (pss_cons (ps_set (i := 3) sc__law_draw.nd rfl (Or.inl rfl) (pe_op op_mod (pe_callTy callInt (by rfl) (n_int T) (by decide +kernel) (pa_cons (pe_op op_add (pe_op op_add (pe_op op_mul (pe_ix (ixL K rfl) (pv 0) pe_int (fun _ _ => rfl)) pe_int) (pe_op op_mul (pe_ix (ixL K rfl) (pv 0) pe_int (fun _ _ => rfl)) pe_int)) pe_int) pa_nil)) pe_int))
      (pss_cons (ps_set (i := 3) sc__law_draw.nd rfl (Or.inl rfl) (pe_op op_mod (pe_callTy callInt (by rfl) (n_int T) (by decide +kernel) (pa_cons (pe_op op_add (pe_op op_add (pe_op op_mul (pv 3) pe_int) (pe_op op_fdiv (pv 3) pe_int)) pe_int) pa_nil)) pe_int))
      (pss_one (ps_ret (pe_op op_mod (pe_callTy callInt (by rfl) (n_int T) (by decide +kernel) (pa_cons (pv 3) pa_nil)) (pv 1))))))))), ?_⟩
    refine go (K := K) (σ' := [some (.ref st), some (.int m), none, none]) rfl ?_
    have L1 := LS d0
    have L1n := LN d0
    refine s_ifJ (fun σ' H' => σ' = [some (.ref st), some (.int m), none, none] ∧ ∃ p c n b, D5 H' p c n b) (fun _ _ _ => Lx.rfl0) (by walk_at "ev") (fun _ => ?_) (fun _ => s_nx fun H1 e => ⟨rfl, _, _, _, _, dx d0 e⟩) ?_
    · walk_at "if"
      · intro _
        exact s_ret ev_c fun H1 e => fin 0 _ _ _ _ H1 (by omega) m0 (dx d0 e)
      · intro hlt
        refine s_next ?_
        have hlt' : p < (ns.length : Int) := by
          have z := of_decide_eq_false hlt
          simp only [List.length_map] at z
          omega
        obtain ⟨y, hy⟩ : ∃ y, ns[p.toNat]? = some y := ⟨_, List.getElem?_eq_getElem (by omega)⟩
        have hat : atI (ns.map V.int) p = some (.int y) := at_of (j := p.toNat) (by omega) (by rw [List.getElem?_map, hy]; rfl)
        refine s_setL (v := .int y) (ev_op (ev_op (by walk_at "ev") ev_c (rv_ixL L1 rfl)) (ev_op (by walk_at "ev") ev_c (rv_ixL L1 rfl)) (rv_ixL L1n hat)) (by walk_at "ev") (by walk_at "ev") d0.1 rfl sx_none ?_
        try dsimp only [List.set]
        have d1 := du p y n b d0 hp0
        have L2' := LS d1
        refine s_setL (ev_op (ev_op (ev_var rfl) ev_c (rv_ixL L2' rfl)) ev_c rv_I0) (by walk_at "ev") (by walk_at "ev") d1.1 rfl sx_none ?_
        try dsimp only [List.set]
        have d2 := du (p + 1) y n b d1 (by omega)
        refine s_setL (by walk_at "ev") (by walk_at "ev") (by walk_at "ev") d2.1 rfl sx_none ?_
        try dsimp only [List.set]
        have d3 := du (p + 1) y 10 b d2 (by omega)
        refine s_setL (by walk_at "ev") (by walk_at "ev") (by walk_at "ev") d3.1 rfl sx_none ?_
        try dsimp only [List.set]
        have d4 := du (p + 1) y 10 0 d3 (by omega)
        have L4 := LS d4
        refine s_if1 (et_test (ev_op (ev_op (ev_var rfl) ev_c (rv_ixL L4 rfl)) (ev_op ev_c ev_c (rv_I ⟨by decide, by decide, by decide⟩)) rv_I0)) (fun _ => ?_) (fun _ => s_nx fun H1 e => ⟨rfl, _, _, _, _, dx d4 e⟩)
        refine s_setL (by walk_at "ev") (by walk_at "ev") (by walk_at "ev") d4.1 rfl sx_none ?_
        have d5 := du (p + 1) y 60 0 d4 (by omega)
        refine s_setL1 (by walk_at "ev") (by walk_at "ev") (by walk_at "ev") d5.1 rfl sx_none fun H1 e => ?_
        exact ⟨rfl, _, _, _, _, dx (du (p + 1) y 60 1 d5 (by omega)) e⟩
    · clear L1 L1n d0 hl hst
      rintro σ' H' ⟨rfl, p, c, n, b, d0⟩
      have L1 := LS d0
      refine s_setL (ev_op (ev_op (ev_var rfl) ev_c (rv_ixL L1 rfl)) ev_c rv_I0) (by walk_at "ev") (by walk_at "ev") d0.1 rfl sx_none ?_
      try dsimp only [List.set]
      have d1 := du p c (n - 1) b d0 d0.2.1
      have L1 := LS d1
      refine s_if (et_test (ev_op (ev_op (ev_var rfl) ev_c (rv_ixL L1 rfl)) ev_c (rv_eq rfl))) (fun _ => ?_) (fun _ => s_next ?_)
      · refine s_asg (ev_op (ev_cb (ea_cons (ev_op (ev_var rfl) ev_c (rv_ixL L1 rfl)) ea_nil) rc_int) (ev_var rfl) (rv_I m0)) ?_
        try dsimp only [List.set]
        refine s_setL (ev_op (ev_cb (ea_cons (ev_op (ev_var rfl) ev_c (rv_ixL L1 rfl)) ea_nil) rc_int) (ev_var rfl) (rv_I ⟨m0, m1⟩)) (by walk_at "ev") (by walk_at "ev") d1.1 rfl sx_none ?_
        try dsimp only [List.set]
        have d2 := du p (c / m) (n - 1) b d1 d1.2.1
        have L3 := LS d2
        refine s_ifJ (fun σ' H' => σ' = [some (.ref st), some (.int m), some (.int (c % m)), none] ∧ ∃ p c n b, D5 H' p c n b) (fun _ _ _ => Lx.rfl0) (et_test (ev_op (ev_op (ev_var rfl) ev_c (rv_ixL L3 rfl)) ev_c (rv_eq rfl))) (fun _ => ?_) (fun _ => s_nx fun H1 e => ⟨rfl, _, _, _, _, dx d2 e⟩) ?_
        · refine s_setL1 (by walk_at "ev") (by walk_at "ev") (by walk_at "ev") d2.1 rfl sx_none fun H1 e => ?_
          exact ⟨rfl, _, _, _, _, dx (du _ _ _ _ d2 d2.2.1) e⟩
        · rintro σ' H' ⟨rfl, _, _, _, _, d3⟩
          exact s_ret (ev_var rfl) fun H1 e => fin _ _ _ _ _ H1 (mpos _).1 (mpos _).2 (dx d3 e)
      · refine s_asg (ev_op (ev_cb (ea_cons (ev_op (ev_op (ev_op (ev_op (ev_var rfl) ev_c (rv_ixL L1 rfl)) ev_c (rv_I (.inr (by decide)))) (ev_op (ev_op (ev_var rfl) ev_c (rv_ixL L1 rfl)) ev_c (rv_I (.inr (by decide)))) rv_I0) ev_c rv_I0) ea_nil) rc_int) ev_c (rv_I (by decide))) ?_
        try dsimp only [List.set]
        refine s_asg (ev_op (ev_cb (ea_cons (ev_op (ev_op (ev_op (ev_var rfl) ev_c (rv_I (.inr (by decide)))) (ev_op (ev_var rfl) ev_c (rv_I ⟨by decide, by decide⟩)) rv_I0) ev_c rv_I0) ea_nil) rc_int) ev_c (rv_I (by decide))) ?_
        try dsimp only [List.set]
        exact s_ret (ev_op (ev_cb (ea_cons (ev_var rfl) ea_nil) rc_int) (ev_var rfl) (rv_I m0)) fun H2 e2 => fin _ _ _ _ _ H2 (mpos _).1 (mpos _).2 (dx d1 e2)
/-! _law_is_number -/
theorem ok__law_is_number (T : Txt K mg w) : Ok P w K mg base CX0 1 (He.fAd K ("_law_is_number", none)) ["actual"] (sp_isnum) := by
  refine okD (F__law_is_number T) sc__law_is_number (fun _ _ _ _ _ _ us hl => match us, hl with | [_], _ => rfl) (fun vs H Q E h => ?_) (fun cdv A outer s H vs Q E hr h => ?_)
  · obtain ⟨x, d, rfl, _⟩ := h; rfl
  · obtain ⟨x, d, rfl, r, k⟩ := h
    refine ⟨_, (pss_one (ps_ret (pe_and (pe_callB (isiK K rfl) (by rfl) (n_isinstance T) (by decide +kernel) (pa_cons (pv 0) (pa_cons (pe_bltn (v := .ty "int") (by rfl) (n_int T) (by decide +kernel) rfl) pa_nil))) (pe_one (pe_not (pe_callB (isiK K rfl) (by rfl) (n_isinstance T) (by decide +kernel) (pa_cons (pv 0) (pa_cons (pe_bltn (v := .ty "bool") (by rfl) (n_bool T) (by decide +kernel) rfl) pa_nil)))))))), ?_⟩
    refine go (K := K) (σ' := [some x]) rfl ?_
    have key : ∃ a b, kitB (tyD d) "int" = some a ∧ kitB (tyD d) "bool" = some b ∧ (a && !b) = isNumD d := by
      cases d with
      | none => exact ⟨false, false, kD "NoneType" rfl (by decide +kernel), kD "NoneType" rfl (by decide +kernel), rfl⟩
      | bool _ => exact ⟨true, true, kD "bool" rfl (by decide +kernel), kD "bool" rfl (by decide +kernel), rfl⟩
      | int _ => exact ⟨true, false, kD "int" rfl (by decide +kernel), kD "int" rfl (by decide +kernel), rfl⟩
      | str _ => exact ⟨false, false, kD "str" rfl (by decide +kernel), kD "str" rfl (by decide +kernel), rfl⟩
      | list _ => exact ⟨false, false, kD "list" rfl (by decide +kernel), kD "list" rfl (by decide +kernel), rfl⟩
      | tuple _ => exact ⟨false, false, kD "tuple" rfl (by decide +kernel), kD "tuple" rfl (by decide +kernel), rfl⟩
      | dict _ => cases r
    obtain ⟨a, b, ka, kb, e⟩ := key
    refine s_ret (ev_andV (ev_isi (ev_var rfl) r ka) fun _ => ev_notV (ev_isi (ev_var rfl) r kb)) fun H1 e1 => ?_
    rw [e]
    exact k _ e1
/-! _law_same -/
/-- the reading of the walk over the items -/
theorem same_loop {Q : VK} {H H' : Hp} {a b : Addr} {xs ys : List V} {ds : List PyData} {n : Nat} (hd : PyData.depthAll ds < n) (h4 : RpAll none H xs ds) (g4 : RpAll none H ys ds)
    (hx : (H a = some (.lst xs) ∧ H b = some (.lst ys)) ∨ (H a = some (.tup xs) ∧ H b = some (.tup ys))) (h3 : xs.length ≤ 100000) (g3 : ys.length ≤ 100000) (e : Lx none H H') (k : ∀ H', Lx none H H' → Q (.bl true) H') {D : Ends} (hD : D.rt = Q) :
    Fw.St K none (tSeq (tFor (iRng1 (tCons (tCB (rLn K) (tCons (tVar 1) tNil)) tNil)) (gName 2) (tIfS (tNot (tB (tCall (sp_same n) [] E0 (tCons (tOp (rIx K) (tVar 0) (tVar 2)) (tCons (tOp (rIx K) (tVar 1) (tVar 2)) tNil))))) (tRet (tC (.bl false))) tNext)) (tRet (tC (.bl true)))) D [some (.ref a), some (.ref b), none] H' := by
  have sx : SqL K H a xs ∨ SqT K H a xs := hx.imp (fun z => SqL.of z.1) (fun z => SqT.of z.1)
  have sy : SqL K H b ys ∨ SqT K H b ys := hx.imp (fun z => SqL.of z.2) (fun z => SqT.of z.2)
  have mv : ∀ {H1 p zs}, Lx none H H1 → (SqL K H p zs ∨ SqT K H p zs) → (SqL K H1 p zs ∨ SqT K H1 p zs) := fun e z => z.imp (fun z => ((LA.of0 z).mono e).q) (fun z => ((UA.of0 z).mono e).q)
  refine s_forRn (n := (ys.length : Int)) (ea_cons (ev_cb (ea_cons (ev_var rfl) ea_nil) (rc_lenLU (mv e sy) sx_none)) ea_nil) ⟨by omega, by omega⟩ (fun i σ' H1 => (∃ v, σ' = [some (.ref a), some (.ref b), v]) ∧ Lx none H H1) wf0 (fun H1 e1 => ⟨⟨_, rfl⟩, e.trans e1⟩) ?_ ?_
  · rintro i σ' H1 hi ⟨⟨v, rfl⟩, e1⟩
    dsimp only [List.set]
    have il : i < ds.length := by have := g4.length; omega
    obtain ⟨d, hdi⟩ : ∃ d, ds[i]? = some d := ⟨_, List.getElem?_eq_getElem il⟩
    obtain ⟨vx, hvx, rx⟩ := h4.get hdi
    obtain ⟨vy, hvy, ry⟩ := g4.get hdi
    have dep : d.depth < n := Nat.lt_of_le_of_lt (depth_mem hdi) hd
    refine s_if1 (b := false) (et_not (b := true) (et_B (ev_same (ev_op (ev_var rfl) (ev_var rfl) (rv_ix (mv e1 sx) sx_none (at_of rfl hvx))) (ev_op (ev_var rfl) (ev_var rfl) (rv_ix (mv e1 sy) sx_none (at_of rfl hvy))) (rx.m e1) (ry.m e1) dep))) (fun z => nomatch z) (fun _ => s_nx fun H2 e2 => ⟨⟨_, rfl⟩, e1.trans e2⟩)
  · rintro σ' H1 ⟨⟨v, rfl⟩, e1⟩
    refine s_ret ev_c fun H2 e2 => ?_
    rw [hD]
    exact k _ (e1.trans e2)
theorem same_body (T : Txt K mg w) (n : Nat) (IH : Ok P w K mg base CX0 (n + 1) (He.fAd K ("_law_same", none)) ["actual", "expected"] (sp_same n)) : Ok P w K mg base CX0 (n + 1 + 1) (He.fAd K ("_law_same", none)) ["actual", "expected"] (sp_same (n + 1)) := by
  refine okD (F__law_same T) sc__law_same (fun _ _ _ _ _ _ us hl => match us, hl with | [_, _], _ => rfl) (fun vs H Q E h => ?_) (fun cdv A outer s H vs Q E hr h => ?_)
  · obtain ⟨x, y, d, rfl, _⟩ := h; rfl
  · obtain ⟨x, y, d, rfl, hd, rx, ry, k⟩ := h
    refine ⟨_, (pss_cons (ps_if (pt_cmpR op_isN (pv 1) pe_non (nomark _))
      (pss_one (ps_ret (pe_cmpR op_isN (pv 0) pe_non (nomark _))))
      pss_nil)
      (pss_cons (ps_if (pt_val (pe_callB (isiK K rfl) (by rfl) (n_isinstance T) (by decide +kernel) (pa_cons (pv 1) (pa_cons (pe_bltn (v := .ty "bool") (by rfl) (n_bool T) (by decide +kernel) rfl) pa_nil))))
      (pss_one (ps_ret (pe_and (pe_callB (isiK K rfl) (by rfl) (n_isinstance T) (by decide +kernel) (pa_cons (pv 0) (pa_cons (pe_bltn (v := .ty "bool") (by rfl) (n_bool T) (by decide +kernel) rfl) pa_nil))) (pe_one (pe_cmpR op_eq (pv 0) (pv 1) (nomark _))))))
      pss_nil)
      (pss_cons (ps_if (pt_val (pe_callB (isiK K rfl) (by rfl) (n_isinstance T) (by decide +kernel) (pa_cons (pv 1) (pa_cons (pe_bltn (v := .ty "int") (by rfl) (n_int T) (by decide +kernel) rfl) pa_nil))))
      (pss_one (ps_ret (pe_and (pe_callO (ok__law_is_number T) (hr.mono (by first | decide | omega)) rfl (g__law_is_number T) pass0 (pa_cons (pv 0) pa_nil)) (pe_one (pe_cmpR op_eq (pv 0) (pv 1) (nomark _))))))
      pss_nil)
      (pss_cons (ps_if (pt_val (pe_callB (isiK K rfl) (by rfl) (n_isinstance T) (by decide +kernel) (pa_cons (pv 1) (pa_cons (pe_bltn (v := .ty "str") (by rfl) (n_str T) (by decide +kernel) rfl) pa_nil))))
      (pss_one (ps_ret (pe_and (pe_callB (isiK K rfl) (by rfl) (n_isinstance T) (by decide +kernel) (pa_cons (pv 0) (pa_cons (pe_bltn (v := .ty "str") (by rfl) (n_str T) (by decide +kernel) rfl) pa_nil))) (pe_one (pe_cmpR op_eq (pv 0) (pv 1) (nomark _))))))
      pss_nil)
      (Evl.pss_cut (ps_if (pt_val (pe_callB (isiK K rfl) (by rfl) (n_isinstance T) (by decide +kernel) (pa_cons (pv 1) (pa_cons (pe_bltn (v := .ty "list") (by rfl) (n_list T) (by decide +kernel) rfl) pa_nil))))
      (pss_one (ps_if (PW.pt (pw_or (pt_not (pt_val (pe_callB (isiK K rfl) (by rfl) (n_isinstance T) (by decide +kernel) (pa_cons (pv 0) (pa_cons (pe_bltn (v := .ty "list") (by rfl) (n_list T) (by decide +kernel) rfl) pa_nil))))) (pw_or1 (pt_cmpR op_ne (pe_callB (lenK K rfl) (by rfl) (n_len T) (by decide +kernel) (pa_cons (pv 0) pa_nil)) (pe_callB (lenK K rfl) (by rfl) (n_len T) (by decide +kernel) (pa_cons (pv 1) pa_nil)) (nomark _)))))
      (pss_one (ps_ret pe_bl))
      pss_nil))
      (pss_one (ps_if (PW.pt (pw_or (pt_not (pt_val (pe_callB (isiK K rfl) (by rfl) (n_isinstance T) (by decide +kernel) (pa_cons (pv 1) (pa_cons (pe_bltn (v := .ty "tuple") (by rfl) (n_tuple T) (by decide +kernel) rfl) pa_nil))))) (pw_or (pt_not (pt_val (pe_callB (isiK K rfl) (by rfl) (n_isinstance T) (by decide +kernel) (pa_cons (pv 0) (pa_cons (pe_bltn (v := .ty "tuple") (by rfl) (n_tuple T) (by decide +kernel) rfl) pa_nil))))) (pw_or1 (pt_cmpR op_ne (pe_callB (lenK K rfl) (by rfl) (n_len T) (by decide +kernel) (pa_cons (pv 0) pa_nil)) (pe_callB (lenK K rfl) (by rfl) (n_len T) (by decide +kernel) (pa_cons (pv 1) pa_nil)) (nomark _))))))
      (pss_one (ps_ret pe_bl))
      pss_nil)))
      (pss_cons (ps_for PassesOwn.never rfl (pi_range1 (by rfl) (n_range T) (pa_cons (pe_callB (lenK K rfl) (by rfl) (n_len T) (by decide +kernel) (pa_cons (pv 1) pa_nil)) pa_nil)) (pg_name (i := 2) sc__law_same.nd rfl (Or.inl rfl))
      (pss_one (ps_if (pt_not (pt_val (pe_callO IH hr rfl (g__law_same T) pass0 (pa_cons (pe_ix (ixQ K rfl) (pv 0) (pv 2) (fun _ _ => rfl)) (pa_cons (pe_ix (ixQ K rfl) (pv 1) (pv 2) (fun _ _ => rfl)) pa_nil)))))
      (pss_one (ps_ret pe_bl))
      pss_nil)))
      (pss_one (ps_ret pe_bl)))))))), ?_⟩
    refine go (K := K) (σ' := [some x, some y, none]) rfl ?_
    cases d with
    | dict _ => cases rx
    | none =>
      cases rx; cases ry
      refine s_if (b := true) (et_test (ev_op (ev_var rfl) ev_c rv_isN)) (fun _ => ?_) (fun z => nomatch z)
      exact s_ret (ev_op (ev_var rfl) ev_c rv_isN) fun H1 e => k _ e
    | bool b =>
      cases rx; cases ry
      refine s_if (b := false) (et_test (ev_op (ev_var rfl) ev_c rv_isN)) (fun z => nomatch z) (fun _ => s_next ?_)
      refine s_if (b := true) (et_B (ev_isi (ev_var rfl) (.bl b) (kD "bool" rfl (by decide +kernel)))) (fun _ => ?_) (fun z => nomatch z)
      refine s_ret (ev_andV (ev_isi (b := true) (ev_var rfl) (.bl b) (kD "bool" rfl (by decide +kernel))) fun _ => ev_op (ev_var rfl) (ev_var rfl) (rv_eq rfl)) fun H1 e => ?_
      rw [decide_eq_true rfl]
      exact k _ e
    | int b =>
      cases rx; cases ry
      refine s_if (b := false) (et_test (ev_op (ev_var rfl) ev_c rv_isN)) (fun z => nomatch z) (fun _ => s_next ?_)
      refine s_if (b := false) (et_B (ev_isi (ev_var rfl) (.int b) (kD "int" rfl (by decide +kernel)))) (fun z => nomatch z) (fun _ => s_next ?_)
      refine s_if (b := true) (et_B (ev_isi (ev_var rfl) (.int b) (kD "int" rfl (by decide +kernel)))) (fun _ => ?_) (fun z => nomatch z)
      refine s_ret (ev_andV (ev_isnum (ev_var rfl) (.int b)) fun _ => ev_op (ev_var rfl) (ev_var rfl) (rv_eq rfl)) fun H1 e => ?_
      rw [decide_eq_true rfl]
      exact k _ e
    | str b =>
      cases rx; cases ry
      refine s_if (b := false) (et_test (ev_op (ev_var rfl) ev_c rv_isN)) (fun z => nomatch z) (fun _ => s_next ?_)
      refine s_if (b := false) (et_B (ev_isi (ev_var rfl) (.str b) (kD "str" rfl (by decide +kernel)))) (fun z => nomatch z) (fun _ => s_next ?_)
      refine s_if (b := false) (et_B (ev_isi (ev_var rfl) (.str b) (kD "str" rfl (by decide +kernel)))) (fun z => nomatch z) (fun _ => s_next ?_)
      refine s_if (b := true) (et_B (ev_isi (ev_var rfl) (.str b) (kD "str" rfl (by decide +kernel)))) (fun _ => ?_) (fun z => nomatch z)
      refine s_ret (ev_andV (ev_isi (b := true) (ev_var rfl) (.str b) (kD "str" rfl (by decide +kernel))) fun _ => ev_op (ev_var rfl) (ev_var rfl) (rv_eq rfl)) fun H1 e => ?_
      rw [decide_eq_true rfl]
      exact k _ e
    | list ds =>
      have rx' := rx
      have ry' := ry
      cases rx with
      | @lst a xs _ h1 _ h3 h4 => cases ry with
        | @lst b ys _ g1 _ g3 g4 =>
          refine s_if (b := false) (et_test (ev_op (ev_var rfl) ev_c rv_isN)) (fun z => nomatch z) (fun _ => s_next ?_)
          refine s_if (b := false) (et_B (ev_isi (ev_var rfl) ry' (kD "list" rfl (by decide +kernel)))) (fun z => nomatch z) (fun _ => s_next ?_)
          refine s_if (b := false) (et_B (ev_isi (ev_var rfl) ry' (kD "list" rfl (by decide +kernel)))) (fun z => nomatch z) (fun _ => s_next ?_)
          refine s_if (b := false) (et_B (ev_isi (ev_var rfl) ry' (kD "list" rfl (by decide +kernel)))) (fun z => nomatch z) (fun _ => s_next ?_)
          have len : xs.length = ys.length := h4.length.trans g4.length.symm
          refine s_ifJ (fun σ' H' => σ' = [some (.ref a), some (.ref b), none] ∧ Lx none H H') (fun _ _ _ => Lx.rfl0) (b := true) (et_B (ev_isi (ev_var rfl) ry' (kD "list" rfl (by decide +kernel)))) (fun _ => ?_) (fun z => nomatch z) ?_
          · refine s_if1 (b := false) (et_is (et_or (et_not (et_B (ev_isi (ev_var rfl) rx' (b := true) (kD "list" rfl (by decide +kernel))))) fun _ => et_test (ev_op (ev_cb (ea_cons (ev_var rfl) ea_nil) (rc_lenLU (.inl (SqL.of h1)) sx_none)) (ev_cb (ea_cons (ev_var rfl) ea_nil) (rc_lenLU (.inl (SqL.of g1)) sx_none)) (rv_ne rfl))) (by rw [len]; simp)) (fun z => nomatch z) (fun _ => s_nx fun H1 e => ⟨rfl, e⟩)
          · rintro σ' H' ⟨rfl, e⟩
            exact same_loop (Nat.lt_of_succ_lt_succ hd) h4 g4 (.inl ⟨h1, g1⟩) h3 g3 e k (by rfl)
    | tuple ds =>
      have rx' := rx
      have ry' := ry
      cases rx with
      | @tup a xs _ h1 _ h3 h4 => cases ry with
        | @tup b ys _ g1 _ g3 g4 =>
          refine s_if (b := false) (et_test (ev_op (ev_var rfl) ev_c rv_isN)) (fun z => nomatch z) (fun _ => s_next ?_)
          refine s_if (b := false) (et_B (ev_isi (ev_var rfl) ry' (kD "tuple" rfl (by decide +kernel)))) (fun z => nomatch z) (fun _ => s_next ?_)
          refine s_if (b := false) (et_B (ev_isi (ev_var rfl) ry' (kD "tuple" rfl (by decide +kernel)))) (fun z => nomatch z) (fun _ => s_next ?_)
          refine s_if (b := false) (et_B (ev_isi (ev_var rfl) ry' (kD "tuple" rfl (by decide +kernel)))) (fun z => nomatch z) (fun _ => s_next ?_)
          have len : xs.length = ys.length := h4.length.trans g4.length.symm
          refine s_ifJ (fun σ' H' => σ' = [some (.ref a), some (.ref b), none] ∧ Lx none H H') (fun _ _ _ => Lx.rfl0) (b := false) (et_B (ev_isi (ev_var rfl) ry' (kD "tuple" rfl (by decide +kernel)))) (fun z => nomatch z) (fun _ => ?_) ?_
          · refine s_if1 (b := false) (et_is (et_or (et_not (et_B (ev_isi (ev_var rfl) ry' (b := true) (kD "tuple" rfl (by decide +kernel))))) fun _ => et_or (et_not (et_B (ev_isi (ev_var rfl) rx' (b := true) (kD "tuple" rfl (by decide +kernel))))) fun _ => et_test (ev_op (ev_cb (ea_cons (ev_var rfl) ea_nil) (rc_lenLU (.inr (SqT.of h1)) sx_none)) (ev_cb (ea_cons (ev_var rfl) ea_nil) (rc_lenLU (.inr (SqT.of g1)) sx_none)) (rv_ne rfl))) (by rw [len]; simp)) (fun z => nomatch z) (fun _ => s_nx fun H1 e => ⟨rfl, e⟩)
          · rintro σ' H' ⟨rfl, e⟩
            exact same_loop (Nat.lt_of_succ_lt_succ hd) h4 g4 (.inr ⟨h1, g1⟩) h3 g3 e k (by rfl)
theorem ok__law_same (T : Txt K mg w) : Ok P w K mg base CX0 6 (He.fAd K ("_law_same", none)) ["actual", "expected"] (sp_same 5) := by
  have all : ∀ n : Nat, Ok P w K mg base CX0 (n + 1) (He.fAd K ("_law_same", none)) ["actual", "expected"] (sp_same n) := fun n => by
    induction n with
    | zero =>
      refine (ok_zero (F__law_same T) (fun _ _ _ _ _ _ us hl => match us, hl with | [_, _], _ => rfl) fun vs H Q E h => ?_).mono (Nat.zero_le _)
      obtain ⟨_, _, _, _, hd, _⟩ := h
      exact nomatch hd
    | succ n ih => exact same_body T n ih
  exact all 5
/-! _law_drawn_phase -/
def Word (x : Str) : Prop := x = "ended" ∨ x = "running" ∨ x = "waiting"
def Forced (shape task size : Int) : Prop := (shape = 1 ∧ task < size - 1) ∨ (shape = 2 ∧ 0 < task)
def sp_phase : Sp := fun vs H Q _ => ∃ (st l : Addr) (shape task size : Int), vs = [.ref st, .int shape, .int task, .int size] ∧ Drw H st l ∧ ∀ x H', Lx (some (st, l)) H H' → Word x → (Forced shape task size → x = "waiting") → Q (.str x) H'
theorem ok__law_drawn_phase (T : Txt K mg w) : Ok P w K mg base CX0 2 (He.fAd K ("_law_drawn_phase", none)) ["state", "shape", "task", "size"] (sp_phase) := by
  refine okD (F__law_drawn_phase T) sc__law_drawn_phase (fun _ _ _ _ _ _ us hl => match us, hl with | [_, _, _, _], _ => rfl) (fun vs H Q E h => ?_) (fun cdv A outer s H vs Q E hr h => ?_)
  · obtain ⟨st, l, shape, task, size, rfl, _⟩ := h; rfl
  · obtain ⟨st, l, shape, task, size, rfl, d, k⟩ := h
    refine ⟨_, (pss_cons (ps_set (i := 4) sc__law_drawn_phase.nd rfl (Or.inl rfl) (pe_ix (ixL K rfl) (pe_lst (pa_cons pe_str (pa_cons pe_str (pa_cons pe_str (pa_cons pe_str (pa_cons pe_str pa_nil)))))) (pe_callO (ok__law_draw T) (hr.mono (by first | decide | omega)) rfl (g__law_draw T) pass0 (pa_cons (pv 0) (pa_cons pe_int pa_nil))) (fun _ _ => rfl)))
      (pss_cons (ps_if (PW.pt (pw_or (PW.pt (pw_and (pt_cmpR op_eq (pv 1) pe_int (nomark _)) (pw_and1 (pt_cmpR op_lt (pv 2) (pe_op op_sub (pv 3) pe_int) (nomark _))))) (pw_or1 (PW.pt (pw_and (pt_cmpR op_eq (pv 1) pe_int (nomark _)) (pw_and1 (pt_cmpR op_gt (pv 2) pe_int (nomark _))))))))
      (pss_one (ps_ret pe_str))
      pss_nil)
      (pss_one (ps_ret (pv 4))))), ?_⟩
    refine goS (K := K) (σ' := [some (.ref st), some (.int shape), some (.int task), some (.int size), none]) rfl d ?_
    refine s_asgX (P := fun v _ => ∃ x, v = .str x ∧ Word x) (ex_op1 (ex_lst (vs := [.str "waiting", .str "running", .str "waiting", .str "ended", .str "waiting"]) (by walk_at "ev") (by show 5 ≤ sizeLine; decide)) ?_) ?_
    · rintro v H1 e1 ⟨p, rfl, _, np, hp⟩
      refine ex_op2 ev_c (ex_draw (ev_var rfl) ev_c (by decide) (by decide)) ?_
      rintro v H2 e2 ⟨r, rfl, r0, r1⟩
      have hL := (LA.of (K := K) hp np).mono e2
      obtain rfl | rfl | rfl | rfl | rfl : r = 0 ∨ r = 1 ∨ r = 2 ∨ r = 3 ∨ r = 4 := by omega
      · exact (ev_op ev_c ev_c (rv_ixL hL rfl)).toX.imp fun w _ _ z => ⟨_, z, .inr (.inr rfl)⟩
      · exact (ev_op ev_c ev_c (rv_ixL hL rfl)).toX.imp fun w _ _ z => ⟨_, z, .inr (.inl rfl)⟩
      · exact (ev_op ev_c ev_c (rv_ixL hL rfl)).toX.imp fun w _ _ z => ⟨_, z, .inr (.inr rfl)⟩
      · exact (ev_op ev_c ev_c (rv_ixL hL rfl)).toX.imp fun w _ _ z => ⟨_, z, .inl rfl⟩
      · exact (ev_op ev_c ev_c (rv_ixL hL rfl)).toX.imp fun w _ _ z => ⟨_, z, .inr (.inr rfl)⟩
    · rintro v H1 e1 ⟨x, rfl, hx⟩
      dsimp only [List.set]
      refine s_if (et_or (et_and (by walk_at "ev") fun _ => by walk_at "ev") fun _ => et_and (by walk_at "ev") fun _ => by walk_at "ev") (fun _ => ?_) (fun hn => s_next ?_)
      · exact s_ret ev_c fun H2 e2 => k _ H2 (e1.trans e2) (.inr (.inr rfl)) fun _ => rfl
      · refine s_ret (ev_var rfl) fun H2 e2 => k _ H2 (e1.trans e2) hx fun hf => ?_
        exfalso
        unfold Forced at hf
        simp at hn
        omega
/-! _law_drawn_targets -/
def sp_targets : Sp := fun vs H Q _ => ∃ (st l : Addr) (shape task : Int) (size : Nat) (ph : Str), vs = [.ref st, .int shape, .int task, .int (size : Int), .str ph] ∧ Drw H st l ∧ 0 ≤ task ∧ task < (size : Int) ∧ size ≤ 100 ∧
  ∀ p (ts : List Nat) H', Lx (some (st, l)) H H' → H p = none → ¬ Sx (some (st, l)) p → H' p = some (.lst (ts.map fun u : Nat => V.int (u : Int))) → (∀ u ∈ ts, u < size) → ts.length ≤ 10 → (ph = "waiting" → ts ≠ []) → Q (.ref p) H'
theorem ok__law_drawn_targets (T : Txt K mg w) : Ok P w K mg base CX0 2 (He.fAd K ("_law_drawn_targets", none)) ["state", "shape", "task", "size", "phase"] (sp_targets) := by
  refine okD (F__law_drawn_targets T) sc__law_drawn_targets (fun _ _ _ _ _ _ us hl => match us, hl with | [_, _, _, _, _], _ => rfl) (fun vs H Q E h => ?_) (fun cdv A outer s H vs Q E hr h => ?_)
  · obtain ⟨st, l, shape, task, size, ph, rfl, _⟩ := h; rfl
  · obtain ⟨st, l, shape, task, size, ph, rfl, d, t0, t1, sz, k⟩ := h
    have one : ∀ (z : Int) (H1 : Hp) (p : Addr), 0 ≤ z → z < (size : Int) → Lx (some (st, l)) H H1 → H p = none → ¬ Sx (some (st, l)) p → H1 p = some (.lst [.int z]) → Q (.ref p) H1 := fun z H1 p z0 z1 e hp np h1 =>
      k p [z.toNat] H1 e hp np (by rw [h1]; congr 2; show [V.int z] = [V.int (z.toNat : Int)]; rw [show ((z.toNat : Nat) : Int) = z by omega]) (fun u hu => by simp at hu; omega) (by simp) fun _ z => nomatch z
    refine ⟨_, (pss_cons (ps_set (i := 5) sc__law_drawn_targets.nd rfl (Or.inl rfl) (pe_op op_add pe_int (pe_callO (ok__law_draw T) (hr.mono (by first | decide | omega)) rfl (g__law_draw T) pass0 (pa_cons (pv 0) (pa_cons pe_int pa_nil)))))
      (pss_cons (ps_if (PW.pt (pw_and (pt_cmpR op_eq (pv 1) pe_int (nomark _)) (pw_and1 (pt_cmpR op_lt (pv 2) (pe_op op_sub (pv 3) pe_int) (nomark _)))))
      (pss_one (ps_ret (pe_lst (pa_cons (pe_op op_add (pv 2) pe_int) pa_nil))))
      pss_nil)
      (pss_cons (ps_if (PW.pt (pw_and (pt_cmpR op_eq (pv 1) pe_int (nomark _)) (pw_and1 (pt_cmpR op_gt (pv 2) pe_int (nomark _)))))
      (pss_one (ps_ret (pe_lst (pa_cons (pe_op op_sub (pv 2) pe_int) pa_nil))))
      pss_nil)
      (Evl.pss_cut (ps_if (PW.pt (pw_and (pt_cmpR op_ne (pv 4) pe_str (nomark _)) (pw_and1 (pt_cmpR op_eq (pe_callO (ok__law_draw T) (hr.mono (by first | decide | omega)) rfl (g__law_draw T) pass0 (pa_cons (pv 0) (pa_cons pe_int pa_nil))) pe_int (nomark _)))))
      (pss_one (ps_set (i := 5) sc__law_drawn_targets.nd rfl (Or.inl rfl) pe_int))
      pss_nil)
      (pss_one (ps_ret (pe_lc (own := [("k", 6)]) (by rfl) sc__law_drawn_targets.nd (pi_range1 (by rfl) (n_range T) (pa_cons (pv 5) pa_nil)) (blkOk_by (own := [("k", 6)]) (N := ["state", "shape", "task", "size", "phase", "many", "k"]) (sc := defScope s__law_drawn_targets) (by decide +kernel)) (fun _ _ _ _ _ => by exact (pg_name (i := 6) sc__law_drawn_targets.nd rfl (Or.inl rfl))) (fun _ _ _ _ _ => by exact pts_nil) (fun _ _ _ _ _ => by exact (pe_callO (ok__law_draw T) (hr.mono (by first | decide | omega)) rfl (g__law_draw T) pass0 (pa_cons (pv 0) (pa_cons (pv 3) pa_nil))))))))))), ?_⟩
    refine goS (K := K) (σ' := [some (.ref st), some (.int shape), some (.int task), some (.int (size : Int)), some (.str ph), none, none]) rfl d ?_
    refine s_asgX (P := fun v _ => ∃ m : Int, v = .int m ∧ 1 ≤ m ∧ m ≤ 3) (ex_op2 ev_c (ex_draw (ev_var rfl) ev_c (by decide) (by decide)) ?_) ?_
    · rintro v H1 e1 ⟨r, rfl, r0, r1⟩
      exact (ev_op ev_c ev_c rv_I0).toX.imp fun w _ _ z => ⟨_, z, by omega, by omega⟩
    · rintro v H1 e1 ⟨m, rfl, m0, m1⟩
      dsimp only [List.set]
      refine s_if (et_and (by walk_at "ev") fun _ => by walk_at "ev") (fun hy => ?_) (fun _ => s_next ?_)
      · refine s_retX (ex_lst (vs := [.int (task + 1)]) (by walk_at "ev") (by show 1 ≤ sizeLine; decide)) ?_
        rintro v H2 e2 ⟨p, rfl, hp, np, h1⟩
        simp at hy
        exact one _ H2 p (by omega) (by omega) (e1.trans e2) (by cases q : H p with | none => rfl | some o => rw [e1.1 _ _ np q] at hp; cases hp) np h1
      refine s_if (et_and (by walk_at "ev") fun _ => by walk_at "ev") (fun hy => ?_) (fun _ => s_next ?_)
      · refine s_retX (ex_lst (vs := [.int (task - 1)]) (by walk_at "ev") (by show 1 ≤ sizeLine; decide)) ?_
        rintro v H2 e2 ⟨p, rfl, hp, np, h1⟩
        simp at hy
        exact one _ H2 p (by omega) (by omega) (e1.trans e2) (by cases q : H p with | none => rfl | some o => rw [e1.1 _ _ np q] at hp; cases hp) np h1
      refine s_ifJX (PB := fun b _ => b = true → ph ≠ "waiting") (fun σ' H' => ∃ m : Int, σ' = [some (.ref st), some (.int shape), some (.int task), some (.int (size : Int)), some (.str ph), some (.int m), none] ∧ Lx (some (st, l)) H H' ∧ 0 ≤ m ∧ m ≤ 3 ∧ (ph = "waiting" → 1 ≤ m)) (fun σ' H' ⟨_, _, e, _⟩ => e.refl)
        (etx_and (b := !decide (V.str ph = V.str "waiting")) (by walk_at "ev") (fun hb => (etx_test (PB := fun _ _ => True) (ex_op1 (ex_draw (ev_var rfl) ev_c (by decide) (by decide)) ?_)).imp fun b _ _ _ _ => by simpa using hb) fun _ _ _ z => nomatch z) ?_ ?_ ?_
      · rintro v H2 e2 ⟨r, rfl, _⟩
        exact (ev_op ev_c ev_c (rv_eq rfl)).toX.imp fun w _ _ z => ⟨_, z, trivial⟩
      · intro H2 e2 hb
        exact s_asg1 ev_c fun H3 e3 => ⟨0, rfl, (e1.trans e2).trans e3, by omega, by omega, fun z => absurd z (hb rfl)⟩
      · intro H2 e2 _
        exact s_nx fun H3 e3 => ⟨m, rfl, (e1.trans e2).trans e3, by omega, by omega, fun _ => m0⟩
      · rintro σ' H2 ⟨m, rfl, e2, m0, m1, mw⟩
        refine s_retX (ex_lcR (ea_cons (ev_var rfl) ea_nil) ⟨by omega, by omega⟩ (fun _ => rfl) (fun _ i acc _ => ∃ ts : List Nat, acc = ts.map (fun u : Nat => V.int (u : Int)) ∧ ts.length = i ∧ ∀ u ∈ ts, u < size) (fun _ _ _ _ _ => ⟨[], rfl, rfl, fun _ z => nomatch z⟩) ?_) ?_
        · rintro D i acc H3 _ _ _ e3 ⟨ts, rfl, rfl, hu⟩ H4 e4 Q4 q4
          refine q4 true H4 e4.refl ⟨fun _ => (ex_draw (ev_var rfl) (ev_var rfl) (by omega) (by omega)).imp ?_, fun z => nomatch z⟩
          rintro w _ _ ⟨r, rfl, r0, r1⟩
          refine ⟨ts ++ [r.toNat], ?_, by simp, fun u hm => ?_⟩
          · rw [List.map_append]
            show _ ++ [V.int r] = _ ++ [V.int (r.toNat : Int)]
            rw [show ((r.toNat : Nat) : Int) = r by omega]
          · rcases List.mem_append.mp hm with hm | hm
            · exact hu u hm
            · simp at hm; omega
        · rintro v H3 e3 ⟨p, acc, rfl, hp, np, h1, _, ts, rfl, hl, hu⟩
          refine k p ts H3 (e2.trans e3) (by cases q : H p with | none => rfl | some o => rw [e2.1 _ _ np q] at hp; cases hp) np h1 hu (by omega) fun hw hn => ?_
          subst hn
          have := mw hw
          simp at hl; omega
/-! _law_is_delay -/
def IsDue (ph : Str) (ks : List (Option Nat)) (mode : Bool) (o : Option Nat) : Prop := (ph = "ended" ∧ o = some 0) ∨ (ph = "running" ∧ o = some 1) ∨ (ph = "waiting" ∧ Dl.Due ks mode o)
def sp_is_delay (K : PySem.W.Frag) : Sp := fun vs H Q _ => ∃ (o : Option Nat) (ph : Str) (a : Addr) (ks : List (Option Nat)) (mode : Bool), vs = [optV o, .str ph, .ref a, .bl mode] ∧ LA K none H a (ks.map optV) ∧ ks.length ≤ 100 ∧ IsDue ph ks mode o ∧ ∀ H', Lx none H H' → Q (.bl true) H'
theorem rp_opt {S : Dst} {H : Hp} (o : Option Nat) : ∃ d, Rp S H (optV o) d ∧ d.depth < 5 ∧ (∀ k, o = some k → d = .int (k : Int)) := by
  cases o with
  | none => exact ⟨.none, .non, by rw [PyData.depth]; decide, fun _ z => nomatch z⟩
  | some k => exact ⟨.int k, .int _, by rw [PyData.depth]; decide, fun _ z => by cases z; rfl⟩
def metV (ks : List (Option Nat)) : List V := (ks.filterMap id).map fun k : Nat => V.int (k : Int)
theorem met_eq : ∀ ks : List (Option Nat), ((ks.map optV).filter fun v => !decide (v = V.non)).map (fun v => match v with | .int i => V.int i | _ => .non) = metV ks
  | [] => rfl
  | none :: ks => by
    have ih := met_eq ks
    unfold metV at ih ⊢
    rw [List.map_cons, List.filter_cons, if_neg (by simp [optV]), List.filterMap_cons_none rfl, ih]
  | some k :: ks => by
    have ih := met_eq ks
    unfold metV at ih ⊢
    rw [List.map_cons, List.filter_cons, if_pos (by simp [optV]), List.filterMap_cons_some (show id (some k) = some k from rfl), List.map_cons, List.map_cons, ih]
    rfl
theorem metV_len (ks : List (Option Nat)) : (metV ks).length = (ks.filterMap id).length := by unfold metV; rw [List.length_map]
theorem metV_ints (ks : List (Option Nat)) : (metV ks).map (fun v => match v with | .int i => V.int i | _ => .non) = ((ks.filterMap id).map fun k : Nat => (k : Int)).map V.int := by
  unfold metV
  rw [List.map_map, List.map_map]
  exact List.map_congr_left fun _ _ => rfl
theorem ok__law_is_delay (T : Txt K mg w) : Ok P w K mg base CX0 7 (He.fAd K ("_law_is_delay", none)) ["number", "phase", "known", "mode"] (sp_is_delay K) := by
  refine okD (F__law_is_delay T) sc__law_is_delay (fun _ _ _ _ _ _ us hl => match us, hl with | [_, _, _, _], _ => rfl) (fun vs H Q E h => ?_) (fun cdv A outer s H vs Q E hr h => ?_)
  · obtain ⟨o, ph, a, ks, mode, rfl, _⟩ := h; rfl
  · obtain ⟨o, ph, a, ks, mode, rfl, ha, hl, due, k⟩ := h
    have fin : ∀ {σ : L2.St} {te tb : TE} {o : Option Nat} {b : Int} {D : Ends} {H1 : Hp}, D.rt = Q → o = some b.toNat → 0 ≤ b → Lx none H H1 → EvX K none te σ H1 (fun v _ => v = optV o) → EvX K none tb σ H1 (fun v _ => v = .int b) → Fw.St K none (tRet (tCall (sp_same 5) [] E0 (tCons te (tCons tb tNil)))) D σ H1 := fun {σ te tb o b D H1} hD ho hb e1 h1 h2 => by
      refine s_ret (ev_same (h1.ev fun _ _ _ z => z) (h2.ev fun _ _ _ z => z) (d := .int b) ?_ (.int b) (by rw [PyData.depth]; decide)) fun H2 e2 => by rw [hD]; exact k _ (e1.trans e2)
      subst ho
      show Rp none H1 (V.int (b.toNat : Int)) _
      rw [show ((b.toNat : Nat) : Int) = b by omega]
      exact .int b
    refine ⟨_, (pss_cons (ps_if (pt_cmpR op_eq (pv 1) pe_str (nomark _))
      (pss_one (ps_ret (pe_callO (ok__law_same T) (hr.mono (by first | decide | omega)) rfl (g__law_same T) pass0 (pa_cons (pv 0) (pa_cons pe_int pa_nil)))))
      pss_nil)
      (pss_cons (ps_if (pt_cmpR op_eq (pv 1) pe_str (nomark _))
      (pss_one (ps_ret (pe_callO (ok__law_same T) (hr.mono (by first | decide | omega)) rfl (g__law_same T) pass0 (pa_cons (pv 0) (pa_cons pe_int pa_nil)))))
      pss_nil)
      (pss_cons (ps_setLc (i := 4) (own := [("one", 5)]) (by rfl) sc__law_is_delay.nd rfl rfl (sw_true rfl rfl rfl (by decide +kernel)) (piLK K rfl (pv 2)) (blkOk_by (own := [("one", 5)]) (N := ["number", "phase", "known", "mode", "met", "one"]) (sc := defScope s__law_is_delay) (by decide +kernel)) (fun _ _ _ _ _ => by exact (pg_name (i := 5) sc__law_is_delay.nd rfl (Or.inl rfl))) (fun _ _ _ _ _ => by exact (pts_one (pt_cmpR op_notN (pv 5) pe_non (nomark _)))) (fun _ _ _ _ _ => by exact (pe_callTy callInt (by rfl) (n_int T) (by decide +kernel) (pa_cons (pv 5) pa_nil))))
      (pss_cons (ps_if (PW.pt (pw_or (pt_cmpR op_eq (pe_callB (lenK K rfl) (by rfl) (n_len T) (by decide +kernel) (pa_cons (pv 4) pa_nil)) pe_int (nomark _)) (pw_or1 (PW.pt (pw_and (pt_not (pt_val (pv 3))) (pw_and1 (pt_cmpR op_lt (pe_callB (lenK K rfl) (by rfl) (n_len T) (by decide +kernel) (pa_cons (pv 4) pa_nil)) (pe_callB (lenK K rfl) (by rfl) (n_len T) (by decide +kernel) (pa_cons (pv 2) pa_nil)) (nomark _))))))))
      (pss_one (ps_ret (pe_cmpR op_isN (pv 0) pe_non (nomark _))))
      pss_nil)
      (pss_cons (ps_if (pt_val (pv 3))
      (pss_one (ps_ret (pe_callO (ok__law_same T) (hr.mono (by first | decide | omega)) rfl (g__law_same T) pass0 (pa_cons (pv 0) (pa_cons (pe_op op_add pe_int (pe_callB (minK K rfl rfl) (by rfl) (n_min T) (by decide +kernel) (pa_cons (pe_lc (own := [("one", 5)]) (by rfl) sc__law_is_delay.nd (piLK K rfl (pv 4)) (blkOk_by (own := [("one", 5)]) (N := ["number", "phase", "known", "mode", "met", "one"]) (sc := defScope s__law_is_delay) (by decide +kernel)) (fun _ _ _ _ _ => by exact (pg_name (i := 5) sc__law_is_delay.nd rfl (Or.inl rfl))) (fun _ _ _ _ _ => by exact pts_nil) (fun _ _ _ _ _ => by exact (pe_callTy callInt (by rfl) (n_int T) (by decide +kernel) (pa_cons (pv 5) pa_nil)))) pa_nil))) pa_nil)))))
      pss_nil)
      (pss_one (ps_ret (pe_callO (ok__law_same T) (hr.mono (by first | decide | omega)) rfl (g__law_same T) pass0 (pa_cons (pv 0) (pa_cons (pe_op op_add pe_int (pe_callB (maxK K rfl rfl) (by rfl) (n_max T) (by decide +kernel) (pa_cons (pe_lc (own := [("one", 5)]) (by rfl) sc__law_is_delay.nd (piLK K rfl (pv 4)) (blkOk_by (own := [("one", 5)]) (N := ["number", "phase", "known", "mode", "met", "one"]) (sc := defScope s__law_is_delay) (by decide +kernel)) (fun _ _ _ _ _ => by exact (pg_name (i := 5) sc__law_is_delay.nd rfl (Or.inl rfl))) (fun _ _ _ _ _ => by exact pts_nil) (fun _ _ _ _ _ => by exact (pe_callTy callInt (by rfl) (n_int T) (by decide +kernel) (pa_cons (pv 5) pa_nil)))) pa_nil))) pa_nil)))))))))), ?_⟩
    refine go (K := K) (σ' := [some (optV o), some (.str ph), some (.ref a), some (.bl mode), none, none]) rfl ?_
    refine s_if (by walk_at "ev") (fun h1 => ?_) (fun h1 => s_next ?_)
    · have h1 : ph = "ended" := by simpa using h1
      have ho : o = some 0 := by
        rcases due with z | z | z
        · exact z.2
        · exact absurd (h1.symm.trans z.1) (by decide +kernel)
        · exact absurd (h1.symm.trans z.1) (by decide +kernel)
      exact fin rfl ho (by decide) Lx.rfl0 (ev_var rfl).toX ev_c.toX
    refine s_if (by walk_at "ev") (fun h2 => ?_) (fun h2 => s_next ?_)
    · have h2 : ph = "running" := by simpa using h2
      have ho : o = some 1 := by
        rcases due with z | z | z
        · exact absurd (h2.symm.trans z.1) (by decide +kernel)
        · exact z.2
        · exact absurd (h2.symm.trans z.1) (by decide +kernel)
      exact fin rfl ho (by decide) Lx.rfl0 (ev_var rfl).toX ev_c.toX
    have du : Dl.Due ks mode o := by
      rcases due with z | z | z
      · exact absurd z.1 (by simpa using h1)
      · exact absurd z.1 (by simpa using h2)
      · exact z.2
    have sz := sizeLine_eq
    -- met
    refine s_asgX (ex_filterMap (fun v => !decide (v = V.non)) (fun v => match v with | .int i => V.int i | _ => .non) (ev_var rfl) ha (by rw [List.length_map]; omega) (fun _ => rfl) (fun x _ => et_test (ev_op (ev_var rfl) ev_c rv_notN)) (fun x hx hn => ?_)) ?_
    · obtain ⟨o', _, rfl⟩ := List.mem_map.mp hx
      cases o' with
      | none => simp [optV] at hn
      | some k' => exact ev_cb (ea_cons (ev_var rfl) ea_nil) rc_int
    rintro v H1 e1 ⟨p, rfl, _, _, hp⟩
    rw [met_eq] at hp
    dsimp only [List.set]
    have hM := LA.of (K := K) hp sx_none
    refine s_if (et_or (et_test (ev_op (ev_cb (ea_cons (ev_var rfl) ea_nil) (rc_len hM)) ev_c (rv_eq rfl))) fun _ => et_and (et_not (et_B (ev_var rfl))) fun _ => et_test (ev_op (ev_cb (ea_cons (ev_var rfl) ea_nil) (rc_len hM)) (ev_cb (ea_cons (ev_var rfl) ea_nil) (rc_len (ha.mono e1))) rv_I0)) (fun hy => ?_) (fun hn => s_next ?_)
    · have hc : ks.filterMap id = [] ∨ (mode = false ∧ (ks.filterMap id).length < ks.length) := by
        rw [metV_len] at hy
        simp at hy
        rcases hy with hy | hy
        · exact .inl (by simpa using hy)
        · exact .inr ⟨hy.1, by simpa using hy.2⟩
      unfold Dl.Due at du
      rw [if_pos hc] at du
      subst du
      exact s_ret (ev_op (ev_var rfl) ev_c rv_isN) fun H2 e2 => k _ (e1.trans e2)
    · have hc : ¬ (ks.filterMap id = [] ∨ (mode = false ∧ (ks.filterMap id).length < ks.length)) := by
        rw [metV_len] at hn
        have h12 := Bool.or_eq_false_iff.mp hn
        rintro (z | z)
        · exact of_decide_eq_false h12.1 (by rw [z]; rfl)
        · have h3 := h12.2
          rw [z.1] at h3
          have h4 : decide (((ks.filterMap id).length : Int) < ((ks.map optV).length : Int)) = false := h3
          have h5 := of_decide_eq_false h4
          rw [List.length_map] at h5
          have := z.2
          omega
      unfold Dl.Due at du
      rw [if_neg hc] at du
      have ne : 0 < ((ks.filterMap id).map fun k : Nat => (k : Int)).length := by
        rw [List.length_map]
        exact List.length_pos_iff.mpr fun z => hc (.inl z)
      -- the list of ints once more
      have lst : EvX K none (tLc (iList K (tVar 4)) (gName 5) tYes (tCB rInt1 (tCons (tVar 5) tNil)) [5]) [some (optV o), some (.str ph), some (.ref a), some (.bl mode), some (.ref p), none] H1 (NewL none H1 (((ks.filterMap id).map fun k : Nat => (k : Int)).map V.int)) := by
        have q := ex_map (K := K) (S := none) (σ := [some (optV o), some (.str ph), some (.ref a), some (.bl mode), some (.ref p), none]) (H := H1) (te := tCB rInt1 (tCons (tVar 5) tNil)) (j := 5) (ws := [5]) (tl := tVar 4) (fun v => match v with | .int i => V.int i | _ => .non) (ev_var rfl) hM (by rw [metV_len]; have := List.length_filterMap_le id ks; omega) (fun _ => rfl) (fun x hx => by
          unfold metV at hx
          obtain ⟨k', _, rfl⟩ := List.mem_map.mp hx
          exact ev_cb (ea_cons (ev_var rfl) ea_nil) rc_int)
        rw [metV_ints] at q
        exact q
      refine s_if (et_B (ev_var rfl)) (fun hm => ?_) (fun hm => s_next ?_)
      · rw [if_pos hm] at du
        obtain ⟨m, m1, m2, ho⟩ := du
        refine fin (b := 1 + (m : Int)) rfl (by rw [ho] <;> congr 1) (by omega) e1 (ev_var rfl).toX (ex_op2 ev_c (ex_cbX (P := fun v _ => v = .int (m : Int)) (PA := fun vs H3 => ∃ q, vs = [V.ref q] ∧ H3 q = some (.lst (((ks.filterMap id).map fun k : Nat => (k : Int)).map V.int))) (eax_cons lst ?_) (fun vs H2 e2 q => ?_)) ?_)
        · rintro v H2 e2 ⟨q, rfl, _, _, hq⟩
          exact (ea_nil.toX).imp fun w H3 e3 z => ⟨q, by rw [z], e3.1 _ _ sx_none hq⟩
        · obtain ⟨q, rfl, hq⟩ := q
          intro H3 e3 Q3 q3
          refine ⟨q, _, rfl, SqL.of (e3.1 _ _ sx_none hq), ne, fun y y1 y2 => q3 _ _ Lx.rfl0 ?_⟩
          obtain ⟨z, z1, rfl⟩ := List.mem_map.mp y1
          have a1 := m2 z z1
          have a2 := y2 (m : Int) (List.mem_map.mpr ⟨m, m1, rfl⟩)
          rw [show z = m by omega]
        · rintro y H2 e2 rfl
          exact (ev_op ev_c ev_c rv_I0).toX
      · have hm' : mode = false := hm
        rw [if_neg (by rw [hm']; decide)] at du
        obtain ⟨m, m1, m2, ho⟩ := du
        refine fin (b := 1 + (m : Int)) rfl (by rw [ho] <;> congr 1) (by omega) e1 (ev_var rfl).toX (ex_op2 ev_c (ex_cbX (P := fun v _ => v = .int (m : Int)) (PA := fun vs H3 => ∃ q, vs = [V.ref q] ∧ H3 q = some (.lst (((ks.filterMap id).map fun k : Nat => (k : Int)).map V.int))) (eax_cons lst ?_) (fun vs H2 e2 q => ?_)) ?_)
        · rintro v H2 e2 ⟨q, rfl, _, _, hq⟩
          exact (ea_nil.toX).imp fun w H3 e3 z => ⟨q, by rw [z], e3.1 _ _ sx_none hq⟩
        · obtain ⟨q, rfl, hq⟩ := q
          intro H3 e3 Q3 q3
          refine ⟨q, _, rfl, SqL.of (e3.1 _ _ sx_none hq), ne, fun y y1 y2 => q3 _ _ Lx.rfl0 ?_⟩
          obtain ⟨z, z1, rfl⟩ := List.mem_map.mp y1
          have a1 := m2 z z1
          have a2 := y2 (m : Int) (List.mem_map.mpr ⟨m, m1, rfl⟩)
          rw [show z = m by omega]
        · rintro y H2 e2 rfl
          exact (ev_op ev_c ev_c rv_I0).toX
/-! _law_delays_kept -/
/-- the rows of targets, each a list of its own -/
structure RowsR (S : Dst) (H : Hp) (b : Addr) (rs : List Addr) (aws : List (List Nat)) : Prop where
  at_ : H b = some (.lst (rs.map V.ref))
  nb : ¬ Sx S b
  len : rs.length = aws.length
  each : ∀ (i : Nat) r ts, rs[i]? = some r → aws[i]? = some ts → H r = some (.lst (ts.map fun u : Nat => V.int (u : Int))) ∧ ¬ Sx S r
theorem RowsR.mono {S : Dst} {H H' : Hp} {b : Addr} {rs : List Addr} {aws : List (List Nat)} (h : RowsR S H b rs aws) (e : Lx S H H') : RowsR S H' b rs aws :=
  ⟨e.1 _ _ h.nb h.at_, h.nb, h.len, fun i r ts a c => ⟨e.1 _ _ (h.each i r ts a c).2 (h.each i r ts a c).1, (h.each i r ts a c).2⟩⟩
theorem RowsR.rows {S : Dst} {H : Hp} {b : Addr} {rs : List Addr} {aws : List (List Nat)} (h : RowsR S H b rs aws) : RowsAt K S H b rs aws := ⟨LA.of h.at_ h.nb, h.len, fun i r ts a c => LA.of (h.each i r ts a c).1 (h.each i r ts a c).2⟩
theorem RowsR.z {S : Dst} {H : Hp} {b : Addr} {rs : List Addr} {aws : List (List Nat)} (h : RowsR S H b rs aws) : RowsR none H b rs aws := ⟨h.at_, sx_none, h.len, fun i r ts a c => ⟨(h.each i r ts a c).1, sx_none⟩⟩
def dRow (ts : List Nat) : PyData := .list (ts.map fun u : Nat => .int (u : Int))
theorem RowsR.rp {H : Hp} {b : Addr} {rs : List Addr} {aws : List (List Nat)} (h : RowsR none H b rs aws) (hl : aws.length ≤ 100) (hs : ∀ ts ∈ aws, ts.length ≤ 10) : Rp none H (.ref b) (.list (aws.map dRow)) := by
  refine .lst h.at_ sx_none (by rw [List.length_map, h.len]; omega) (RpAll.of (by rw [List.length_map, List.length_map, h.len]) fun i v d hv hd => ?_)
  rw [List.getElem?_map] at hv hd
  obtain ⟨r, hr, rfl⟩ := Option.map_eq_some_iff.mp hv
  obtain ⟨ts, ht, rfl⟩ := Option.map_eq_some_iff.mp hd
  have := hs ts (List.mem_of_getElem? ht)
  exact .lst (h.each i r ts hr ht).1 sx_none (by rw [List.length_map]; omega) (RpAll.map fun u _ => .int _)
theorem dRow_dep (ts : List Nat) : (dRow ts).depth ≤ 1 := by
  unfold dRow
  rw [PyData.depth]
  have : PyData.depthAll (ts.map fun u : Nat => PyData.int (u : Int)) = 0 := by
    induction ts with
    | nil => rw [List.map_nil, PyData.depthAll]
    | cons u ts ih => rw [List.map_cons, PyData.depthAll, ih, PyData.depth]; rfl
  omega
theorem depAll_le {n : Nat} : ∀ {ds : List PyData}, (∀ d ∈ ds, d.depth ≤ n) → PyData.depthAll ds ≤ n
  | [], _ => by rw [PyData.depthAll]; omega
  | d :: ds, h => by
    rw [PyData.depthAll]
    exact Nat.max_le.mpr ⟨h d (by simp), depAll_le fun x hx => h x (by simp [hx])⟩
structure Tb.Full (t : Tb) : Prop extends t.Ok where
  busy : ∀ (i : Nat) ts, t.phs[i]? = some "waiting" → t.aws[i]? = some ts → ts ≠ []
def dTb (t : Tb) : PyData := .list [.list (t.phs.map .str), .list (t.aws.map dRow), .list (t.mds.map .bool)]
theorem dTb_dep (t : Tb) : (dTb t).depth < 5 := by
  unfold dTb
  rw [PyData.depth]
  have : PyData.depthAll [PyData.list (t.phs.map .str), .list (t.aws.map dRow), .list (t.mds.map .bool)] ≤ 2 := depAll_le fun d hd => by
    simp only [List.mem_cons, List.not_mem_nil, or_false] at hd
    rcases hd with rfl | rfl | rfl
    · rw [PyData.depth]
      have : PyData.depthAll (t.phs.map .str) ≤ 1 := depAll_le fun d hd => by
        obtain ⟨x, _, rfl⟩ := List.mem_map.mp hd
        rw [PyData.depth]; omega
      omega
    · rw [PyData.depth]
      have : PyData.depthAll (t.aws.map dRow) ≤ 1 := depAll_le fun d hd => by
        obtain ⟨x, _, rfl⟩ := List.mem_map.mp hd
        exact dRow_dep x
      omega
    · rw [PyData.depth]
      have : PyData.depthAll (t.mds.map .bool) ≤ 1 := depAll_le fun d hd => by
        obtain ⟨x, _, rfl⟩ := List.mem_map.mp hd
        rw [PyData.depth]; omega
      omega
  omega
theorem rp_three {H : Hp} {p a b c : Addr} {rs : List Addr} {t : Tb} (ok : t.Ok) (hp : H p = some (.lst [.ref a, .ref b, .ref c])) (ha : H a = some (.lst (t.phs.map V.str))) (hb : RowsR none H b rs t.aws) (hc : H c = some (.lst (t.mds.map V.bl))) : Rp none H (.ref p) (dTb t) := by
  have := ok.small
  have h1 := ok.l1
  have h2 := ok.l2
  exact .lst hp sx_none (by show 3 ≤ 100000; decide) (.cons (.lst ha sx_none (by rw [List.length_map]; omega) (RpAll.map fun _ _ => .str _)) (.cons (hb.rp (by omega) ok.short) (.cons (.lst hc sx_none (by rw [List.length_map]; omega) (RpAll.map fun _ _ => .bl _)) .nil)))
theorem final_due (t : Tb) (h : t.Full) {i : Nat} {ph : Str} {ts : List Nat} (hp : t.phs[i]? = some ph) (ha : t.aws[i]? = some ts) : IsDue ph (ts.map (t.N (t.phs.length + 1))) (t.md i) (t.N (t.phs.length + 1) i) := by
  have hi : i < t.phs.length := (List.getElem?_eq_some_iff.mp hp).1
  have eaw : t.aw i = ts := by unfold Tb.aw; rw [List.getD_eq_getElem?_getD, ha] <;> rfl
  have ef : t.first i = firstO ph := by unfold Tb.first; rw [hp] <;> rfl
  rcases h.word ph (List.mem_of_getElem? hp) with rfl | rfl | rfl
  · exact .inl ⟨rfl, Dl.N_mono (c := 0) (show t.first i = some 0 by rw [ef]; decide +kernel) (by omega)⟩
  · exact .inr (.inl ⟨rfl, Dl.N_mono (c := 0) (show t.first i = some 1 by rw [ef]; decide +kernel) (by omega)⟩)
  · refine .inr (.inr ⟨rfl, ?_⟩)
    have q := Dl.F_due (n := t.phs.length) (first := t.first) (aw := t.aw) (md := t.md) (t := i) (fun u m hm => ?_) (fun u x hu hx => ?_) hi (by rw [ef]; decide +kernel) (by rw [eaw]; exact h.busy i ts hp ha)
    · rw [eaw] at q; exact q
    · unfold Tb.first at hm
      obtain ⟨x, _, hx⟩ := Option.bind_eq_some_iff.mp hm
      unfold firstO at hx
      split at hx
      · cases hx; omega
      · split at hx
        · cases hx; omega
        · cases hx
    · unfold Tb.aw at hx
      rw [List.getD_eq_getElem?_getD] at hx
      have hu' : u < t.aws.length := by rw [h.l1]; exact hu
      rw [List.getElem?_eq_getElem hu'] at hx
      exact h.rng _ (List.getElem_mem hu') x hx
def sp_kept : Sp := fun vs H Q _ => ∃ (a b c : Addr) (rs : List Addr) (t : Tb), vs = [.ref a, .ref b, .ref c] ∧ t.Full ∧ H a = some (.lst (t.phs.map V.str)) ∧ RowsR none H b rs t.aws ∧ H c = some (.lst (t.mds.map V.bl)) ∧ ∀ H', Lx none H H' → Q (.bl true) H'
theorem ok__law_delays_kept (T : Txt K mg w) : Ok P w K mg base CX0 8 (He.fAd K ("_law_delays_kept", none)) ["phases", "awaited", "modes"] (sp_kept) := by
  refine okD (F__law_delays_kept T) sc__law_delays_kept (fun _ _ _ _ _ _ us hl => match us, hl with | [_, _, _], _ => rfl) (fun vs H Q E h => ?_) (fun cdv A outer s H vs Q E hr h => ?_)
  · obtain ⟨a, b, c, rs, t, rfl, _⟩ := h; rfl
  · obtain ⟨a, b, c, rs, t, rfl, full, ha, hb, hc, k⟩ := h
    have ok := full.toOk
    have sm := ok.small
    have sz := sizeLine_eq
    refine ⟨_, (pss_cons (ps_set (i := 3) sc__law_delays_kept.nd rfl (Or.inl rfl) (pe_lst (pa_cons (pe_callTy (listK K rfl) (by rfl) (n_list T) (by decide +kernel) (pa_cons (pv 0) pa_nil)) (pa_cons (pe_lc (own := [("row", 4)]) (by rfl) sc__law_delays_kept.nd (piLK K rfl (pv 1)) (blkOk_by (own := [("row", 4)]) (N := ["phases", "awaited", "modes", "lists", "row", "told", "number", "task", "known", "target"]) (sc := defScope s__law_delays_kept) (by decide +kernel)) (fun _ _ _ _ _ => by exact (pg_name (i := 4) sc__law_delays_kept.nd rfl (Or.inl rfl))) (fun _ _ _ _ _ => by exact pts_nil) (fun _ _ _ _ _ => by exact (pe_callTy (listK K rfl) (by rfl) (n_list T) (by decide +kernel) (pa_cons (pv 4) pa_nil)))) (pa_cons (pe_callTy (listK K rfl) (by rfl) (n_list T) (by decide +kernel) (pa_cons (pv 2) pa_nil)) pa_nil)))))
      (pss_cons (ps_set (i := 5) sc__law_delays_kept.nd rfl (Or.inr rfl) (pe_callO (ok_delays T) (hr.mono (by first | decide | omega)) rfl (g_delays T) pass0 (pa_cons (pe_ix (ixL K rfl) (pv 3) pe_int (fun _ _ => rfl)) (pa_cons (pe_ix (ixL K rfl) (pv 3) pe_int (fun _ _ => rfl)) (pa_cons (pe_ix (ixL K rfl) (pv 3) pe_int (fun _ _ => rfl)) pa_nil)))))
      (pss_cons (ps_if (pt_not (pt_val (pe_callO (ok__law_same T) (hr.mono (by first | decide | omega)) rfl (g__law_same T) pass0 (pa_cons (pv 3) (pa_cons (pe_lst (pa_cons (pv 0) (pa_cons (pv 1) (pa_cons (pv 2) pa_nil)))) pa_nil)))))
      (pss_one (ps_ret pe_bl))
      pss_nil)
      (pss_cons (ps_if (PW.pt (pw_or (pt_not (pt_val (pe_callB (isiK K rfl) (by rfl) (n_isinstance T) (by decide +kernel) (pa_cons (pv 5) (pa_cons (pe_bltn (v := .ty "list") (by rfl) (n_list T) (by decide +kernel) rfl) pa_nil))))) (pw_or1 (pt_cmpR op_ne (pe_callB (lenK K rfl) (by rfl) (n_len T) (by decide +kernel) (pa_cons (pv 5) pa_nil)) (pe_callB (lenK K rfl) (by rfl) (n_len T) (by decide +kernel) (pa_cons (pv 0) pa_nil)) (nomark _)))))
      (pss_one (ps_ret pe_bl))
      pss_nil)
      (pss_cons (ps_for PassesOwn.never rfl (piLK K rfl (pv 5)) (pg_name (i := 6) sc__law_delays_kept.nd rfl (Or.inl rfl))
      (pss_one (ps_if (PW.pt (pw_and (pt_cmpR op_notN (pv 6) pe_non (nomark _)) (pw_and1 (pt_not (pt_val (pe_callO (ok__law_is_number T) (hr.mono (by first | decide | omega)) rfl (g__law_is_number T) pass0 (pa_cons (pv 6) pa_nil)))))))
      (pss_one (ps_ret pe_bl))
      pss_nil)))
      (pss_cons (ps_for PassesOwn.never rfl (pi_range1 (by rfl) (n_range T) (pa_cons (pe_callB (lenK K rfl) (by rfl) (n_len T) (by decide +kernel) (pa_cons (pv 0) pa_nil)) pa_nil)) (pg_name (i := 7) sc__law_delays_kept.nd rfl (Or.inl rfl))
      (pss_cons (ps_setLc (i := 8) (own := [("target", 9)]) (by rfl) sc__law_delays_kept.nd rfl rfl (sw_true rfl rfl rfl (by decide +kernel)) (piLK K rfl (pe_ix (ixL K rfl) (pv 1) (pv 7) (fun _ _ => rfl))) (blkOk_by (own := [("target", 9)]) (N := ["phases", "awaited", "modes", "lists", "row", "told", "number", "task", "known", "target"]) (sc := defScope s__law_delays_kept) (by decide +kernel)) (fun _ _ _ _ _ => by exact (pg_name (i := 9) sc__law_delays_kept.nd rfl (Or.inl rfl))) (fun _ _ _ _ _ => by exact pts_nil) (fun _ _ _ _ _ => by exact (pe_ix (ixL K rfl) (pv 5) (pv 9) (fun _ _ => rfl))))
      (pss_one (ps_if (pt_not (pt_val (pe_callO (ok__law_is_delay T) (hr.mono (by first | decide | omega)) rfl (g__law_is_delay T) pass0 (pa_cons (pe_ix (ixL K rfl) (pv 5) (pv 7) (fun _ _ => rfl)) (pa_cons (pe_ix (ixL K rfl) (pv 0) (pv 7) (fun _ _ => rfl)) (pa_cons (pv 8) (pa_cons (pe_ix (ixL K rfl) (pv 2) (pv 7) (fun _ _ => rfl)) pa_nil)))))))
      (pss_one (ps_ret pe_bl))
      pss_nil))))
      (pss_one (ps_ret pe_bl)))))))), ?_⟩
    refine go (K := K) (σ' := [some (.ref a), some (.ref b), some (.ref c), none, none, none, none, none, none, none]) rfl ?_
    -- lists = [list(phases), [list(row) for row in awaited], list(modes)]
    refine s_asgX (ex_lstX (PA := fun vs H2 => ∃ a' b' c' rs', vs = [.ref a', .ref b', .ref c'] ∧ H2 a' = some (.lst (t.phs.map V.str)) ∧ RowsR none H2 b' rs' t.aws ∧ H2 c' = some (.lst (t.mds.map V.bl))) ?_ ?_) ?_
    · refine eax_cons (ex_cb (ea_cons (ev_var rfl) ea_nil) (rc_list (LA.of ha sx_none))) ?_
      rintro v H1 e1 ⟨a', rfl, _, _, ha'⟩
      refine eax_cons (P := fun v H2 => ∃ b' rs', v = .ref b' ∧ RowsR none H2 b' rs' t.aws) ((ex_lcL (ev_var rfl) (LA.of (e1.1 _ _ sx_none hb.at_) sx_none) (by rw [List.length_map, hb.len, ok.l1]; omega) (fun _ => rfl)
        (fun D i acc H' => ∃ rs' : List Addr, acc = rs'.map V.ref ∧ rs'.length = i ∧ ∀ (j : Nat) r' ts, rs'[j]? = some r' → t.aws[j]? = some ts → r' ≠ D ∧ H' r' = some (.lst (ts.map fun u : Nat => V.int (u : Int)))) (fun D H2 _ _ _ => ⟨[], rfl, rfl, fun j r' ts z => by simp at z⟩) ?_).imp ?_) ?_
      · rintro D i x acc H2 _ hD hx e2 ⟨rs', rfl, rfl, hr⟩ H3 e3 Q3 q3
        rw [List.getElem?_map] at hx
        obtain ⟨r, hri, rfl⟩ := Option.map_eq_some_iff.mp hx
        have hia : rs'.length < t.aws.length := by rw [← hb.len]; exact (List.getElem?_eq_some_iff.mp hri).1
        have e13 := (e1.trans e2).trans e3
        have hrow := (hb.each _ r _ hri (List.getElem?_eq_getElem hia)).1
        refine q3 true H3 e3.refl ⟨fun _ => (ex_cb (ea_cons (ev_var rfl) ea_nil) (rc_list (LA.of (e13.1 _ _ sx_none hrow) sx_none))).imp ?_, fun z => nomatch z⟩
        rintro w H4 e4 ⟨p, rfl, hp, _, hp4⟩
        have npD : p ≠ D := fun z => by rw [z, e3.1 _ _ sx_none hD] at hp; cases hp
        refine ⟨rs' ++ [p], by rw [List.map_append]; rfl, by simp, fun j r' ts hj ht => ?_⟩
        by_cases hjl : j < rs'.length
        · rw [List.getElem?_append_left hjl] at hj
          obtain ⟨n1, n2⟩ := hr j r' ts hj ht
          exact ⟨n1, by rw [upd_ne n1]; exact e4.1 _ _ sx_none (e3.1 _ _ sx_none n2)⟩
        · have hj2 := (List.getElem?_eq_some_iff.mp hj).1
          rw [List.length_append] at hj2
          have : j = rs'.length := by simp at hj2; omega
          subst this
          simp at hj
          subst hj
          rw [List.getElem?_eq_getElem hia] at ht
          cases ht
          exact ⟨npD, by rw [upd_ne npD]; exact hp4⟩
      · rintro v H2 e2 ⟨p, acc, rfl, _, _, hp, _, rs', rfl, hl, hr⟩
        exact ⟨p, rs', rfl, hp, sx_none, by rw [hl, List.length_map, hb.len], fun i r ts x y => ⟨(hr i r ts x y).2, sx_none⟩⟩
      · rintro v H2 e2 ⟨b', rs', rfl, hb'⟩
        refine eax_cons (ex_cb (ea_cons (ev_var rfl) ea_nil) (rc_list (LA.of ((e1.trans e2).1 _ _ sx_none hc) sx_none))) ?_
        rintro v H3 e3 ⟨c', rfl, _, _, hc'⟩
        exact ea_nil.toX.imp fun w H4 e4 z => ⟨a', b', c', rs', by rw [z], (e2.trans (e3.trans e4)).1 _ _ sx_none ha', hb'.mono (e3.trans e4), e4.1 _ _ sx_none hc'⟩
    · rintro vs H2 ⟨a', b', c', rs', rfl, _⟩
      show 3 ≤ sizeLine
      decide
    rintro v H1 e1 ⟨vs, H0, ⟨a', b', c', rs', rfl, ha0, hb0, hc0⟩, _, e0, p, rfl, _, _, hp⟩
    have ha' := e0.1 _ _ sx_none ha0
    have hb' := hb0.mono e0
    have hc' := e0.1 _ _ sx_none hc0
    dsimp only [List.set]
    have hP := LA.of (K := K) hp sx_none
    -- told = delays(..)
    refine s_asgX (P := fun v H2 => ∃ q, v = .ref q ∧ H2 q = some (.lst (row t.phs.length (t.N (t.phs.length + 1))))) (ex_call (ea_cons (ev_op (ev_var rfl) ev_c (rv_ixL hP rfl)) (ea_cons (ev_op (ev_var rfl) ev_c (rv_ixL hP rfl)) (ea_cons (ev_op (ev_var rfl) ev_c (rv_ixL hP rfl)) ea_nil)))
      fun H2 e2 Q2 q2 => ⟨a', b', c', rs', t, rfl, ok, (LA.of ha' sx_none).mono e2, (hb'.rows (K := K)).mono e2, (LA.of hc' sx_none).mono e2, fun q H3 e3 _ hq => q2 _ _ e3 ⟨q, rfl, hq⟩⟩) ?_
    rintro v H2 e2 ⟨q, rfl, hq⟩
    dsimp only [List.set]
    have e02 := e1.trans e2
    have ha2 := e02.1 _ _ sx_none ha
    have hb2 := hb.mono e02
    have hc2 := e02.1 _ _ sx_none hc
    -- they are as they were
    refine s_ifX (PB := fun b _ => b = false) (etx_not (etx_B ((ex_callX (PA := fun vs H3 => ∃ z, vs = [.ref p, .ref z] ∧ H3 z = some (.lst [.ref a, .ref b, .ref c])) (eax_cons (ev_var rfl).toX ?_) ?_)))) (fun _ _ z => nomatch z) (fun H3 e3 _ => s_next ?_)
    · rintro v H3 e3 rfl
      refine eax_cons (ex_lst (by walk_at "ev") (by show 3 ≤ sizeLine; decide)) ?_
      rintro v H4 e4 ⟨z, rfl, _, _, hz⟩
      exact ea_nil.toX.imp fun w H5 e5 y => ⟨z, by rw [y], e5.1 _ _ sx_none hz⟩
    · rintro vs H3 e3 ⟨z, rfl, hz⟩
      have e23 := e2.trans e3
      exact fun H4 e4 Q4 q4 => spx_same (K := K) ((rp_three ok (e23.1 _ _ sx_none hp) (e23.1 _ _ sx_none ha') (hb'.mono e23) (e23.1 _ _ sx_none hc'))) (rp_three ok hz (e3.1 _ _ sx_none ha2) (hb2.mono e3) (e3.1 _ _ sx_none hc2)) (dTb_dep t) H4 e4 Q4 fun v H5 e5 hv => q4 v H5 e5 ⟨true, hv, rfl⟩
    have hq3 := e3.1 _ _ sx_none hq
    have ha3 := e3.1 _ _ sx_none ha2
    have hb3 := hb2.mono e3
    have hc3 := e3.1 _ _ sx_none hc2
    have e03 := e02.trans e3
    clear ha2 hb2 hc2 hq ha' hb' hc' ha0 hb0 hc0 hp hP
    have hQ := LA.of (K := K) hq3 sx_none
    have rpQ : ∃ ds, Rp none H3 (.ref q) (.list ds) := by
      have all : ∀ n f, ∃ ds, RpAll none H3 (row n f) ds := fun n f => by
        unfold row
        generalize List.range n = l
        induction l with
        | nil => exact ⟨[], .nil⟩
        | cons u l ih =>
          obtain ⟨ds, h1⟩ := ih
          obtain ⟨d, h2, _⟩ := rp_opt (S := none) (H := H3) (f u)
          exact ⟨d :: ds, .cons h2 h1⟩
      obtain ⟨ds, h1⟩ := all t.phs.length (t.N (t.phs.length + 1))
      exact ⟨ds, .lst hq3 sx_none (by rw [row_len]; omega) h1⟩
    obtain ⟨dq, rpQ⟩ := rpQ
    refine s_if (b := false) (et_is (et_or (et_not (et_B (ev_isi (b := true) (ev_var rfl) rpQ (kD "list" rfl (by decide +kernel))))) fun _ => et_test (ev_op (ev_cb (ea_cons (ev_var rfl) ea_nil) (rc_len hQ)) (ev_cb (ea_cons (ev_var rfl) ea_nil) (rc_len (LA.of ha3 sx_none))) (rv_ne rfl))) (by rw [row_len, List.length_map]; simp)) (fun z => nomatch z) (fun _ => s_next ?_)
    -- each is None or a number
    refine s_forLn (ev_var rfl) hQ (fun i σ' H' => (∃ v6, σ' = [some (.ref a), some (.ref b), some (.ref c), some (.ref p), none, some (.ref q), v6, none, none, none]) ∧ Lx none H3 H') wf0 (fun H4 e4 => ⟨⟨_, rfl⟩, e4⟩) (fun i σ' H' _ z => hQ.mono z.2) ?_ ?_
    · rintro i x σ' H4 hx ⟨⟨v6, rfl⟩, e4⟩
      dsimp only [List.set]
      have : ∃ o, x = optV o := by
        unfold row at hx
        rw [List.getElem?_map] at hx
        obtain ⟨u, _, rfl⟩ := Option.map_eq_some_iff.mp hx
        exact ⟨_, rfl⟩
      obtain ⟨o, rfl⟩ := this
      obtain ⟨d, rd, _, hd⟩ := rp_opt (S := none) (H := H4) o
      refine s_if1 (b := false) (et_is (et_and (et_test (ev_op (ev_var rfl) ev_c rv_notN)) fun _ => et_not (et_B (ev_isnum (ev_var rfl) rd))) ?_) (fun z => nomatch z) (fun _ => s_nx fun H5 e5 => ⟨⟨_, rfl⟩, e4.trans e5⟩)
      cases o with
      | none => rfl
      | some k' => rw [hd k' rfl]; rfl
    · rintro σ' H4 ⟨⟨v6, rfl⟩, e4⟩
      have hQ := hQ.mono e4
      have ha4 := LA.of (K := K) (e4.1 _ _ sx_none ha3) sx_none
      -- the tasks one by one
      refine s_forRn (n := ((t.phs.map V.str).length : Int)) (ea_cons (ev_cb (ea_cons (ev_var rfl) ea_nil) (rc_len ha4)) ea_nil) ⟨by rw [List.length_map]; omega, by omega⟩ (fun i σ' H' => (∃ v7 v8 v9, σ' = [some (.ref a), some (.ref b), some (.ref c), some (.ref p), none, some (.ref q), v6, v7, v8, v9]) ∧ Lx none H4 H') wf0 (fun H5 e5 => ⟨⟨_, _, _, rfl⟩, e5⟩) ?_ ?_
      · rintro i σ' H5 hi ⟨⟨v7, v8, v9, rfl⟩, e5⟩
        dsimp only [List.set]
        have e45 := e4.trans e5
        rw [List.length_map] at hi
        have hi : i < t.phs.length := by omega
        have hia : i < t.aws.length := by rw [ok.l1]; exact hi
        have him : i < t.mds.length := by rw [ok.l2]; exact hi
        have hir : i < rs.length := by rw [hb.len]; exact hia
        obtain ⟨ph, hph⟩ : ∃ x, t.phs[i]? = some x := ⟨_, List.getElem?_eq_getElem hi⟩
        obtain ⟨ts, hts⟩ : ∃ x, t.aws[i]? = some x := ⟨_, List.getElem?_eq_getElem hia⟩
        obtain ⟨r, hr⟩ : ∃ x, rs[i]? = some x := ⟨_, List.getElem?_eq_getElem hir⟩
        have emd : t.mds[i]? = some (t.md i) := by unfold Tb.md; rw [List.getD_eq_getElem?_getD, List.getElem?_eq_getElem him] <;> rfl
        have hB := (hb3.mono e45).rows (K := K)
        have hQ5 := hQ.mono e5
        have hA5 := ha4.mono e5
        have hC5 := (LA.of (K := K) hc3 sx_none).mono e45
        have hRow := hB.each i r ts hr hts
        have i1 : atI (rs.map V.ref) (i : Int) = some (.ref r) := at_of rfl (by rw [List.getElem?_map, hr] <;> rfl)
        have i2 : atI (row t.phs.length (t.N (t.phs.length + 1))) (i : Int) = some (optV (t.N (t.phs.length + 1) i)) := at_of rfl (row_get hi)
        have i3 : atI (t.phs.map V.str) (i : Int) = some (.str ph) := at_of rfl (by rw [List.getElem?_map, hph] <;> rfl)
        have i4 : atI (t.mds.map V.bl) (i : Int) = some (.bl (t.md i)) := at_of rfl (by rw [List.getElem?_map, emd] <;> rfl)
        have short := ok.short ts (List.mem_of_getElem? hts)
        have rng := ok.rng ts (List.mem_of_getElem? hts)
        -- known
        refine s_asgX (ex_map (fun v => match v with | .int u => optV (t.N (t.phs.length + 1) u.toNat) | _ => .non) (ev_op (ev_var rfl) (ev_var rfl) (rv_ixL hB.at_ i1)) hRow (by rw [List.length_map]; omega) (fun _ => rfl) (fun x hx => ?_)) ?_
        · obtain ⟨u, hu, rfl⟩ := List.mem_map.mp hx
          exact ev_op (ev_var rfl) (ev_var rfl) (rv_ixL hQ5 (at_of rfl (row_get (rng u hu))))
        rintro v H6 e6 ⟨kn, rfl, _, _, hk⟩
        dsimp only [List.set]
        have ek : ((ts.map fun u : Nat => V.int (u : Int)).map fun v => match v with | .int u => optV (t.N (t.phs.length + 1) u.toNat) | _ => .non) = (ts.map (t.N (t.phs.length + 1))).map optV := by
          rw [List.map_map, List.map_map]
          exact List.map_congr_left fun _ _ => rfl
        rw [ek] at hk
        refine s_if1 (b := false) (et_not (b := true) (et_B ((ex_call (P := fun v _ => v = .bl true) (ea_cons (ev_op (ev_var rfl) (ev_var rfl) (rv_ixL (hQ5.mono e6) i2)) (ea_cons (ev_op (ev_var rfl) (ev_var rfl) (rv_ixL (hA5.mono e6) i3)) (ea_cons (ev_var rfl) (ea_cons (ev_op (ev_var rfl) (ev_var rfl) (rv_ixL (hC5.mono e6) i4)) ea_nil))))
          fun H7 e7 Q7 q7 => ⟨t.N (t.phs.length + 1) i, ph, kn, ts.map (t.N (t.phs.length + 1)), t.md i, rfl, (LA.of hk sx_none).mono e7, by rw [List.length_map]; omega, final_due t full hph hts, fun H8 e8 => q7 _ _ e8 rfl⟩).ev fun _ _ _ z => z))) (fun z => nomatch z) (fun _ => s_nx fun H7 e7 => ⟨⟨_, _, _, rfl⟩, e5.trans (e6.trans e7)⟩)
      · rintro σ' H5 ⟨⟨v7, v8, v9, rfl⟩, e5⟩
        exact s_ret ev_c fun H6 e6 => k _ (e03.trans (e4.trans (e5.trans e6)))
/-! law -/
def sp_law (K : PySem.W.Frag) : Sp := fun vs H Q _ => ∃ (a : Addr) (ns : List Int), vs = [.ref a] ∧ SqL K H a (ns.map V.int) ∧ ns.length ≤ 63 ∧ ∀ H', Q (.bl true) H'
theorem sp_law_of {H : Hp} {a : Addr} {ns : List Int} {E : XK} (hl : ns.length ≤ 63) (hS : SqL K H a (ns.map V.int)) : sp_law K [.ref a] H (fun v _ => v = .bl true) E := ⟨a, ns, rfl, hS, hl, fun _ => rfl⟩
/-- the three lists as they grow -/
structure Grown (S : Dst) (H : Hp) (A B C : Addr) (rs : List Addr) (t : Tb) (shape : Int) (size i : Nat) : Prop where
  a : H A = some (.lst (t.phs.map V.str))
  rows : RowsR S H B rs t.aws
  c : H C = some (.lst (t.mds.map V.bl))
  l0 : t.phs.length = i
  l1 : t.aws.length = i
  l2 : t.mds.length = i
  own : ∀ r ∈ rs, r ≠ A ∧ r ≠ B ∧ r ≠ C
  word : ∀ x ∈ t.phs, Word x
  rng : ∀ ts ∈ t.aws, ∀ u ∈ ts, u < size
  short : ∀ ts ∈ t.aws, ts.length ≤ 10
  busy : ∀ (i : Nat) ts, t.phs[i]? = some "waiting" → t.aws[i]? = some ts → ts ≠ []
theorem Grown.full {S : Dst} {H : Hp} {A B C : Addr} {rs : List Addr} {t : Tb} {shape : Int} {size : Nat} (g : Grown S H A B C rs t shape size size) (h : size ≤ 24) : t.Full where
  l1 := g.l1.trans g.l0.symm
  l2 := g.l2.trans g.l0.symm
  small := by rw [g.l0]; omega
  word := g.word
  rng := by rw [g.l0]; exact g.rng
  short := g.short
  busy := g.busy
theorem get_app {α : Type} {xs : List α} {x y : α} {i : Nat} (h : (xs ++ [x])[i]? = some y) : xs[i]? = some y ∨ (i = xs.length ∧ x = y) := by
  by_cases hl : i < xs.length
  · rw [List.getElem?_append_left hl] at h; exact .inl h
  · have h2 := (List.getElem?_eq_some_iff.mp h).1
    rw [List.length_append] at h2
    have e : i = xs.length := by simp at h2; omega
    subst e
    simp at h
    exact .inr ⟨rfl, h⟩
theorem ev_kept {S : Dst} {ta tb tc : TE} {σ : L2.St} {H : Hp} {E : XK} {a b c : Addr} {rs : List Addr} {t : Tb} (h1 : Ev K S ta σ H (.ref a)) (h2 : Ev K S tb σ H (.ref b)) (h3 : Ev K S tc σ H (.ref c)) (full : t.Full) (ha : H a = some (.lst (t.phs.map V.str))) (na : ¬ Sx S a) (hb : RowsR S H b rs t.aws) (hc : H c = some (.lst (t.mds.map V.bl))) (nc : ¬ Sx S c) :
    Ev K S (tCall sp_kept [] E (tCons ta (tCons tb (tCons tc tNil)))) σ H (.bl true) :=
  (ex_call (P := fun v _ => v = .bl true) (ea_cons h1 (ea_cons h2 (ea_cons h3 ea_nil))) fun H1 e Q q => ⟨a, b, c, rs, t, rfl, full, e.1 _ _ na ha, (hb.mono e).z, e.1 _ _ nc hc, fun H' e2 => q _ _ (e.refl.of0 e2) rfl⟩).ev fun _ _ _ z => z
theorem ok_law (T : Txt K mg w) : Ok P w K mg base CX0 9 (He.fAd K ("law", none)) ["script"] (sp_law K) := by
  refine okD (F_law T) sc_law (fun _ _ _ _ _ _ us hl => match us, hl with | [_], _ => rfl) (fun vs H Q E h => ?_) (fun cdv A outer s H vs Q E hr h => ?_)
  · obtain ⟨a, ns, rfl, _⟩ := h; rfl
  · obtain ⟨a, ns, rfl, hS, hl, k⟩ := h
    refine ⟨_, (pss_cons (ps_set (i := 1) sc_law.nd rfl (Or.inl rfl) (pe_callO (ok__law_start T) (hr.mono (by first | decide | omega)) rfl (g__law_start T) pass0 (pa_cons (pv 0) pa_nil)))
      (pss_cons (ps_set (i := 2) sc_law.nd rfl (Or.inl rfl) (pe_callO (ok__law_draw T) (hr.mono (by first | decide | omega)) rfl (g__law_draw T) pass0 (pa_cons (pv 1) (pa_cons pe_int pa_nil))))
      (pss_cons (ps_set (i := 3) sc_law.nd rfl (Or.inl rfl) (pe_callO (ok__law_draw T) (hr.mono (by first | decide | omega)) rfl (g__law_draw T) pass0 (pa_cons (pv 1) (pa_cons pe_int pa_nil))))
      (pss_cons (ps_set (i := 4) sc_law.nd rfl (Or.inl rfl) (pe_lst pa_nil))
      (pss_cons (ps_set (i := 5) sc_law.nd rfl (Or.inl rfl) (pe_lst pa_nil))
      (pss_cons (ps_set (i := 6) sc_law.nd rfl (Or.inl rfl) (pe_lst pa_nil))
      (pss_cons (ps_for PassesOwn.never rfl (pi_range1 (by rfl) (n_range T) (pa_cons (pv 3) pa_nil)) (pg_name (i := 7) sc_law.nd rfl (Or.inl rfl))
      (pss_cons (ps_set (i := 8) sc_law.nd rfl (Or.inl rfl) (pe_callO (ok__law_drawn_phase T) (hr.mono (by first | decide | omega)) rfl (g__law_drawn_phase T) pass0 (pa_cons (pv 1) (pa_cons (pv 2) (pa_cons (pv 7) (pa_cons (pv 3) pa_nil))))))
      (pss_cons (ps_expr (bmK K rfl PySem.F.plainAttrs_list PySem.F.slot_list_append PySem.F.type_list_append mt_append (pv 4) (pa_cons (pv 8) pa_nil)))
      (pss_cons (ps_expr (bmK K rfl PySem.F.plainAttrs_list PySem.F.slot_list_append PySem.F.type_list_append mt_append (pv 5) (pa_cons (pe_callO (ok__law_drawn_targets T) (hr.mono (by first | decide | omega)) rfl (g__law_drawn_targets T) pass0 (pa_cons (pv 1) (pa_cons (pv 2) (pa_cons (pv 7) (pa_cons (pv 3) (pa_cons (pv 8) pa_nil)))))) pa_nil)))
      (pss_one (ps_expr (bmK K rfl PySem.F.plainAttrs_list PySem.F.slot_list_append PySem.F.type_list_append mt_append (pv 6) (pa_cons (pe_cmpR op_eq (pe_callO (ok__law_draw T) (hr.mono (by first | decide | omega)) rfl (g__law_draw T) pass0 (pa_cons (pv 1) (pa_cons pe_int pa_nil))) pe_int (nomark _)) pa_nil))))))))
      (pss_cons (ps_if (pt_not (pt_val (pe_callO (ok__law_delays_kept T) (hr.mono (by first | decide | omega)) rfl (g__law_delays_kept T) pass0 (pa_cons (pv 4) (pa_cons (pv 5) (pa_cons (pv 6) pa_nil))))))
      (pss_one (ps_ret pe_bl))
      pss_nil)
      (pss_cons (ps_if (pt_cmpR op_eq (pv 3) pe_int (nomark _))
      (pss_one (ps_ret pe_bl))
      pss_nil)
      (pss_cons (ps_asg pe_str (pg_sub (pv 4) (pe_callO (ok__law_draw T) (hr.mono (by first | decide | omega)) rfl (g__law_draw T) pass0 (pa_cons (pv 1) (pa_cons (pv 3) pa_nil))) set_list))
      (pss_one (ps_ret (pe_callO (ok__law_delays_kept T) (hr.mono (by first | decide | omega)) rfl (g__law_delays_kept T) pass0 (pa_cons (pv 4) (pa_cons (pv 5) (pa_cons (pv 6) pa_nil)))))))))))))))), ?_⟩
    refine go (K := K) (σ' := [some (.ref a), none, none, none, none, none, none, none, none]) rfl ?_
    refine s_asgX (ex_start (ev_var rfl) hS) ?_
    rintro v H1 _ ⟨st, l, rfl, d1⟩
    dsimp only [List.set]
    refine s_S d1 ?_
    refine s_asgX (ex_draw (ev_var rfl) ev_c (by decide) (by decide)) ?_
    rintro v H2 e2 ⟨shape, rfl, sh0, sh1⟩
    dsimp only [List.set]
    refine s_asgX (ex_draw (ev_var rfl) ev_c (by decide) (by decide)) ?_
    rintro v H3 e3 ⟨sz, rfl, sz0, sz1⟩
    dsimp only [List.set]
    obtain ⟨size, rfl⟩ : ∃ n : Nat, sz = (n : Int) := ⟨sz.toNat, by omega⟩
    have hsize : size ≤ 24 := by omega
    have szL := sizeLine_eq
    refine s_asgX (ex_lst (vs := []) (by walk_at "ev") (by show 0 ≤ sizeLine; omega)) ?_
    rintro v H4 e4 ⟨A, rfl, _, nA, hA⟩
    refine s_asgX (ex_lst (vs := []) (by walk_at "ev") (by show 0 ≤ sizeLine; omega)) ?_
    rintro v H5 e5 ⟨B, rfl, hB0, nB, hB⟩
    refine s_asgX (ex_lst (vs := []) (by walk_at "ev") (by show 0 ≤ sizeLine; omega)) ?_
    rintro v H6 e6 ⟨C, rfl, hC0, nC, hC⟩
    dsimp only [List.set]
    have hA5 := e5.1 _ _ nA hA
    have nAB : A ≠ B := ne_of_none hA hB0
    have nAC : A ≠ C := ne_of_none hA5 hC0
    have nBC : B ≠ C := ne_of_none hB hC0
    have W : ∀ {H' H'' : Hp}, Lx (some (st, l)) H' H'' → Lx (some (st, l)) H'' H'' := fun e => e.refl
    have upL : ∀ {H' : Hp} {X : Addr} {o : HO}, Lx (some (st, l)) H' H' → ¬ Sx (some (st, l)) X → Lx (some (st, l)) (upd H' X o) (upd H' X o) := fun e n => e.upd n
    -- the lists grow
    refine s_forRn (n := (size : Int)) (ea_cons (ev_var rfl) ea_nil) ⟨by omega, by omega⟩ (fun i σ' H' => (∃ v7 v8, σ' = [some (.ref a), some (.ref st), some (.int shape), some (.int (size : Int)), some (.ref A), some (.ref B), some (.ref C), v7, v8]) ∧ Lx (some (st, l)) H' H' ∧ i ≤ size ∧ ∃ rs t, Grown (some (st, l)) H' A B C rs t shape size i) (fun _ _ _ z => z.2.1)
      (fun H7 e7 => ⟨⟨_, _, rfl⟩, e7.refl, Nat.zero_le _, [], ⟨[], [], []⟩, (e6.trans e7).1 _ _ nA hA5, ⟨(e6.trans e7).1 _ _ nB hB, nB, rfl, fun i r ts z => by simp at z⟩, e7.1 _ _ nC hC, rfl, rfl, rfl, (fun _ z => nomatch z), (fun _ z => nomatch z), (fun _ z => nomatch z), (fun _ z => nomatch z), fun i ts z => by simp at z⟩) ?_ ?_
    · rintro i σ' H7 hi ⟨⟨v7, v8, rfl⟩, w7, hi2, rs, t, g⟩
      dsimp only [List.set]
      refine s_asgX (P := fun v H' => ∃ x, v = .str x ∧ Word x ∧ (Forced shape i size → x = "waiting")) (ex_call (ea_cons (ev_var rfl) (ea_cons (ev_var rfl) (ea_cons (ev_var rfl) (ea_cons (ev_var rfl) ea_nil)))) fun H8 e8 Q8 q8 => ⟨st, l, shape, i, size, rfl, e8.2 (st, l) rfl, fun x H' e wx fx => q8 _ _ e ⟨x, rfl, wx, fx⟩⟩) ?_
      rintro v H8 e8 ⟨x, rfl, wx, _⟩
      dsimp only [List.set]
      refine s_app (e8.1 _ _ nA g.a) nA (ev_var rfl) (ev_var rfl) (by rw [List.length_map, g.l0]; omega) ?_
      have w9 := upL (o := .lst (t.phs.map V.str ++ [.str x])) e8.refl nA
      have rows9 : RowsR (some (st, l)) (upd H8 A (.lst (t.phs.map V.str ++ [.str x]))) B rs t.aws := ⟨by rw [upd_ne nAB.symm]; exact e8.1 _ _ nB g.rows.at_, nB, g.rows.len, fun i r ts p q => ⟨by rw [upd_ne (g.own r (List.mem_of_getElem? p)).1]; exact e8.1 _ _ (g.rows.each i r ts p q).2 (g.rows.each i r ts p q).1, (g.rows.each i r ts p q).2⟩⟩
      refine s_appX (P := fun v H' => ∃ p ts, v = .ref p ∧ upd H8 A (.lst (t.phs.map V.str ++ [.str x])) p = none ∧ ¬ Sx (some (st, l)) p ∧ H' p = some (.lst (ts.map fun u : Nat => V.int (u : Int))) ∧ (∀ u ∈ ts, u < size) ∧ ts.length ≤ 10 ∧ (x = "waiting" → ts ≠ [])) rows9.at_ nB (ev_var rfl)
        (ex_call (ea_cons (ev_var rfl) (ea_cons (ev_var rfl) (ea_cons (ev_var rfl) (ea_cons (ev_var rfl) (ea_cons (ev_var rfl) ea_nil))))) fun H9 e9 Q9 q9 => ⟨st, l, shape, i, size, x, rfl, e9.2 (st, l) rfl, by omega, by omega, by omega, fun p ts H' e hp np h1 h2 h3 h4 => q9 _ _ e ⟨p, ts, rfl, e9.fresh hp, np, h1, h2, h3, h4⟩⟩) (by rw [List.length_map, g.rows.len, g.l1]; omega) ?_
      rintro v H9 e9 ⟨p, ts, rfl, hp0, np, hp, hu, hts, hw⟩
      have hA9 : H9 A = some (.lst (t.phs.map V.str ++ [.str x])) := e9.1 _ _ nA upd_same
      have rows10 := rows9.mono e9
      have hC9 : H9 C = some (.lst (t.mds.map V.bl)) := e9.1 _ _ nC (by rw [upd_ne nAC.symm]; exact e8.1 _ _ nC g.c)
      have npA : p ≠ A := fun z => by rw [z, upd_same] at hp0; cases hp0
      have npB : p ≠ B := fun z => by rw [z, rows9.at_] at hp0; cases hp0
      have npC : p ≠ C := fun z => by rw [z, upd_ne nAC.symm, e8.1 _ _ nC g.c] at hp0; cases hp0
      refine s_appX1 (P := fun v H' => ∃ b, v = .bl b) (xs := t.mds.map V.bl) (by rw [upd_ne nBC.symm]; exact hC9) nC (ev_var rfl) (ex_op1 (ex_draw (ev_var rfl) ev_c (by decide) (by decide)) ?_) (by rw [List.length_map, g.l2]; omega) ?_
      · rintro v H10 _ ⟨r, rfl, _⟩
        exact (ev_op ev_c ev_c (rv_eq rfl)).toX.imp fun w _ _ z => ⟨_, z⟩
      rintro v H10 e10 ⟨b, rfl⟩ H11 e11
      have up : ∀ {X : Addr} {o : HO}, ¬ Sx (some (st, l)) X → X ≠ C → H10 X = some o → H11 X = some o := fun n1 n2 h => e11.1 _ _ n1 (by rw [upd_ne n2]; exact h)
      have up2 : ∀ {X : Addr} {o : HO}, ¬ Sx (some (st, l)) X → X ≠ B → X ≠ C → H9 X = some o → H11 X = some o := fun n1 n2 n3 h => up n1 n3 (e10.1 _ _ n1 (by rw [upd_ne n2]; exact h))
      refine ⟨⟨_, _, rfl⟩, e11.refl, by omega, rs ++ [p], ⟨t.phs ++ [x], t.aws ++ [ts], t.mds ++ [b]⟩, ?_, ⟨?_, nB, ?_, ?_⟩, ?_, ?_, ?_, ?_, ?_, ?_, ?_, ?_, ?_⟩
      · rw [List.map_append]; exact up2 nA nAB nAC hA9
      · rw [List.map_append]; exact up nB nBC (e10.1 _ _ nB upd_same)
      · show (rs ++ [p]).length = (t.aws ++ [ts]).length
        rw [List.length_append, List.length_append, g.rows.len]; rfl
      · intro j r ts' h1 h2
        rcases get_app h1 with h1 | ⟨rfl, rfl⟩
        · have hj : j < t.aws.length := by rw [← g.rows.len]; exact (List.getElem?_eq_some_iff.mp h1).1
          have h2 : t.aws[j]? = some ts' := by
            have h2' : (t.aws ++ [ts])[j]? = some ts' := h2
            rwa [List.getElem?_append_left hj] at h2'
          obtain ⟨z1, z2⟩ := rows10.each j r ts' h1 h2
          obtain ⟨_, o2, o3⟩ := g.own r (List.mem_of_getElem? h1)
          exact ⟨up2 z2 o2 o3 z1, z2⟩
        · have h2' : (t.aws ++ [ts])[rs.length]? = some ts' := h2
          rw [g.rows.len] at h2'
          simp at h2'
          subst h2'
          exact ⟨up2 np npB npC hp, np⟩
      · rw [List.map_append]; exact e11.1 _ _ nC upd_same
      · show (t.phs ++ [x]).length = i + 1
        rw [List.length_append, g.l0]; rfl
      · show (t.aws ++ [ts]).length = i + 1
        rw [List.length_append, g.l1]; rfl
      · show (t.mds ++ [b]).length = i + 1
        rw [List.length_append, g.l2]; rfl
      · intro r hr
        rcases List.mem_append.mp hr with hr | hr
        · exact g.own r hr
        · simp at hr; subst hr; exact ⟨npA, npB, npC⟩
      · intro y hy
        rcases List.mem_append.mp hy with hy | hy
        · exact g.word y hy
        · simp at hy; subst hy; exact wx
      · intro ts' ht
        rcases List.mem_append.mp ht with ht | ht
        · exact g.rng ts' ht
        · simp at ht; subst ht; exact hu
      · intro ts' ht
        rcases List.mem_append.mp ht with ht | ht
        · exact g.short ts' ht
        · simp at ht; subst ht; exact hts
      · intro j ts' h1 h2
        have h1' : (t.phs ++ [x])[j]? = some "waiting" := h1
        have h2' : (t.aws ++ [ts])[j]? = some ts' := h2
        rcases get_app h1' with h1' | ⟨rfl, e⟩
        · have hj : j < t.aws.length := by rw [g.l1, ← g.l0]; exact (List.getElem?_eq_some_iff.mp h1').1
          rw [List.getElem?_append_left hj] at h2'
          exact g.busy j ts' h1' h2'
        · rw [g.l0, ← g.l1] at h2'
          simp at h2'
          subst h2'
          exact hw e
    · rintro σ' H7 ⟨⟨v7, v8, rfl⟩, w7, _, rs, t, g⟩
      rw [show ((size : Int)).toNat = size by omega] at g
      have full := g.full hsize
      refine s_if (et_not (b := true) (et_B (ev_kept (ev_var rfl) (ev_var rfl) (ev_var rfl) full g.a nA g.rows g.c nC))) (fun z => nomatch z) (fun _ => s_next ?_)
      refine s_if (et_test (ev_op (ev_var rfl) ev_c (rv_eq rfl))) (fun _ => s_ret ev_c fun H8 _ => k H8) (fun hz => s_next ?_)
      have hpos : 0 < size := by
        have : ¬ (V.int (size : Int) = V.int 0) := of_decide_eq_false hz
        have : (size : Int) ≠ 0 := fun z => this (by rw [z])
        omega
      refine s_setLX ev_c (ev_var rfl) (ex_draw (ev_var rfl) (ev_var rfl) (by omega) (by omega)) nA ?_
      rintro v H8 e8 ⟨r, rfl, r0, r1⟩
      refine ⟨t.phs.map V.str, r, r.toNat, rfl, e8.1 _ _ nA g.a, by rw [List.length_map, g.l0]; unfold ixN; rw [if_pos r0, if_pos r1], ?_⟩
      have e9 : (t.phs.map V.str).set r.toNat (V.str "ended") = (t.phs.set r.toNat "ended").map V.str := by rw [List.map_set]
      rw [e9]
      have full2 : Tb.Full ⟨t.phs.set r.toNat "ended", t.aws, t.mds⟩ := by
        refine { l1 := ?_, l2 := ?_, small := ?_, word := ?_, rng := ?_, short := g.short, busy := ?_ }
        · show t.aws.length = (t.phs.set _ _).length; rw [List.length_set]; exact full.l1
        · show t.mds.length = (t.phs.set _ _).length; rw [List.length_set]; exact full.l2
        · show (t.phs.set _ _).length ≤ 100; rw [List.length_set]; exact full.small
        · intro x hx
          rcases List.mem_or_eq_of_mem_set hx with h | h
          · exact full.word x h
          · exact .inl h
        · intro ts ht u hu
          show u < (t.phs.set _ _).length
          rw [List.length_set]; exact full.rng ts ht u hu
        · intro i ts h1 h2
          have h1' : (t.phs.set r.toNat "ended")[i]? = some "waiting" := h1
          by_cases hri : r.toNat = i
          · subst hri
            rw [List.getElem?_set_self (by rw [g.l0]; omega)] at h1'
            exact absurd (Option.some.inj h1') (by decide +kernel)
          · rw [List.getElem?_set_ne hri] at h1'
            exact full.busy i ts h1' h2
      have rows9 : RowsR (some (st, l)) (upd H8 A (.lst ((t.phs.set r.toNat "ended").map V.str))) B rs t.aws := ⟨by rw [upd_ne nAB.symm]; exact e8.1 _ _ nB g.rows.at_, nB, g.rows.len, fun i r' ts p q => ⟨by rw [upd_ne (g.own r' (List.mem_of_getElem? p)).1]; exact e8.1 _ _ (g.rows.each i r' ts p q).2 (g.rows.each i r' ts p q).1, (g.rows.each i r' ts p q).2⟩⟩
      exact s_ret (ev_kept (t := ⟨t.phs.set r.toNat "ended", t.aws, t.mds⟩) (ev_var rfl) (ev_var rfl) (ev_var rfl) full2 upd_same nA rows9 (by rw [upd_ne nAC.symm]; exact e8.1 _ _ nC g.c) nC) fun H9 _ => k H9
end
end Fk
set_option maxHeartbeats 0
namespace Fk
open PySem PySem.W PySem.Calls PyProof.Rows
def loose : List PySem.Str := (["is_over", "FIRST", "delays", "_law_start", "_law_draw", "_law_is_number", "_law_same", "_law_drawn_phase", "_law_drawn_targets", "_law_is_delay", "_law_delays_kept"] : List PySem.Str)
abbrev R : PySem.W.OpenRow := PySem.W.OpenLaw.row PySem.Challenge.rw_forkwaits_k75_delays_of_tasks
abbrev hk : PySem.W.Hook := He.hookX 6 fa fn ts [] exB
def ob (s : PySem.W.SharedT) : He.AlX := He.obsX 6 fa fn ts [] exB (HandSHeadRun.getT s)
theorem ob_eq (s : PySem.W.SharedT) : ob s = hk.obs s.abs := He.obsX_eq (HandSHeadRun.getT_eq s)
theorem run (w : World) : HandSHeadRun.RunEq R (PySem.W.view R.prog [14]) hk ob 2000 loose w := by
  refine byRow2 "special-get-raises" (P := fun w => HandSHeadRun.RunEq R (PySem.W.view R.prog [14]) hk ob 2000 loose w) (fun w os => ?_) (fun w os => ?_) w
  · kernel_rfl
  · kernel_rfl
end Fk
open PySem PySem.W PySem.Calls PyProof.Rows
theorem PySem.Challenge.cw_forkwaits_k75_delays_of_tasks_holds : PySem.Challenge.rw_forkwaits_k75_delays_of_tasks.Holds := by
  w_on; o_law
  refine HandSHeadRun.head_any (r := OpenLaw.row PySem.Challenge.rw_forkwaits_k75_delays_of_tasks) (q := view (OpenLaw.row PySem.Challenge.rw_forkwaits_k75_delays_of_tasks).prog [14]) (H := Fk.hk) (ob := Fk.ob) (M := 2000) (loose := Fk.loose) (d := HandSHeadRun.topDef (OpenLaw.row PySem.Challenge.rw_forkwaits_k75_delays_of_tasks).prog 14) (kwd := []) Fk.ob_eq
    (by kernel_rfl) (fun s => by kernel_rfl) Fk.run (by kernel_rfl) (by kernel_rfl) (by kernel_rfl) (by rfl) (by first | assumption | decide +kernel) (by decide +kernel) ⟨rfl, rfl, rfl, rfl, rfl, by decide +kernel⟩ ?hw ?hc
  case hw => w_witness2
  case hc =>
    refine L2.walk_ofE (l := PySem.Challenge.rw_forkwaits_k75_delays_of_tasks) (n := 63) (k := 9) (x := "script") (CX := L2.CX0) rfl (by decide) (by kernel_rfl) ⟨rfl, by decide, by decide⟩ ?F (fun _ _ _ _ z => z)
    intro w mg fa h Y G hmg0
    obtain ⟨K, KX, c⟩ := Y
    have hmg : mg ("law" : PySem.Str) = some (.ref fa) := by
      have e : (HandSHeadRun.topDef (OpenLaw.row PySem.Challenge.rw_forkwaits_k75_delays_of_tasks).prog 14).name = ("law" : PySem.Str) := by kernel_rfl
      rw [← e]
      exact hmg0
    have T : Fk.Txt K mg w := ⟨h, KX, G, c⟩
    have e := hmg.symm.trans (Fk.g_law T)
    cases e
    obtain ⟨fd, F⟩ := Fk.F_law T
    have hb := L2.FunD.bindsA (ps := ["script"]) F fun _ _ _ _ _ _ us hl => match us, hl with | [_], _ => rfl
    refine ⟨K, fd, Fk.sp_law K, KX, fun s v => hb s [v] rfl, fun H a ns hl _ hS => Fk.sp_law_of hl hS, fun base _ _ => ?_⟩
    exact (Fk.ok_law (P := (PySem.Challenge.rw_forkwaits_k75_delays_of_tasks).prog) (base := base) T).fn F
