import PyProof.Rows.All
import Wide.All
import OpenK.AllK
import Wide.FinOn
import HandS.ForMost
import HandS.IsInst
import HandS.Evl
import HandS.More
import HandS.Defaults
import HandS.HeadHook4
import HandS.Star
import HandS.SlotsOwn
import HandS.ClsMeth
import HandS.TupLe
import HandS.Property
import KE.KOpsOwn
import PyProof.InstNe
import PyProof.FactsAll.object
import PyProof.SeqIndex
import HandS.HeadNt
import KE.KStateDown
import HandS.HeadEnd
import HandS.Head0
import HandS.Head1
import HandS.Head2
import PySem.Challenge.RW_forkwaits_k06_kins_between_paths
set_option Elab.async false
set_option linter.all false
set_option maxRecDepth 100000
set_option maxHeartbeats 4000000
namespace Fw
open PySem PySem.Spec PyProof.Rows L2

/-! ### the drawing state, the order of heaps -/
/-- a drawing state at st, its numbers at l -/
def Drw (H : Hp) (st l : Addr) : Prop := ∃ (ns : List Int) (p c n b : Int), H st = some (.lst [.ref l, .int p, .int c, .int n, .int b]) ∧ 0 ≤ p ∧ H l = some (.lst (ns.map V.int))
/-- where a drawing state stands, if there is one -/
abbrev Dst := Option (Addr × Addr)
def Sx (S : Dst) (b : Addr) : Prop := ∃ p, S = some p ∧ (b = p.1 ∨ b = p.2)
/-- what may happen: new objects; at the places of S the drawing goes on -/
def Lx (S : Dst) (H H' : Hp) : Prop := (∀ b o, ¬ Sx S b → H b = some o → H' b = some o) ∧ ∀ p, S = some p → Drw H' p.1 p.2
theorem sx_none {b : Addr} : ¬ Sx none b := fun ⟨_, h, _⟩ => nomatch h
section
variable {S : Dst} {H H1 H2 H' : Hp}
theorem Lx.refl (h : Lx S H H1) : Lx S H1 H1 := ⟨fun _ _ _ e => e, h.2⟩
theorem Lx.rfl0 : Lx none H H := ⟨fun _ _ _ e => e, fun _ h => nomatch h⟩
theorem Lx.trans (a : Lx S H H1) (b : Lx S H1 H2) : Lx S H H2 := ⟨fun c o n e => b.1 c o n (a.1 c o n e), b.2⟩
theorem Lx.ns (h : Lx S H H1) {p : Addr} (e : H1 p = none) : ¬ Sx S p := fun ⟨q, hq, hp⟩ => by
  obtain ⟨_, _, _, _, _, h1, _, h2⟩ := h.2 q hq
  rcases hp with rfl | rfl
  · rw [e] at h1; cases h1
  · rw [e] at h2; cases h2
theorem Drw.put {st l p : Addr} {o : HO} (h : Drw H st l) (h1 : st ≠ p) (h2 : l ≠ p) : Drw (upd H p o) st l := by
  obtain ⟨ns, x, c, n, d, q, h0, hl⟩ := h
  exact ⟨ns, x, c, n, d, by rw [upd_ne h1]; exact q, h0, by rw [upd_ne h2]; exact hl⟩
/-- an own object is laid or changed -/
theorem Lx.put (h : Lx S H H1) {p : Addr} (n : ¬ Sx S p) (f : ∀ u, H p = some u → False) {o : HO} : Lx S H (upd H1 p o) := by
  refine ⟨fun b u nb q => ?_, fun q hq => ?_⟩
  · have z : b ≠ p := fun z => by subst z; exact f u q
    rw [upd_ne z]; exact h.1 b u nb q
  · exact (h.2 q hq).put (fun z => n ⟨q, hq, .inl z.symm⟩) (fun z => n ⟨q, hq, .inr z.symm⟩)
theorem Lx.new (h : Lx S H H1) {p : Addr} (e : H1 p = none) {o : HO} : Lx S H1 (upd H1 p o) := h.refl.put (h.ns e) fun u q => by rw [e] at q; cases q
theorem Lx.fresh (h : Lx S H H1) {p : Addr} (e : H1 p = none) : H p = none := by
  cases q : H p with
  | none => rfl
  | some o =>
    have z := h.1 p o (h.ns e) q
    rw [e] at z; cases z
theorem Lx.of0 (w : Lx S H H1) (h : Lx none H1 H2) : Lx S H1 H2 := by
  refine ⟨fun b o _ e => h.1 b o sx_none e, fun q hq => ?_⟩
  obtain ⟨ns, x, c, n, d, q, h0, hl⟩ := w.2 q hq
  exact ⟨ns, x, c, n, d, h.1 _ _ sx_none q, h0, h.1 _ _ sx_none hl⟩
theorem Lx.same (h : Lx none H H1) : Same H H1 := fun b o e => h.1 b o sx_none e
theorem lx_same (h : Same H H1) : Lx none H H1 := ⟨fun b o _ e => h b o e, fun _ z => nomatch z⟩
/-- an own object is changed, the heap goes on -/
theorem Lx.upd (e : Lx S H H1) {l : Addr} {o : HO} (n : ¬ Sx S l) : Lx S (upd H l o) (upd H1 l o) := by
  refine ⟨fun b u nb q => ?_, fun q hq => ?_⟩
  · by_cases hb : b = l
    · subst hb
      rw [upd_same] at q ⊢
      exact q
    · rw [upd_ne hb] at q ⊢
      exact e.1 b u nb q
  · exact (e.2 q hq).put (fun z => n ⟨q, hq, .inl z.symm⟩) (fun z => n ⟨q, hq, .inr z.symm⟩)
end
/-- a list, a tuple to be read at a; it stays -/
structure LA (K : PySem.W.Frag) (S : Dst) (H : Hp) (a : Addr) (xs : List V) : Prop where
  q : SqL K H a xs
  n : ¬ Sx S a
structure UA (K : PySem.W.Frag) (S : Dst) (H : Hp) (a : Addr) (xs : List V) : Prop where
  q : SqT K H a xs
  n : ¬ Sx S a
section
variable {K : PySem.W.Frag} {S : Dst} {H H1 H2 H' : Hp} {a : Addr} {xs : List V}
theorem Rd.mono {u : HO} (e : Lx S H H1) (n : ¬ Sx S a) (h : Rd H a u) : Rd H1 a u := by
  rcases h with h | ⟨o, h⟩
  · exact Or.inl (e.1 a _ n h)
  · exact Or.inr ⟨o, e.1 a _ n h⟩
theorem LA.mono (h : LA K S H a xs) (e : Lx S H H1) : LA K S H1 a xs := ⟨h.q.imp (Rd.mono e h.n) id, h.n⟩
theorem UA.mono (h : UA K S H a xs) (e : Lx S H H1) : UA K S H1 a xs := ⟨h.q.imp (Rd.mono e h.n) id, h.n⟩
theorem LA.of (h : H a = some (.lst xs)) (n : ¬ Sx S a) : LA K S H a xs := ⟨SqL.of h, n⟩
theorem UA.of (h : H a = some (.tup xs)) (n : ¬ Sx S a) : UA K S H a xs := ⟨SqT.of h, n⟩
theorem LA.of0 (h : SqL K H a xs) : LA K none H a xs := ⟨h, sx_none⟩
theorem UA.of0 (h : SqT K H a xs) : UA K none H a xs := ⟨h, sx_none⟩
end

/-! ### what evaluates to what -/
def Ev (K : PySem.W.Frag) (S : Dst) (te : TE) (σ : L2.St) (H : Hp) (v : V) : Prop := ∀ H1, Lx S H H1 → ∀ Q : VK, (∀ H2, Lx S H1 H2 → Q v H2) → te σ H1 Q
def EvX (K : PySem.W.Frag) (S : Dst) (te : TE) (σ : L2.St) (H : Hp) (P : V → Hp → Prop) : Prop := ∀ H1, Lx S H H1 → ∀ Q : VK, (∀ v H2, Lx S H1 H2 → P v H2 → Q v H2) → te σ H1 Q
def EvT (K : PySem.W.Frag) (S : Dst) (tt : TT) (σ : L2.St) (H : Hp) (b : Bool) : Prop := ∀ H1, Lx S H H1 → ∀ Q : Bool → Hp → Prop, (∀ H2, Lx S H1 H2 → Q b H2) → tt σ H1 Q
def EvA (K : PySem.W.Frag) (S : Dst) (ta : TA) (σ : L2.St) (H : Hp) (vs : List V) : Prop := ∀ H1, Lx S H H1 → ∀ Q : List V → Hp → Prop, (∀ H2, Lx S H1 H2 → Q vs H2) → ta σ H1 Q
def EvAX (K : PySem.W.Frag) (S : Dst) (ta : TA) (σ : L2.St) (H : Hp) (P : List V → Hp → Prop) : Prop := ∀ H1, Lx S H H1 → ∀ Q : List V → Hp → Prop, (∀ vs H2, Lx S H1 H2 → P vs H2 → Q vs H2) → ta σ H1 Q
def EvTX (K : PySem.W.Frag) (S : Dst) (tt : TT) (σ : L2.St) (H : Hp) (P : Bool → Hp → Prop) : Prop := ∀ H1, Lx S H H1 → ∀ Q : Bool → Hp → Prop, (∀ b H2, Lx S H1 H2 → P b H2 → Q b H2) → tt σ H1 Q
/-- a new list with items xs; a new tuple -/
abbrev NewL (S : Dst) (H : Hp) (xs : List V) : V → Hp → Prop := fun v H2 => ∃ p, v = .ref p ∧ H p = none ∧ ¬ Sx S p ∧ H2 p = some (.lst xs)
abbrev NewU (S : Dst) (H : Hp) (xs : List V) : V → Hp → Prop := fun v H2 => ∃ p, v = .ref p ∧ H p = none ∧ ¬ Sx S p ∧ H2 p = some (.tup xs)
/-- a two-place operation on values; a one-place one; a call on values -/
def RV (K : PySem.W.Frag) (S : Dst) (r : R2) (x y : V) (H : Hp) (z : V) : Prop := ∀ H1, Lx S H H1 → ∀ Q : VK, (∀ H2, Lx S H1 H2 → Q z H2) → r x y H1 Q
def RVX (K : PySem.W.Frag) (S : Dst) (r : R2) (x y : V) (H : Hp) (P : V → Hp → Prop) : Prop := ∀ H1, Lx S H H1 → ∀ Q : VK, (∀ z H2, Lx S H1 H2 → P z H2 → Q z H2) → r x y H1 Q
def RU (K : PySem.W.Frag) (S : Dst) (r : V → Hp → VK → Prop) (x : V) (H : Hp) (z : V) : Prop := ∀ H1, Lx S H H1 → ∀ Q : VK, (∀ H2, Lx S H1 H2 → Q z H2) → r x H1 Q
def RC (K : PySem.W.Frag) (S : Dst) (r : List V → Hp → VK → Prop) (vs : List V) (H : Hp) (z : V) : Prop := ∀ H1, Lx S H H1 → ∀ Q : VK, (∀ H2, Lx S H1 H2 → Q z H2) → r vs H1 Q
def RCX (K : PySem.W.Frag) (S : Dst) (r : List V → Hp → VK → Prop) (vs : List V) (H : Hp) (P : V → Hp → Prop) : Prop := ∀ H1, Lx S H H1 → ∀ Q : VK, (∀ z H2, Lx S H1 H2 → P z H2 → Q z H2) → r vs H1 Q
def SpX (K : PySem.W.Frag) (S : Dst) (sp : Sp) (vs : List V) (H : Hp) (E : XK) (P : V → Hp → Prop) : Prop := ∀ H1, Lx S H H1 → ∀ Q : VK, (∀ z H2, Lx S H1 H2 → P z H2 → Q z H2) → sp vs H1 Q E
/-- a block from heaps that go on from H -/
def St (K : PySem.W.Frag) (S : Dst) (ts : TS) (D : Ends) (σ : L2.St) (H : Hp) : Prop := ∀ H1, Lx S H H1 → ts D σ H1

section
variable {K : PySem.W.Frag} {S : Dst} {σ : L2.St} {H H' : Hp} {ta tb tc te tx : TE} {tas : TA} {t u : TT} {x y z v : V} {r : R2} {P P' : V → Hp → Prop} {b c : Bool} {vs : List V}
theorem Ev.toX (h : Ev K S te σ H v) : EvX K S te σ H (fun w _ => w = v) := fun H1 e Q q => h H1 e Q fun H2 e2 => q v H2 e2 rfl
theorem EvX.imp (h : EvX K S te σ H P) (i : ∀ w H2, Lx S H H2 → P w H2 → P' w H2) : EvX K S te σ H P' := fun H1 e Q q => h H1 e Q fun w H2 e2 p => q w H2 e2 (i w H2 (e.trans e2) p)
theorem EvX.ev (h : EvX K S te σ H P) (i : ∀ w H2, Lx S H H2 → P w H2 → w = v) : Ev K S te σ H v := fun H1 e Q q => h H1 e Q fun w H2 e2 p => by
  have z := i w H2 (e.trans e2) p
  subst z
  exact q H2 e2
theorem EvA.toX (h : EvA K S tas σ H vs) : EvAX K S tas σ H (fun w _ => w = vs) := fun H1 e Q q => h H1 e Q fun H2 e2 => q vs H2 e2 rfl
theorem EvT.toX (h : EvT K S t σ H b) : EvTX K S t σ H (fun w _ => w = b) := fun H1 e Q q => h H1 e Q fun H2 e2 => q b H2 e2 rfl
theorem Ev.mono (e : Lx S H H') (h : Ev K S te σ H v) : Ev K S te σ H' v := fun H1 a Q q => h H1 (e.trans a) Q q
theorem St.mono {ts : TS} {D : Ends} (e : Lx S H H') (h : St K S ts D σ H) : St K S ts D σ H' := fun H1 a => h H1 (e.trans a)

theorem ev_var {i : Nat} (h : σ[i]? = some (some v)) : Ev K S (tVar i) σ H v := fun H1 e _ q => ⟨v, h, q H1 e.refl⟩
theorem ev_c : Ev K S (tC v) σ H v := fun H1 e _ q => q H1 e.refl
theorem ev_op (ha : Ev K S ta σ H x) (hb : Ev K S tb σ H y) (hr : RV K S r x y H z) : Ev K S (tOp r ta tb) σ H z := fun H1 e Q q =>
  ha H1 e _ fun H2 e2 => hb H2 (e.trans e2) _ fun H3 e3 => hr H3 ((e.trans e2).trans e3) Q fun H4 e4 => q H4 ((e2.trans e3).trans e4)
theorem ex_op (ha : Ev K S ta σ H x) (hb : Ev K S tb σ H y) (hr : RVX K S r x y H P) : EvX K S (tOp r ta tb) σ H P := fun H1 e Q q =>
  ha H1 e _ fun H2 e2 => hb H2 (e.trans e2) _ fun H3 e3 => hr H3 ((e.trans e2).trans e3) Q fun z H4 e4 p => q z H4 ((e2.trans e3).trans e4) p
theorem ex_op1 (ha : EvX K S ta σ H P') (k : ∀ x H1, Lx S H H1 → P' x H1 → EvX K S (tOp r (tC x) tb) σ H1 P) : EvX K S (tOp r ta tb) σ H P := fun H1 e Q q =>
  ha H1 e _ fun x H2 e2 p => k x H2 (e.trans e2) p H2 (e.trans e2).refl Q fun z H3 e3 p => q z H3 (e2.trans e3) p
theorem ex_op2 (ha : Ev K S ta σ H x) (hb : EvX K S tb σ H P') (k : ∀ y H1, Lx S H H1 → P' y H1 → EvX K S (tOp r (tC x) (tC y)) σ H1 P) : EvX K S (tOp r ta tb) σ H P := fun H1 e Q q =>
  ha H1 e _ fun H2 e2 => hb H2 (e.trans e2) _ fun y H3 e3 p => k y H3 ((e.trans e2).trans e3) p H3 ((e.trans e2).trans e3).refl Q fun z H4 e4 p => q z H4 ((e2.trans e3).trans e4) p
theorem ev_un {r : V → Hp → VK → Prop} (ha : Ev K S ta σ H x) (hr : RU K S r x H z) : Ev K S (tUn r ta) σ H z := fun H1 e Q q =>
  ha H1 e _ fun H2 e2 => hr H2 (e.trans e2) Q fun H3 e3 => q H3 (e2.trans e3)

/-! operations by values -/
theorem rv_I0 {g : Int → Int → V} {i j : Int} : RV K S (rI0 g) (.int i) (.int j) H (g i j) := fun H1 e _ q => ⟨i, j, rfl, rfl, q H1 e.refl⟩
theorem rv_I {C : Int → Int → Prop} {g : Int → Int → V} {i j : Int} (hc : C i j) : RV K S (rI C g) (.int i) (.int j) H (g i j) := fun H1 e _ q => ⟨i, j, rfl, rfl, hc, q H1 e.refl⟩
theorem ru_U {g : Int → V} {i : Int} : RU K S (rU g) (.int i) H (g i) := fun H1 e _ q => ⟨i, rfl, q H1 e.refl⟩
theorem rv_eq (h : scal x y = true) : RV K S rEq x y H (.bl (decide (x = y))) := fun H1 e _ q => ⟨h, q H1 e.refl⟩
theorem rv_ne (h : scal x y = true) : RV K S rNe x y H (.bl (!decide (x = y))) := fun H1 e _ q => ⟨h, q H1 e.refl⟩
theorem rv_isN : RV K S (fun x y H Q => y = .non ∧ Q (.bl (decide (x = .non))) H) x .non H (.bl (decide (x = .non))) := fun H1 e _ q => ⟨rfl, q H1 e.refl⟩
theorem rv_notN : RV K S (fun x y H Q => y = .non ∧ Q (.bl (!decide (x = .non))) H) x .non H (.bl (!decide (x = .non))) := fun H1 e _ q => ⟨rfl, q H1 e.refl⟩
theorem rv_ixL {p : Addr} {xs : List V} {i : Int} (h : LA K S H p xs) (ha : atI xs i = some v) : RV K S (rIxL K) (.ref p) (.int i) H v := fun H1 e _ q => ⟨p, xs, i, v, rfl, rfl, (h.mono e).q, ha, q H1 e.refl⟩
theorem rv_ixT {p : Addr} {xs : List V} {i : Int} (h : UA K S H p xs) (ha : atI xs i = some v) : RV K S (rIxT K) (.ref p) (.int i) H v := fun H1 e _ q => ⟨p, xs, i, v, rfl, rfl, (h.mono e).q, ha, q H1 e.refl⟩
theorem rv_inL {neg : Bool} {p : Addr} {xs : List V} (h : LA K S H p xs) (hx : flatV x = true) (ha : xs.all flatV = true) : RV K S (rIn K neg) x (.ref p) H (.bl (if neg then !inV x xs else inV x xs)) :=
  fun H1 e _ q => ⟨p, xs, rfl, Or.inl (h.mono e).q, hx, ha, q H1 e.refl⟩
theorem rv_inT {neg : Bool} {p : Addr} {xs : List V} (h : UA K S H p xs) (hx : flatV x = true) (ha : xs.all flatV = true) : RV K S (rIn K neg) x (.ref p) H (.bl (if neg then !inV x xs else inV x xs)) :=
  fun H1 e _ q => ⟨p, xs, rfl, Or.inr (h.mono e).q, hx, ha, q H1 e.refl⟩

/-! tests -/
theorem et_test (h : Ev K S te σ H (.bl b)) : EvT K S (tTest te) σ H b := fun H1 e _ q => h H1 e _ fun H2 e2 => ⟨b, rfl, q H2 e2⟩
theorem et_B (h : Ev K S te σ H (.bl b)) : EvT K S (tB te) σ H b := fun H1 e _ q => h H1 e _ fun H2 e2 => ⟨b, rfl, q H2 e2⟩
theorem et_and (h1 : EvT K S t σ H b) (h2 : b = true → EvT K S u σ H c) : EvT K S (tAnd t u) σ H (b && c) := fun H1 e Q q => h1 H1 e _ fun H2 e2 => by
  cases b with
  | true =>
    show u σ H2 Q
    exact h2 rfl H2 (e.trans e2) Q fun H3 e3 => q H3 (e2.trans e3)
  | false =>
    show Q false H2
    exact q H2 e2
theorem et_or (h1 : EvT K S t σ H b) (h2 : b = false → EvT K S u σ H c) : EvT K S (tOr t u) σ H (b || c) := fun H1 e Q q => h1 H1 e _ fun H2 e2 => by
  cases b with
  | true =>
    show Q true H2
    exact q H2 e2
  | false =>
    show u σ H2 Q
    exact h2 rfl H2 (e.trans e2) Q fun H3 e3 => q H3 (e2.trans e3)
theorem et_not (h1 : EvT K S t σ H b) : EvT K S (tNot t) σ H (!b) := fun H1 e _ q => h1 H1 e _ fun H2 e2 => q H2 e2
theorem etx_test {PB : Bool → Hp → Prop} (h : EvX K S te σ H fun v H2 => ∃ b, v = .bl b ∧ PB b H2) : EvTX K S (tTest te) σ H PB := fun H1 e Q q => h H1 e _ fun v H2 e2 ⟨b, hv, p⟩ => ⟨b, hv, q b H2 e2 p⟩
theorem etx_B {PB : Bool → Hp → Prop} (h : EvX K S te σ H fun v H2 => ∃ b, v = .bl b ∧ PB b H2) : EvTX K S (tB te) σ H PB := fun H1 e Q q => h H1 e _ fun v H2 e2 ⟨b, hv, p⟩ => ⟨b, hv, q b H2 e2 p⟩
theorem etx_and {PB : Bool → Hp → Prop} (h1 : EvT K S t σ H b) (h2 : b = true → EvTX K S u σ H PB) (h3 : b = false → ∀ H2, Lx S H H2 → PB false H2) : EvTX K S (tAnd t u) σ H PB := fun H1 e Q q => h1 H1 e _ fun H2 e2 => by
  cases b with
  | true =>
    show u σ H2 Q
    exact h2 rfl H2 (e.trans e2) Q fun b H3 e3 p => q b H3 (e2.trans e3) p
  | false =>
    show Q false H2
    exact q false H2 e2 (h3 rfl H2 (e.trans e2))
theorem etx_or {PB : Bool → Hp → Prop} (h1 : EvT K S t σ H b) (h2 : b = false → EvTX K S u σ H PB) (h3 : b = true → ∀ H2, Lx S H H2 → PB true H2) : EvTX K S (tOr t u) σ H PB := fun H1 e Q q => h1 H1 e _ fun H2 e2 => by
  cases b with
  | false =>
    show u σ H2 Q
    exact h2 rfl H2 (e.trans e2) Q fun b H3 e3 p => q b H3 (e2.trans e3) p
  | true =>
    show Q true H2
    exact q true H2 e2 (h3 rfl H2 (e.trans e2))
theorem etx_not {PB : Bool → Hp → Prop} (h : EvTX K S t σ H fun b H2 => PB (!b) H2) : EvTX K S (tNot t) σ H PB := fun H1 e Q q => h H1 e _ fun b H2 e2 p => q (!b) H2 e2 p
theorem EvTX.imp {PB PB' : Bool → Hp → Prop} (h : EvTX K S t σ H PB) (i : ∀ b H2, Lx S H H2 → PB b H2 → PB' b H2) : EvTX K S t σ H PB' := fun H1 e Q q => h H1 e Q fun b H2 e2 p => q b H2 e2 (i b H2 (e.trans e2) p)
/-- one after the other, what is known so far carried on -/
theorem etx_and2 {PA PB : Bool → Hp → Prop} (h1 : EvTX K S t σ H PA) (h2 : ∀ H1, Lx S H H1 → PA true H1 → EvTX K S u σ H1 PB) (h3 : ∀ H2, Lx S H H2 → PA false H2 → PB false H2) : EvTX K S (tAnd t u) σ H PB := fun H1 e Q q => h1 H1 e _ fun b H2 e2 p => by
  cases b with
  | true =>
    show u σ H2 Q
    exact h2 H2 (e.trans e2) p H2 (e.trans e2).refl Q fun b H3 e3 p => q b H3 (e2.trans e3) p
  | false =>
    show Q false H2
    exact q false H2 e2 (h3 H2 (e.trans e2) p)
theorem etx_or2 {PA PB : Bool → Hp → Prop} (h1 : EvTX K S t σ H PA) (h2 : ∀ H1, Lx S H H1 → PA false H1 → EvTX K S u σ H1 PB) (h3 : ∀ H2, Lx S H H2 → PA true H2 → PB true H2) : EvTX K S (tOr t u) σ H PB := fun H1 e Q q => h1 H1 e _ fun b H2 e2 p => by
  cases b with
  | false =>
    show u σ H2 Q
    exact h2 H2 (e.trans e2) p H2 (e.trans e2).refl Q fun b H3 e3 p => q b H3 (e2.trans e3) p
  | true =>
    show Q true H2
    exact q true H2 e2 (h3 H2 (e.trans e2) p)
theorem et_is (h : EvT K S t σ H b) (e : b = c) : EvT K S t σ H c := e ▸ h
theorem ev_is {w : V} (h : Ev K S te σ H v) (e : v = w) : Ev K S te σ H w := e ▸ h
theorem ev_andV (h1 : Ev K S ta σ H (.bl b)) (h2 : b = true → Ev K S tb σ H (.bl c)) : Ev K S (tAndV ta tb) σ H (.bl (b && c)) := fun H1 e Q q => h1 H1 e _ fun H2 e2 => ⟨b, rfl, by
  cases b with
  | true =>
    show tb σ H2 Q
    exact h2 rfl H2 (e.trans e2) Q fun H3 e3 => q H3 (e2.trans e3)
  | false =>
    show Q (.bl false) H2
    exact q H2 e2⟩
theorem ev_orV (h1 : Ev K S ta σ H (.bl b)) (h2 : b = false → Ev K S tb σ H (.bl c)) : Ev K S (tOrV ta tb) σ H (.bl (b || c)) := fun H1 e Q q => h1 H1 e _ fun H2 e2 => ⟨b, rfl, by
  cases b with
  | true =>
    show Q (.bl true) H2
    exact q H2 e2
  | false =>
    show tb σ H2 Q
    exact h2 rfl H2 (e.trans e2) Q fun H3 e3 => q H3 (e2.trans e3)⟩
theorem ev_notV (h1 : Ev K S ta σ H (.bl b)) : Ev K S (tNotV ta) σ H (.bl (!b)) := fun H1 e _ q => h1 H1 e _ fun H2 e2 => ⟨b, rfl, q H2 e2⟩
theorem ex_if (h : EvT K S t σ H b) (h1 : b = true → EvX K S ta σ H P) (h2 : b = false → EvX K S tb σ H P) : EvX K S (tIf t ta tb) σ H P := fun H1 e Q q => h H1 e _ fun H2 e2 => by
  cases b with
  | true =>
    show ta σ H2 Q
    exact h1 rfl H2 (e.trans e2) Q fun z H3 e3 p => q z H3 (e2.trans e3) p
  | false =>
    show tb σ H2 Q
    exact h2 rfl H2 (e.trans e2) Q fun z H3 e3 p => q z H3 (e2.trans e3) p
theorem ev_if {w : V} (h : EvT K S t σ H b) (h1 : b = true → Ev K S ta σ H v) (h2 : b = false → Ev K S tb σ H w) : Ev K S (tIf t ta tb) σ H (if b = true then v else w) :=
  (ex_if (P := fun z _ => z = if b = true then v else w) h (fun e => (h1 e).toX.imp fun z _ _ q => by rw [q, if_pos e]) fun e => (h2 e).toX.imp fun z _ _ q => by rw [q, if_neg (by rw [e]; decide)]).ev fun _ _ _ q => q

/-! arguments, displays -/
theorem ea_nil : EvA K S tNil σ H [] := fun H1 e _ q => q H1 e.refl
theorem ea_cons (h : Ev K S ta σ H x) (hr : EvA K S tas σ H vs) : EvA K S (tCons ta tas) σ H (x :: vs) := fun H1 e _ q =>
  h H1 e _ fun H2 e2 => hr H2 (e.trans e2) _ fun H3 e3 => q H3 (e2.trans e3)
theorem eax_cons {PA : List V → Hp → Prop} (h : EvX K S ta σ H P) (k : ∀ v H1, Lx S H H1 → P v H1 → EvAX K S tas σ H1 fun vs H2 => PA (v :: vs) H2) : EvAX K S (tCons ta tas) σ H PA := fun H1 e Q q =>
  h H1 e _ fun v H2 e2 p => k v H2 (e.trans e2) p H2 (e.trans e2).refl _ fun vs H3 e3 p3 => q (v :: vs) H3 (e2.trans e3) p3
theorem EvAX.imp {PA PA' : List V → Hp → Prop} (h : EvAX K S tas σ H PA) (i : ∀ w H2, Lx S H H2 → PA w H2 → PA' w H2) : EvAX K S tas σ H PA' := fun H1 e Q q => h H1 e Q fun w H2 e2 p => q w H2 e2 (i w H2 (e.trans e2) p)
theorem ex_lst (h : EvA K S tas σ H vs) (hl : vs.length ≤ sizeLine) : EvX K S (tLst tas) σ H (NewL S H vs) := fun H1 e _ q =>
  h H1 e _ fun H2 e2 => ⟨hl, fun p hp => q _ _ (e2.trans ((e.trans e2).new hp)) ⟨p, rfl, (e.trans e2).fresh hp, (e.trans e2).ns hp, upd_same⟩⟩
theorem ex_tup (h : EvA K S tas σ H vs) (hl : vs.length ≤ sizeLine) : EvX K S (tTup tas) σ H (NewU S H vs) := fun H1 e _ q =>
  h H1 e _ fun H2 e2 => ⟨hl, fun p hp => q _ _ (e2.trans ((e.trans e2).new hp)) ⟨p, rfl, (e.trans e2).fresh hp, (e.trans e2).ns hp, upd_same⟩⟩
theorem ex_lstX {PA : List V → Hp → Prop} (h : EvAX K S tas σ H PA) (hl : ∀ vs H2, PA vs H2 → vs.length ≤ sizeLine) : EvX K S (tLst tas) σ H (fun v H2 => ∃ vs H3, PA vs H3 ∧ Lx S H H3 ∧ Lx S H3 H2 ∧ NewL S H vs v H2) := fun H1 e _ q =>
  h H1 e _ fun vs H2 e2 p2 => ⟨hl vs H2 p2, fun p hp => q _ _ (e2.trans ((e.trans e2).new hp)) ⟨vs, H2, p2, e.trans e2, (e.trans e2).new hp, p, rfl, (e.trans e2).fresh hp, (e.trans e2).ns hp, upd_same⟩⟩
theorem ex_tupX {PA : List V → Hp → Prop} (h : EvAX K S tas σ H PA) (hl : ∀ vs H2, PA vs H2 → vs.length ≤ sizeLine) : EvX K S (tTup tas) σ H (fun v H2 => ∃ vs H3, PA vs H3 ∧ Lx S H H3 ∧ Lx S H3 H2 ∧ NewU S H vs v H2) := fun H1 e _ q =>
  h H1 e _ fun vs H2 e2 p2 => ⟨hl vs H2 p2, fun p hp => q _ _ (e2.trans ((e.trans e2).new hp)) ⟨vs, H2, p2, e.trans e2, (e.trans e2).new hp, p, rfl, (e.trans e2).fresh hp, (e.trans e2).ns hp, upd_same⟩⟩

/-! calls -/
theorem ex_call {sp : Sp} {dvs : List V} {E : XK} (h : EvA K S tas σ H vs) (k : SpX K S sp (vs ++ dvs) H E P) : EvX K S (tCall sp dvs E tas) σ H P := fun H1 e Q q =>
  h H1 e _ fun H2 e2 => k H2 (e.trans e2) Q fun z H3 e3 p => q z H3 (e2.trans e3) p
theorem ex_callX {sp : Sp} {dvs : List V} {E : XK} {PA : List V → Hp → Prop} (h : EvAX K S tas σ H PA) (k : ∀ vs H1, Lx S H H1 → PA vs H1 → SpX K S sp (vs ++ dvs) H1 E P) : EvX K S (tCall sp dvs E tas) σ H P := fun H1 e Q q =>
  h H1 e _ fun vs H2 e2 p2 => k vs H2 (e.trans e2) p2 H2 (e.trans e2).refl Q fun z H3 e3 p => q z H3 (e2.trans e3) p
theorem ev_cb {r : List V → Hp → VK → Prop} (h : EvA K S tas σ H vs) (k : RC K S r vs H z) : Ev K S (tCB r tas) σ H z := fun H1 e Q q =>
  h H1 e _ fun H2 e2 => k H2 (e.trans e2) Q fun H3 e3 => q H3 (e2.trans e3)
theorem ex_cb {r : List V → Hp → VK → Prop} (h : EvA K S tas σ H vs) (k : RCX K S r vs H P) : EvX K S (tCB r tas) σ H P := fun H1 e Q q =>
  h H1 e _ fun H2 e2 => k H2 (e.trans e2) Q fun z H3 e3 p => q z H3 (e2.trans e3) p
theorem ex_cbX {r : List V → Hp → VK → Prop} {PA : List V → Hp → Prop} (h : EvAX K S tas σ H PA) (k : ∀ vs H1, Lx S H H1 → PA vs H1 → RCX K S r vs H1 P) : EvX K S (tCB r tas) σ H P := fun H1 e Q q =>
  h H1 e _ fun vs H2 e2 p2 => k vs H2 (e.trans e2) p2 H2 (e.trans e2).refl Q fun z H3 e3 p => q z H3 (e2.trans e3) p
def rLn (K : PySem.W.Frag) : List V → Hp → VK → Prop := fun xs H Q => ∃ p ys, xs = [.ref p] ∧ (SqL K H p ys ∨ SqT K H p ys) ∧ Q (.int ys.length) H
def rLst (K : PySem.W.Frag) : List V → Hp → VK → Prop := fun xs H Q => ∃ p ys, xs = [.ref p] ∧ (SqL K H p ys ∨ SqT K H p ys) ∧ ∀ l, H l = none → Q (.ref l) (upd H l (.lst ys))
theorem rc_len {p : Addr} {ys : List V} (h : LA K S H p ys) : RC K S (rLn K) [.ref p] H (.int (ys.length : Int)) := fun H1 e _ q => ⟨p, ys, rfl, .inl (h.mono e).q, q H1 e.refl⟩
theorem rc_lenT {p : Addr} {ys : List V} (h : UA K S H p ys) : RC K S (rLn K) [.ref p] H (.int (ys.length : Int)) := fun H1 e _ q => ⟨p, ys, rfl, .inr (h.mono e).q, q H1 e.refl⟩
theorem rc_list {p : Addr} {ys : List V} (h : LA K S H p ys) : RCX K S (rLst K) [.ref p] H (NewL S H ys) := fun H1 e _ q => ⟨p, ys, rfl, .inl (h.mono e).q, fun l hl => q _ _ (e.new hl) ⟨l, rfl, e.fresh hl, e.ns hl, upd_same⟩⟩
theorem rc_listT {p : Addr} {ys : List V} (h : UA K S H p ys) : RCX K S (rLst K) [.ref p] H (NewL S H ys) := fun H1 e _ q => ⟨p, ys, rfl, .inr (h.mono e).q, fun l hl => q _ _ (e.new hl) ⟨l, rfl, e.fresh hl, e.ns hl, upd_same⟩⟩
def rInt1 : List V → Hp → VK → Prop := fun xs H Q => (∃ i, xs = [.int i] ∧ Q (.int i) H) ∨ ∃ k, xs = [.bl k] ∧ Q (.int (if k then 1 else 0)) H
theorem rc_int {i : Int} : RC K S rInt1 [.int i] H (.int i) := fun H1 e _ q => .inl ⟨i, rfl, q H1 e.refl⟩
end
/-! the rules over a written part told by name (a comprehension's block has the def's) -/
def rTup1 (K : PySem.W.Frag) : List V → Hp → VK → Prop := fun xs H Q => ∃ p ys, xs = [.ref p] ∧ ((SqL K H p ys ∧ ∀ l, H l = none → Q (.ref l) (upd H l (.tup ys))) ∨ (SqT K H p ys ∧ Q (.ref p) H))
section
variable {X : Cx} (K : PySem.W.Frag) (h : X.K = K)
include h
theorem lenK : CallR X (.builtin "len") (rLn K) := by subst h; exact call_len_seq
theorem listK : CallR X (.type "list") (rLst K) := by subst h; exact call_list_of
theorem tupleK : CallR X (.type "tuple") (rTup1 K) := by subst h; exact call_tuple_of
theorem isiK : CallR X (.builtin "isinstance") (rIsi K) := by subst h; exact call_isi
theorem isiTK : CallR X (.builtin "isinstance") (rIsiT K) := by subst h; exact call_isiT
theorem minK (c : X.calm = true) : CallR X (.builtin "min") (rMin K) := by subst h; exact cr_min c
theorem maxK (c : X.calm = true) : CallR X (.builtin "max") (rMax K) := by subst h; exact cr_max c
theorem allK (c : X.calm = true) : CallR X (.builtin "all") (rAll K) := by subst h; exact cr_all c
theorem anyK (c : X.calm = true) : CallR X (.builtin "any") (rAny K) := by subst h; exact cr_any c
theorem sumK (c : X.calm = true) : CallR X (.builtin "sum") (rSum K) := by subst h; exact cr_sum c
theorem ixL : IxR X (rIxL K) := by subst h; exact ix_list
theorem ixU : IxR X (rIxT K) := by subst h; exact ix_tup
theorem ixQ : IxR X (rIx K) := by subst h; exact ix_seq
theorem inK : OpR X (compareOp .In) (rIn K false) := by subst h; exact op_in_seq
theorem notInK : OpR X (compareOp .NotIn) (rIn K true) := by subst h; exact op_notIn_seq
theorem eqDK (hu : X.A.units + 64 < cLine) : OpR X (compareOp .Eq) (rEqD K) := by subst h; exact op_eqD hu
theorem neDK (hu : X.A.units + 64 < cLine) : OpR X (compareOp .NotEq) (rNeD K) := by subst h; exact op_neD hu
theorem slLK : SlR X (rSlL K) := by subst h; exact sl_list
theorem slUK : SlR X (rSlT K) := by subst h; exact sl_tup
theorem kdK {w : World} (h2 : X.w = w) : IxR X (rIxD K w) := by subst h; subst h2; exact ix_kdict
variable {tg o l e : Expr} {tl ta te : TE} {f : Str} {pos : Pos}
theorem piLK (hl : PE X l tl) : PI X tg l (iList K tl) := by subst h; exact pi_list hl
theorem piUK (hl : PE X l tl) : PI X tg l (iTup K tl) := by subst h; exact pi_tup hl
theorem fldK (he : PE X e ta) (hb : attributeBase e f X.env (eval e X.env) = eval e X.env := by rfl) : PE X (.Attribute e f pos) (tFld K ta f) := by subst h; exact pe_fld he hb
theorem conK (he : PE X e ta) (hb : attributeBase e f X.env (eval e X.env) = eval e X.env := by rfl) : PE X (.Attribute e f pos) (tCon K ta f) := by subst h; exact pe_con he hb
theorem bmK {es : List Expr} {to : TE} {t : TA} {name : Str} {apos cpos : Pos} {T id : String} {r : V → List V → Hp → VK → Prop} (pa : PlainAttrs T) (slot : Slot T name id) (hty : typeOf (.builtin id) = pure (.type "method_descriptor")) (hm : MtR X id r) (ho : PE X o to) (ha : PA X (e :: es) t)
    (hbase : attributeBase o name X.env (eval o X.env) = eval o X.env := by rfl)
    (hfew : ((backTo cpos (starEach (e :: es) X.env)).all (fun x => !x.1) && (backToKw cpos (keywordEach [] X.env)).all (fun x => x.1.isSome)
      && decide ((e :: es).length + ([] : List Keyword).length + (if ([] : List Keyword).isEmpty then 0 else 1) < 30)) = true := by rfl)
    (hline : (apos.endLine == cpos.line) = true := by rfl) (he : starEach (e :: es) X.env = (false, eval e X.env) :: starEach es X.env := by rfl) (hpl : (backTo cpos (starEach es X.env)).any (·.1) = false := by rfl) :
    PE X (.Call (.Attribute o name apos) (e :: es) [] cpos) (tBM K T r to t) := by subst h; exact pe_bm pa slot hty hm ho ha hbase hfew hline he hpl
theorem bm0K {to : TE} {name : Str} {apos cpos : Pos} {T id : String} {r : V → List V → Hp → VK → Prop} (pa : PlainAttrs T) (slot : Slot T name id) (hty : typeOf (.builtin id) = pure (.type "method_descriptor")) (hm : MtR X id r) (ho : PE X o to)
    (hbase : attributeBase o name X.env (eval o X.env) = eval o X.env := by rfl) (hline : (apos.endLine == cpos.line) = true := by rfl) : PE X (.Call (.Attribute o name apos) [] [] cpos) (tBM0 K T r to) := by subst h; exact pe_bm0 pa slot hty hm ho hbase (hline := hline)
end
theorem callInt {X : Cx} : CallR X (.type "int") rInt1 := call_int1

/-! ### statements -/
section
variable {K : PySem.W.Frag} {S : Dst} {σ : L2.St} {H H' : Hp} {ta tb tc te tx : TE} {tas : TA} {t u : TT} {x y z v : V} {r : R2} {P P' : V → Hp → Prop} {b c : Bool} {vs : List V} {D : Ends} {tu tw tz : TS} {i : Nat}
theorem s_asg (h : Ev K S te σ H v) (k : St K S tz D (σ.set i (some v)) H) : St K S (tSeq (tAsg te (gName i)) tz) D σ H := fun H1 e => h H1 e _ fun H2 e2 => k H2 (e.trans e2)
theorem s_asgX (h : EvX K S te σ H P) (k : ∀ v H1, Lx S H H1 → P v H1 → St K S tz D (σ.set i (some v)) H1) : St K S (tSeq (tAsg te (gName i)) tz) D σ H := fun H1 e => h H1 e _ fun v H2 e2 p => k v H2 (e.trans e2) p H2 (e.trans e2).refl
theorem s_asg1 (h : Ev K S te σ H v) (k : ∀ H1, Lx S H H1 → D.nx (σ.set i (some v)) H1) : St K S (tAsg te (gName i)) D σ H := fun H1 e => h H1 e _ fun H2 e2 => k H2 (e.trans e2)
theorem s_asg1X (h : EvX K S te σ H P) (k : ∀ v H1, Lx S H H1 → P v H1 → D.nx (σ.set i (some v)) H1) : St K S (tAsg te (gName i)) D σ H := fun H1 e => h H1 e _ fun v H2 e2 p => k v H2 (e.trans e2) p
theorem s_ret (h : Ev K S te σ H v) (k : ∀ H1, Lx S H H1 → D.rt v H1) : St K S (tRet te) D σ H := fun H1 e => h H1 e _ fun H2 e2 => k H2 (e.trans e2)
theorem s_retX (h : EvX K S te σ H P) (k : ∀ v H1, Lx S H H1 → P v H1 → D.rt v H1) : St K S (tRet te) D σ H := fun H1 e => h H1 e _ fun v H2 e2 p => k v H2 (e.trans e2) p
theorem s_if (h : EvT K S t σ H b) (h1 : b = true → St K S tu { D with nx := tz D } σ H) (h2 : b = false → St K S tw { D with nx := tz D } σ H) : St K S (tSeq (tIfS t tu tw) tz) D σ H := fun H1 e => h H1 e _ fun H2 e2 => by
  cases b with
  | true => exact h1 rfl H2 (e.trans e2)
  | false => exact h2 rfl H2 (e.trans e2)
theorem s_if1 (h : EvT K S t σ H b) (h1 : b = true → St K S tu D σ H) (h2 : b = false → St K S tw D σ H) : St K S (tIfS t tu tw) D σ H := fun H1 e => h H1 e _ fun H2 e2 => by
  cases b with
  | true => exact h1 rfl H2 (e.trans e2)
  | false => exact h2 rfl H2 (e.trans e2)
theorem s_ifX {PB : Bool → Hp → Prop} (h : EvTX K S t σ H PB) (h1 : ∀ H1, Lx S H H1 → PB true H1 → St K S tu { D with nx := tz D } σ H1) (h2 : ∀ H1, Lx S H H1 → PB false H1 → St K S tw { D with nx := tz D } σ H1) : St K S (tSeq (tIfS t tu tw) tz) D σ H := fun H1 e => h H1 e _ fun b H2 e2 p => by
  cases b with
  | true => exact h1 H2 (e.trans e2) p H2 (e.trans e2).refl
  | false => exact h2 H2 (e.trans e2) p H2 (e.trans e2).refl
open Evl (tCut) in
/-- an if, a word where its two ways meet -/
theorem s_ifJ (M : L2.St → Hp → Prop) (wf : ∀ σ' H', M σ' H' → Lx S H' H') (h : EvT K S t σ H b) (h1 : b = true → St K S tu { D with nx := M } σ H) (h2 : b = false → St K S tw { D with nx := M } σ H) (k : ∀ σ' H', M σ' H' → St K S tz D σ' H') : St K S (tCut (tIfS t tu tw) tz) D σ H := fun H1 e =>
  ⟨M, h H1 e _ fun H2 e2 => by
    cases b with
    | true => exact h1 rfl H2 (e.trans e2)
    | false => exact h2 rfl H2 (e.trans e2), fun σ' H' m => k σ' H' m H' (wf σ' H' m)⟩
open Evl (tCut) in
theorem s_ifc (h : EvT K S t σ H b) (h1 : b = true → St K S tu { D with nx := tz D } σ H) (h2 : b = false → St K S tw { D with nx := tz D } σ H) : St K S (tCut (tIfS t tu tw) tz) D σ H := fun H1 e =>
  ⟨tz D, h H1 e _ fun H2 e2 => by
    cases b with
    | true => exact h1 rfl H2 (e.trans e2)
    | false => exact h2 rfl H2 (e.trans e2), fun _ _ m => m⟩
theorem s_next (k : St K S tz D σ H) : St K S tNext { D with nx := tz D } σ H := k
open Evl (tCut) in
theorem s_ifJX {PB : Bool → Hp → Prop} (M : L2.St → Hp → Prop) (wf : ∀ σ' H', M σ' H' → Lx S H' H') (h : EvTX K S t σ H PB) (h1 : ∀ H1, Lx S H H1 → PB true H1 → St K S tu { D with nx := M } σ H1) (h2 : ∀ H1, Lx S H H1 → PB false H1 → St K S tw { D with nx := M } σ H1) (k : ∀ σ' H', M σ' H' → St K S tz D σ' H') : St K S (tCut (tIfS t tu tw) tz) D σ H := fun H1 e =>
  ⟨M, h H1 e _ fun b H2 e2 p => by
    cases b with
    | true => exact h1 H2 (e.trans e2) p H2 (e.trans e2).refl
    | false => exact h2 H2 (e.trans e2) p H2 (e.trans e2).refl, fun σ' H' m => k σ' H' m H' (wf σ' H' m)⟩
open Evl (tCut) in
theorem s_ifcX {PB : Bool → Hp → Prop} (h : EvTX K S t σ H PB) (h1 : ∀ H1, Lx S H H1 → PB true H1 → St K S tu { D with nx := tz D } σ H1) (h2 : ∀ H1, Lx S H H1 → PB false H1 → St K S tw { D with nx := tz D } σ H1) : St K S (tCut (tIfS t tu tw) tz) D σ H := fun H1 e =>
  ⟨tz D, h H1 e _ fun b H2 e2 p => by
    cases b with
    | true => exact h1 H2 (e.trans e2) p H2 (e.trans e2).refl
    | false => exact h2 H2 (e.trans e2) p H2 (e.trans e2).refl, fun _ _ m => m⟩
theorem s_if1X {PB : Bool → Hp → Prop} (h : EvTX K S t σ H PB) (h1 : ∀ H1, Lx S H H1 → PB true H1 → St K S tu D σ H1) (h2 : ∀ H1, Lx S H H1 → PB false H1 → St K S tw D σ H1) : St K S (tIfS t tu tw) D σ H := fun H1 e => h H1 e _ fun b H2 e2 p => by
  cases b with
  | true => exact h1 H2 (e.trans e2) p H2 (e.trans e2).refl
  | false => exact h2 H2 (e.trans e2) p H2 (e.trans e2).refl
theorem s_nx (k : ∀ H1, Lx S H H1 → D.nx σ H1) : St K S tNext D σ H := k
theorem s_drop (h : Ev K S te σ H v) (k : St K S tz D σ H) : St K S (tSeq (tDrop te) tz) D σ H := fun H1 e => h H1 e _ fun H2 e2 => k H2 (e.trans e2)
theorem s_dropX (h : EvX K S te σ H P) (k : ∀ v H1, Lx S H H1 → P v H1 → St K S tz D σ H1) : St K S (tSeq (tDrop te) tz) D σ H := fun H1 e => h H1 e _ fun v H2 e2 p => k v H2 (e.trans e2) p H2 (e.trans e2).refl
theorem s_aug {f : Int → Int → Int} {a b : Int} (hx : σ[i]? = some (some (.int a))) (h : Ev K S te σ H (.int b)) (k : St K S tz D (σ.set i (some (.int (f a b)))) H) : St K S (tSeq (tAug i te (ipI f)) tz) D σ H := fun H1 e => ⟨_, hx, h H1 e _ fun H2 e2 => ⟨a, b, rfl, rfl, k H2 (e.trans e2)⟩⟩
theorem s_aug1 {f : Int → Int → Int} {a b : Int} (hx : σ[i]? = some (some (.int a))) (h : Ev K S te σ H (.int b)) (k : ∀ H1, Lx S H H1 → D.nx (σ.set i (some (.int (f a b)))) H1) : St K S (tAug i te (ipI f)) D σ H := fun H1 e => ⟨_, hx, h H1 e _ fun H2 e2 => ⟨a, b, rfl, rfl, k H2 (e.trans e2)⟩⟩

theorem s_setL {l : Addr} {xs : List V} {j : Int} {n : Nat} (h : Ev K S te σ H v) (ho : Ev K S ta σ H (.ref l)) (hi : Ev K S tb σ H (.int j)) (hl : H l = some (.lst xs)) (hj : ixN xs.length j = some n) (ns : ¬ Sx S l)
    (k : St K S tz D σ (upd H l (.lst (xs.set n v)))) : St K S (tSeq (tAsg te (gSub ta tb rSetL)) tz) D σ H := fun H1 e => h H1 e _ fun H2 e2 => ho H2 (e.trans e2) _ fun H3 e3 => hi H3 ((e.trans e2).trans e3) _ fun H4 e4 =>
  have e5 := ((e.trans e2).trans e3).trans e4
  ⟨l, xs, j, n, rfl, rfl, e5.1 l _ ns hl, hj, k _ (e5.upd ns)⟩
theorem s_setL1 {l : Addr} {xs : List V} {j : Int} {n : Nat} (h : Ev K S te σ H v) (ho : Ev K S ta σ H (.ref l)) (hi : Ev K S tb σ H (.int j)) (hl : H l = some (.lst xs)) (hj : ixN xs.length j = some n) (ns : ¬ Sx S l)
    (k : ∀ H1, Lx S (upd H l (.lst (xs.set n v))) H1 → D.nx σ H1) : St K S (tAsg te (gSub ta tb rSetL)) D σ H := fun H1 e => h H1 e _ fun H2 e2 => ho H2 (e.trans e2) _ fun H3 e3 => hi H3 ((e.trans e2).trans e3) _ fun H4 e4 =>
  have e5 := ((e.trans e2).trans e3).trans e4
  ⟨l, xs, j, n, rfl, rfl, e5.1 l _ ns hl, hj, k _ (e5.upd ns)⟩
theorem s_setLX {l : Addr} (h : Ev K S te σ H v) (ho : Ev K S ta σ H (.ref l)) (hi : EvX K S tb σ H P) (ns : ¬ Sx S l)
    (k : ∀ i H1, Lx S H H1 → P i H1 → ∃ (xs : List V) (j : Int) (n : Nat), i = .int j ∧ H1 l = some (.lst xs) ∧ ixN xs.length j = some n ∧ St K S tz D σ (upd H1 l (.lst (xs.set n v)))) : St K S (tSeq (tAsg te (gSub ta tb rSetL)) tz) D σ H := fun H1 e => h H1 e _ fun H2 e2 => ho H2 (e.trans e2) _ fun H3 e3 => hi H3 ((e.trans e2).trans e3) _ fun i H4 e4 p => by
  have e5 := ((e.trans e2).trans e3).trans e4
  obtain ⟨xs, j, n, rfl, hl, hj, z⟩ := k i H4 e5 p
  exact ⟨l, xs, j, n, rfl, rfl, hl, hj, z _ (e5.refl.upd ns)⟩
theorem s_app {l : Addr} {xs : List V} (hl : H l = some (.lst xs)) (ns : ¬ Sx S l) (ha : Ev K S ta σ H (.ref l)) (h : Ev K S te σ H v) (hz : xs.length < sizeLine) (k : St K S tz D σ (upd H l (.lst (xs ++ [v])))) :
    St K S (tSeq (tDrop (tBM K "list" rAppend ta (tCons te tNil))) tz) D σ H := fun H1 e => ha H1 e _ fun H2 e2 => ⟨.inl ⟨rfl, _, SqL.of ((e.trans e2).1 l _ ns hl)⟩, h H2 (e.trans e2) _ fun H3 e3 =>
  have e5 := (e.trans e2).trans e3
  ⟨l, xs, v, rfl, rfl, e5.1 l _ ns hl, hz, k _ (e5.upd ns)⟩⟩
theorem s_app1 {l : Addr} {xs : List V} (hl : H l = some (.lst xs)) (ns : ¬ Sx S l) (ha : Ev K S ta σ H (.ref l)) (h : Ev K S te σ H v) (hz : xs.length < sizeLine) (k : ∀ H1, Lx S (upd H l (.lst (xs ++ [v]))) H1 → D.nx σ H1) :
    St K S (tDrop (tBM K "list" rAppend ta (tCons te tNil))) D σ H := fun H1 e => ha H1 e _ fun H2 e2 => ⟨.inl ⟨rfl, _, SqL.of ((e.trans e2).1 l _ ns hl)⟩, h H2 (e.trans e2) _ fun H3 e3 =>
  have e5 := (e.trans e2).trans e3
  ⟨l, xs, v, rfl, rfl, e5.1 l _ ns hl, hz, k _ (e5.upd ns)⟩⟩
/-- what is appended is made on the way -/
theorem s_appX {l : Addr} {xs : List V} (hl : H l = some (.lst xs)) (ns : ¬ Sx S l) (ha : Ev K S ta σ H (.ref l)) (h : EvX K S te σ H P) (hz : xs.length < sizeLine) (k : ∀ v H1, Lx S H H1 → P v H1 → St K S tz D σ (upd H1 l (.lst (xs ++ [v])))) :
    St K S (tSeq (tDrop (tBM K "list" rAppend ta (tCons te tNil))) tz) D σ H := fun H1 e => ha H1 e _ fun H2 e2 => ⟨.inl ⟨rfl, _, SqL.of ((e.trans e2).1 l _ ns hl)⟩, h H2 (e.trans e2) _ fun v H3 e3 p =>
  have e5 := (e.trans e2).trans e3
  ⟨l, xs, v, rfl, rfl, e5.1 l _ ns hl, hz, k v H3 e5 p _ (e5.refl.upd ns)⟩⟩
theorem s_appX1 {l : Addr} {xs : List V} (hl : H l = some (.lst xs)) (ns : ¬ Sx S l) (ha : Ev K S ta σ H (.ref l)) (h : EvX K S te σ H P) (hz : xs.length < sizeLine) (k : ∀ v H1, Lx S H H1 → P v H1 → ∀ H2, Lx S (upd H1 l (.lst (xs ++ [v]))) H2 → D.nx σ H2) :
    St K S (tDrop (tBM K "list" rAppend ta (tCons te tNil))) D σ H := fun H1 e => ha H1 e _ fun H2 e2 => ⟨.inl ⟨rfl, _, SqL.of ((e.trans e2).1 l _ ns hl)⟩, h H2 (e.trans e2) _ fun v H3 e3 p =>
  have e5 := (e.trans e2).trans e3
  ⟨l, xs, v, rfl, rfl, e5.1 l _ ns hl, hz, k v H3 e5 p _ (e5.refl.upd ns)⟩⟩
/-! loops: Pv holds between the turns -/
theorem s_forL {a : Addr} {xs : List V} {tl : TE} {g : TG} (h : Ev K S tl σ H (.ref a)) (hx : LA K S H a xs) (Pv : Nat → L2.St → Hp → Prop) (h0 : ∀ H1, Lx S H H1 → Pv 0 σ H1) (hl : ∀ i σ' H', i ≤ xs.length → Pv i σ' H' → LA K S H' a xs)
    (hs : ∀ i x σ' H', xs[i]? = some x → Pv i σ' H' → g x σ' H' fun σ2 H2 => tu { D with nx := Pv (i + 1), ct := Pv (i + 1), bk := tz D } σ2 H2) (hd : ∀ σ' H', Pv xs.length σ' H' → tz D σ' H') : St K S (tSeq (tFor (iList K tl) g tu) tz) D σ H := fun H1 e =>
  h H1 e _ fun H2 e2 => ⟨a, rfl, ⟨xs, (hx.mono (e.trans e2)).q⟩, for_list (xs := xs) (D := { D with nx := tz D }) Pv (h0 H2 (e.trans e2)) (fun i σ' H' hi p => (hl i σ' H' hi p).q) hs hd⟩
theorem s_forL1 {a : Addr} {xs : List V} {tl : TE} {g : TG} (h : Ev K S tl σ H (.ref a)) (hx : LA K S H a xs) (Pv : Nat → L2.St → Hp → Prop) (h0 : ∀ H1, Lx S H H1 → Pv 0 σ H1) (hl : ∀ i σ' H', i ≤ xs.length → Pv i σ' H' → LA K S H' a xs)
    (hs : ∀ i x σ' H', xs[i]? = some x → Pv i σ' H' → g x σ' H' fun σ2 H2 => tu { D with nx := Pv (i + 1), ct := Pv (i + 1), bk := D.nx } σ2 H2) (hd : ∀ σ' H', Pv xs.length σ' H' → D.nx σ' H') : St K S (tFor (iList K tl) g tu) D σ H := fun H1 e =>
  h H1 e _ fun H2 e2 => ⟨a, rfl, ⟨xs, (hx.mono (e.trans e2)).q⟩, for_list (xs := xs) Pv (h0 H2 (e.trans e2)) (fun i σ' H' hi p => (hl i σ' H' hi p).q) hs hd⟩
theorem s_forR1 {tas : TA} {g : TG} {n : Int} (h : EvA K S tas σ H [.int n]) (hn : n ≤ 1000000 ∧ -1000000 ≤ n) (Pv : Nat → L2.St → Hp → Prop) (h0 : ∀ H1, Lx S H H1 → Pv 0 σ H1)
    (hs : ∀ (i : Nat) σ' H', (i : Int) < n → Pv i σ' H' → g (.int i) σ' H' fun σ2 H2 => tu { D with nx := Pv (i + 1), ct := Pv (i + 1), bk := tz D } σ2 H2) (hd : ∀ σ' H', Pv n.toNat σ' H' → tz D σ' H') : St K S (tSeq (tFor (iRng1 tas) g tu) tz) D σ H := fun H1 e =>
  h H1 e _ fun H2 e2 => ⟨n, rfl, by omega, by omega, for_range (lo := 0) (n := n.toNat) (D := { D with nx := tz D }) Pv (h0 H2 (e.trans e2)) (fun i σ' H' hi p => by
    have q := hs i σ' H' (by omega) p
    rw [show (0 : Int) + (i : Int) = (i : Int) from Int.zero_add _]
    exact q) hd⟩
theorem s_forR11 {tas : TA} {g : TG} {n : Int} (h : EvA K S tas σ H [.int n]) (hn : n ≤ 1000000 ∧ -1000000 ≤ n) (Pv : Nat → L2.St → Hp → Prop) (h0 : ∀ H1, Lx S H H1 → Pv 0 σ H1)
    (hs : ∀ (i : Nat) σ' H', (i : Int) < n → Pv i σ' H' → g (.int i) σ' H' fun σ2 H2 => tu { D with nx := Pv (i + 1), ct := Pv (i + 1), bk := D.nx } σ2 H2) (hd : ∀ σ' H', Pv n.toNat σ' H' → D.nx σ' H') : St K S (tFor (iRng1 tas) g tu) D σ H := fun H1 e =>
  h H1 e _ fun H2 e2 => ⟨n, rfl, by omega, by omega, for_range (lo := 0) (n := n.toNat) Pv (h0 H2 (e.trans e2)) (fun i σ' H' hi p => by
    have q := hs i σ' H' (by omega) p
    rw [show (0 : Int) + (i : Int) = (i : Int) from Int.zero_add _]
    exact q) hd⟩
theorem s_forR2 {tas : TA} {g : TG} {m n : Int} (h : EvA K S tas σ H [.int m, .int n]) (hn : n ≤ 1000000 ∧ -1000000 ≤ n ∧ m ≤ 1000000 ∧ -1000000 ≤ m) (Pv : Nat → L2.St → Hp → Prop) (h0 : ∀ H1, Lx S H H1 → Pv 0 σ H1)
    (hs : ∀ (i : Nat) σ' H', m + (i : Int) < n → Pv i σ' H' → g (.int (m + i)) σ' H' fun σ2 H2 => tu { D with nx := Pv (i + 1), ct := Pv (i + 1), bk := tz D } σ2 H2) (hd : ∀ σ' H', Pv (n - m).toNat σ' H' → tz D σ' H') : St K S (tSeq (tFor (iRng2 tas) g tu) tz) D σ H := fun H1 e =>
  h H1 e _ fun H2 e2 => ⟨m, n, rfl, by omega, for_range (lo := m) (n := (n - m).toNat) (D := { D with nx := tz D }) Pv (h0 H2 (e.trans e2)) (fun i σ' H' hi p => hs i σ' H' (by omega) p) hd⟩
theorem s_forT {a : Addr} {xs : List V} {tl : TE} {g : TG} (h : Ev K S tl σ H (.ref a)) (hx : UA K S H a xs) (Pv : Nat → L2.St → Hp → Prop) (h0 : ∀ H1, Lx S H H1 → Pv 0 σ H1) (hl : ∀ i σ' H', i ≤ xs.length → Pv i σ' H' → UA K S H' a xs)
    (hs : ∀ i x σ' H', xs[i]? = some x → Pv i σ' H' → g x σ' H' fun σ2 H2 => tu { D with nx := Pv (i + 1), ct := Pv (i + 1), bk := tz D } σ2 H2) (hd : ∀ σ' H', Pv xs.length σ' H' → tz D σ' H') : St K S (tSeq (tFor (iTup K tl) g tu) tz) D σ H := fun H1 e =>
  h H1 e _ fun H2 e2 => ⟨a, rfl, ⟨xs, (hx.mono (e.trans e2)).q⟩, for_tup (xs := xs) (D := { D with nx := tz D }) Pv (h0 H2 (e.trans e2)) (fun i σ' H' hi p => (hl i σ' H' hi p).q) hs hd⟩
theorem s_while (W : Nat → L2.St → Hp → Prop) (m0 : Nat) (h0 : ∀ H1, Lx S H H1 → W m0 σ H1)
    (hs : ∀ m σ' H', W m σ' H' → EvTX K S t σ' H' fun b H1 => (b = true → ∃ N : L2.St → Hp → Prop, (∀ σ2 H2, N σ2 H2 → ∃ m', m' < m ∧ W m' σ2 H2) ∧ tu { D with nx := N, ct := N, bk := tz D } σ' H1) ∧ (b = false → tz D σ' H1))
    (wf : ∀ m σ' H', W m σ' H' → Lx S H' H') : St K S (tSeq (tWhile t tu) tz) D σ H := fun H1 e => ⟨W, ⟨m0, h0 H1 e⟩, fun m σ' H' w => hs m σ' H' w H' (wf m σ' H' w) _ fun b H2 e2 p => by
  cases b with
  | true =>
    obtain ⟨N, n1, n2⟩ := p.1 rfl
    show ∃ N : L2.St → Hp → Prop, _
    exact ⟨N, n1, n2⟩
  | false => exact p.2 rfl⟩
/-! comprehensions: Pv D i acc H, acc what is made so far, at D -/
theorem ex_lcL {a : Addr} {xs : List V} {tl : TE} {j : Nat} {ws : List Nat} (h : Ev K S tl σ H (.ref a)) (hx : LA K S H a xs) (hz : xs.length < sizeLine) (hw : ∀ x, wipe ((wipe σ ws).set j (some x)) ws = wipe σ ws)
    (Pv : Addr → Nat → List V → Hp → Prop) (h0 : ∀ D H1, H D = none → Lx S H H1 → H1 D = some (.lst []) → Pv D 0 [] H1)
    (hs : ∀ D i x acc H1, H D = none → H1 D = some (.lst acc) → xs[i]? = some x → Lx S H H1 → Pv D i acc H1 → EvTX K S t ((wipe σ ws).set j (some x)) H1 fun b H2 =>
      (b = true → EvX K S te ((wipe σ ws).set j (some x)) H2 fun y H3 => Pv D (i + 1) (acc ++ [y]) (upd H3 D (.lst (acc ++ [y])))) ∧ (b = false → Pv D (i + 1) acc H2)) :
    EvX K S (tLc (iList K tl) (gName j) t te ws) σ H (fun v H2 => ∃ p acc, v = .ref p ∧ H p = none ∧ ¬ Sx S p ∧ H2 p = some (.lst acc) ∧ acc.length ≤ xs.length ∧ Pv p xs.length acc H2) := fun H0 e Q q => h H0 e _ fun H1 e1 => ⟨a, rfl, ⟨xs, (hx.mono (e.trans e1)).q⟩, fun Dl hD => by
  have w1 : Lx S H H1 := e.trans e1
  have nD : ¬ Sx S Dl := w1.ns hD
  have fD : H Dl = none := w1.fresh hD
  refine lc_list (xs := xs) (fun i H' => ∃ acc, H' Dl = some (.lst acc) ∧ acc.length ≤ i ∧ Lx S H1 H' ∧ Pv Dl i acc H') ⟨[], upd_same, Nat.le_refl _, w1.new hD, h0 Dl _ fD (w1.trans (w1.new hD)) upd_same⟩ (fun i H' _ ⟨acc, _, _, e2, _⟩ => (hx.mono (w1.trans e2)).q) ?_ ?_
  · rintro i x H' hi ⟨acc, g1, g2, e2, p⟩
    refine ⟨hw x, hs Dl i x acc H' fD g1 hi (w1.trans e2) p H' e2.refl _ fun b H2 e3 pb => ?_⟩
    cases b with
    | true =>
      show te _ H2 _
      refine pb.1 rfl H2 ((w1.trans e2).trans e3).refl _ fun y H3 e4 py => ⟨acc, e4.1 _ _ nD (e3.1 _ _ nD g1), Nat.lt_of_le_of_lt g2 (Nat.lt_of_lt_of_le ((List.getElem?_eq_some_iff.mp hi).1) (Nat.le_of_lt hz)), acc ++ [y], upd_same, ?_, ?_, py⟩
      · rw [List.length_append]; exact Nat.succ_le_succ g2
      · have e5 := (e2.trans e3).trans e4
        exact e5.put nD fun u z => by rw [hD] at z; cases z
    | false =>
      show ∃ acc, _
      exact ⟨acc, e3.1 _ _ nD g1, Nat.le_succ_of_le g2, e2.trans e3, pb.2 rfl⟩
  · rintro H' ⟨acc, g1, g2, e2, p⟩
    exact q _ _ (e1.trans e2) ⟨Dl, acc, rfl, fD, nD, g1, g2, p⟩⟩
theorem ex_lcR {n : Int} {tas : TA} {j : Nat} {ws : List Nat} (h : EvA K S tas σ H [.int n]) (hn : n ≤ 1000000 ∧ -1000000 ≤ n) (hw : ∀ x, wipe ((wipe σ ws).set j (some x)) ws = wipe σ ws)
    (Pv : Addr → Nat → List V → Hp → Prop) (h0 : ∀ D H1, H D = none → Lx S H H1 → H1 D = some (.lst []) → Pv D 0 [] H1)
    (hs : ∀ D (i : Nat) acc H1, H D = none → H1 D = some (.lst acc) → (i : Int) < n → Lx S H H1 → Pv D i acc H1 → EvTX K S t ((wipe σ ws).set j (some (.int i))) H1 fun b H2 =>
      (b = true → EvX K S te ((wipe σ ws).set j (some (.int i))) H2 fun y H3 => Pv D (i + 1) (acc ++ [y]) (upd H3 D (.lst (acc ++ [y])))) ∧ (b = false → Pv D (i + 1) acc H2)) :
    EvX K S (tLc (iRng1 tas) (gName j) t te ws) σ H (fun v H2 => ∃ p acc, v = .ref p ∧ H p = none ∧ ¬ Sx S p ∧ H2 p = some (.lst acc) ∧ acc.length ≤ n.toNat ∧ Pv p n.toNat acc H2) := fun H0 e Q q => h H0 e _ fun H1 e1 => ⟨n, rfl, by omega, by omega, fun Dl hD => by
  have w1 : Lx S H H1 := e.trans e1
  have nD : ¬ Sx S Dl := w1.ns hD
  have fD : H Dl = none := w1.fresh hD
  refine lc_range (lo := 0) (n := n.toNat) (fun i H' => ∃ acc, H' Dl = some (.lst acc) ∧ acc.length ≤ i ∧ Lx S H1 H' ∧ Pv Dl i acc H') ⟨[], upd_same, Nat.le_refl _, w1.new hD, h0 Dl _ fD (w1.trans (w1.new hD)) upd_same⟩ ?_ ?_
  · rintro i H' hi ⟨acc, g1, g2, e2, p⟩
    show wipe ((wipe σ ws).set j (some (.int ((0 : Int) + (i : Int))))) ws = wipe σ ws ∧ t ((wipe σ ws).set j (some (.int ((0 : Int) + (i : Int))))) H' _
    rw [show (0 : Int) + (i : Int) = (i : Int) from Int.zero_add _]
    refine ⟨hw _, hs Dl i acc H' fD g1 (by omega) (w1.trans e2) p H' e2.refl _ fun b H2 e3 pb => ?_⟩
    cases b with
    | true =>
      show te _ H2 _
      refine pb.1 rfl H2 ((w1.trans e2).trans e3).refl _ fun y H3 e4 py => ⟨acc, e4.1 _ _ nD (e3.1 _ _ nD g1), Nat.lt_of_le_of_lt g2 (by have : sizeLine = 16777216 := sizeLine_eq; omega), acc ++ [y], upd_same, ?_, ?_, py⟩
      · rw [List.length_append]; exact Nat.succ_le_succ g2
      · have e5 := (e2.trans e3).trans e4
        exact e5.put nD fun u z => by rw [hD] at z; cases z
    | false =>
      show ∃ acc, _
      exact ⟨acc, e3.1 _ _ nD g1, Nat.le_succ_of_le g2, e2.trans e3, pb.2 rfl⟩
  · rintro H' ⟨acc, g1, g2, e2, p⟩
    exact q _ _ (e1.trans e2) ⟨Dl, acc, rfl, fD, nD, g1, g2, p⟩⟩
theorem et_yes : EvTX K S tYes σ H (fun b _ => b = true) := fun H1 e _ q => q true H1 e.refl rfl
/-- each item a value: [f x for x in xs] -/
theorem ex_map {a : Addr} {xs : List V} {tl : TE} {j : Nat} {ws : List Nat} (f : V → V) (h : Ev K S tl σ H (.ref a)) (hx : LA K S H a xs) (hz : xs.length < sizeLine) (hw : ∀ x, wipe ((wipe σ ws).set j (some x)) ws = wipe σ ws)
    (hs : ∀ x ∈ xs, Ev K S te ((wipe σ ws).set j (some x)) H (f x)) : EvX K S (tLc (iList K tl) (gName j) tYes te ws) σ H (NewL S H (xs.map f)) := by
  refine (ex_lcL h hx hz hw (fun _ i acc _ => acc = (xs.take i).map f) (fun _ _ _ _ _ => by simp) ?_).imp ?_
  · intro D i x acc H1 _ _ hi e p H2 e2 Q q
    refine q true H2 e2.refl ⟨fun _ H3 e3 Q3 q3 => hs x (List.mem_of_getElem? hi) H3 ((e.trans e2).trans e3) _ fun H4 e4 => q3 _ _ e4 ?_, fun z => nomatch z⟩
    rw [p, List.take_succ, hi]
    simp
  · rintro v H2 e ⟨p, acc, rfl, f1, f2, f3, _, g⟩
    rw [List.take_length] at g
    subst g
    exact ⟨p, rfl, f1, f2, f3⟩
theorem ex_filterMap {a : Addr} {xs : List V} {tl : TE} {j : Nat} {ws : List Nat} (g : V → Bool) (f : V → V) (h : Ev K S tl σ H (.ref a)) (hx : LA K S H a xs) (hz : xs.length < sizeLine) (hw : ∀ x, wipe ((wipe σ ws).set j (some x)) ws = wipe σ ws)
    (ht : ∀ x ∈ xs, EvT K S t ((wipe σ ws).set j (some x)) H (g x)) (hs : ∀ x ∈ xs, g x = true → Ev K S te ((wipe σ ws).set j (some x)) H (f x)) : EvX K S (tLc (iList K tl) (gName j) t te ws) σ H (NewL S H ((xs.filter g).map f)) := by
  refine (ex_lcL h hx hz hw (fun _ i acc _ => acc = ((xs.take i).filter g).map f) (fun _ _ _ _ _ => by simp) ?_).imp ?_
  · intro D i x acc H1 _ _ hi e p H2 e2 Q q
    refine ht x (List.mem_of_getElem? hi) H2 (e.trans e2) _ fun H3 e3 => q (g x) H3 e3 ⟨fun b H4 e4 Q4 q4 => hs x (List.mem_of_getElem? hi) b H4 (((e.trans e2).trans e3).trans e4) _ fun H5 e5 => q4 _ _ e5 ?_, fun b => ?_⟩
    · rw [p, List.take_succ, hi]
      simp [List.filter_append, b]
    · rw [p, List.take_succ, hi]
      simp [List.filter_append, b]
  · rintro v H2 e ⟨p, acc, rfl, f1, f2, f3, _, g⟩
    rw [List.take_length] at g
    subst g
    exact ⟨p, rfl, f1, f2, f3⟩
end
/-! loops whose target is a name -/
section
variable {K : PySem.W.Frag} {S : Dst} {σ : L2.St} {H H' : Hp} {tas : TA} {tl : TE} {D : Ends} {tu tz : TS} {j : Nat}
theorem s_forLn {a : Addr} {xs : List V} (h : Ev K S tl σ H (.ref a)) (hx : LA K S H a xs) (Pv : Nat → L2.St → Hp → Prop) (wf : ∀ i σ' H', Pv i σ' H' → Lx S H' H') (h0 : ∀ H1, Lx S H H1 → Pv 0 σ H1) (hl : ∀ i σ' H', i ≤ xs.length → Pv i σ' H' → LA K S H' a xs)
    (hs : ∀ i x σ' H', xs[i]? = some x → Pv i σ' H' → St K S tu { D with nx := Pv (i + 1), ct := Pv (i + 1), bk := tz D } (σ'.set j (some x)) H') (hd : ∀ σ' H', Pv xs.length σ' H' → St K S tz D σ' H') : St K S (tSeq (tFor (iList K tl) (gName j) tu) tz) D σ H :=
  s_forL h hx Pv h0 hl (fun i x σ' H' hi p => hs i x σ' H' hi p H' (wf i σ' H' p)) (fun σ' H' p => hd σ' H' p H' (wf _ σ' H' p))
theorem s_forLn1 {a : Addr} {xs : List V} (h : Ev K S tl σ H (.ref a)) (hx : LA K S H a xs) (Pv : Nat → L2.St → Hp → Prop) (wf : ∀ i σ' H', Pv i σ' H' → Lx S H' H') (h0 : ∀ H1, Lx S H H1 → Pv 0 σ H1) (hl : ∀ i σ' H', i ≤ xs.length → Pv i σ' H' → LA K S H' a xs)
    (hs : ∀ i x σ' H', xs[i]? = some x → Pv i σ' H' → St K S tu { D with nx := Pv (i + 1), ct := Pv (i + 1), bk := D.nx } (σ'.set j (some x)) H') (hd : ∀ σ' H', Pv xs.length σ' H' → D.nx σ' H') : St K S (tFor (iList K tl) (gName j) tu) D σ H :=
  s_forL1 h hx Pv h0 hl (fun i x σ' H' hi p => hs i x σ' H' hi p H' (wf i σ' H' p)) (hd)
theorem s_forTn {a : Addr} {xs : List V} (h : Ev K S tl σ H (.ref a)) (hx : UA K S H a xs) (Pv : Nat → L2.St → Hp → Prop) (wf : ∀ i σ' H', Pv i σ' H' → Lx S H' H') (h0 : ∀ H1, Lx S H H1 → Pv 0 σ H1) (hl : ∀ i σ' H', i ≤ xs.length → Pv i σ' H' → UA K S H' a xs)
    (hs : ∀ i x σ' H', xs[i]? = some x → Pv i σ' H' → St K S tu { D with nx := Pv (i + 1), ct := Pv (i + 1), bk := tz D } (σ'.set j (some x)) H') (hd : ∀ σ' H', Pv xs.length σ' H' → St K S tz D σ' H') : St K S (tSeq (tFor (iTup K tl) (gName j) tu) tz) D σ H :=
  s_forT h hx Pv h0 hl (fun i x σ' H' hi p => hs i x σ' H' hi p H' (wf i σ' H' p)) (fun σ' H' p => hd σ' H' p H' (wf _ σ' H' p))
theorem s_forRn {n : Int} (h : EvA K S tas σ H [.int n]) (hn : n ≤ 1000000 ∧ -1000000 ≤ n) (Pv : Nat → L2.St → Hp → Prop) (wf : ∀ i σ' H', Pv i σ' H' → Lx S H' H') (h0 : ∀ H1, Lx S H H1 → Pv 0 σ H1)
    (hs : ∀ (i : Nat) σ' H', (i : Int) < n → Pv i σ' H' → St K S tu { D with nx := Pv (i + 1), ct := Pv (i + 1), bk := tz D } (σ'.set j (some (.int i))) H') (hd : ∀ σ' H', Pv n.toNat σ' H' → St K S tz D σ' H') : St K S (tSeq (tFor (iRng1 tas) (gName j) tu) tz) D σ H :=
  s_forR1 h hn Pv h0 (fun i σ' H' hi p => hs i σ' H' hi p H' (wf i σ' H' p)) (fun σ' H' p => hd σ' H' p H' (wf _ σ' H' p))
theorem s_forRn1 {n : Int} (h : EvA K S tas σ H [.int n]) (hn : n ≤ 1000000 ∧ -1000000 ≤ n) (Pv : Nat → L2.St → Hp → Prop) (wf : ∀ i σ' H', Pv i σ' H' → Lx S H' H') (h0 : ∀ H1, Lx S H H1 → Pv 0 σ H1)
    (hs : ∀ (i : Nat) σ' H', (i : Int) < n → Pv i σ' H' → St K S tu { D with nx := Pv (i + 1), ct := Pv (i + 1), bk := D.nx } (σ'.set j (some (.int i))) H') (hd : ∀ σ' H', Pv n.toNat σ' H' → D.nx σ' H') : St K S (tFor (iRng1 tas) (gName j) tu) D σ H :=
  s_forR11 h hn Pv h0 (fun i σ' H' hi p => hs i σ' H' hi p H' (wf i σ' H' p)) (hd)
theorem s_forQn {m n : Int} (h : EvA K S tas σ H [.int m, .int n]) (hn : n ≤ 1000000 ∧ -1000000 ≤ n ∧ m ≤ 1000000 ∧ -1000000 ≤ m) (Pv : Nat → L2.St → Hp → Prop) (wf : ∀ i σ' H', Pv i σ' H' → Lx S H' H') (h0 : ∀ H1, Lx S H H1 → Pv 0 σ H1)
    (hs : ∀ (i : Nat) σ' H', m + (i : Int) < n → Pv i σ' H' → St K S tu { D with nx := Pv (i + 1), ct := Pv (i + 1), bk := tz D } (σ'.set j (some (.int (m + i)))) H') (hd : ∀ σ' H', Pv (n - m).toNat σ' H' → St K S tz D σ' H') : St K S (tSeq (tFor (iRng2 tas) (gName j) tu) tz) D σ H :=
  s_forR2 h hn Pv h0 (fun i σ' H' hi p => hs i σ' H' hi p H' (wf i σ' H' p)) (fun σ' H' p => hd σ' H' p H' (wf _ σ' H' p))
theorem go {ts : TS} {σ' : L2.St} (e : σ = σ') (h : St K none ts D σ' H) : ts D σ H := by
  subst e
  exact h H Lx.rfl0
theorem lx_start {st l : Addr} (d : Drw H st l) : Lx (some (st, l)) H H := ⟨fun _ _ _ e => e, fun p hp => by cases hp; exact d⟩
/-- a drawing state has been made -/
theorem s_S {ts : TS} {st l : Addr} (d : Drw H st l) (h : St K (some (st, l)) ts D σ H) : St K none ts D σ H := fun H1 e => h H1 ((lx_start d).of0 e)
theorem goS {ts : TS} {σ' : L2.St} {st l : Addr} (e : σ = σ') (d : Drw H st l) (h : St K (some (st, l)) ts D σ' H) : ts D σ H := by
  subst e
  exact h H (lx_start d)
theorem ns_of {st l b : Addr} (h1 : b ≠ st) (h2 : b ≠ l) : ¬ Sx (some (st, l)) b := fun ⟨p, hp, z⟩ => by
  cases hp
  rcases z with z | z
  · exact h1 z
  · exact h2 z
theorem wf0 {Pv : Nat → L2.St → Hp → Prop} : ∀ i σ' H', Pv i σ' H' → Lx none H' H' := fun _ _ _ _ => Lx.rfl0
end
/-! ### the drawing -/
section
variable {K : PySem.W.Frag} {S : Dst} {σ : L2.St} {H : Hp}
def sp_draw : Sp := fun vs H Q _ => ∃ (st l : Addr) (m : Int), vs = [.ref st, .int m] ∧ 0 < m ∧ m < 1073741824 ∧ Drw H st l ∧ ∀ r H', 0 ≤ r → r < m → Drw H' st l → (∀ b o, b ≠ st → H b = some o → H' b = some o) → Q (.int r) H'
/-- what a draw gives: any number below m -/
abbrev Drawn (m : Int) : V → Hp → Prop := fun v _ => ∃ r : Int, v = .int r ∧ 0 ≤ r ∧ r < m
theorem spx_draw {st l : Addr} {m : Int} {E : XK} (h0 : 0 < m) (h1 : m < 1073741824) : SpX K (some (st, l)) sp_draw [.ref st, .int m] H E (Drawn m) := by
  intro H1 e Q q
  refine ⟨st, l, m, rfl, h0, h1, e.2 (st, l) rfl, fun r H' r0 r1 d k => q _ _ ⟨fun b o nb eb => k b o (fun z => nb ⟨_, rfl, .inl z⟩) eb, fun p hp => ?_⟩ ⟨r, rfl, r0, r1⟩⟩
  cases hp
  exact d
theorem ex_draw {st l : Addr} {m : Int} {E : XK} {ta tm : TE} (hs : Ev K (some (st, l)) ta σ H (.ref st)) (hm : Ev K (some (st, l)) tm σ H (.int m)) (h0 : 0 < m) (h1 : m < 1073741824) :
    EvX K (some (st, l)) (tCall sp_draw [] E (tCons ta (tCons tm tNil))) σ H (Drawn m) := ex_call (ea_cons hs (ea_cons hm ea_nil)) (spx_draw h0 h1)
def sp_start (K : PySem.W.Frag) : Sp := fun vs H Q _ => ∃ (a : Addr) (ns : List Int), vs = [.ref a] ∧ SqL K H a (ns.map V.int) ∧ ∀ st l H', H st = none → H l = none → Same H H' → Drw H' st l → Q (.ref st) H'
theorem ex_start {σ : L2.St} {H : Hp} {te : TE} {E : XK} {a : Addr} {ns : List Int} (h : Ev K none te σ H (.ref a)) (hS : SqL K H a (ns.map V.int)) : EvX K none (tCall (sp_start K) [] E (tCons te tNil)) σ H (fun v H2 => ∃ st l, v = .ref st ∧ Drw H2 st l) :=
  ex_call (ea_cons h ea_nil) fun H1 e Q q => ⟨a, ns, rfl, ((LA.of0 hS).mono e).q, fun st l H' _ _ sm d => q _ _ (lx_same sm) ⟨st, l, rfl, d⟩⟩
end
end Fw

namespace Fw
open PySem PySem.Spec PyProof.Rows L2
/-! ### a def that keeps a promise, however its object looks -/
def Ok (P : Program) (w : World) (K : PySem.W.Frag) (mg : Str → Option Value) (base : Heap) (CX : CXT) (k : Nat) (f : Addr) (ps : List Str) (sp : Sp) : Prop :=
  ∃ fd : FuncData, FnOk P w K mg base CX k f fd ps sp ∧ Binds K fd ps [] ∧ PySem.W.keepIn K (.ref f) = true ∧ ∃ oc od osl, K.lookup f = some ⟨oc, od, .func fd, osl⟩
abbrev FnIs (K : PySem.W.Frag) (x qual : Str) (st : Stmt) (f : Addr) : Prop := ∃ fd, FunD K x qual (defArgs st) (defBody st) (defScope st) [] [] f fd
section
variable {P : Program} {w : World} {K : PySem.W.Frag} {mg : Str → Option Value} {base : Heap}
theorem Ok.mono {CX : CXT} {j k : Nat} {f : Addr} {ps : List Str} {sp : Sp} (h : Ok P w K mg base CX j f ps sp) (l : j ≤ k) : Ok P w K mg base CX k f ps sp := by
  obtain ⟨fd, a, b, c⟩ := h
  exact ⟨fd, a.mono l, b, c⟩
theorem Ok.imp {CX : CXT} {k : Nat} {f : Addr} {ps : List Str} {sp sp' : Sp} (h : Ok P w K mg base CX k f ps sp) (i : ∀ vs H Q E, sp' vs H Q E → sp vs H Q E) : Ok P w K mg base CX k f ps sp' := by
  obtain ⟨fd, a, b, c⟩ := h
  exact ⟨fd, a.imp i, b, c⟩
/-- a def that lets nothing out: its body, read -/
theorem okD {x qual : Str} {st : Stmt} {f : Addr} {N ps : List Str} {k : Nat} {sp : Sp} (F : FnIs K x qual st f) (S : FnScope N ps (defScope st))
    (hb : ∀ (kV doc pm : Value) (an : Option Addr) (cdv ct : Value) (us : List Value), us.length = ps.length → bindArgs (PySem.W.fnOf x qual (defArgs st) (defBody st) (defScope st) .none kV doc pm an cdv ct) ⟨us, []⟩ = pure (ps.zip us))
    (len : ∀ vs H Q E, sp vs H Q E → vs.length = ps.length)
    (hbody : ∀ (cdv : Value) (A : Around) (outer : List Env) (s : Shared) (H : Hp) (vs : List V) (Q : VK) (E : XK), Room k (A.deeper (envOfC qual (defScope st) s.heap.objs.size f cdv)) → sp vs H Q E →
      ∃ t, PSs (cxOf CX0 P w K mg base N qual (defScope st) f cdv A outer s H E).nox (defBody st) t ∧ t { nx := fun _ H' => Q .non H', rt := Q } (start N vs) H) : Ok P w K mg base CX0 (k + 1) f ps sp := by
  obtain ⟨fd, F⟩ := F
  refine ⟨fd, F.ok S len fun cdv A outer s H vs Q E hr hsp => ?_, F.bindsN hb, F.kp, by obtain ⟨oc, od, _, _, _, _, _, _, _, osl, _, lk, _⟩ := F.ex; exact ⟨oc, od, osl, lk⟩⟩
  obtain ⟨t, h, q⟩ := hbody cdv A outer s H vs Q E hr hsp
  exact ⟨t, h.nox, q⟩
/-- the promise of the law's own def -/
theorem Ok.fn {CX : CXT} {k : Nat} {f : Addr} {ps : List Str} {sp : Sp} {x qual : Str} {params : Arguments} {body : List Stmt} {scope : Scope} {dvs : List V} {kws : List (Str × V)} {fd : FuncData} (h : Ok P w K mg base CX k f ps sp)
    (F : FunD K x qual params body scope dvs kws f fd) : FnOk P w K mg base CX k f fd ps sp := by
  obtain ⟨fd', a, _, _, oc, od, osl, lk⟩ := h
  obtain ⟨_, _, _, _, _, _, _, _, _, _, _, lk2, _⟩ := F.ex
  rw [lk] at lk2
  injection lk2 with e
  injection e with _ _ e _
  injection e with e
  subst e
  exact a
end
section
variable {X : Cx} {CX : CXT} {k : Nat} {f C : Addr} {ps : List Str} {sp : Sp} {E : XK} {x m : Str} {p pos apos : Pos} {e o : Expr} {es : List Expr} {t : TA} {ta : TE}
theorem pe_callO (F : Ok X.prog X.w X.K X.mg X.base CX k f ps sp) (hr : Room k X.A) (hg : Gl X x) (hm : X.mg x = some (.ref f)) (hx : Passes CX X E) (ha : PA X (e :: es) t)
    (hdb : (x == ("__debug__" : Str)) = false := by decide) (he : starEach (e :: es) X.env = (false, eval e X.env) :: starEach es X.env := by rfl) (hpl : (backTo pos (starEach es X.env)).any (·.1) = false := by rfl) :
    PE X (.Call (.Name x p) (e :: es) [] pos) (tCall sp [] E t) := by
  obtain ⟨fd, F, hb, hk, _⟩ := F
  exact pe_call F hr hg hm hk hb .nil hx ha hdb he hpl
end
/-! ### d.get(k), d a written dict of text keys -/
def tKGet (K : PySem.W.Frag) (w : World) (td ty : TE) : TE := fun σ H Q => td σ H fun x H1 => ∃ (a : Addr) (es : Array DictEntry) (n : Nat), x = .ref a ∧ KDict K w a es n ∧ ty σ H1 fun y H2 => ∃ (z : Str) (r : Option Value) (v : V), y = .str z ∧ PySem.W.nsIn K a z = some r ∧ RelV v (r.getD .none) ∧ Q v H2
section
variable {X : Cx} {o e : Expr} {apos cpos : Pos} {td ty : TE}
theorem pe_kget (K : PySem.W.Frag) (hK : X.K = K) {w : World} (hw : X.w = w) (ho : PE X o td) (he : PE X e ty) (m : M1 X o "get" apos e cpos) : PE X (.Call (.Attribute o "get" apos) [e] [] cpos) (tKGet K w td ty) := by
  subst hK
  subst hw
  refine ⟨fun pins s σ H Q I h => ?_⟩
  refine wpAny_Call_method m.base m.few m.line PySem.F.plainAttrs_dict PySem.F.slot_dict_get PySem.F.type_dict_get (thn (ho.run pins s σ H _ I h) fun u s1 ⟨x, H1, I1, rx, a, es, n, ex, D, q1⟩ => ?_)
  subst ex
  obtain rfl : u = Value.ref a := rx
  refine ⟨kd_type D I1, fun b eb => ?_, ?_⟩
  · cases eb
    exact ⟨_, I1.kIn _ _ D.at_, rfl⟩
  rw [m.trees]
  refine Calls.callWith_builtin rfl (Calls.evalArgs_plain (Calls.spliced_cons (thn (he.run pins s1 σ H1 _ I1 q1) fun iv s2 ⟨y, H2, I2, ry, z, r, v, ey, en, rv, q2⟩ => Calls.spliced_nil ?_)))
  subst ey
  obtain ⟨t, rfl⟩ := ry
  refine call_meetsIn PySem.F.slot_dict_get (kd_type D I2) PySem.F.entry_dict_get (PySem.F.args_dict_get_2 _ _) (meets_dict_get (strKind X.prog X.w) a (PySem.strKind_is X.prog X.w z t) D.low) ⟨_, PySem.W.mapOf_K (prog := X.prog) I2.kIn D.at_ D.lit, v, H2, I2.tok _, ?_, q2⟩
  rw [PySem.W.find_K D.at_ en]
  exact rv
end
/-! ### data: what a value stands for -/
mutual
inductive Rp (S : Dst) (H : Hp) : V → PyData → Prop
  | non : Rp S H .non .none
  | bl (b : Bool) : Rp S H (.bl b) (.bool b)
  | int (i : Int) : Rp S H (.int i) (.int i)
  | str (x : Str) : Rp S H (.str x) (.str x)
  | lst {a : Addr} {xs : List V} {ds : List PyData} : H a = some (.lst xs) → ¬ Sx S a → xs.length ≤ 100000 → RpAll S H xs ds → Rp S H (.ref a) (.list ds)
  | tup {a : Addr} {xs : List V} {ds : List PyData} : H a = some (.tup xs) → ¬ Sx S a → xs.length ≤ 100000 → RpAll S H xs ds → Rp S H (.ref a) (.tuple ds)
inductive RpAll (S : Dst) (H : Hp) : List V → List PyData → Prop
  | nil : RpAll S H [] []
  | cons {v : V} {vs : List V} {d : PyData} {ds : List PyData} : Rp S H v d → RpAll S H vs ds → RpAll S H (v :: vs) (d :: ds)
end
section
variable {K : PySem.W.Frag} {S : Dst} {H H' : Hp}
mutual
theorem Rp.mono (e : Lx S H H') : ∀ (d : PyData) (v : V), Rp S H v d → Rp S H' v d
  | .none, _, h => by cases h; exact .non
  | .bool b, _, h => by cases h; exact .bl b
  | .int b, _, h => by cases h; exact .int b
  | .str b, _, h => by cases h; exact .str b
  | .list ds, _, h => by
    cases h with
    | lst h1 h2 h3 h4 => exact .lst (e.1 _ _ h2 h1) h2 h3 (RpAll.mono e ds _ h4)
  | .tuple ds, _, h => by
    cases h with
    | tup h1 h2 h3 h4 => exact .tup (e.1 _ _ h2 h1) h2 h3 (RpAll.mono e ds _ h4)
  | .dict kvs, _, h => by cases h
theorem RpAll.mono (e : Lx S H H') : ∀ (ds : List PyData) (vs : List V), RpAll S H vs ds → RpAll S H' vs ds
  | [], _, h => by cases h; exact .nil
  | d :: ds, _, h => by
    cases h with
    | cons h1 h2 => exact .cons (Rp.mono e d _ h1) (RpAll.mono e ds _ h2)
end
mutual
theorem Rp.to0 : ∀ (d : PyData) (v : V), Rp S H v d → Rp none H v d
  | .none, _, h => by cases h; exact .non
  | .bool b, _, h => by cases h; exact .bl b
  | .int b, _, h => by cases h; exact .int b
  | .str b, _, h => by cases h; exact .str b
  | .list ds, _, h => by
    cases h with
    | lst h1 h2 h3 h4 => exact .lst h1 sx_none h3 (RpAll.to0 ds _ h4)
  | .tuple ds, _, h => by
    cases h with
    | tup h1 h2 h3 h4 => exact .tup h1 sx_none h3 (RpAll.to0 ds _ h4)
  | .dict kvs, _, h => by cases h
theorem RpAll.to0 : ∀ (ds : List PyData) (vs : List V), RpAll S H vs ds → RpAll none H vs ds
  | [], _, h => by cases h; exact .nil
  | d :: ds, _, h => by
    cases h with
    | cons h1 h2 => exact .cons (Rp.to0 d _ h1) (RpAll.to0 ds _ h2)
end
theorem Rp.m {d : PyData} {v : V} (h : Rp S H v d) (e : Lx S H H') : Rp S H' v d := Rp.mono e d v h
theorem Rp.z {d : PyData} {v : V} (h : Rp S H v d) : Rp none H v d := Rp.to0 d v h
theorem RpAll.m {ds : List PyData} {vs : List V} (h : RpAll S H vs ds) (e : Lx S H H') : RpAll S H' vs ds := RpAll.mono e ds vs h
theorem RpAll.length : ∀ {vs : List V} {ds : List PyData}, RpAll S H vs ds → vs.length = ds.length
  | _, _, .nil => rfl
  | _, _, .cons _ h => congrArg Nat.succ (RpAll.length h)
theorem RpAll.get : ∀ {vs : List V} {ds : List PyData}, RpAll S H vs ds → ∀ {i : Nat} {d : PyData}, ds[i]? = some d → ∃ v, vs[i]? = some v ∧ Rp S H v d
  | _, _, .nil, i, d, h => by simp at h
  | _, _, .cons a _, 0, d, h => by
    have e := Option.some.inj h
    subst e
    exact ⟨_, rfl, a⟩
  | _, _, .cons _ r, i + 1, d, h => RpAll.get r (i := i) h
theorem RpAll.of {vs : List V} {ds : List PyData} (hl : vs.length = ds.length) (h : ∀ (i : Nat) v d, vs[i]? = some v → ds[i]? = some d → Rp S H v d) : RpAll S H vs ds := by
  induction vs generalizing ds with
  | nil => cases ds with
    | nil => exact .nil
    | cons d ds => exact nomatch hl
  | cons v vs ih => cases ds with
    | nil => exact nomatch hl
    | cons d ds => exact .cons (h 0 v d rfl rfl) (ih (Nat.succ.inj hl) fun i v' d' a b => h (i + 1) v' d' a b)
theorem RpAll.map {α : Type} {f : α → V} {g : α → PyData} {xs : List α} (h : ∀ x ∈ xs, Rp S H (f x) (g x)) : RpAll S H (xs.map f) (xs.map g) := by
  induction xs with
  | nil => exact .nil
  | cons x xs ih => exact .cons (h x (by simp)) (ih fun y hy => h y (by simp [hy]))
/-- the name of a datum's type -/
def tyD : PyData → String
  | .none => "NoneType" | .bool _ => "bool" | .int _ => "int" | .str _ => "str" | .list _ => "list" | .tuple _ => "tuple" | .dict _ => "dict"
theorem Rp.ty {d : PyData} {v : V} (h : Rp S H v d) : TyX K H v (.type (tyD d)) := by
  cases h with
  | non => exact .base .non
  | bl b => exact .base (.bl b)
  | int b => exact .base (.int b)
  | str b => exact .base (.str b)
  | lst h1 h2 h3 h4 => exact .base (.lst h1)
  | tup h1 h2 h3 h4 => exact .base (.tup h1)
theorem kD {d : PyData} (t : String) {n : String} {b : Bool} (h : tyD d = t) (k : kitB t n = some b) : kitB (tyD d) n = some b := h ▸ k
def rIsiA (K : PySem.W.Frag) : List V → Hp → VK → Prop := rIsi K
theorem rc_isi {d : PyData} {v : V} {n : String} {b : Bool} (h : Rp S H v d) (hk : kitB (tyD d) n = some b) : RC K S (rIsi K) [v, .ty n] H (.bl b) := fun H1 e _ q =>
  ⟨v, .ty n, _, _, b, rfl, .ty n, (h.m e).ty, kit_ty hk, q H1 e.refl⟩
theorem ev_isi {d : PyData} {v : V} {n : String} {b : Bool} {σ : L2.St} {te : TE} (he : Ev K S te σ H v) (h : Rp S H v d) (hk : kitB (tyD d) n = some b) : Ev K S (tCB (rIsi K) (tCons te (tCons (tC (.ty n)) tNil))) σ H (.bl b) :=
  ev_cb (ea_cons he (ea_cons ev_c ea_nil)) (rc_isi h hk)
theorem depth_mem : ∀ {ds : List PyData} {i : Nat} {d : PyData}, ds[i]? = some d → d.depth ≤ PyData.depthAll ds
  | [], i, d, h => by simp at h
  | x :: xs, 0, d, h => by
    have e := Option.some.inj h
    subst e
    rw [PyData.depthAll]
    exact Nat.le_max_left _ _
  | x :: xs, i + 1, d, h => by
    have q := depth_mem (ds := xs) (i := i) h
    rw [PyData.depthAll]
    exact Nat.le_trans q (Nat.le_max_right _ _)
/-! _law_is_number, _law_same of what is the same -/
def isNumD : PyData → Bool
  | .int _ => true
  | _ => false
def sp_isnum : Sp := fun vs H Q _ => ∃ (x : V) (d : PyData), vs = [x] ∧ Rp none H x d ∧ ∀ H', Lx none H H' → Q (.bl (isNumD d)) H'
theorem ev_isnum {te : TE} {σ : L2.St} {x : V} {d : PyData} {E : XK} (h : Ev K S te σ H x) (r : Rp S H x d) : Ev K S (tCall sp_isnum [] E (tCons te tNil)) σ H (.bl (isNumD d)) :=
  (ex_call (P := fun v _ => v = .bl (isNumD d)) (ea_cons h ea_nil) fun H1 e Q q => ⟨x, d, rfl, (r.m e).z, fun H' e2 => q _ _ (e.refl.of0 e2) rfl⟩).ev fun _ _ _ z => z
def sp_same (n : Nat) : Sp := fun vs H Q _ => ∃ (x y : V) (d : PyData), vs = [x, y] ∧ d.depth < n ∧ Rp none H x d ∧ Rp none H y d ∧ ∀ H', Lx none H H' → Q (.bl true) H'
theorem ev_same {ta tb : TE} {σ : L2.St} {x y : V} {d : PyData} {E : XK} {n : Nat} (ha : Ev K S ta σ H x) (hb : Ev K S tb σ H y) (rx : Rp S H x d) (ry : Rp S H y d) (hd : d.depth < n) : Ev K S (tCall (sp_same n) [] E (tCons ta (tCons tb tNil))) σ H (.bl true) :=
  (ex_call (P := fun v _ => v = .bl true) (ea_cons ha (ea_cons hb ea_nil)) fun H1 e Q q => ⟨x, y, d, rfl, hd, (rx.m e).z, (ry.m e).z, fun H' e2 => q _ _ (e.refl.of0 e2) rfl⟩).ev fun _ _ _ z => z
theorem spx_same {x y : V} {d : PyData} {E : XK} {n : Nat} (rx : Rp S H x d) (ry : Rp S H y d) (hd : d.depth < n) : SpX K S (sp_same n) [x, y] H E (fun v _ => v = .bl true) := fun H1 e Q q => ⟨x, y, d, rfl, hd, (rx.m e).z, (ry.m e).z, fun H' e2 => q _ _ (e.refl.of0 e2) rfl⟩
theorem ok_zero {P : Program} {w : World} {mg : Str → Option Value} {base : Heap} {CX : CXT} {x qual : Str} {st : Stmt} {f : Addr} {ps : List Str} {sp : Sp} (F : FnIs K x qual st f)
    (hb : ∀ (kV doc pm : Value) (an : Option Addr) (cdv ct : Value) (us : List Value), us.length = ps.length → bindArgs (PySem.W.fnOf x qual (defArgs st) (defBody st) (defScope st) .none kV doc pm an cdv ct) ⟨us, []⟩ = pure (ps.zip us)) (h : ∀ vs H Q E, ¬ sp vs H Q E) : Ok P w K mg base CX 0 f ps sp := by
  obtain ⟨fd, F⟩ := F
  exact ⟨fd, ⟨fun _ _ _ _ z => (h _ _ _ _ z).elim, fun _ _ _ _ _ _ _ _ _ _ _ _ _ z => (h _ _ _ _ z).elim⟩, F.bindsN hb, F.kp, by obtain ⟨oc, od, _, _, _, _, _, _, _, osl, _, lk, _⟩ := F.ex; exact ⟨oc, od, osl, lk⟩⟩
/-- an item of a list or a tuple -/
theorem rv_ix {p : Addr} {xs : List V} {i : Int} {v : V} (h : SqL K H p xs ∨ SqT K H p xs) (n : ¬ Sx S p) (ha : atI xs i = some v) : RV K S (rIx K) (.ref p) (.int i) H v := fun H1 e _ q => by
  rcases h with h | h
  · exact .inl ⟨p, xs, i, v, rfl, rfl, ((⟨h, n⟩ : LA K S H p xs).mono e).q, ha, q H1 e.refl⟩
  · exact .inr (.inl ⟨p, xs, i, v, rfl, rfl, ((⟨h, n⟩ : UA K S H p xs).mono e).q, ha, q H1 e.refl⟩)
theorem rc_lenLU {p : Addr} {xs : List V} (h : SqL K H p xs ∨ SqT K H p xs) (n : ¬ Sx S p) : RC K S (rLn K) [.ref p] H (.int (xs.length : Int)) := fun H1 e _ q => by
  rcases h with h | h
  · exact ⟨p, xs, rfl, .inl ((⟨h, n⟩ : LA K S H p xs).mono e).q, q H1 e.refl⟩
  · exact ⟨p, xs, rfl, .inr ((⟨h, n⟩ : UA K S H p xs).mono e).q, q H1 e.refl⟩
end
end Fw

namespace Fw
open PySem PySem.Spec PyProof.Rows L2
/-! ### comparisons of instances of an own class -/
section
open PySem.W
variable {prog : Program} {w : World} {M : Model} {A : Around} {E : Value → Shared → Prop} {s : Shared} {K : PySem.W.Frag} {x y C f : Addr} {ox oy : Obj} {od od' : Option Obj} {args rest : List Value} {name : Str} {id owner n : String}
theorem check_B {Q : Unit → Shared → Prop} (hk : builtinKind id = some .slot) (hs : splitId id = some (owner, n)) (ha : argsOk id ⟨.ref x :: rest, []⟩) (X : K.In s.heap) (I : InstAt s.heap x ox C od) (hm : mroIn K C (.type owner) = some true) (hq : Q () s) :
    wpAny M A (checkBuiltinCall id ⟨.ref x :: rest, []⟩) Q E s := by
  obtain ⟨hh, g, dr, t, os⟩ := s
  have L0 := I.type (M := M)
  have L1 := looks_mroIn (M := M) X hm
  simp only [checkBuiltinCall, hk, hs]
  refine wpAny_bind ?_
  unfold isInstance
  repeat lk
  cases hsig : Manifest.signature? id with
  | none => exact wpAny_pure hq
  | some sig =>
    simp only [argsOk, hsig] at ha
    have h2 : Bind.checkArgs id sig ⟨.ref x :: rest, []⟩ = pure () := ha
    show wpAny M A (Bind.checkArgs id sig ⟨.ref x :: rest, []⟩) Q E _
    rw [h2]; exact wpAny_pure hq
theorem ifBound_B {Q : Option Value → Shared → Prop} (X : K.In s.heap) (I : InstAt s.heap x ox C od) (hs : findIn K (.ref C) name = some (some (.builtin id))) (hb : bindSpecial (.builtin id) (.ref x) = pure (.builtin id, [.ref x]))
    (h : wpAny M A (call (.builtin id) (.ref x :: args)) (fun v => Q (some v)) E s) : wpAny M A (callSpecialIfBound? (.ref x) name args) Q E s := by
  simp only [callSpecialIfBound?, bindSpecialIfBound?]
  refine wpAny_holding (wpAny_bind (wpAny_bind (wpAny_bind (I.type.here ((looks_findIn X hs).here ?_)))))
  simp only [hb]
  refine wpAny_bind (wpAny_askSetting (wpAny_ite ?_))
  have fin : wpAny M A (call (.builtin id) ([.ref x] ++ args) >>= fun v => pure (some v)) Q E s := wpAny_bind (wpAny_mono h (fun v s' h' => wpAny_pure h') fun _ _ h' => h')
  split
  · exact wpAny_bind (wpAny_pure (wpAny_pure (by exact fin)))
  · exact wpAny_tryCatch (wpAny_bind (wpAny_pure (wpAny_pure (by exact fin))))

/-- x op y, no own def of x's class for op; the mirrored def of y's class answers -/
theorem declined_B {Q : Value → Shared → Prop} (hp : plainId id = true) {B : Builtin} (he : entryFor table id = some B) (hk : builtinKind id = some .slot) (hs : splitId id = some (owner, n)) (ha : argsOk id ⟨[.ref x, .ref y], []⟩)
    (X : K.In s.heap) (I : InstAt s.heap x ox C od) (hm : mroIn K C (.type owner) = some true)
    (h : wpAny (model prog w) A.in1 (B ⟨[.ref x, .ref y], []⟩) (fun fin s' => match fin with | .done f => (match f with | .ret v => Q v s' | _ => False) | .again _ => False) E s) : wpAny (model prog w) A (call (.builtin id) [.ref x, .ref y]) Q E s := by
  refine wpAny_call (codeAny_call_builtin hp he (check_B hk hs ha X I hm (wpAny_mono h (fun fin s' hq => ?_) fun _ _ e => e)))
  cases fin with
  | done f =>
    cases f with
    | ret v => exact hq
    | next => exact hq.elim
    | brk => exact hq.elim
    | cont => exact hq.elim
  | again c => exact hq.elim
theorem not_B {Q : Value → Shared → Prop} (hid : id = "object.__gt__" ∨ id = "object.__ge__") (X : K.In s.heap) (I : InstAt s.heap x ox C od) (hm : mroIn K C (.type "object") = some true) (h : Q .notImplemented s) :
    wpAny (model prog w) A (call (.builtin id) [.ref x, .ref y]) Q E s := by
  rcases hid with rfl | rfl
  · refine declined_B (owner := "object") (n := "__gt__") (by decide +kernel) PySem.F.entry_object_gt (by decide +kernel) (by decide +kernel) (PySem.F.args_object_gt_2 _ _) X I hm ?_
    unfold Builtin.«object.__gt__»
    repeat (first | wp_step | exact h)
  · refine declined_B (owner := "object") (n := "__ge__") (by decide +kernel) PySem.F.entry_object_ge (by decide +kernel) (by decide +kernel) (PySem.F.args_object_ge_2 _ _) X I hm ?_
    unfold Builtin.«object.__ge__»
    repeat (first | wp_step | exact h)

theorem mirror_K {op : CmpOp} {Q : Value → Shared → Prop} (hu : A.units < cLine) (hid : id = "object.__gt__" ∨ id = "object.__ge__") (hbs : bindSpecial (.builtin id) (.ref x) = pure (.builtin id, [.ref x])) (X : K.In s.heap) (I : InstAt s.heap x ox C od) (J : InstAt s.heap y oy C od')
    (hm : mroIn K C (.type "object") = some true) (hb : findIn K (.ref C) (cmpInfo op).2.1 = some (some (.builtin id))) (hs : findIn K (.ref C) (cmpInfo op).2.2 = some (some (.ref f))) (hf : isFn K (.ref f) = true)
    (h : wpAny (model prog w) A (call (.ref f) [.ref y, .ref x]) (PySem.W.CmpBack Q) E s) : wpAny (model prog w) A (richCompare op (.ref x) (.ref y)) Q E s := by
  have none_ : ∀ {P : Option Value → Shared → Prop}, P none s → wpAny (model prog w) A (tryCompare (.ref x) (cmpInfo op).2.1 (.ref y)) P E s := fun p => by
    unfold tryCompare
    exact wpAny_bind (ifBound_B X I hb hbs (not_B hid X I hm (wpAny_pure p)))
  have one : wpAny (model prog w) A (tryCompare (.ref y) (cmpInfo op).2.2 (.ref x)) (fun r s' => ∃ v, r = some v ∧ Q v s') E s := by
    unfold tryCompare
    refine wpAny_bind (ifBound_K X J hs hf (wpAny_mono h (fun v s' hv => ?_) fun _ _ e => e))
    cases v <;> first | exact hv.elim | exact wpAny_pure ⟨_, rfl, hv⟩
  unfold richCompare
  simp only [oneThing_ref]
  refine wpAny_holding (wpAny_bind (wpAny_cRoomFor hu ?_))
  refine wpAny_bind (I.type.here (wpAny_bind (J.type.here ?_)))
  rw [show (Value.ref C != Value.ref C) = false from by simp]
  simp only [Bool.false_eq_true, if_false]
  refine wpAny_bind (wpAny_pure ?_)
  simp only [Bool.false_eq_true, if_false]
  refine wpAny_bind (none_ ?_)
  dsimp only
  refine wpAny_bind (wpAny_mono one (fun r s' z => ?_) fun _ _ e => e)
  obtain ⟨v, rfl, hq⟩ := z
  exact wpAny_pure hq
theorem ne_K {Q : Value → Shared → Prop} (hu : A.units + 1 < cLine) (X : K.In s.heap) (I : InstAt s.heap x ox C od) (J : InstAt s.heap y oy C od')
    (hm : mroIn K C (.type "object") = some true) (hb : findIn K (.ref C) "__ne__" = some (some (.builtin "object.__ne__"))) (hs : findIn K (.ref C) "__eq__" = some (some (.ref f))) (hf : isFn K (.ref f) = true)
    (h : wpAny (model prog w) A.in1 (call (.ref f) [.ref x, .ref y]) (fun v s' => ∃ b, v = .bool b ∧ Q (.bool (!b)) s') E s) : wpAny (model prog w) A (richCompare .NotEq (.ref x) (.ref y)) Q E s := by
  have one : wpAny (model prog w) A (tryCompare (.ref x) "__ne__" (.ref y)) (fun r s' => ∃ b, r = some (.bool (!b)) ∧ Q (.bool (!b)) s') E s := by
    unfold tryCompare
    refine wpAny_bind (ifBound_B X I hb (PySem.F.cmp_object.ne.bind _) (wpAny_call (codeAny_call_builtin PySem.F.cmp_object.ne.plain PySem.F.cmpEntry_ne (check_B PySem.F.cmpKind_ne PySem.F.cmpSplit_ne (PySem.F.cmpArgs_ne _ _) X I hm ?_))))
    have hu' : A.in1.units < cLine := hu
    unfold Builtin.«object.__ne__»
    repeat (first
      | with_reducible refine wpAny_cRoomFor hu' ?_
      | (refine wpAny_bind (m := callSpecialIfBound? (.ref x) (Str.ofString "__eq__") [.ref y]) (ifBound_K X I hs hf (wpAny_mono h (fun r s' hr => by
          obtain ⟨b, rfl, hq⟩ := hr
          repeat (first | exact ⟨b, rfl, hq⟩ | exact wpAny_pure (wpAny_pure ⟨b, rfl, hq⟩) | exact wpAny_pure ⟨b, rfl, hq⟩ | exact wpAny_truthy_bool ⟨b, rfl, hq⟩ | (refine wpAny_bind (m := truthy (.bool _)) (wpAny_truthy_bool ?_)) | wp_step)) fun _ _ e => e)))
      | wp_step)
  unfold richCompare
  simp only [oneThing_ref]
  refine wpAny_holding (wpAny_bind (wpAny_cRoomFor (Nat.lt_of_succ_lt hu) ?_))
  rw [cmpInfo_NotEq]
  dsimp only
  refine wpAny_bind (I.type.here (wpAny_bind (J.type.here ?_)))
  rw [show (Value.ref C != Value.ref C) = false from by simp]
  simp only [Bool.false_eq_true, if_false]
  refine wpAny_bind (wpAny_pure ?_)
  simp only [Bool.false_eq_true, if_false]
  refine wpAny_bind (wpAny_mono one (fun r s' z => ?_) fun _ _ e => e)
  obtain ⟨v, rfl, hq⟩ := z
  exact wpAny_pure hq
end
end Fw

namespace Fw
open PySem PySem.Spec PyProof.Rows L2
section
variable {P : Program} {w : World} {K : PySem.W.Frag} {mg : Str → Option Value} {base : Heap}
theorem Ok.r {CX : CXT} {k : Nat} {f : Addr} {ps : List Str} {sp : Sp} (h : Ok P w K mg base CX k f ps sp) : FnR P w K mg base CX k f sp := by
  obtain ⟨fd, F, hb, _⟩ := h
  exact (F.raw hb .nil).imp fun vs H Q E q => by rw [List.append_nil]; exact q
theorem Ok.keep {CX : CXT} {k : Nat} {f : Addr} {ps : List Str} {sp : Sp} (h : Ok P w K mg base CX k f ps sp) : PySem.W.keepIn K (.ref f) = true := by
  obtain ⟨fd, F, hb, hk, _⟩ := h
  exact hk
end
/-! ### an instance -/
structure IA (S : Dst) (H : Hp) (a C : Addr) (fs : List (Str × V)) : Prop where
  q : ∃ dx, H a = some (.ins C dx fs)
  n : ¬ Sx S a
theorem IA.mono {S : Dst} {H H1 : Hp} {a C : Addr} {fs : List (Str × V)} (h : IA S H a C fs) (e : Lx S H H1) : IA S H1 a C fs := by
  obtain ⟨⟨dx, q⟩, n⟩ := h
  exact ⟨⟨dx, e.1 _ _ n q⟩, n⟩
theorem Lx.nsI {S : Dst} {H H1 : Hp} {a C dx : Addr} {fs : List (Str × V)} (e : Lx S H H1) (h : H1 a = some (.ins C dx fs)) : ¬ Sx S a := fun ⟨q, hq, hp⟩ => by
  obtain ⟨_, _, _, _, _, h1, _, h2⟩ := e.2 q hq
  rcases hp with rfl | rfl
  · rw [h] at h1; cases h1
  · rw [h] at h2; cases h2
theorem IA.of {S : Dst} {H H1 : Hp} {a C : Addr} {fs : List (Str × V)} (e : Lx S H H1) (h : IA none H1 a C fs) : IA S H1 a C fs := by
  obtain ⟨⟨dx, q⟩, n⟩ := h
  exact ⟨⟨dx, q⟩, e.nsI q⟩
theorem IA.to0 {S : Dst} {H : Hp} {a C : Addr} {fs : List (Str × V)} (h : IA S H a C fs) : IA none H a C fs := ⟨h.q, sx_none⟩
abbrev NewI (S : Dst) (H : Hp) (C : Addr) (fs : List (Str × V)) : V → Hp → Prop := fun v H2 => ∃ p, v = .ref p ∧ H p = none ∧ IA S H2 p C fs
section
variable {K : PySem.W.Frag} {S : Dst} {σ : L2.St} {H H' : Hp} {ta tb tc te tv : TE} {tas : TA} {t u : TT} {x y z v : V} {P P' : V → Hp → Prop} {b c : Bool} {vs : List V} {a C D' dx : Addr} {fs fs' : List (Str × V)} {f : Str} {D : Ends} {tz : TS}
theorem ev_fld (h : Ev K S ta σ H (.ref a)) (i : IA S H a C fs) (c : Cls K C) (n : NoAttr K C f) (l : fs.lookup f = some v) : Ev K S (tFld K ta f) σ H v := fun H1 e Q q => h H1 e _ fun H2 e2 => by
  obtain ⟨⟨dx, q2⟩, _⟩ := i.mono (e.trans e2)
  exact ⟨a, C, dx, fs, v, rfl, q2, c, n, l, q H2 e2⟩
theorem ev_con {u : Value} (h : Ev K S ta σ H (.ref a)) (i : IA S H a C fs) (c : Cls K C) (k : Con K C f v u) (l : fs.lookup f = none) : Ev K S (tCon K ta f) σ H v := fun H1 e Q q => h H1 e _ fun H2 e2 => by
  obtain ⟨⟨dx, q2⟩, _⟩ := i.mono (e.trans e2)
  exact ⟨a, C, dx, fs, v, u, rfl, q2, c, k, l, q H2 e2⟩
theorem s_fld (hi : H a = some (.ins C dx fs)) (ns : ¬ Sx S a) (c : Cls K C) (n : NoAttr K C f) (hz : fs.length < 1000) (h : Ev K S tv σ H v) (ho : Ev K S ta σ H (.ref a)) (ep : putF f v fs = fs') (k : St K S tz D σ (upd H a (.ins C dx fs'))) :
    St K S (tSeq (sFld K ta tv f) tz) D σ H := fun H1 e => h H1 e _ fun H2 e2 => ho H2 (e.trans e2) _ fun H3 e3 => by
  have e4 := (e.trans e2).trans e3
  subst ep
  exact ⟨a, C, dx, fs, rfl, e4.1 _ _ ns hi, c, n, hz, k _ (e4.upd ns)⟩
theorem s_fld1 (hi : H a = some (.ins C dx fs)) (ns : ¬ Sx S a) (c : Cls K C) (n : NoAttr K C f) (hz : fs.length < 1000) (h : Ev K S tv σ H v) (ho : Ev K S ta σ H (.ref a)) (ep : putF f v fs = fs') (k : ∀ H1, Lx S (upd H a (.ins C dx fs')) H1 → D.nx σ H1) :
    St K S (sFld K ta tv f) D σ H := fun H1 e => h H1 e _ fun H2 e2 => ho H2 (e.trans e2) _ fun H3 e3 => by
  have e4 := (e.trans e2).trans e3
  subst ep
  exact ⟨a, C, dx, fs, rfl, e4.1 _ _ ns hi, c, n, hz, k _ (e4.upd ns)⟩
theorem s_fldX (hi : H a = some (.ins C dx fs)) (ns : ¬ Sx S a) (c : Cls K C) (n : NoAttr K C f) (hz : fs.length < 1000) (h : EvX K S tv σ H P) (ho : Ev K S ta σ H (.ref a)) (k : ∀ v H1, Lx S H H1 → P v H1 → St K S tz D σ (upd H1 a (.ins C dx (putF f v fs)))) :
    St K S (tSeq (sFld K ta tv f) tz) D σ H := fun H1 e => h H1 e _ fun v H2 e2 p => ho H2 (e.trans e2) _ fun H3 e3 => by
  have e4 := (e.trans e2).trans e3
  exact ⟨a, C, dx, fs, rfl, e4.1 _ _ ns hi, c, n, hz, k v H2 (e.trans e2) p _ (((e.trans e2).refl.trans e3).upd ns)⟩
theorem s_fldX1 (hi : H a = some (.ins C dx fs)) (ns : ¬ Sx S a) (c : Cls K C) (n : NoAttr K C f) (hz : fs.length < 1000) (h : EvX K S tv σ H P) (ho : Ev K S ta σ H (.ref a)) (k : ∀ v H1, Lx S H H1 → P v H1 → ∀ H2, Lx S (upd H1 a (.ins C dx (putF f v fs))) H2 → D.nx σ H2) :
    St K S (sFld K ta tv f) D σ H := fun H1 e => h H1 e _ fun v H2 e2 p => ho H2 (e.trans e2) _ fun H3 e3 => by
  have e4 := (e.trans e2).trans e3
  exact ⟨a, C, dx, fs, rfl, e4.1 _ _ ns hi, c, n, hz, k v H2 (e.trans e2) p _ (((e.trans e2).refl.trans e3).upd ns)⟩
/-- where an instance is made -/
abbrev Raw (H : Hp) (x dx C : Addr) : Hp := upd (upd H dx (.own x)) x (.ins C dx [])
/-- what an __init__ promises that only writes plain fields -/
def sp_init (C : Addr) (A : List V → List (Str × V) → Hp → Prop) : Sp := fun ws H Q _ => ∃ x dx vs fs, ws = .ref x :: vs ∧ H x = some (.ins C dx []) ∧ H dx = some (.own x) ∧ dx ≠ x ∧ A vs fs H ∧ ∀ H', Lx none (upd H x (.ins C dx fs)) H' → Q .non H'
theorem Lx.raw {H H1 : Hp} {x dx C : Addr} (e : Lx S H H1) (h1 : H1 x = none) (h2 : H1 dx = none) (ne : dx ≠ x) : Lx S H1 (Raw H1 x dx C) := by
  have e1 := e.new h2 (o := .own x)
  exact e1.trans ((e.trans e1).new (by rw [upd_ne (Ne.symm ne)]; exact h1))
theorem ex_make {E : XK} {A : List V → List (Str × V) → Hp → Prop} (h : EvA K S tas σ H vs) (k : ∀ H1, Lx S H H1 → A vs fs H1) (mk : ∀ x dx, ¬ Sx S dx → ¬ Sx S x → ∀ H1, Lx S H H1 → A vs fs H1 → A vs fs (Raw H1 x dx C)) :
    EvX K S (StX.tMakeR C (sp_init C A) E tas) σ H (NewI S H C fs) := fun H1 e Q q => h H1 e _ fun H2 e2 x dx h1 h2 ne => by
  have w2 := e.trans e2
  have e3 : Lx S H2 (Raw H2 x dx C) := w2.raw h1 h2 ne
  have nx : ¬ Sx S x := w2.ns h1
  refine ⟨x, dx, vs, fs, rfl, upd_same, by show upd _ _ _ _ = _; rw [upd_ne ne, upd_same], ne, mk x dx (w2.ns h2) nx H2 w2 (k H2 w2), fun H3 e4 => ⟨rfl, q _ _ ?_ ⟨x, rfl, w2.fresh h1, ⟨dx, e4.1 _ _ sx_none upd_same⟩, nx⟩⟩⟩
  have e5 : Lx S H2 (upd (Raw H2 x dx C) x (.ins C dx fs)) := e3.put nx fun u z => by rw [h1] at z; cases z
  exact (e2.trans e5).trans ((w2.trans e5).of0 e4)
/-- the fields do not hang on the heap -/
theorem ex_make0 {E : XK} {A : List V → List (Str × V) → Prop} (h : EvA K S tas σ H vs) (k : A vs fs) : EvX K S (StX.tMakeR C (sp_init C fun vs fs _ => A vs fs) E tas) σ H (NewI S H C fs) :=
  ex_make h (fun _ _ => k) (fun _ _ _ _ _ _ q => q)
/-- o.m(..) -/
theorem ex_meth {m : Str} {sp : Sp} {E : XK} (ho : Ev K S ta σ H (.ref a)) (i : IA S H a C fs) (l : fs.lookup m = none) (h : EvA K S tas σ H vs) (k : SpX K S sp (.ref a :: vs) H E P) : EvX K S (tMethR C m sp E ta tas) σ H P := fun H1 e Q q => ho H1 e _ fun H2 e2 => by
  obtain ⟨⟨dx, q2⟩, _⟩ := i.mono (e.trans e2)
  exact ⟨a, dx, fs, rfl, q2, l, h H2 (e.trans e2) _ fun H3 e3 => k H3 ((e.trans e2).trans e3) _ fun z H4 e4 p => q z H4 ((e2.trans e3).trans e4) p⟩
theorem ex_methX {m : Str} {sp : Sp} {E : XK} {PA : List V → Hp → Prop} (ho : Ev K S ta σ H (.ref a)) (i : IA S H a C fs) (l : fs.lookup m = none) (h : EvAX K S tas σ H PA) (k : ∀ vs H1, Lx S H H1 → PA vs H1 → SpX K S sp (.ref a :: vs) H1 E P) : EvX K S (tMethR C m sp E ta tas) σ H P := fun H1 e Q q => ho H1 e _ fun H2 e2 => by
  obtain ⟨⟨dx, q2⟩, _⟩ := i.mono (e.trans e2)
  exact ⟨a, dx, fs, rfl, q2, l, h H2 (e.trans e2) _ fun vs H3 e3 pa => k vs H3 ((e.trans e2).trans e3) pa H3 ((e.trans e2).trans e3).refl _ fun z H4 e4 p => q z H4 ((e2.trans e3).trans e4) p⟩
/-- e.f, a property -/
def tPropI (C : Addr) (sp : Sp) (E : XK) (ta : TE) : TE := fun σ H Q => ta σ H fun x H1 => ∃ a dx fs, x = .ref a ∧ H1 a = some (.ins C dx fs) ∧ sp [.ref a] H1 Q E
theorem ex_prop {sp : Sp} {E : XK} (ho : Ev K S ta σ H (.ref a)) (i : IA S H a C fs) (k : SpX K S sp [.ref a] H E P) : EvX K S (tPropI C sp E ta) σ H P := fun H1 e Q q => ho H1 e _ fun H2 e2 => by
  obtain ⟨⟨dx, q2⟩, _⟩ := i.mono (e.trans e2)
  exact ⟨a, dx, fs, rfl, q2, k H2 (e.trans e2) _ fun z H4 e4 p => q z H4 (e2.trans e4) p⟩
/-- an operator of two instances, one instance -/
def rOI (C : Addr) (sp : Sp) (E : XK) : R2 := fun x y H Q => ∃ a b, x = .ref a ∧ y = .ref b ∧ (∃ dx fs, H a = some (.ins C dx fs)) ∧ (∃ dx fs, H b = some (.ins C dx fs)) ∧ sp [.ref a, .ref b] H Q E
def rOIm (C : Addr) (sp : Sp) (E : XK) : R2 := fun x y H Q => ∃ a b, x = .ref a ∧ y = .ref b ∧ (∃ dx fs, H a = some (.ins C dx fs)) ∧ (∃ dx fs, H b = some (.ins C dx fs)) ∧ sp [.ref b, .ref a] H Q E
def rOIn (C : Addr) (sp : Sp) (E : XK) : R2 := fun x y H Q => ∃ a b, x = .ref a ∧ y = .ref b ∧ (∃ dx fs, H a = some (.ins C dx fs)) ∧ (∃ dx fs, H b = some (.ins C dx fs)) ∧ sp [.ref a, .ref b] H (fun z H' => ∃ r, z = .bl r ∧ Q (.bl (!r)) H') E
def rOU (C : Addr) (sp : Sp) (E : XK) : V → Hp → VK → Prop := fun x H Q => ∃ a, x = .ref a ∧ (∃ dx fs, H a = some (.ins C dx fs)) ∧ sp [.ref a] H Q E
variable {p : Addr} {gs : List (Str × V)}
theorem rvx_own {sp : Sp} {E : XK} (i : IA S H a C fs) (j : IA S H p C gs) (k : SpX K S sp [.ref a, .ref p] H E P) : RVX K S (rOI C sp E) (.ref a) (.ref p) H P := fun H1 e Q q => by
  obtain ⟨⟨dx, q1⟩, _⟩ := i.mono e
  obtain ⟨⟨dy, q2⟩, _⟩ := j.mono e
  exact ⟨a, p, rfl, rfl, ⟨_, _, q1⟩, ⟨_, _, q2⟩, k H1 e Q q⟩
theorem rvx_ownm {sp : Sp} {E : XK} (i : IA S H a C fs) (j : IA S H p C gs) (k : SpX K S sp [.ref p, .ref a] H E P) : RVX K S (rOIm C sp E) (.ref a) (.ref p) H P := fun H1 e Q q => by
  obtain ⟨⟨dx, q1⟩, _⟩ := i.mono e
  obtain ⟨⟨dy, q2⟩, _⟩ := j.mono e
  exact ⟨a, p, rfl, rfl, ⟨_, _, q1⟩, ⟨_, _, q2⟩, k H1 e Q q⟩
theorem rvx_ownn {sp : Sp} {E : XK} (i : IA S H a C fs) (j : IA S H p C gs) (k : SpX K S sp [.ref a, .ref p] H E fun z H' => ∃ r, z = .bl r ∧ P (.bl (!r)) H') : RVX K S (rOIn C sp E) (.ref a) (.ref p) H P := fun H1 e Q q => by
  obtain ⟨⟨dx, q1⟩, _⟩ := i.mono e
  obtain ⟨⟨dy, q2⟩, _⟩ := j.mono e
  exact ⟨a, p, rfl, rfl, ⟨_, _, q1⟩, ⟨_, _, q2⟩, k H1 e _ fun z H2 e2 ⟨r, hz, hp⟩ => ⟨r, hz, q _ H2 e2 hp⟩⟩
end
section
variable {X : Cx} {CX : CXT} {k : Nat} {C g p : Addr} {ps : List Str} {sp : Sp} {E : XK} {x m f : Str} {e o : Expr} {es : List Expr} {t : TA} {ta : TE} {pos apos q : Pos}
theorem pe_makeO (M : Mk X.K C g) (F : Ok X.prog X.w X.K X.mg X.base CX k g ps sp) (hr : Room (k + 1) X.A) (hg : Gl X x) (hm : X.mg x = some (.ref C)) (hx : Passes CX X E) (ha : PA X (e :: es) t) (hdb : (x == ("__debug__" : Str)) = false := by decide)
    (he : starEach (e :: es) X.env = (false, eval e X.env) :: starEach es X.env := by rfl) (hpl : (backTo pos (starEach es X.env)).any (·.1) = false := by rfl) : PE X (.Call (.Name x q) (e :: es) [] pos) (StX.tMakeR C sp E t) :=
  StX.pe_makeR M F.r hr hg hm hx ha hdb he hpl
theorem pe_methO {pl : Sem Bool} (he : PE X o ta) (c : Cls X.K C) (hm : Meth X.K C m g)
    (F : Ok X.prog X.w X.K X.mg X.base CX k g ps sp) (hr : Room k X.A) (hx : Passes CX X E) (ha : PA X (e :: es) t)
    (hst : starEach (e :: es) X.env = (false, eval e X.env) :: starEach es X.env := by rfl) (hpl : (backTo pos (starEach es X.env)).any (·.1) = false := by rfl)
    (ht : eval (.Call (.Attribute o m apos) (e :: es) [] pos) X.env = (do
      let ov ← eval o X.env
      standAt apos.atName
      let (f, first) ← holding [ov] (getMethod ov m pl)
      callWith pos f first (backTo pos (starEach (e :: es) X.env)) (backToKw pos (keywordEach [] X.env))) := by rfl) :
    PE X (.Call (.Attribute o m apos) (e :: es) [] pos) (tMethR C m sp E ta t) := pe_methR (pl := pl) he c hm F.r hr hx ha hst hpl ht
theorem pe_methO0 {pl : Sem Bool} (he : PE X o ta) (c : Cls X.K C) (hm : Meth X.K C m g) (F : Ok X.prog X.w X.K X.mg X.base CX k g ps sp) (hr : Room k X.A) (hx : Passes CX X E)
    (ht : eval (.Call (.Attribute o m apos) [] [] pos) X.env = (do
      let ov ← eval o X.env
      standAt apos.atName
      let (f, first) ← holding [ov] (getMethod ov m pl)
      callWith pos f first (backTo pos (starEach [] X.env)) (backToKw pos (keywordEach [] X.env))) := by rfl) :
    PE X (.Call (.Attribute o m apos) [] [] pos) (tMethR C m sp E ta tNil) := by
  refine ⟨fun pins s σ H Q I h => ?_⟩
  refine PySem.W.methodCall_KW (pl := pl) (thn (he.run pins s σ H _ I h) fun u s1 ⟨x, H1, I1, rx, a, dx, fs, ex, ea, l, q⟩ => ?_) ht
  subst ex
  obtain rfl : u = Value.ref a := rx
  refine getmeth_ok I1 ea c hm l ?_
  exact PySem.W.callWith_K0 (first := [.ref a]) I1.kIn hm.kp (wpAny_call (run_fnR (us := [.ref a]) (vs := [.ref a]) F.r hr hx I1 (.cons rfl .nil) q))
theorem pe_propO (he : PE X e ta) (c : Cls X.K C) (hp : PropOf X.K C f p g) (F : Ok X.prog X.w X.K X.mg X.base CX k g ps sp) (hr : Room (k + 1) X.A) (hx : Passes CX X.nox E)
    (hab : attributeBase e f X.env (eval e X.env) = eval e X.env := by rfl) : PE X (.Attribute e f pos) (tPropI C sp E ta) := by
  obtain ⟨fd, F, hb, _⟩ := F
  exact pe_prop he c hp F hr hb .nil hx hab
end
end Fw

namespace Fw
open PySem PySem.Spec PyProof.Rows L2
/-- what the comparisons ask of a class besides its own defs -/
structure OrdC (K : PySem.W.Frag) (C : Addr) : Prop where
  ob : PySem.W.mroIn K C (.type "object") = some true
  ne : PySem.W.findIn K (.ref C) "__ne__" = some (some (.builtin "object.__ne__"))
  gt : PySem.W.findIn K (.ref C) "__gt__" = some (some (.builtin "object.__gt__"))
  ge : PySem.W.findIn K (.ref C) "__ge__" = some (some (.builtin "object.__ge__"))
section
variable {X : Cx} {CX : CXT} {k : Nat} {C g p : Addr} {ps : List Str} {sp : Sp} {E : XK} {op : CmpOp}
theorem inst_at {pins : List (Addr × Obj)} {σ : L2.St} {H : Hp} {s : Shared} {a C : Addr} (I : Inv X pins σ H s) (h : ∃ dx fs, H a = some (.ins C dx fs)) : ∃ ox od, PySem.W.InstAt s.heap a ox C (some od) := by
  obtain ⟨dx, fs, h⟩ := h
  obtain ⟨mA, O, _⟩ := ins_get I.hok h
  obtain ⟨od, J, _⟩ := O.look
  exact ⟨_, _, J⟩
theorem op_ownI (hop : ∀ a b, compareOp op a b = richCompare op a b) (hm : Meth X.K C (cmpInfo op).2.1 g) (F : Ok X.prog X.w X.K X.mg X.base CX k g ps sp) (hr : Room k X.A) (hx : Passes CX X E) : OpR X (compareOp op) (rOI C sp E) := by
  intro pins s σ H x y v u Q I rx ry h
  obtain ⟨a, b, rfl, rfl, ha, hb, q⟩ := h
  cases (show v = Value.ref a from rx)
  cases (show u = Value.ref b from ry)
  obtain ⟨_, _, J⟩ := inst_at I ha
  obtain ⟨_, _, J'⟩ := inst_at I hb
  obtain ⟨m, hF⟩ := I.fr
  rw [hop]
  refine PySem.W.cmp_K (op := op) (tb := .ref C) hr.units0 hF I.ok.mod.kin J J'.type (by simp [PySem.W.notFirst]) hm.at_ hm.fn ?_
  refine wpAny_mono (wpAny_call (run_fnR (us := [.ref a, .ref b]) (vs := [.ref a, .ref b]) F.r hr hx I (.cons rfl (.cons rfl .nil)) q)) (fun w s' z => ?_) fun _ _ x => x
  obtain ⟨z', H', I', rz, qz⟩ := z
  exact SlX.cmpback rz ⟨z', H', I', rz, qz⟩
theorem op_ownM {id : String} (hop : ∀ a b, compareOp op a b = richCompare op a b) (hid : id = "object.__gt__" ∨ id = "object.__ge__") (hbs : ∀ v, bindSpecial (.builtin id) v = pure (.builtin id, [v])) (ob : PySem.W.mroIn X.K C (.type "object") = some true)
    (hb : PySem.W.findIn X.K (.ref C) (cmpInfo op).2.1 = some (some (.builtin id))) (hm : Meth X.K C (cmpInfo op).2.2 g) (F : Ok X.prog X.w X.K X.mg X.base CX k g ps sp) (hr : Room k X.A) (hx : Passes CX X E) : OpR X (compareOp op) (rOIm C sp E) := by
  intro pins s σ H x y v u Q I rx ry h
  obtain ⟨a, b, rfl, rfl, ha, hb', q⟩ := h
  cases (show v = Value.ref a from rx)
  cases (show u = Value.ref b from ry)
  obtain ⟨_, _, J⟩ := inst_at I ha
  obtain ⟨_, _, J'⟩ := inst_at I hb'
  rw [hop]
  refine mirror_K (op := op) hr.units0 hid (hbs _) I.kIn J J' ob hb hm.at_ hm.fn ?_
  refine wpAny_mono (wpAny_call (run_fnR (us := [.ref b, .ref a]) (vs := [.ref b, .ref a]) F.r hr hx I (.cons rfl (.cons rfl .nil)) q)) (fun w s' z => ?_) fun _ _ x => x
  obtain ⟨z', H', I', rz, qz⟩ := z
  exact SlX.cmpback rz ⟨z', H', I', rz, qz⟩
section
variable (K : PySem.W.Frag) (hK : X.K = K)
include hK
theorem op_ltO (hm : Meth K C "__lt__" g) (F : Ok X.prog X.w K X.mg X.base CX k g ps sp) (hr : Room k X.A) (hx : Passes CX X E) : OpR X (compareOp .Lt) (rOI C sp E) := by subst hK; exact op_ownI (op := .Lt) (fun _ _ => rfl) hm F hr hx
theorem op_leO (hm : Meth K C "__le__" g) (F : Ok X.prog X.w K X.mg X.base CX k g ps sp) (hr : Room k X.A) (hx : Passes CX X E) : OpR X (compareOp .LtE) (rOI C sp E) := by subst hK; exact op_ownI (op := .LtE) (fun _ _ => rfl) hm F hr hx
theorem op_eqO (hm : Meth K C "__eq__" g) (F : Ok X.prog X.w K X.mg X.base CX k g ps sp) (hr : Room k X.A) (hx : Passes CX X E) : OpR X (compareOp .Eq) (rOI C sp E) := by subst hK; exact op_ownI (op := .Eq) (fun _ _ => rfl) hm F hr hx
theorem op_gtO (o : OrdC K C) (hm : Meth K C "__lt__" g) (F : Ok X.prog X.w K X.mg X.base CX k g ps sp) (hr : Room k X.A) (hx : Passes CX X E) : OpR X (compareOp .Gt) (rOIm C sp E) := by
  subst hK; exact op_ownM (op := .Gt) (fun _ _ => rfl) (.inl rfl) (fun v => PySem.F.slot_object_gt.bind v) o.ob o.gt hm F hr hx
theorem op_geO (o : OrdC K C) (hm : Meth K C "__le__" g) (F : Ok X.prog X.w K X.mg X.base CX k g ps sp) (hr : Room k X.A) (hx : Passes CX X E) : OpR X (compareOp .GtE) (rOIm C sp E) := by
  subst hK; exact op_ownM (op := .GtE) (fun _ _ => rfl) (.inr rfl) (fun v => PySem.F.slot_object_ge.bind v) o.ob o.ge hm F hr hx
theorem op_neO (o : OrdC K C) (hm : Meth K C "__eq__" g) (F : Ok X.prog X.w K X.mg X.base CX k g ps sp) (hr : Room (k + 1) X.A) (hx : Passes CX X E) : OpR X (compareOp .NotEq) (rOIn C sp E) := by
  subst hK
  intro pins s σ H x y v u Q I rx ry h
  obtain ⟨a, b, rfl, rfl, ha, hb', q⟩ := h
  cases (show v = Value.ref a from rx)
  cases (show u = Value.ref b from ry)
  obtain ⟨_, _, J⟩ := inst_at I ha
  obtain ⟨_, _, J'⟩ := inst_at I hb'
  show wpAny _ _ (richCompare .NotEq (.ref a) (.ref b)) _ _ s
  refine ne_K (by have := hr.units; omega) I.kIn J J' o.ob o.ne hm.at_ hm.fn ?_
  refine wpAny_mono (wpAny_call (SlX.run_at (us := [.ref a, .ref b]) (ws := [.ref a, .ref b]) F.r hr.in1 I.env0.in1 hx I (.cons rfl (.cons rfl .nil)) q)) (fun w s' z => ?_) fun _ _ x => x
  obtain ⟨z', H', I', rz, r, ez, qz⟩ := z
  subst ez
  cases (show w = Value.bool r from rz)
  exact ⟨r, rfl, .bl (!r), H', I', rfl, qz⟩
theorem un_negO (hm : Meth K C "__neg__" g) (F : Ok X.prog X.w K X.mg X.base CX k g ps sp) (hr : Room k X.A) (hx : Passes CX X E) : UnR X (unaryOp .USub) (rOU C sp E) := by
  subst hK
  intro pins s σ H x v Q I rx h
  obtain ⟨a, rfl, ha, q⟩ := h
  cases (show v = Value.ref a from rx)
  obtain ⟨_, _, J⟩ := inst_at I ha
  obtain ⟨m, hF⟩ := I.fr
  exact PySem.W.ksp_neg hF I.ok.mod.kin J hm.at_ hm.fn (wpAny_call (run_fnR (us := [.ref a]) (vs := [.ref a]) F.r hr hx I (.cons rfl .nil) q))
end
/-! ### order of tuples of whole numbers -/
/-- from the first pair that differs on; z: what the lengths say -/
def lexI (r : Int → Int → Bool) (z : Nat → Nat → Bool) : List Int → List Int → Bool
  | x :: xs, y :: ys => if x = y then lexI r z xs ys else r x y
  | xs, ys => z xs.length ys.length
def rOrdT (K : PySem.W.Frag) (r : Int → Int → Bool) (z : Nat → Nat → Bool) : R2 := fun x y H Q => ∃ (a b : Addr) (ns ms : List Int), x = .ref a ∧ y = .ref b ∧ SqT K H a (ns.map V.int) ∧ SqT K H b (ms.map V.int) ∧ ns.length = ms.length ∧ Q (.bl (lexI r z ns ms)) H
theorem lexAt_I {r : Int → Int → Bool} {z : Nat → Nat → Bool} {c : Bool} : ∀ (ns ms : List Int), ns.length = ms.length → ∀ (i : Nat) (as bs : List Int), as.length = i → bs.length = i → c = z 0 0 →
    Ob.lexAt (fun j => decide ((as ++ ns).getD j 0 = (bs ++ ms).getD j 0)) (fun j => r ((as ++ ns).getD j 0) ((bs ++ ms).getD j 0)) c i ns.length = lexI r z ns ms := by
  intro ns
  induction ns with
  | nil =>
    intro ms h i as bs _ _ hc
    cases ms with
    | nil => show c = _; rw [hc]; rfl
    | cons _ _ => cases h
  | cons x xs ih =>
    intro ms h i as bs ha hb hc
    cases ms with
    | nil => cases h
    | cons y ys =>
      have gx : (as ++ x :: xs).getD i 0 = x := by subst ha; simp
      have gy : (bs ++ y :: ys).getD i 0 = y := by subst hb; simp
      rw [List.length_cons, Ob.lexAt_succ]
      simp only [gx, gy]
      by_cases e : x = y
      · rw [if_pos (decide_eq_true e)]
        have z2 := ih ys (Nat.succ.inj h) (i + 1) (as ++ [x]) (bs ++ [y]) (by simp [ha]) (by simp [hb]) hc
        simp only [List.append_assoc, List.singleton_append] at z2
        rw [z2]
        show _ = if x = y then _ else _
        rw [if_pos e]
      · rw [if_neg (by simpa using e)]
        show _ = if x = y then _ else _
        rw [if_neg e]
end
section
variable {X : Cx}
theorem ordT {op : CmpOp} {r : Int → Int → Bool} {z : Nat → Nat → Bool} (hop : ∀ a b, compareOp op a b = richCompare op a b)
    (tup : ∀ {A : Around} {s : Shared} {l b : Addr} {items items2 : Array Value} {e r : Nat → Bool}, s.heap.IsTuple l items → s.heap.IsTuple b items2 → A.units < cLine →
      (∀ j (h1 : j < items.size) (h2 : j < items2.size), SeqAt.EqAt A.in1 s items[j] items2[j] (e j)) → (∀ j (h1 : j < items.size) (h2 : j < items2.size), e j = false → Ob.RcOp op A.in1 s items[j] items2[j] (r j)) →
      Ob.RcOp op A s (.ref l) (.ref b) (Ob.lexAt e r (z items.size items2.size) 0 (min items.size items2.size)))
    (one : ∀ {A : Around} {s : Shared} (a b : Int) (t u : Tok), Ob.RcOp op A s (.int a t) (.int b u) (r a b)) (hz : ∀ n, z n n = z 0 0) (hu : X.A.units < cLine) : OpR X (compareOp op) (rOrdT X.K r z) := by
  intro pins s σ H x y v u Q I rx ry h
  obtain ⟨a, b, ns, ms, rfl, rfl, ha, hb, hl, q⟩ := h
  cases rx
  cases ry
  obtain ⟨its, r1, p1, _⟩ := I.tuple ha
  obtain ⟨its2, r2, p2, _⟩ := I.tuple hb
  have i1 : IntsAre its ns := Vals.ints r1
  have i2 : IntsAre its2 ms := Vals.ints r2
  have e1 : its.toArray.size = ns.length := by rw [List.size_toArray]; exact i1.length
  have e2 : its2.toArray.size = ms.length := by rw [List.size_toArray]; exact i2.length
  have at1 : ∀ j (h1 : j < its.toArray.size), ∃ t, its.toArray[j] = .int (ns.getD j 0) t := fun j h1 => PyProof.Rows.IntsAre.int_at i1 _ _ (by simp at h1; simp [h1])
  have at2 : ∀ j (h1 : j < its2.toArray.size), ∃ t, its2.toArray[j] = .int (ms.getD j 0) t := fun j h1 => PyProof.Rows.IntsAre.int_at i2 _ _ (by simp at h1; simp [h1])
  have R := tup (A := X.A) (s := s) (e := fun j => decide (ns.getD j 0 = ms.getD j 0)) (r := fun j => r (ns.getD j 0) (ms.getD j 0)) p1 p2 hu (fun j h1 h2 => by
    obtain ⟨t, et⟩ := at1 j h1
    obtain ⟨t', et'⟩ := at2 j h2
    rw [et, et']
    have z : (ns.getD j 0 == ms.getD j 0) = decide (ns.getD j 0 = ms.getD j 0) := by
      by_cases q : ns.getD j 0 = ms.getD j 0
      · rw [decide_eq_true q]; exact beq_iff_eq.mpr q
      · rw [decide_eq_false q]; exact beq_eq_false_iff_ne.mpr q
    rw [← z]
    exact SeqAt.EqAt.int_int _ _ _ _) (fun j h1 h2 _ => by
    obtain ⟨t, et⟩ := at1 j h1
    obtain ⟨t', et'⟩ := at2 j h2
    rw [et, et']
    exact one _ _ _ _)
  rw [e1, e2, hl, Nat.min_self] at R
  have L := lexAt_I (r := r) (z := z) (c := z ms.length ms.length) ns ms hl 0 [] [] rfl rfl (hz _)
  simp only [List.nil_append] at L
  rw [hl] at L
  rw [L] at R
  rw [hop]
  exact R X.prog X.w X.xe (EP X pins σ Q) ⟨.bl _, H, I, rfl, q⟩
variable (K : PySem.W.Frag) (hK : X.K = K)
include hK
theorem op_ltT (hu : X.A.units < cLine) : OpR X (compareOp .Lt) (rOrdT K (fun a b => decide (a < b)) (fun a b => decide (a < b))) := by subst hK; exact ordT (fun _ _ => rfl) Ob.RcOp.tuples_lt Ob.RcOp.lt_int (by simp) hu
theorem op_leT' (hu : X.A.units < cLine) : OpR X (compareOp .LtE) (rOrdT K (fun a b => decide (a ≤ b)) (fun a b => decide (a ≤ b))) := by subst hK; exact ordT (fun _ _ => rfl) Ob.RcOp.tuples_le Ob.RcOp.le_int (by simp) hu
theorem op_gtT (hu : X.A.units < cLine) : OpR X (compareOp .Gt) (rOrdT K (fun a b => decide (b < a)) (fun a b => decide (b < a))) := by subst hK; exact ordT (fun _ _ => rfl) Ob.RcOp.tuples_gt Ob.RcOp.gt_int (by simp) hu
theorem op_geT (hu : X.A.units < cLine) : OpR X (compareOp .GtE) (rOrdT K (fun a b => decide (b ≤ a)) (fun a b => decide (b ≤ a))) := by subst hK; exact ordT (fun _ _ => rfl) Ob.RcOp.tuples_ge Ob.RcOp.ge_int (by simp) hu
end
section
variable {K : PySem.W.Frag} {S : Dst} {H : Hp} {a p : Addr}
theorem rv_ordT {r : Int → Int → Bool} {z : Nat → Nat → Bool} {ns ms : List Int} (ha : UA K S H a (ns.map V.int)) (hb : UA K S H p (ms.map V.int)) (hl : ns.length = ms.length) : RV K S (rOrdT K r z) (.ref a) (.ref p) H (.bl (lexI r z ns ms)) :=
  fun H1 e _ q => ⟨a, p, ns, ms, rfl, rfl, (ha.mono e).q, (hb.mono e).q, hl, q H1 e.refl⟩
end
end Fw

namespace Fw
open PySem PySem.Spec PyProof.Rows L2
/-! ### t.index(x), flat values, found -/
def rIndexT (K : PySem.W.Frag) : V → List V → Hp → VK → Prop := fun x xs H Q => ∃ (a : Addr) (ys : List V) (y : V) (j : Nat) (z : V), x = V.ref a ∧ xs = [y] ∧ SqT K H a ys ∧ flatV y = true ∧ ys.all flatV = true ∧ ys[j]? = some z ∧ eqV z y = true ∧
  (∀ (m : Nat) (z' : V), m < j → ys[m]? = some z' → eqV z' y = false) ∧ Q (.int (j : Nat)) H
theorem mt_tindex {X : Cx} (K : PySem.W.Frag) (hK : X.K = K) : MtR X "tuple.index" (rIndexT K) := by
  subst hK
  intro pins s σ H x xs v us Q I rx rxs h
  obtain ⟨a, ys, y, j, z, rfl, rfl, hs, fy, fys, hz, hzj, hno, q⟩ := h
  cases rx
  cases rxs with
  | cons ry rt =>
    rename_i uy ut
    cases rt
    obtain ⟨its, rv, ⟨⟨cls, dd, data, sl⟩, ho, hc, n, hd⟩, hlen⟩ := I.tuple hs
    simp only at hc hd
    subst hc hd
    obtain ⟨u, hu, ru⟩ := rv.get hz
    obtain ⟨hjl, hje⟩ := List.getElem?_eq_some_iff.mp hu
    have hvl := rv.length
    have hj : j < its.toArray.size := by simpa using hjl
    have hsl := sizeLine_eq
    refine call_meets PySem.F.slot_tuple_index ⟨_, ho, rfl⟩ PySem.F.entry_tuple_index (PySem.F.args_tuple_index_2 _ _)
      (SeqAt.tuple_index2_found a its.toArray n dd sl uy (fun m => match its.toArray[m]? with | some w => eqU y w | none => false) j hj (Nat.zero_le _) hj ?_ ?_) ⟨ho, fun m hm => ?_, ?_⟩
    · have e1 : its.toArray[j]? = some u := by simpa using hu
      simp only [e1]
      rw [eqU_of ru (flat_at fys hz)]
      exact hzj
    · intro m hm _ hmj
      have hml : m < its.length := by simpa using hm
      have hmy : m < ys.length := by omega
      have hy' : ys[m]? = some ys[m] := List.getElem?_eq_getElem hmy
      obtain ⟨u2, hu2, ru2⟩ := rv.get hy'
      have e1 : its.toArray[m]? = some u2 := by simpa using hu2
      simp only [e1]
      rw [eqU_of ru2 (flat_at fys hy')]
      exact hno m _ hmj hy'
    · have hml : m < its.length := by simpa using hm
      have e1 : its.toArray[m]? = some its.toArray[m] := Array.getElem?_eq_getElem hm
      simp only [e1]
      exact mem_eqAt ry fy rv fys _ (by simp)
    · exact ⟨.int (j : Nat), H, I.tok _, ⟨_, rfl⟩, q⟩
theorem rv_none : True := trivial
/-! ### isinstance of an instance -/
structure IsC (K : PySem.W.Frag) (C : Addr) : Prop where
  ca : PySem.W.findIn K (.ref C) "__class__" = some (some (.builtin "object.__class__"))
  cn : PySem.W.specialIn K (.builtin "object.__class__") "__get__" = some (some (.builtin "getset_descriptor.__get__"))
  ct : PySem.W.takesIn K (.builtin "object.__class__") = some true
  cm : PySem.W.mroIn K C (.type "object") = some true
section
variable {K : PySem.W.Frag} {S : Dst} {σ : L2.St} {H : Hp} {ta tb : TE} {tas : TA} {a C : Addr} {fs : List (Str × V)}
theorem rc_isO {D : Addr} {b : Bool} (i : IA S H a C fs) (c : Cls K C) (k : IsC K C) (hk : PySem.W.kitOne K (.ref C) (.ref D) = some b) : RC K S (rIsi K) [.ref a, .ref D] H (.bl b) := fun H1 e _ q => by
  obtain ⟨⟨dx, q2⟩, _⟩ := i.mono e
  exact ⟨.ref a, .ref D, .ref C, .ref D, b, rfl, .own D, .base (.ins q2 c k.ca k.cn k.ct k.cm), hk, q H1 e.refl⟩
theorem kit_self {C : Addr} : PySem.W.kitOne K (.ref C) (.ref C) = some true := by unfold PySem.W.kitOne; rw [if_pos (by simp)]
theorem ev_isO {D : Addr} {b : Bool} (h : Ev K S ta σ H (.ref a)) (hd : Ev K S tb σ H (.ref D)) (i : IA S H a C fs) (c : Cls K C) (k : IsC K C) (hk : PySem.W.kitOne K (.ref C) (.ref D) = some b) : Ev K S (tCB (rIsi K) (tCons ta (tCons tb tNil))) σ H (.bl b) :=
  ev_cb (ea_cons h (ea_cons hd ea_nil)) (rc_isO i c k hk)
end
/-- what a class's facts are, as one Bool -/
def ordB (K : PySem.W.Frag) (x : Str) : Bool := decide (PySem.W.mroIn K (He.ga K x) (.type "object") = some true) && (He.eqO (PySem.W.findIn K (.ref (He.ga K x)) "__ne__") (some (some (.builtin "object.__ne__"))) && (He.eqO (PySem.W.findIn K (.ref (He.ga K x)) "__gt__") (some (some (.builtin "object.__gt__"))) && He.eqO (PySem.W.findIn K (.ref (He.ga K x)) "__ge__") (some (some (.builtin "object.__ge__")))))
theorem ordB_ok {K : PySem.W.Frag} {x : Str} (h : ordB K x = true) : OrdC K (He.ga K x) := by
  obtain ⟨h1, h⟩ := He.ba h
  obtain ⟨h2, h⟩ := He.ba h
  obtain ⟨h3, h4⟩ := He.ba h
  exact ⟨of_decide_eq_true h1, He.eqO_ok h2, He.eqO_ok h3, He.eqO_ok h4⟩
def iscB (K : PySem.W.Frag) (x : Str) : Bool := He.eqO (PySem.W.findIn K (.ref (He.ga K x)) "__class__") (some (some (.builtin "object.__class__"))) && (He.eqO (PySem.W.specialIn K (.builtin "object.__class__") "__get__") (some (some (.builtin "getset_descriptor.__get__"))) && (decide (PySem.W.takesIn K (.builtin "object.__class__") = some true) && decide (PySem.W.mroIn K (He.ga K x) (.type "object") = some true)))
theorem iscB_ok {K : PySem.W.Frag} {x : Str} (h : iscB K x = true) : IsC K (He.ga K x) := by
  obtain ⟨h1, h⟩ := He.ba h
  obtain ⟨h2, h⟩ := He.ba h
  obtain ⟨h3, h4⟩ := He.ba h
  exact ⟨He.eqO_ok h1, He.eqO_ok h2, of_decide_eq_true h3, of_decide_eq_true h4⟩
end Fw
namespace Fw
open PySem PySem.Spec PyProof.Rows L2
theorem mt_indexK {X : Cx} (K : PySem.W.Frag) (hK : X.K = K) : MtR X "list.index" (rIndex K) := by
  subst hK
  exact mt_index
/-! ### a promise: what is given, what may change, what comes back -/
def sp_x (A : List V → Hp → Dst → (V → Hp → Prop) → Prop) : Sp := fun vs H Q _ => ∃ S P, A vs H S P ∧ Lx S H H ∧ ∀ v H', Lx S H H' → P v H' → Q v H'
section
variable {K : PySem.W.Frag} {S : Dst} {σ : L2.St} {H : Hp} {tas : TA} {E : XK} {vs : List V} {A : List V → Hp → Dst → (V → Hp → Prop) → Prop} {P' : V → Hp → Prop}
theorem spx_0 (k : ∀ H1, Lx S H H1 → ∃ P, A vs H1 none P ∧ ∀ v H2, Lx S H1 H2 → P v H2 → P' v H2) : SpX K S (sp_x A) vs H E P' := fun H1 e Q q => by
  obtain ⟨P, a, i⟩ := k H1 e
  exact ⟨none, P, a, Lx.rfl0, fun v H' e2 p => q v H' (e.refl.of0 e2) (i v H' (e.refl.of0 e2) p)⟩
theorem spx_S (k : ∀ H1, Lx S H H1 → ∃ P, A vs H1 S P ∧ ∀ v H2, Lx S H1 H2 → P v H2 → P' v H2) : SpX K S (sp_x A) vs H E P' := fun H1 e Q q => by
  obtain ⟨P, a, i⟩ := k H1 e
  exact ⟨S, P, a, e.refl, fun v H' e2 p => q v H' e2 (i v H' e2 p)⟩
/-- a call of what gives one value -/
theorem ev_p0 {v : V} (h : EvA K S tas σ H vs) (k : ∀ H1, Lx S H H1 → A vs H1 none fun w _ => w = v) : Ev K S (tCall (sp_x A) [] E tas) σ H v :=
  (ex_call (P := fun w _ => w = v) h (by rw [List.append_nil]; exact spx_0 fun H1 e => ⟨_, k H1 e, fun _ _ _ p => p⟩)).ev fun _ _ _ z => z
theorem ex_p0 (h : EvA K S tas σ H vs) (k : ∀ H1, Lx S H H1 → ∃ P, A vs H1 none P ∧ ∀ v H2, Lx S H1 H2 → P v H2 → P' v H2) : EvX K S (tCall (sp_x A) [] E tas) σ H P' :=
  ex_call h (by rw [List.append_nil]; exact spx_0 k)
theorem ex_pS (h : EvA K S tas σ H vs) (k : ∀ H1, Lx S H H1 → ∃ P, A vs H1 S P ∧ ∀ v H2, Lx S H1 H2 → P v H2 → P' v H2) : EvX K S (tCall (sp_x A) [] E tas) σ H P' :=
  ex_call h (by rw [List.append_nil]; exact spx_S k)
theorem ex_p0X {PA : List V → Hp → Prop} (h : EvAX K S tas σ H PA) (k : ∀ vs H0, Lx S H H0 → PA vs H0 → ∀ H1, Lx S H0 H1 → ∃ P, A vs H1 none P ∧ ∀ v H2, Lx S H1 H2 → P v H2 → P' v H2) : EvX K S (tCall (sp_x A) [] E tas) σ H P' :=
  ex_callX h fun vs H1 e p => by rw [List.append_nil]; exact spx_0 (k vs H1 e p)
theorem ex_pSX {PA : List V → Hp → Prop} (h : EvAX K S tas σ H PA) (k : ∀ vs H0, Lx S H H0 → PA vs H0 → ∀ H1, Lx S H0 H1 → ∃ P, A vs H1 S P ∧ ∀ v H2, Lx S H1 H2 → P v H2 → P' v H2) : EvX K S (tCall (sp_x A) [] E tas) σ H P' :=
  ex_callX h fun vs H1 e p => by rw [List.append_nil]; exact spx_S (k vs H1 e p)
theorem newL_up {H0 H1 H2 : Hp} {xs : List V} {v : V} (e : Lx S H0 H1) (h : NewL none H1 xs v H2) : NewL S H0 xs v H2 := by
  obtain ⟨p, rfl, hp, _, h2⟩ := h
  exact ⟨p, rfl, e.fresh hp, e.ns hp, h2⟩
theorem newU_up {H0 H1 H2 : Hp} {xs : List V} {v : V} (e : Lx S H0 H1) (h : NewU none H1 xs v H2) : NewU S H0 xs v H2 := by
  obtain ⟨p, rfl, hp, _, h2⟩ := h
  exact ⟨p, rfl, e.fresh hp, e.ns hp, h2⟩
theorem newI_up {H0 H1 H2 : Hp} {C : Addr} {fs : List (Str × V)} {v : V} (e : Lx S H0 H1) (h : NewI none H1 C fs v H2) : NewI S H0 C fs v H2 := by
  obtain ⟨p, rfl, hp, h2⟩ := h
  exact ⟨p, rfl, e.fresh hp, h2.q, e.ns hp⟩
/-- the chain a < b < c -/
theorem ev_chain {r r' : R2} {ta tb tc : TE} {x y z : V} {b c : Bool} (ha : Ev K S ta σ H x) (hb : Ev K S tb σ H y) (hr : RV K S r x y H (.bl b)) (hc : b = true → Ev K S tc σ H z) (hr' : b = true → RV K S r' y z H (.bl c)) : Ev K S (tChain r r' ta tb tc) σ H (.bl (b && c)) := fun H1 e Q q =>
  ha H1 e _ fun H2 e2 => hb H2 (e.trans e2) _ fun H3 e3 => hr H3 ((e.trans e2).trans e3) _ fun H4 e4 => ⟨b, rfl, by
    have e5 := (e2.trans e3).trans e4
    cases b with
    | true =>
      show tc σ H4 _
      exact hc rfl H4 (e.trans e5) _ fun H5 e6 => hr' rfl H5 ((e.trans e5).trans e6) Q fun H6 e7 => q H6 ((e5.trans e6).trans e7)
    | false => exact q H4 e5⟩
theorem rv_eqD {x y : V} {d d' : PyData} (hx : ∀ H1, Lx S H H1 → Dp K H1 x d) (hy : ∀ H1, Lx S H H1 → Dp K H1 y d') (s1 : SeqAt.shaped d = true) (s2 : SeqAt.shaped d' = true) : RV K S (rEqD K) x y H (.bl (PyData.eqv d d')) := fun H1 e _ q => ⟨d, d', hx H1 e, hy H1 e, s1, s2, q H1 e.refl⟩
theorem rv_neD {x y : V} {d d' : PyData} (hx : ∀ H1, Lx S H H1 → Dp K H1 x d) (hy : ∀ H1, Lx S H H1 → Dp K H1 y d') (s1 : SeqAt.shaped d = true) (s2 : SeqAt.shaped d' = true) : RV K S (rNeD K) x y H (.bl (!PyData.eqv d d')) := fun H1 e _ q => ⟨d, d', hx H1 e, hy H1 e, s1, s2, q H1 e.refl⟩
theorem dp_ints {H : Hp} : ∀ ns : List Int, DpAll K H (ns.map V.int) (ns.map PyData.int)
  | [] => .nil
  | n :: ns => .cons (.int n) (dp_ints ns)

def tupDB (K : PySem.W.Frag) (x : Str) : Bool := match K.lookup (He.ga K x) with
  | some ⟨.type c, none, _, _⟩ => decide (c = "tuple")
  | _ => false
theorem tupDB_ok {K : PySem.W.Frag} {x : Str} (h : tupDB K x = true) : ∃ o, K.lookup (He.ga K x) = some o ∧ o.cls = .type "tuple" ∧ o.dict = none := by
  unfold tupDB at h
  cases q : K.lookup (He.ga K x) with
  | none => rw [q] at h; cases h
  | some o =>
    obtain ⟨oc, od, dt, osl⟩ := o
    rw [q] at h
    cases oc with
    | type c => cases od with
      | none => exact ⟨_, rfl, congrArg Value.type (of_decide_eq_true h), rfl⟩
      | some d => cases h
    | _ => cases od <;> cases h
theorem ev_tindex {ta te : TE} {p : Addr} {ys : List V} {y z : V} {j : Nat} (h : Ev K S ta σ H (.ref p)) (ty : ∃ o, K.lookup p = some o ∧ o.cls = .type "tuple" ∧ o.dict = none) (u : UA K S H p ys) (hv : Ev K S te σ H y) (fy : flatV y = true) (fs : ys.all flatV = true) (hz : ys[j]? = some z) (e1 : eqV z y = true)
    (hm : ∀ (m : Nat) (z' : V), m < j → ys[m]? = some z' → eqV z' y = false) : Ev K S (tBM K "tuple" (rIndexT K) ta (tCons te tNil)) σ H (.int (j : Int)) := fun H1 e Q q => h H1 e _ fun H2 e2 =>
  ⟨.inr (.inl ⟨rfl, ty⟩), hv H2 (e.trans e2) _ fun H3 e3 => ⟨p, ys, y, j, z, rfl, rfl, (u.mono ((e.trans e2).trans e3)).q, fy, fs, hz, e1, hm, q H3 (e2.trans e3)⟩⟩
theorem ev_lindex {tas : TA} {te : TE} {ys : List V} {y z : V} {j : Nat} (h : EvA K S tas σ H ys) (hl : ys.length ≤ sizeLine) (hv : Ev K S te σ H y) (fy : flatV y = true) (fs : ys.all flatV = true) (hz : ys[j]? = some z) (e1 : eqV z y = true)
    (hm : ∀ (m : Nat) (z' : V), m < j → ys[m]? = some z' → eqV z' y = false) : Ev K S (tBM K "list" (rIndex K) (tLst tas) (tCons te tNil)) σ H (.int (j : Int)) := fun H1 e Q q => ex_lst h hl H1 e _ fun v H2 e2 ⟨p, hv', _, ns, hp⟩ => by
  subst hv'
  exact ⟨.inl ⟨rfl, _, SqL.of hp⟩, hv H2 (e.trans e2) _ fun H3 e3 => ⟨p, ys, y, j, z, rfl, rfl, SqL.of (e3.1 _ _ ns hp), fy, fs, hz, e1, hm, q H3 (e2.trans e3)⟩⟩
end
section
variable {X : Cx} {o value : Expr} {f : Str} {pos pos' : Pos} {ta tv : TE}
theorem ps_fldK (K : PySem.W.Frag) (hK : X.K = K) (ha : PE X o ta) (hv : PE X value tv) (hs : swapsWith value (some (.Attribute o f pos')) pos.line X.env = pure false) : PS X (.Assign [.Attribute o f pos'] value pos) (sFld K ta tv f) := by subst hK; exact ps_fld ha hv hs
end
end Fw
namespace Fw
open PySem PySem.Spec PyProof.Rows L2
theorem len_le {vs : List V} (h : vs.length ≤ 100000) : vs.length ≤ sizeLine := by rw [sizeLine_eq]; omega
end Fw
namespace Fw
open PySem PySem.Spec PyProof.Rows L2
section
variable {K : PySem.W.Frag} {S : Dst} {H : Hp}
theorem rc_min2 {i j : Int} : RC K S (fun xs H Q => ∃ i j, xs = [.int i, .int j] ∧ Q (.int (if j < i then j else i)) H) [.int i, .int j] H (.int (min i j)) := fun H1 e Q q => ⟨i, j, rfl, by
  have z : (if j < i then j else i) = min i j := by split <;> omega
  rw [z]; exact q H1 e.refl⟩
theorem rc_max2 {i j : Int} : RC K S (fun xs H Q => ∃ i j, xs = [.int i, .int j] ∧ Q (.int (if j > i then j else i)) H) [.int i, .int j] H (.int (max i j)) := fun H1 e Q q => ⟨i, j, rfl, by
  have z : (if j > i then j else i) = max i j := by split <;> omega
  rw [z]; exact q H1 e.refl⟩
end
end Fw
namespace Fw
open PySem PySem.Spec PyProof.Rows L2
section
variable {K : PySem.W.Frag} {S : Dst} {σ : L2.St} {H : Hp} {te : TE}
/-- ex_lcL, the new list's place told apart from the drawing state -/
theorem ex_lcN {a : Addr} {xs : List V} {tl : TE} {j : Nat} {ws : List Nat} {t : TT} (h : Ev K S tl σ H (.ref a)) (hx : LA K S H a xs) (hz : xs.length < sizeLine) (hw : ∀ x, wipe ((wipe σ ws).set j (some x)) ws = wipe σ ws)
    (Pv : Addr → Nat → List V → Hp → Prop) (h0 : ∀ D H1, ¬ Sx S D → H D = none → Lx S H H1 → H1 D = some (.lst []) → Pv D 0 [] H1)
    (hs : ∀ D i x acc H1, ¬ Sx S D → H D = none → H1 D = some (.lst acc) → xs[i]? = some x → Lx S H H1 → Pv D i acc H1 → EvTX K S t ((wipe σ ws).set j (some x)) H1 fun b H2 =>
      (b = true → EvX K S te ((wipe σ ws).set j (some x)) H2 fun y H3 => Pv D (i + 1) (acc ++ [y]) (upd H3 D (.lst (acc ++ [y])))) ∧ (b = false → Pv D (i + 1) acc H2)) :
    EvX K S (tLc (iList K tl) (gName j) t te ws) σ H (fun v H2 => ∃ p acc, v = .ref p ∧ H p = none ∧ ¬ Sx S p ∧ H2 p = some (.lst acc) ∧ acc.length ≤ xs.length ∧ Pv p xs.length acc H2) := fun H0 e Q q => h H0 e _ fun H1 e1 => ⟨a, rfl, ⟨xs, (hx.mono (e.trans e1)).q⟩, fun Dl hD => by
  have w1 : Lx S H H1 := e.trans e1
  have nD : ¬ Sx S Dl := w1.ns hD
  have fD : H Dl = none := w1.fresh hD
  refine lc_list (xs := xs) (fun i H' => ∃ acc, H' Dl = some (.lst acc) ∧ acc.length ≤ i ∧ Lx S H1 H' ∧ Pv Dl i acc H') ⟨[], upd_same, Nat.le_refl _, w1.new hD, h0 Dl _ nD fD (w1.trans (w1.new hD)) upd_same⟩ (fun i H' _ ⟨acc, _, _, e2, _⟩ => (hx.mono (w1.trans e2)).q) ?_ ?_
  · rintro i x H' hi ⟨acc, g1, g2, e2, p⟩
    refine ⟨hw x, hs Dl i x acc H' nD fD g1 hi (w1.trans e2) p H' e2.refl _ fun b H2 e3 pb => ?_⟩
    cases b with
    | true =>
      show te _ H2 _
      refine pb.1 rfl H2 ((w1.trans e2).trans e3).refl _ fun y H3 e4 py => ⟨acc, e4.1 _ _ nD (e3.1 _ _ nD g1), Nat.lt_of_le_of_lt g2 (Nat.lt_of_lt_of_le ((List.getElem?_eq_some_iff.mp hi).1) (Nat.le_of_lt hz)), acc ++ [y], upd_same, ?_, ?_, py⟩
      · rw [List.length_append]; exact Nat.succ_le_succ g2
      · have e5 := (e2.trans e3).trans e4
        exact e5.put nD fun u z => by rw [hD] at z; cases z
    | false =>
      show ∃ acc, _
      exact ⟨acc, e3.1 _ _ nD g1, Nat.le_succ_of_le g2, e2.trans e3, pb.2 rfl⟩
  · rintro H' ⟨acc, g1, g2, e2, p⟩
    exact q _ _ (e1.trans e2) ⟨Dl, acc, rfl, fD, nD, g1, g2, p⟩⟩
/-- [f x for x in xs], each item a new thing that is no list -/
theorem ex_mapX {a : Addr} {xs : List V} {tl : TE} {j : Nat} {ws : List Nat} (R : Nat → V → V → Hp → Prop) (h : Ev K S tl σ H (.ref a)) (hx : LA K S H a xs) (hz : xs.length < sizeLine) (hw : ∀ x, wipe ((wipe σ ws).set j (some x)) ws = wipe σ ws)
    (mono : ∀ i x y H1 H2, Lx S H1 H2 → R i x y H1 → R i x y H2) (stab : ∀ i x y H1 D us ws, H1 D = some (.lst us) → R i x y H1 → R i x y (upd H1 D (.lst ws)))
    (hs : ∀ i x H1, xs[i]? = some x → Lx S H H1 → EvX K S te ((wipe σ ws).set j (some x)) H1 fun y H2 => R i x y H2) :
    EvX K S (tLc (iList K tl) (gName j) tYes te ws) σ H (fun v H2 => ∃ p acc, v = .ref p ∧ H p = none ∧ ¬ Sx S p ∧ H2 p = some (.lst acc) ∧ acc.length = xs.length ∧ ∀ i x y, xs[i]? = some x → acc[i]? = some y → R i x y H2) := by
  refine (ex_lcN h hx hz hw (fun D i acc H1 => acc.length = i ∧ ∀ m x y, xs[m]? = some x → acc[m]? = some y → R m x y H1) (fun D H1 _ _ _ _ => ⟨rfl, fun m x y _ z => by simp at z⟩) ?_).imp ?_
  · intro D i x acc H1 nD f1 f2 hi e p H2 e2 Q q
    refine q true H2 e2.refl ⟨fun _ H3 e3 Q3 q3 => hs i x H1 hi e H3 (e2.trans e3) _ fun y H4 e4 r => q3 _ _ e4 ⟨by rw [List.length_append, p.1]; rfl, fun m x' y' hx' hy' => ?_⟩, fun z => nomatch z⟩
    have gD : H4 D = some (.lst acc) := e4.1 _ _ nD ((e2.trans e3).1 _ _ nD f2)
    refine stab _ _ _ _ _ acc _ gD ?_
    by_cases hm : m < acc.length
    · rw [List.getElem?_append_left hm] at hy'
      exact mono _ _ _ _ _ ((e2.trans e3).trans e4) (p.2 m x' y' hx' hy')
    · have h2 := (List.getElem?_eq_some_iff.mp hy').1
      rw [List.length_append] at h2
      have hm2 : m = i := by have := p.1; simp at h2; omega
      subst hm2
      rw [← p.1] at hy'
      simp at hy'
      subst hy'
      rw [hi] at hx'
      cases hx'
      exact r
  · rintro v H2 e ⟨p, acc, rfl, f1, f2, f3, _, g1, g2⟩
    exact ⟨p, acc, rfl, f1, f2, f3, g1, g2⟩
theorem IA.stab {a C : Addr} {fs : List (Str × V)} {H1 : Hp} {D : Addr} {us ws : List V} (h : H1 D = some (.lst us)) (i : IA S H1 a C fs) : IA S (upd H1 D (.lst ws)) a C fs := by
  obtain ⟨⟨dx, q⟩, n⟩ := i
  refine ⟨⟨dx, ?_⟩, n⟩
  rw [upd_ne (fun z => by subst z; rw [h] at q; cases q)]
  exact q
end
end Fw

namespace Fw
open PySem PySem.Spec PyProof.Rows L2
/-! ### a head whose defs stand at places told by functions -/
structure DefY where
  ad : PySem.W.Frag → Addr
  name : Str
  qual : Str
  params : Arguments
  body : List Stmt
  scope : Scope
  dfl : List He.Dv := []
  kwd : List (Str × He.Dv) := []
def fnWA (K : PySem.W.Frag) (a : Addr) : He.FnW := match K.lookup a with
  | some ⟨_, _, .func fd, _⟩ => some (fd.name, fd.qualname, fd.params, fd.body, fd.scope, fd.globals, fd.closure, fd.builtins)
  | _ => none
def DefY.val (d : DefY) : He.FnW := some (d.name, d.qual, d.params, .stmts d.body, d.scope, mainGlobals, [], builtinsNs)
def DefY.ok (K : PySem.W.Frag) (d : DefY) : Bool := PySem.W.keepIn K (.ref (d.ad K)) && (match K.lookup (d.ad K) with
  | some ⟨_, _, .func fd, _⟩ => PySem.W.codeIn K fd.code d.qual && (He.dflB K fd.defaults (d.dfl.map (He.Dv.v K)) && He.kwdB K fd.kwdefaults (d.kwd.map fun q => (q.1, q.2.v K)))
  | _ => false)
theorem DefY.funD {K : PySem.W.Frag} {d : DefY} (e : fnWA K (d.ad K) = d.val) (c : d.ok K = true) : ∃ fd, FunD K d.name d.qual d.params d.body d.scope (d.dfl.map (He.Dv.v K)) (d.kwd.map fun q => (q.1, q.2.v K)) (d.ad K) fd := by
  obtain ⟨kp, c2⟩ := He.ba c
  unfold fnWA at e
  cases q : K.lookup (d.ad K) with
  | none =>
    rw [q] at c2
    cases c2
  | some o =>
    obtain ⟨oc, od, dt, osl⟩ := o
    rw [q] at c2 e
    cases dt with
    | func fd =>
      obtain ⟨n1, n2, n3, n4, n5, n6, n7, n8, n9, n10, n11, n12, n13, n14, n15⟩ := fd
      have e2 : (some (n1, n2, n3, n4, n5, n6, n7, n15) : He.FnW) = some (d.name, d.qual, d.params, .stmts d.body, d.scope, mainGlobals, [], builtinsNs) := e
      simp only [Option.some.injEq, Prod.mk.injEq] at e2
      obtain ⟨h1, h2, h3, h4, h5, h6, h7, h8⟩ := e2
      subst h1 h2 h3 h4 h5 h6 h7 h8
      have c3 : (PySem.W.codeIn K n13 d.qual && (He.dflB K n8 (d.dfl.map (He.Dv.v K)) && He.kwdB K n9 (d.kwd.map fun q => (q.1, q.2.v K)))) = true := c2
      obtain ⟨k1, k2⟩ := He.ba c3
      obtain ⟨k3, k4⟩ := He.ba k2
      exact ⟨_, ⟨oc, od, n8, n9, n10, n11, n12, n13, n14, osl, rfl, q, k1, He.dflB_ok k3, He.kwdB_ok k4⟩, kp⟩
    | _ => cases c2
abbrev AlY : Type := He.AlT × (Bool × (Bool × List He.FnW))
/-- what the module's names reach in n steps, and the table of the interpreter's own statics -/
abbrev frY (n : Nat) (g : Addr → Option Obj) : PySem.W.Frag := He.frT g (He5.asA g n)
def obsY (n : Nat) (fa : List He.Fa) (ts : List He.Tab) (ex : PySem.W.Frag → Bool) (fy : List DefY) (g : Addr → Option Obj) : AlY :=
  (He.obsT fa [] ts (frY n g), (ex (frY n g), (fy.all fun d => d.ok (frY n g), fy.map fun d => fnWA (frY n g) (d.ad (frY n g)))))
def valY (ts : List He.Tab) (fy : List DefY) (w : World) : AlY := (He.valT [] ts w, (true, (true, fy.map DefY.val)))
structure SaysY (fa : List He.Fa) (ts : List He.Tab) (ex : PySem.W.Frag → Bool) (fy : List DefY) (w : World) (h : Heap) (K : PySem.W.Frag) : Prop where
  t : He.SaysT fa [] ts w K
  more : ex K = true
  ok : (fy.all fun d => d.ok K) = true
  fn : (fy.map fun d => fnWA K (d.ad K)) = fy.map DefY.val
theorem SaysY.def_ {fa : List He.Fa} {ts : List He.Tab} {ex : PySem.W.Frag → Bool} {fy : List DefY} {w : World} {h : Heap} {K : PySem.W.Frag} (c : SaysY fa ts ex fy w h K) (i : Nat) {d : DefY} (hi : fy[i]? = some d := by rfl) :
    ∃ fd, FunD K d.name d.qual d.params d.body d.scope (d.dfl.map (He.Dv.v K)) (d.kwd.map fun q => (q.1, q.2.v K)) (d.ad K) fd := by
  have e2 : (fy.map fun d => fnWA K (d.ad K))[i]? = (fy.map DefY.val)[i]? := by rw [c.fn]
  rw [List.getElem?_map, List.getElem?_map, hi] at e2
  exact DefY.funD (Option.some.inj e2) (List.all_eq_true.mp c.ok d (List.mem_of_getElem? hi))
def hookY (n : Nat) (fa : List He.Fa) (ts : List He.Tab) (ex : PySem.W.Frag → Bool) (fy : List DefY) : PySem.W.Hook where
  α := AlY
  obs := fun s => obsY n fa ts ex fy s.heap.get?
  val := fun w => valY ts fy w
  says := fun w h => ∃ K : PySem.W.Frag, K.In h ∧ SaysY fa ts ex fy w h K
  of := fun w s e => by
    have e1 := congrArg (fun z : AlY => z.1) e
    have e2 := congrArg (fun z : AlY => z.2.1) e
    have e3 := congrArg (fun z : AlY => z.2.2.1) e
    have e4 := congrArg (fun z : AlY => z.2.2.2) e
    exact ⟨_, He.frT_in, e1, e2, e3, e4⟩
  keeps := fun _ _ _ ⟨K, hK, c⟩ k => ⟨K, PySem.W.Frag.In.keeps hK k, ⟨c.t, c.more, c.ok, c.fn⟩⟩
theorem obsY_eq {n : Nat} {fa : List He.Fa} {ts : List He.Tab} {ex : PySem.W.Frag → Bool} {fy : List DefY} {g : Addr → Option Obj} {s : Shared} (h : ∀ a, g a = s.heap.get? a) : obsY n fa ts ex fy g = (hookY n fa ts ex fy).obs s := by
  have e : g = s.heap.get? := funext h
  rw [e] <;> rfl
/-! ### a staticmethod, called on its class -/
structure SMet (K : PySem.W.Frag) (C : Addr) (m : Str) (p g : Addr) : Prop where
  at_ : PySem.W.findCls K (.ref C) (.type "type") m = some (.get (.builtin "staticmethod.__get__") (.ref p) .none (.ref C))
  rc : ∃ rest, PySem.W.recIn K p "staticmethod" = some (.ref g :: rest)
  rd : PySem.W.readsIn K C (.type "type") = true
  ga : PySem.W.specialIn K (.ref C) "__getattribute__" = some (some (.builtin "type.__getattribute__"))
def smB (K : PySem.W.Frag) (x m : Str) : Bool := He5.wrapB K (He.ga K x) "staticmethod" "staticmethod.__get__" m && (PySem.W.readsIn K (He.ga K x) (.type "type") && He.eqO (PySem.W.specialIn K (.ref (He.ga K x)) "__getattribute__") (some (some (.builtin "type.__getattribute__"))))
theorem smB_ok {K : PySem.W.Frag} {x m : Str} (h : smB K x m = true) : SMet K (He.ga K x) m (He.ma K (He.ga K x) m) (He5.wf K (He.ga K x) "staticmethod" m) := by
  obtain ⟨h1, h⟩ := He.ba h
  obtain ⟨h2, h3⟩ := He.ba h
  obtain ⟨k1, k2⟩ := He5.wrapB_ok h1
  exact ⟨k1, k2, h2, He.eqO_ok h3⟩
def propB (K : PySem.W.Frag) (x f : Str) : Bool := He.eqO (PySem.W.findIn K (.ref (He.ga K x)) f) (some (some (.ref (He.ma K (He.ga K x) f)))) && (He.eqO (PySem.W.specialIn K (.ref (He.ma K (He.ga K x) f)) "__get__") (some (some (.builtin "property.__get__"))) && (decide (PySem.W.takesIn K (.ref (He.ma K (He.ga K x) f)) = some true) && (match PySem.W.recIn K (He.ma K (He.ga K x) f) "property" with
    | some (.ref _ :: _) => true
    | _ => false)))
theorem propB_ok {K : PySem.W.Frag} {x f : Str} (h : propB K x f = true) : PropOf K (He.ga K x) f (He.ma K (He.ga K x) f) (He5.wf K (He.ga K x) "property" f) := by
  obtain ⟨h1, h⟩ := He.ba h
  obtain ⟨h2, h⟩ := He.ba h
  obtain ⟨h3, h4⟩ := He.ba h
  refine ⟨He.eqO_ok h1, He.eqO_ok h2, of_decide_eq_true h3, ?_⟩
  unfold He5.wf
  split at h4
  · rename_i f' r e
    exact ⟨r, by rw [e]⟩
  · cases h4
section
variable {X : Cx} {CX : CXT} {k : Nat} {C g p : Addr} {ps : List Str} {sp : Sp} {E : XK} {m : Str} {e o : Expr} {es : List Expr} {t : TA} {ta : TE} {pos apos : Pos}
def tSMeth (C : Addr) (sp : Sp) (E : XK) (ta : TE) (t : TA) : TE := fun σ H Q => ta σ H fun x H1 => x = .ref C ∧ t σ H1 fun vs H2 => sp vs H2 Q E
theorem pe_smethO {pl : Sem Bool} (he : PE X o ta) (c : SMet X.K C m p g) (F : Ok X.prog X.w X.K X.mg X.base CX k g ps sp) (hr : Room k X.A) (hx : Passes CX X E) (ha : PA X (e :: es) t)
    (hst : starEach (e :: es) X.env = (false, eval e X.env) :: starEach es X.env := by rfl) (hpl : (backTo pos (starEach es X.env)).any (·.1) = false := by rfl)
    (ht : eval (.Call (.Attribute o m apos) (e :: es) [] pos) X.env = (do
      let ov ← eval o X.env
      standAt apos.atName
      let (f, first) ← holding [ov] (getMethod ov m pl)
      callWith pos f first (backTo pos (starEach (e :: es) X.env)) (backToKw pos (keywordEach [] X.env))) := by rfl) :
    PE X (.Call (.Attribute o m apos) (e :: es) [] pos) (tSMeth C sp E ta t) := by
  refine ⟨fun pins s σ H Q I h => ?_⟩
  refine PySem.W.methodCall_KW (pl := pl) (thn (he.run pins s σ H _ I h) fun u s1 ⟨x, H1, I1, rx, ex, q⟩ => ?_) ht
  subst ex
  obtain rfl : u = Value.ref C := rx
  obtain ⟨rest, hp⟩ := c.rc
  refine PySem.W.method_cls I1.kIn c.ga (PySem.W.cls_bind I1.kIn c.rd c.at_ ?_)
  refine wpAny_call (PySem.W.sm_get (s := { s1 with toks := s1.toks + 1 }) I1.kIn hp (PySem.W.handed_on rfl ?_))
  have I2 := I1.tok (s1.toks + 1)
  refine PySem.W.callWith_K (first := []) (h₀ := X.base) I2.ok.mod.kin F.keep (thn (ha.run pos pins _ σ H1 _ I2 q) fun us s2 ⟨vs, H2, I3, r, q2⟩ => ⟨I3.kIn, ?_⟩) hst hpl
  exact wpAny_call (run_fnR (us := us) (vs := vs) F.r hr hx I3 r q2)
end
section
variable {K : PySem.W.Frag} {S : Dst} {σ : L2.St} {H : Hp} {ta : TE} {tas : TA} {C : Addr} {vs : List V} {sp : Sp} {E : XK} {P : V → Hp → Prop}
theorem ex_smeth (h : Ev K S ta σ H (.ref C)) (hv : EvA K S tas σ H vs) (k : SpX K S sp vs H E P) : EvX K S (tSMeth C sp E ta tas) σ H P := fun H1 e Q q => h H1 e _ fun H2 e2 =>
  ⟨rfl, hv H2 (e.trans e2) _ fun H3 e3 => k H3 ((e.trans e2).trans e3) _ fun z H4 e4 p => q z H4 ((e2.trans e3).trans e4) p⟩
theorem ex_smethX {PA : List V → Hp → Prop} (h : Ev K S ta σ H (.ref C)) (hv : EvAX K S tas σ H PA) (k : ∀ vs H1, Lx S H H1 → PA vs H1 → SpX K S sp vs H1 E P) : EvX K S (tSMeth C sp E ta tas) σ H P := fun H1 e Q q => h H1 e _ fun H2 e2 =>
  ⟨rfl, hv H2 (e.trans e2) _ fun vs H3 e3 pa => k vs H3 ((e.trans e2).trans e3) pa H3 ((e.trans e2).trans e3).refl _ fun z H4 e4 p => q z H4 ((e2.trans e3).trans e4) p⟩
end
section
variable {K : PySem.W.Frag} {S : Dst} {σ : L2.St} {H H' : Hp} {tas : TA} {t : TT} {D : Ends} {tu tz : TS} {g : TG}
theorem s_whileN (W : Nat → L2.St → Hp → Prop) (m0 : Nat) (h0 : ∀ H1, Lx S H H1 → W m0 σ H1) (wf : ∀ m σ' H', W m σ' H' → Lx S H' H')
    (hs : ∀ m σ' H', W m σ' H' → ∃ b, EvT K S t σ' H' b ∧ (b = true → St K S tu { D with nx := fun σ2 H2 => ∃ m', m' < m ∧ W m' σ2 H2, ct := fun σ2 H2 => ∃ m', m' < m ∧ W m' σ2 H2, bk := tz D } σ' H') ∧ (b = false → St K S tz D σ' H')) :
    St K S (tSeq (tWhile t tu) tz) D σ H :=
  s_while W m0 h0 (fun m σ' H' w H1 e Q q => by
    obtain ⟨b, h1, h2, h3⟩ := hs m σ' H' w
    exact h1 H1 e Q fun H2 e2 => q b H2 e2 ⟨fun hb => ⟨_, fun _ _ z => z, h2 hb H2 (e.trans e2)⟩, fun hb => h3 hb H2 (e.trans e2)⟩) wf
/-- for x in range(n), n told by what has effects -/
theorem s_forRX {PA : List V → Hp → Prop} (h : EvAX K S tas σ H PA) (k : ∀ vs H1, Lx S H H1 → PA vs H1 → ∃ n, vs = [.int n] ∧ St K S (tSeq (tFor (iRng1 (tCons (tC (.int n)) tNil)) g tu) tz) D σ H1) : St K S (tSeq (tFor (iRng1 tas) g tu) tz) D σ H := fun H1 e => h H1 e _ fun vs H2 e2 p => by
  obtain ⟨n, rfl, s⟩ := k vs H2 (e.trans e2) p
  exact s H2 (e.trans e2).refl
theorem rvx_cat {l b : Addr} {xs zs : List V} (hl : H l = some (.lst xs)) (nl : ¬ Sx S l) (hb : H b = some (.lst zs)) (nb : ¬ Sx S b) (hz : xs.length + zs.length ≤ sizeLine) : RVX K S rCat (.ref l) (.ref b) H (NewL S H (xs ++ zs)) := fun H1 e Q q =>
  ⟨l, b, xs, zs, rfl, rfl, e.1 _ _ nl hl, e.1 _ _ nb hb, hz, fun p hp => q _ _ (e.new hp) ⟨p, rfl, e.fresh hp, e.ns hp, upd_same⟩⟩
/-- tuple(l) of a list -/
theorem rc_tupleL {p : Addr} {ys : List V} (h : LA K S H p ys) : RCX K S (rTup1 K) [.ref p] H (NewU S H ys) := fun H1 e _ q => ⟨p, ys, rfl, .inl ⟨(h.mono e).q, fun l hl => q _ _ (e.new hl) ⟨l, rfl, e.fresh hl, e.ns hl, upd_same⟩⟩⟩
end
end Fw

namespace Fw
open PySem PySem.Spec PyProof.Rows L2
/-! ### kins, plainly -/
def fitsB (u d : Int) (s : Str) : Bool := if u = 0 ∨ d = 0 then decide (s = "line") else decide (s = "elder") || decide (s = "younger")
def rankS (s : Str) : Int := if s = "line" then 0 else if s = "elder" then 1 else 2
def kinF (u d : Int) (s : Str) : List (Str × V) := [("up", .int u), ("down", .int d), ("side", .str s), ("far", .int (u + d)), ("rank", .int (rankS s))]
structure KV (u d : Int) (s : Str) : Prop where
  u0 : 0 ≤ u
  u1 : u ≤ 999
  d0 : 0 ≤ d
  d1 : d ≤ 999
  fit : fitsB u d s = true
def kms (u d : Int) (s : Str) : List Int := [u + d, u, rankS s]
abbrev sides : List V := [.str "line", .str "elder", .str "younger"]
theorem KV.side {u d : Int} {s : Str} (k : KV u d s) : s = "line" ∨ s = "elder" ∨ s = "younger" := by
  have h := k.fit
  unfold fitsB at h
  split at h
  · exact .inl (of_decide_eq_true h)
  · rw [Bool.or_eq_true] at h
    exact .inr (h.imp of_decide_eq_true of_decide_eq_true)
/-- where a side stands among the sides -/
theorem side_at {s : Str} (h : s = "line" ∨ s = "elder" ∨ s = "younger") : ∃ j : Nat, rankS s = (j : Int) ∧ sides[j]? = some (.str s) ∧ flatV (.str s) = true ∧ eqV (.str s) (.str s) = true ∧ ∀ (m : Nat) (z' : V), m < j → sides[m]? = some z' → eqV z' (.str s) = false := by
  rcases h with rfl | rfl | rfl
  · exact ⟨0, by decide, rfl, rfl, by decide, fun m z' h _ => by omega⟩
  · refine ⟨1, by decide, rfl, rfl, by decide, fun m z' h e => ?_⟩
    have : m = 0 := by omega
    subst this
    cases e
    decide
  · refine ⟨2, by decide, rfl, rfl, by decide, fun m z' h e => ?_⟩
    have : m = 0 ∨ m = 1 := by omega
    rcases this with rfl | rfl <;> (cases e; decide)
theorem lexI_flip {r : Int → Int → Bool} {z : Nat → Nat → Bool} : ∀ {xs ys : List Int}, xs.length = ys.length → lexI r z ys xs = lexI (fun a b => r b a) (fun a b => z b a) xs ys
  | [], [], _ => rfl
  | x :: xs, y :: ys, h => by
    show (if y = x then _ else _) = (if x = y then _ else _)
    by_cases e : x = y
    · rw [if_pos e.symm, if_pos e]; exact lexI_flip (Nat.succ.inj h)
    · rw [if_neg (fun z => e z.symm), if_neg e]
def dms (xs : List Int) : PyData := .tuple (xs.map .int)
abbrev KinA (K : PySem.W.Frag) (S : Dst) (H : Hp) (a : Addr) (u d : Int) (s : Str) : Prop := IA S H a (He.ga K "Kin") (kinF u d s)
/-! ### what the defs promise -/
def a_fits : List V → Hp → Dst → (V → Hp → Prop) → Prop := fun vs _ S PP => S = none ∧ ∃ u d s, vs = [.int u, .int d, .str s] ∧ PP = fun v _ => v = .bl (fitsB u d s)
def a_kin : List V → List (Str × V) → Hp → Prop := fun vs fs _ => ∃ u d s, vs = [.int u, .int d, .str s] ∧ KV u d s ∧ fs = kinF u d s
def a_measure (K : PySem.W.Frag) : List V → Hp → Dst → (V → Hp → Prop) → Prop := fun vs H S PP => S = none ∧ ∃ a u d s, vs = [.ref a] ∧ KinA K none H a u d s ∧ PP = NewU none H ((kms u d s).map V.int)
def a_kcmp (K : PySem.W.Frag) (r : List Int → List Int → Bool) : List V → Hp → Dst → (V → Hp → Prop) → Prop := fun vs H S PP => S = none ∧ ∃ a b u d s u' d' s', vs = [.ref a, .ref b] ∧ KinA K none H a u d s ∧ KinA K none H b u' d' s' ∧ PP = fun v _ => v = .bl (r (kms u d s) (kms u' d' s'))
abbrev ltL : List Int → List Int → Bool := lexI (fun a b => decide (a < b)) (fun a b => decide (a < b))
abbrev leL : List Int → List Int → Bool := lexI (fun a b => decide (a ≤ b)) (fun a b => decide (a ≤ b))
abbrev eqL : List Int → List Int → Bool := fun x y => PyData.eqv (dms x) (dms y)
end Fw
namespace Fw
open PySem PySem.Spec PyProof.Rows L2
theorem Lx.nsU {S : Dst} {H H1 : Hp} {a : Addr} {xs : List V} (e : Lx S H H1) (h : H1 a = some (.tup xs)) : ¬ Sx S a := fun ⟨q, hq, hp⟩ => by
  obtain ⟨_, _, _, _, _, h1, _, h2⟩ := e.2 q hq
  rcases hp with rfl | rfl
  · rw [h] at h1; cases h1
  · rw [h] at h2; cases h2
abbrev pv (u d : Int) (s : Str) : List V := [.int u, .int d, .str s]
/-- a row (up, down, side) at p -/
structure Row (S : Dst) (H : Hp) (v : V) (u d : Int) (s : Str) : Prop where
  q : ∃ p, v = .ref p ∧ H p = some (.tup (pv u d s)) ∧ ¬ Sx S p
theorem Row.mono {S : Dst} {H H1 : Hp} {v : V} {u d : Int} {s : Str} (h : Row S H v u d s) (e : Lx S H H1) : Row S H1 v u d s := by
  obtain ⟨p, rfl, hp, n⟩ := h
  exact ⟨p, rfl, e.1 _ _ n hp, n⟩
theorem Row.to0 {S : Dst} {H : Hp} {v : V} {u d : Int} {s : Str} (h : Row S H v u d s) : Row none H v u d s := by
  obtain ⟨p, rfl, hp, n⟩ := h
  exact ⟨p, rfl, hp, sx_none⟩
theorem Row.up {S : Dst} {H H1 : Hp} {v : V} {u d : Int} {s : Str} (e : Lx S H H1) (h : Row none H1 v u d s) : Row S H1 v u d s := by
  obtain ⟨p, rfl, hp, _⟩ := h
  exact ⟨p, rfl, hp, e.nsU hp⟩
section
variable {K : PySem.W.Frag} {S : Dst} {σ : L2.St} {H : Hp} {te : TE} {v : V} {u d : Int} {s : Str}
theorem Row.ev0 (h : Ev K S te σ H v) (r : Row S H v u d s) : Ev K S (tOp (rIxT K) te (tC (.int 0))) σ H (.int u) := by
  obtain ⟨p, rfl, hp, n⟩ := r
  exact ev_op h ev_c (rv_ixT (UA.of hp n) rfl)
theorem Row.ev1 (h : Ev K S te σ H v) (r : Row S H v u d s) : Ev K S (tOp (rIxT K) te (tC (.int 1))) σ H (.int d) := by
  obtain ⟨p, rfl, hp, n⟩ := r
  exact ev_op h ev_c (rv_ixT (UA.of hp n) rfl)
theorem Row.ev2 (h : Ev K S te σ H v) (r : Row S H v u d s) : Ev K S (tOp (rIxT K) te (tC (.int 2))) σ H (.str s) := by
  obtain ⟨p, rfl, hp, n⟩ := r
  exact ev_op h ev_c (rv_ixT (UA.of hp n) rfl)
end
def sidesL (u d : Int) : List V := if u = 0 ∨ d = 0 then [.str "line"] else [.str "elder", .str "younger"]
theorem sides_len (u d : Int) : (sidesL u d).length = 1 ∨ (sidesL u d).length = 2 := by unfold sidesL; split <;> simp
theorem sides_get {u d : Int} {j : Int} (h0 : 0 ≤ j) (h1 : j < ((sidesL u d).length : Int)) : ∃ s, atI (sidesL u d) j = some (.str s) ∧ fitsB u d s = true := by
  unfold sidesL at h1 ⊢
  unfold fitsB
  by_cases h : u = 0 ∨ d = 0
  · rw [if_pos h] at h1
    simp only [if_pos h]
    have : j = 0 := by simp at h1; omega
    subst this
    exact ⟨"line", rfl, by decide⟩
  · rw [if_neg h] at h1
    simp only [if_neg h]
    have : j = 0 ∨ j = 1 := by simp at h1; omega
    rcases this with rfl | rfl
    · exact ⟨"elder", rfl, by decide⟩
    · exact ⟨"younger", rfl, by decide⟩
def otherS (s : Str) : Str := if s = "elder" then "younger" else if s = "younger" then "elder" else s
theorem KV.minus {u d : Int} {s : Str} (k : KV u d s) : KV d u (otherS s) := by
  refine ⟨k.d0, k.d1, k.u0, k.u1, ?_⟩
  have h := k.fit
  unfold fitsB at h ⊢
  by_cases z : u = 0 ∨ d = 0
  · rw [if_pos z] at h
    rw [if_pos (by omega)]
    rw [of_decide_eq_true h]
    decide
  · rw [if_neg z] at h
    rw [if_neg (by omega)]
    rw [Bool.or_eq_true] at h
    rcases h with h | h
    · rw [of_decide_eq_true h]; decide
    · rw [of_decide_eq_true h]; decide
/-- the first counts with the minus kin's side are a kin, too -/
theorem KV.other {u d : Int} {s : Str} (k : KV u d s) : KV u d (otherS s) := by
  have h := k.minus.fit
  refine ⟨k.u0, k.u1, k.d0, k.d1, ?_⟩
  unfold fitsB at h ⊢
  by_cases z : u = 0 ∨ d = 0
  · rw [if_pos (by omega)] at h; rw [if_pos z]; exact h
  · rw [if_neg (by omega)] at h; rw [if_neg z]; exact h
end Fw

namespace Fw
open PySem PySem.Spec PyProof.Rows L2
/-! ### the kin between two paths, plainly -/
def cp : List Int → List Int → Nat
  | x :: xs, y :: ys => if x = y then cp xs ys + 1 else 0
  | _, _ => 0
theorem cp_l : ∀ xs ys : List Int, cp xs ys ≤ xs.length
  | [], _ => Nat.zero_le _
  | _ :: _, [] => Nat.zero_le _
  | x :: xs, y :: ys => by
    unfold cp
    split
    · exact Nat.succ_le_succ (cp_l xs ys)
    · exact Nat.zero_le _
theorem cp_comm : ∀ xs ys : List Int, cp xs ys = cp ys xs
  | [], [] => rfl
  | [], _ :: _ => rfl
  | _ :: _, [] => rfl
  | x :: xs, y :: ys => by
    unfold cp
    by_cases h : x = y
    · rw [if_pos h, if_pos h.symm, cp_comm xs ys]
    · rw [if_neg h, if_neg (fun z => h z.symm)]
theorem cp_r (xs ys : List Int) : cp xs ys ≤ ys.length := cp_comm xs ys ▸ cp_l ys xs
theorem cp_eq : ∀ {xs ys : List Int} {i : Nat}, i < cp xs ys → ∃ x, xs[i]? = some x ∧ ys[i]? = some x
  | [], _, i, h => absurd h (Nat.not_lt_zero _)
  | _ :: _, [], i, h => absurd h (Nat.not_lt_zero _)
  | x :: xs, y :: ys, i, h => by
    unfold cp at h
    split at h
    · rename_i e
      subst e
      cases i with
      | zero => exact ⟨x, rfl, rfl⟩
      | succ i => exact (by simpa using cp_eq (xs := xs) (ys := ys) (i := i) (by omega))
    · exact absurd h (Nat.not_lt_zero _)
theorem cp_ne : ∀ {xs ys : List Int} {x y : Int}, xs[cp xs ys]? = some x → ys[cp xs ys]? = some y → x ≠ y
  | [], _, x, y, h, _ => by simp at h
  | _ :: _, [], x, y, _, h => by simp at h
  | a :: xs, b :: ys, x, y, h1, h2 => by
    unfold cp at h1 h2
    split at h1
    · rename_i e
      rw [if_pos e] at h2
      exact cp_ne h1 h2
    · rename_i e
      rw [if_neg e] at h2
      cases h1
      cases h2
      exact e
def bu (xs ys : List Int) : Int := (xs.length : Int) - (cp xs ys : Int)
def bd (xs ys : List Int) : Int := (ys.length : Int) - (cp xs ys : Int)
def bs (xs ys : List Int) : Str := if bu xs ys = 0 ∨ bd xs ys = 0 then "line" else if ys.getD (cp xs ys) 0 < xs.getD (cp xs ys) 0 then "elder" else "younger"
theorem bkv {xs ys : List Int} (h1 : xs.length ≤ 900) (h2 : ys.length ≤ 900) : KV (bu xs ys) (bd xs ys) (bs xs ys) := by
  have a := cp_l xs ys
  have b := cp_r xs ys
  refine ⟨by unfold bu; omega, by unfold bu; omega, by unfold bd; omega, by unfold bd; omega, ?_⟩
  unfold fitsB bs
  by_cases h : bu xs ys = 0 ∨ bd xs ys = 0
  · rw [if_pos h, if_pos h]; decide
  · rw [if_neg h, if_neg h]
    split <;> decide
theorem b_swap (xs ys : List Int) : bu ys xs = bd xs ys ∧ bd ys xs = bu xs ys ∧ bs ys xs = otherS (bs xs ys) := by
  have e : cp ys xs = cp xs ys := cp_comm ys xs
  have e1 : bu ys xs = bd xs ys := by unfold bu bd; rw [e]
  have e2 : bd ys xs = bu xs ys := by unfold bu bd; rw [e]
  refine ⟨e1, e2, ?_⟩
  unfold bs
  rw [e1, e2, e]
  by_cases h : bu xs ys = 0 ∨ bd xs ys = 0
  · rw [if_pos (by omega), if_pos h]; decide
  · rw [if_neg (by omega), if_neg h]
    have l1 : cp xs ys < xs.length := by have := cp_l xs ys; unfold bu at h; omega
    have l2 : cp xs ys < ys.length := by have := cp_r xs ys; unfold bd at h; omega
    have g1 := List.getElem?_eq_getElem l1
    have g2 := List.getElem?_eq_getElem l2
    have ne := cp_ne g1 g2
    rw [List.getD_eq_getElem?_getD, List.getD_eq_getElem?_getD, g1, g2]
    dsimp only [Option.getD]
    by_cases lt : xs[cp xs ys] < ys[cp xs ys]
    · rw [if_pos lt, if_neg (by omega)]; decide
    · rw [if_neg lt, if_pos (by omega)]; decide
/-- a sequence of whole numbers -/
abbrev SqI (K : PySem.W.Frag) (H : Hp) (p : Addr) (ns : List Int) : Prop := SqL K H p (ns.map V.int) ∨ SqT K H p (ns.map V.int)
def a_between (K : PySem.W.Frag) : List V → Hp → Dst → (V → Hp → Prop) → Prop := fun vs H S PP => S = none ∧ ∃ p q xs ys, vs = [.ref p, .ref q] ∧ SqI K H p xs ∧ SqI K H q ys ∧ xs.length ≤ 900 ∧ ys.length ≤ 900 ∧ PP = NewI none H (He.ga K "Kin") (kinF (bu xs ys) (bd xs ys) (bs xs ys))
end Fw

namespace Fk
open PySem PySem.Spec PyProof.Rows L2 Fw
def top (i : Nat) : Stmt := PySem.Challenge.pw_forkwaits_k06_kins_between_paths.main.body.getD i (.Pass ⟨0, 0, 0, 0⟩)
abbrev s_fits_side : Stmt := top 14
theorem sc_fits_side : FnScope ["up", "down", "side"] ["up", "down", "side"] (defScope s_fits_side) := ⟨rfl, rfl, rfl, by decide +kernel, rfl, by decide +kernel, by decide +kernel⟩
abbrev s_KinD__initD_ : Stmt := inClass (top 15) 1
theorem sc_KinD__initD_ : FnScope ["self", "up", "down", "side"] ["self", "up", "down", "side"] (defScope s_KinD__initD_) := ⟨rfl, rfl, rfl, by decide +kernel, rfl, by decide +kernel, by decide +kernel⟩
abbrev s_Kin_between : Stmt := inClass (top 15) 3
theorem sc_Kin_between : FnScope ["first", "second", "shared", "up", "down"] ["first", "second"] (defScope s_Kin_between) := ⟨rfl, rfl, rfl, by decide +kernel, rfl, by decide +kernel, by decide +kernel⟩
abbrev s__law_start : Stmt := top 19
theorem sc__law_start : FnScope ["script"] ["script"] (defScope s__law_start) := ⟨rfl, rfl, rfl, by decide +kernel, rfl, by decide +kernel, by decide +kernel⟩
abbrev s__law_draw : Stmt := top 20
theorem sc__law_draw : FnScope ["state", "many", "value", "mixed"] ["state", "many"] (defScope s__law_draw) := ⟨rfl, rfl, rfl, by decide +kernel, rfl, by decide +kernel, by decide +kernel⟩
abbrev s__law_is_number : Stmt := top 21
theorem sc__law_is_number : FnScope ["actual"] ["actual"] (defScope s__law_is_number) := ⟨rfl, rfl, rfl, by decide +kernel, rfl, by decide +kernel, by decide +kernel⟩
abbrev s__law_same : Stmt := top 22
theorem sc__law_same : FnScope ["actual", "expected", "k"] ["actual", "expected"] (defScope s__law_same) := ⟨rfl, rfl, rfl, by decide +kernel, rfl, by decide +kernel, by decide +kernel⟩
abbrev s__law_other_side : Stmt := top 23
theorem sc__law_other_side : FnScope ["side"] ["side"] (defScope s__law_other_side) := ⟨rfl, rfl, rfl, by decide +kernel, rfl, by decide +kernel, by decide +kernel⟩
abbrev s__law_minus : Stmt := top 24
theorem sc__law_minus : FnScope ["parts"] ["parts"] (defScope s__law_minus) := ⟨rfl, rfl, rfl, by decide +kernel, rfl, by decide +kernel, by decide +kernel⟩
abbrev s__law_is_kin : Stmt := top 25
theorem sc__law_is_kin : FnScope ["actual", "parts"] ["actual", "parts"] (defScope s__law_is_kin) := ⟨rfl, rfl, rfl, by decide +kernel, rfl, by decide +kernel, by decide +kernel⟩
abbrev s__law_path : Stmt := top 26
theorem sc__law_path : FnScope ["state", "start", "spread", "path", "k"] ["state", "start", "spread"] (defScope s__law_path) := ⟨rfl, rfl, rfl, by decide +kernel, rfl, by decide +kernel, by decide +kernel⟩
abbrev s__law_between : Stmt := top 27
theorem sc__law_between : FnScope ["first", "second", "shared", "k", "up", "down"] ["first", "second"] (defScope s__law_between) := ⟨rfl, rfl, rfl, by decide +kernel, rfl, by decide +kernel, by decide +kernel⟩
abbrev s__law_asked : Stmt := top 28
theorem sc__law_asked : FnScope ["first", "second", "due", "mine", "other"] ["first", "second"] (defScope s__law_asked) := ⟨rfl, rfl, rfl, by decide +kernel, rfl, by decide +kernel, by decide +kernel⟩
abbrev s_law : Stmt := top 29
theorem sc_law : FnScope ["script", "state", "spread", "common", "first", "second", "extra"] ["script"] (defScope s_law) := ⟨rfl, rfl, rfl, by decide +kernel, rfl, by decide +kernel, by decide +kernel⟩
abbrev fn : List DefY := [
  ⟨fun K => (He.fAd K ("fits_side", none)), "fits_side", "fits_side", defArgs s_fits_side, defBody s_fits_side, defScope s_fits_side, [], []⟩,
  ⟨fun K => (He.fAd K ("Kin", some "__init__")), "__init__", "Kin.__init__", defArgs s_KinD__initD_, defBody s_KinD__initD_, defScope s_KinD__initD_, [], []⟩,
  ⟨fun K => (He5.wf K (He.ga K "Kin") "staticmethod" "between"), "between", "Kin.between", defArgs s_Kin_between, defBody s_Kin_between, defScope s_Kin_between, [], []⟩,
  ⟨fun K => (He.fAd K ("_law_start", none)), "_law_start", "_law_start", defArgs s__law_start, defBody s__law_start, defScope s__law_start, [], []⟩,
  ⟨fun K => (He.fAd K ("_law_draw", none)), "_law_draw", "_law_draw", defArgs s__law_draw, defBody s__law_draw, defScope s__law_draw, [], []⟩,
  ⟨fun K => (He.fAd K ("_law_is_number", none)), "_law_is_number", "_law_is_number", defArgs s__law_is_number, defBody s__law_is_number, defScope s__law_is_number, [], []⟩,
  ⟨fun K => (He.fAd K ("_law_same", none)), "_law_same", "_law_same", defArgs s__law_same, defBody s__law_same, defScope s__law_same, [], []⟩,
  ⟨fun K => (He.fAd K ("_law_other_side", none)), "_law_other_side", "_law_other_side", defArgs s__law_other_side, defBody s__law_other_side, defScope s__law_other_side, [], []⟩,
  ⟨fun K => (He.fAd K ("_law_minus", none)), "_law_minus", "_law_minus", defArgs s__law_minus, defBody s__law_minus, defScope s__law_minus, [], []⟩,
  ⟨fun K => (He.fAd K ("_law_is_kin", none)), "_law_is_kin", "_law_is_kin", defArgs s__law_is_kin, defBody s__law_is_kin, defScope s__law_is_kin, [], []⟩,
  ⟨fun K => (He.fAd K ("_law_path", none)), "_law_path", "_law_path", defArgs s__law_path, defBody s__law_path, defScope s__law_path, [], []⟩,
  ⟨fun K => (He.fAd K ("_law_between", none)), "_law_between", "_law_between", defArgs s__law_between, defBody s__law_between, defScope s__law_between, [], []⟩,
  ⟨fun K => (He.fAd K ("_law_asked", none)), "_law_asked", "_law_asked", defArgs s__law_asked, defBody s__law_asked, defScope s__law_asked, [], []⟩,
  ⟨fun K => (He.fAd K ("law", none)), "law", "law", defArgs s_law, defBody s_law, defScope s_law, [], []⟩]
abbrev fa : List He.Fa := [
  .glo "fits_side",
  .glo "_law_start",
  .glo "_law_draw",
  .glo "_law_is_number",
  .glo "_law_same",
  .glo "_law_other_side",
  .glo "_law_minus",
  .glo "_law_is_kin",
  .glo "_law_path",
  .glo "_law_between",
  .glo "_law_asked",
  .glo "law",
  .glo "Kin",
  .cls "Kin",
  .mkr "Kin",
  .noat "Kin" "up",
  .noat "Kin" "down",
  .noat "Kin" "side",
  .noat "Kin" "far",
  .noat "Kin" "rank",
  .free "bool",
  .free "int",
  .free "isinstance",
  .free "len",
  .free "list",
  .free "min",
  .free "range",
  .free "str",
  .free "tuple",
  .str "DIGITS" "0123456789",
  .int "MOST_DIGITS" 3,
  .glo "SIDES",
  .glo "OPPOSITE"]
abbrev ts : List He.Tab := [(fun K => He.ga K "OPPOSITE", ["line", "elder", "younger"])]
abbrev exs (K : PySem.W.Frag) : List Bool := [tupDB K "SIDES",
  He.tupB K "SIDES" [.str "line", .str "elder", .str "younger"],
  He.valsB K (He.ga K "OPPOSITE") [("line", .str "line")],
  He.valsB K (He.ga K "OPPOSITE") [("elder", .str "younger")],
  He.valsB K (He.ga K "OPPOSITE") [("younger", .str "elder")],
  He.conB K "Kin" "MOST" (.int 999),
  iscB K "Kin",
  smB K "Kin" "between"]
abbrev exB (K : PySem.W.Frag) : Bool := (exs K).all id
structure Txt (K : PySem.W.Frag) (mg : Str → Option Value) (w : World) : Prop where
  hh : ∃ h : Heap, K.In h ∧ h.Ns mainGlobals mg ∧ SaysY fa ts exB fn w h K
theorem Txt.c {K : PySem.W.Frag} {mg : Str → Option Value} {w : World} (T : Txt K mg w) : SaysY fa ts exB fn w (Classical.choose T.hh) K := (Classical.choose_spec T.hh).2.2
theorem Txt.X {K : PySem.W.Frag} {mg : Str → Option Value} {w : World} (T : Txt K mg w) : K.In (Classical.choose T.hh) := (Classical.choose_spec T.hh).1
theorem Txt.G {K : PySem.W.Frag} {mg : Str → Option Value} {w : World} (T : Txt K mg w) : (Classical.choose T.hh).Ns mainGlobals mg := (Classical.choose_spec T.hh).2.1
theorem Txt.ex {K : PySem.W.Frag} {mg : Str → Option Value} {w : World} (T : Txt K mg w) (i : Nat) {b : Bool} (h : (exs K)[i]? = some b) : b = true :=
  List.all_eq_true.mp (show (exs K).all id = true from T.c.more) b (List.mem_of_getElem? h)
section
variable {K : PySem.W.Frag} {mg : Str → Option Value} {w : World}
theorem g_fits_side (T : Txt K mg w) : mg "fits_side" = some (.ref (He.fAd K ("fits_side", none))) := He.glo_ok T.X T.G (T.c.t.d.fact 0 rfl)
theorem g__law_start (T : Txt K mg w) : mg "_law_start" = some (.ref (He.fAd K ("_law_start", none))) := He.glo_ok T.X T.G (T.c.t.d.fact 1 rfl)
theorem g__law_draw (T : Txt K mg w) : mg "_law_draw" = some (.ref (He.fAd K ("_law_draw", none))) := He.glo_ok T.X T.G (T.c.t.d.fact 2 rfl)
theorem g__law_is_number (T : Txt K mg w) : mg "_law_is_number" = some (.ref (He.fAd K ("_law_is_number", none))) := He.glo_ok T.X T.G (T.c.t.d.fact 3 rfl)
theorem g__law_same (T : Txt K mg w) : mg "_law_same" = some (.ref (He.fAd K ("_law_same", none))) := He.glo_ok T.X T.G (T.c.t.d.fact 4 rfl)
theorem g__law_other_side (T : Txt K mg w) : mg "_law_other_side" = some (.ref (He.fAd K ("_law_other_side", none))) := He.glo_ok T.X T.G (T.c.t.d.fact 5 rfl)
theorem g__law_minus (T : Txt K mg w) : mg "_law_minus" = some (.ref (He.fAd K ("_law_minus", none))) := He.glo_ok T.X T.G (T.c.t.d.fact 6 rfl)
theorem g__law_is_kin (T : Txt K mg w) : mg "_law_is_kin" = some (.ref (He.fAd K ("_law_is_kin", none))) := He.glo_ok T.X T.G (T.c.t.d.fact 7 rfl)
theorem g__law_path (T : Txt K mg w) : mg "_law_path" = some (.ref (He.fAd K ("_law_path", none))) := He.glo_ok T.X T.G (T.c.t.d.fact 8 rfl)
theorem g__law_between (T : Txt K mg w) : mg "_law_between" = some (.ref (He.fAd K ("_law_between", none))) := He.glo_ok T.X T.G (T.c.t.d.fact 9 rfl)
theorem g__law_asked (T : Txt K mg w) : mg "_law_asked" = some (.ref (He.fAd K ("_law_asked", none))) := He.glo_ok T.X T.G (T.c.t.d.fact 10 rfl)
theorem g_law (T : Txt K mg w) : mg "law" = some (.ref (He.fAd K ("law", none))) := He.glo_ok T.X T.G (T.c.t.d.fact 11 rfl)
theorem g_Kin (T : Txt K mg w) : mg "Kin" = some (.ref (He.ga K "Kin")) := He.glo_ok T.X T.G (T.c.t.d.fact 12 rfl)
theorem c_Kin (T : Txt K mg w) : Cls K (He.ga K "Kin") := He.cls_ok (T.c.t.d.fact 13 rfl)
theorem M_Kin (T : Txt K mg w) : Mk K (He.ga K "Kin") (He.fAd K ("Kin", some "__init__")) := He.mkr_ok (T.c.t.d.fact 14 rfl)
theorem na_Kin_up (T : Txt K mg w) : NoAttr K (He.ga K "Kin") "up" := He.noat_ok (T.c.t.d.fact 15 rfl)
theorem na_Kin_down (T : Txt K mg w) : NoAttr K (He.ga K "Kin") "down" := He.noat_ok (T.c.t.d.fact 16 rfl)
theorem na_Kin_side (T : Txt K mg w) : NoAttr K (He.ga K "Kin") "side" := He.noat_ok (T.c.t.d.fact 17 rfl)
theorem na_Kin_far (T : Txt K mg w) : NoAttr K (He.ga K "Kin") "far" := He.noat_ok (T.c.t.d.fact 18 rfl)
theorem na_Kin_rank (T : Txt K mg w) : NoAttr K (He.ga K "Kin") "rank" := He.noat_ok (T.c.t.d.fact 19 rfl)
theorem n_bool (T : Txt K mg w) : mg "bool" = none := He.free_ok T.X T.G (T.c.t.d.fact 20 rfl)
theorem n_int (T : Txt K mg w) : mg "int" = none := He.free_ok T.X T.G (T.c.t.d.fact 21 rfl)
theorem n_isinstance (T : Txt K mg w) : mg "isinstance" = none := He.free_ok T.X T.G (T.c.t.d.fact 22 rfl)
theorem n_len (T : Txt K mg w) : mg "len" = none := He.free_ok T.X T.G (T.c.t.d.fact 23 rfl)
theorem n_list (T : Txt K mg w) : mg "list" = none := He.free_ok T.X T.G (T.c.t.d.fact 24 rfl)
theorem n_min (T : Txt K mg w) : mg "min" = none := He.free_ok T.X T.G (T.c.t.d.fact 25 rfl)
theorem n_range (T : Txt K mg w) : mg "range" = none := He.free_ok T.X T.G (T.c.t.d.fact 26 rfl)
theorem n_str (T : Txt K mg w) : mg "str" = none := He.free_ok T.X T.G (T.c.t.d.fact 27 rfl)
theorem n_tuple (T : Txt K mg w) : mg "tuple" = none := He.free_ok T.X T.G (T.c.t.d.fact 28 rfl)
theorem g_DIGITS (T : Txt K mg w) : ∃ t, mg "DIGITS" = some (.str "0123456789" t) := He.str_ok T.X T.G (T.c.t.d.fact 29 rfl)
theorem g_MOST_DIGITS (T : Txt K mg w) : ∃ t, mg "MOST_DIGITS" = some (.int 3 t) := He.int_ok T.X T.G (T.c.t.d.fact 30 rfl)
theorem g_SIDES (T : Txt K mg w) : mg "SIDES" = some (.ref (He.ga K "SIDES")) := He.glo_ok T.X T.G (T.c.t.d.fact 31 rfl)
theorem g_OPPOSITE (T : Txt K mg w) : mg "OPPOSITE" = some (.ref (He.ga K "OPPOSITE")) := He.glo_ok T.X T.G (T.c.t.d.fact 32 rfl)
theorem kd_OPPOSITE (T : Txt K mg w) : ∃ es n, KDict K w (He.ga K "OPPOSITE") es n := T.c.t.tab 0 rfl
theorem ud_SIDES (T : Txt K mg w) : ∃ o, K.lookup (He.ga K "SIDES") = some o ∧ o.cls = .type "tuple" ∧ o.dict = none := tupDB_ok (T.ex 0 rfl)
theorem u_SIDES (T : Txt K mg w) : ∀ H : Hp, SqT K H (He.ga K "SIDES") [(V.str "line"), (V.str "elder"), (V.str "younger")] := fun H => He.tupB_ok (T.ex 1 rfl) H
theorem kv_OPPOSITE_line (T : Txt K mg w) : ∃ u, PySem.W.nsIn K (He.ga K "OPPOSITE") "line" = some (some u) ∧ RelV (V.str "line") u := He.valsB_ok (q := ("line", .str "line")) (T.ex 2 rfl) (by simp)
theorem kv_OPPOSITE_elder (T : Txt K mg w) : ∃ u, PySem.W.nsIn K (He.ga K "OPPOSITE") "elder" = some (some u) ∧ RelV (V.str "younger") u := He.valsB_ok (q := ("elder", .str "younger")) (T.ex 3 rfl) (by simp)
theorem kv_OPPOSITE_younger (T : Txt K mg w) : ∃ u, PySem.W.nsIn K (He.ga K "OPPOSITE") "younger" = some (some u) ∧ RelV (V.str "elder") u := He.valsB_ok (q := ("younger", .str "elder")) (T.ex 4 rfl) (by simp)
theorem con_Kin_MOST (T : Txt K mg w) : ∃ u, Con K (He.ga K "Kin") "MOST" (V.int 999) u := He.conB_ok (v := (.int 999)) (T.ex 5 rfl)
theorem isc_Kin (T : Txt K mg w) : IsC K (He.ga K "Kin") := iscB_ok (T.ex 6 rfl)
theorem sm_Kin_between (T : Txt K mg w) : SMet K (He.ga K "Kin") "between" (He.ma K (He.ga K "Kin") "between") (He5.wf K (He.ga K "Kin") "staticmethod" "between") := smB_ok (T.ex 7 rfl)
theorem F_fits_side (T : Txt K mg w) : FnIs K "fits_side" "fits_side" s_fits_side (He.fAd K ("fits_side", none)) := T.c.def_ 0 rfl
theorem F_KinD__initD_ (T : Txt K mg w) : FnIs K "__init__" "Kin.__init__" s_KinD__initD_ (He.fAd K ("Kin", some "__init__")) := T.c.def_ 1 rfl
theorem F_Kin_between (T : Txt K mg w) : FnIs K "between" "Kin.between" s_Kin_between (He5.wf K (He.ga K "Kin") "staticmethod" "between") := T.c.def_ 2 rfl
theorem F__law_start (T : Txt K mg w) : FnIs K "_law_start" "_law_start" s__law_start (He.fAd K ("_law_start", none)) := T.c.def_ 3 rfl
theorem F__law_draw (T : Txt K mg w) : FnIs K "_law_draw" "_law_draw" s__law_draw (He.fAd K ("_law_draw", none)) := T.c.def_ 4 rfl
theorem F__law_is_number (T : Txt K mg w) : FnIs K "_law_is_number" "_law_is_number" s__law_is_number (He.fAd K ("_law_is_number", none)) := T.c.def_ 5 rfl
theorem F__law_same (T : Txt K mg w) : FnIs K "_law_same" "_law_same" s__law_same (He.fAd K ("_law_same", none)) := T.c.def_ 6 rfl
theorem F__law_other_side (T : Txt K mg w) : FnIs K "_law_other_side" "_law_other_side" s__law_other_side (He.fAd K ("_law_other_side", none)) := T.c.def_ 7 rfl
theorem F__law_minus (T : Txt K mg w) : FnIs K "_law_minus" "_law_minus" s__law_minus (He.fAd K ("_law_minus", none)) := T.c.def_ 8 rfl
theorem F__law_is_kin (T : Txt K mg w) : FnIs K "_law_is_kin" "_law_is_kin" s__law_is_kin (He.fAd K ("_law_is_kin", none)) := T.c.def_ 9 rfl
theorem F__law_path (T : Txt K mg w) : FnIs K "_law_path" "_law_path" s__law_path (He.fAd K ("_law_path", none)) := T.c.def_ 10 rfl
theorem F__law_between (T : Txt K mg w) : FnIs K "_law_between" "_law_between" s__law_between (He.fAd K ("_law_between", none)) := T.c.def_ 11 rfl
theorem F__law_asked (T : Txt K mg w) : FnIs K "_law_asked" "_law_asked" s__law_asked (He.fAd K ("_law_asked", none)) := T.c.def_ 12 rfl
theorem F_law (T : Txt K mg w) : FnIs K "law" "law" s_law (He.fAd K ("law", none)) := T.c.def_ 13 rfl
end
end Fk
namespace Fk
open PySem PySem.Spec PyProof.Rows L2 Fw
local macro_rules | `(tactic| walk_at "ev") => `(tactic| first
  | exact ev_var rfl
  | exact ev_c
  | exact rv_I0
  | exact rv_eq rfl
  | exact rv_ne rfl
  | exact rv_isN
  | exact rv_notN
  | exact ea_nil
  | exact rc_int
  | exact rv_ixL (by assumption) (by first | assumption | rfl)
  | exact rv_ixT (by assumption) (by first | assumption | rfl)
  | exact rc_len (by assumption)
  | exact rc_lenT (by assumption)
  | exact rv_I (by first | assumption | (constructor <;> decide) | decide)
  | exact rv_I (.inr (by constructor <;> decide))
  | exact ru_U
  | assumption
  | (refine' ev_op ?a ?b ?c; (case a => walk_at "ev"); (case b => walk_at "ev"); (case c => walk_at "ev"))
  | (refine' ea_cons ?a ?b; (case a => walk_at "ev"); (case b => walk_at "ev"))
  | (refine' et_test ?a; (case a => walk_at "ev"))
  | (refine' et_B ?a; (case a => walk_at "ev"))
  | (refine' et_not ?a; (case a => walk_at "ev"))
  | (refine' ev_notV ?a; (case a => walk_at "ev"))
  | (refine' ev_un ?a ?b; (case a => walk_at "ev"); (case b => walk_at "ev"))
  | (refine' ev_cb ?a ?b; (case a => walk_at "ev"); (case b => walk_at "ev"))
  | (refine' et_and ?a (fun hand => ?b); (case a => walk_at "ev"); (case b => walk_at "ev"))
  | (refine' et_or ?a (fun hor => ?b); (case a => walk_at "ev"); (case b => walk_at "ev"))
  | (refine' ev_andV ?a (fun hand => ?b); (case a => walk_at "ev"); (case b => walk_at "ev"))
  | (refine' ev_orV ?a (fun hor => ?b); (case a => walk_at "ev"); (case b => walk_at "ev")))
local macro_rules | `(tactic| walk_at "asg") => `(tactic| (first | (refine' s_asg ?a ?b; (case a => walk_at "ev"); dsimp only [List.set]) | (refine' s_asg1 ?a ?b; (case a => walk_at "ev"); dsimp only [List.set])))
local macro_rules | `(tactic| walk_at "if") => `(tactic| (first | (refine' s_if ?a ?b ?c; (case a => walk_at "ev")) | (refine' s_ifc ?a ?b ?c; (case a => walk_at "ev")) | (refine' s_if1 ?a ?b ?c; (case a => walk_at "ev"))))
local macro_rules | `(tactic| walk_at "ret") => `(tactic| (refine' s_ret ?a ?b; (case a => walk_at "ev")))
local macro_rules | `(tactic| walk_at "setL") => `(tactic| (first | (refine' s_setL ?a ?b ?c ?d ?e ?f ?g; (case a => walk_at "ev"); (case b => walk_at "ev"); (case c => walk_at "ev"); (case d => first | assumption | exact upd_same); (case e => first | rfl | assumption); (case f => first | assumption | exact sx_none); (try rw [upd_upd]); dsimp only [List.set]) | (refine' s_setL1 ?a ?b ?c ?d ?e ?f ?g; (case a => walk_at "ev"); (case b => walk_at "ev"); (case c => walk_at "ev"); (case d => first | assumption | exact upd_same); (case e => first | rfl | assumption); (case f => first | assumption | exact sx_none); (try rw [upd_upd]); dsimp only [List.set])))
section
variable {P : Program} {w : World} {K : PySem.W.Frag} {mg : Str → Option Value} {base : Heap}
/-! fits_side -/
theorem ok_fits_side (T : Txt K mg w) : Ok P w K mg base CX0 1 (He.fAd K ("fits_side", none)) ["up", "down", "side"] (sp_x a_fits) := by
  refine okD (F_fits_side T) sc_fits_side (fun _ _ _ _ _ _ us hl => match us, hl with | [_, _, _], _ => rfl) (fun vs H Q E h => ?_) (fun cdv A outer s H vs Q E hr h => ?_)
  · obtain ⟨S, PP, ⟨rfl, u, d, s, rfl, rfl⟩, _⟩ := h; rfl
  · obtain ⟨S, PP, ⟨rfl, u, d, s, rfl, rfl⟩, _, k⟩ := h
    refine ⟨_, (pss_cons (ps_if (PW.pt (pw_or (pt_cmpR op_eq (pv 0) pe_int (nomark _)) (pw_or1 (pt_cmpR op_eq (pv 1) pe_int (nomark _)))))
      (pss_one (ps_ret (pe_cmpR op_eq (pv 2) pe_str (nomark _))))
      pss_nil)
      (pss_one (ps_ret (pe_or (pe_cmpR op_eq (pv 2) pe_str (nomark _)) (pe_one (pe_cmpR op_eq (pv 2) pe_str (nomark _))))))), ?_⟩
    refine go (K := K) (σ' := [some (.int u), some (.int d), some (.str s)]) rfl ?_
    walk_at "if"
    · intro h1
      refine s_ret (by walk_at "ev") fun H1 e => k _ _ e ?_
      rw [show fitsB u d s = decide (s = "line") by unfold fitsB; rw [if_pos (by simpa using h1)]]
      simp
    · intro h1
      refine s_next (s_ret (by walk_at "ev") fun H1 e => k _ _ e ?_)
      rw [show fitsB u d s = (decide (s = "elder") || decide (s = "younger")) by unfold fitsB; rw [if_neg (by simp at h1; omega)]]
      simp
/-! Kin.__init__ -/
theorem ok_KinD__initD_ (T : Txt K mg w) : Ok P w K mg base CX0 2 (He.fAd K ("Kin", some "__init__")) ["self", "up", "down", "side"] (sp_init (He.ga K "Kin") a_kin) := by
  refine okD (F_KinD__initD_ T) sc_KinD__initD_ (fun _ _ _ _ _ _ us hl => match us, hl with | [_, _, _, _], _ => rfl) (fun vs H Q E h => ?_) (fun cdv A outer s H vs Q E hr h => ?_)
  · obtain ⟨x, dx, vs', fs, rfl, _, _, _, ⟨u, d, s, rfl, _⟩, _⟩ := h; rfl
  · obtain ⟨x, dx, vs', fs, rfl, hx, hdx, ne, ⟨u, d, s, rfl, v, rfl⟩, k⟩ := h
    refine ⟨_, (pss_cons (ps_if (PW.pt (pw_or (pt_not (pt_chain op_le op_le pe_int (pv 1) (conK K rfl (pv 0)))) (pw_or (pt_not (pt_chain op_le op_le pe_int (pv 2) (conK K rfl (pv 0)))) (pw_or1 (pt_not (pt_val (pe_callO (ok_fits_side T) (hr.mono (by first | decide | omega)) rfl (g_fits_side T) pass0 (pa_cons (pv 1) (pa_cons (pv 2) (pa_cons (pv 3) pa_nil))))))))))
      (pss_one ps_never)
      pss_nil)
      (pss_cons (ps_fldK K rfl (pv 0) (pv 1) rfl)
      (pss_cons (ps_fldK K rfl (pv 0) (pv 2) rfl)
      (pss_cons (ps_fldK K rfl (pv 0) (pv 3) rfl)
      (pss_cons (ps_fldK K rfl (pv 0) (pe_op op_add (pv 1) (pv 2)) rfl)
      (pss_one (ps_fldK K rfl (pv 0) (bmK K rfl PySem.F.plainAttrs_tuple PySem.F.slot_tuple_index PySem.F.type_tuple_index (mt_tindex K rfl) (pe_glob (v := V.ref (He.ga K "SIDES")) rfl (g_SIDES T) rfl) (pa_cons (pv 3) pa_nil)) rfl))))))), ?_⟩
    refine go (K := K) (σ' := [some (.ref x), some (.int u), some (.int d), some (.str s)]) rfl ?_
    obtain ⟨cu, con⟩ := con_Kin_MOST T
    have c := c_Kin T
    have ix : IA none H x (He.ga K "Kin") [] := ⟨⟨dx, hx⟩, sx_none⟩
    have most : ∀ {ta σ H1}, Ev K none ta σ H1 (.ref x) → Lx none H H1 → Ev K none (tCon K ta "MOST") σ H1 (.int 999) := fun h e => ev_con h (ix.mono e) c con rfl
    refine s_if (b := false) (et_is (et_or (et_not (et_test (ev_chain ev_c (ev_var rfl) rv_I0 (fun _ => most (ev_var rfl) Lx.rfl0) fun _ => rv_I0))) fun _ => et_or (et_not (et_test (ev_chain ev_c (ev_var rfl) rv_I0 (fun _ => most (ev_var rfl) Lx.rfl0) fun _ => rv_I0))) fun _ => et_not (et_B (ev_p0 (v := .bl (fitsB u d s)) (by walk_at "ev") fun _ _ => ⟨rfl, u, d, s, rfl, rfl⟩))) ?_) (fun z => nomatch z) (fun _ => s_next ?_)
    · simp [v.u0, v.u1, v.d0, v.d1, v.fit]
    obtain ⟨j, e1, e2, e3, e4, e5⟩ := side_at v.side
    refine s_fld hx sx_none c (fs' := [("up", .int u)]) (na_Kin_up T) (by simp) (ev_var rfl) (ev_var rfl) rfl ?_
    refine s_fld upd_same sx_none c (fs' := [("up", .int u), ("down", .int d)]) (na_Kin_down T) (by simp) (ev_var rfl) (ev_var rfl) rfl ?_
    rw [upd_upd]
    refine s_fld upd_same sx_none c (fs' := [("up", .int u), ("down", .int d), ("side", .str s)]) (na_Kin_side T) (by simp) (ev_var rfl) (ev_var rfl) rfl ?_
    rw [upd_upd]
    refine s_fld upd_same sx_none c (fs' := [("up", .int u), ("down", .int d), ("side", .str s), ("far", .int (u + d))]) (na_Kin_far T) (by simp) (ev_op (ev_var rfl) (ev_var rfl) rv_I0) (ev_var rfl) rfl ?_
    rw [upd_upd]
    refine s_fld1 upd_same sx_none c (na_Kin_rank T) (by simp) (ev_tindex ev_c (ud_SIDES T) (UA.of0 (u_SIDES T _)) (ev_var rfl) e3 rfl e2 e4 e5) (ev_var rfl) rfl fun H1 e => ?_
    rw [upd_upd] at e
    refine k _ ?_
    rw [show kinF u d s = ([("up", .int u), ("down", .int d), ("side", .str s), ("far", .int (u + d)), ("rank", .int (j : Int))] : List (Str × V)) by rw [← e1]; rfl]
    exact e
/-! Kin.between -/
theorem sqI_n {S : Dst} {H : Hp} {p : Addr} {ns : List Int} {H1 : Hp} (h : SqI K H p ns) (e : Lx none H H1) : SqI K H1 p ns := h.imp (fun z => ((LA.of0 z).mono e).q) (fun z => ((UA.of0 z).mono e).q)
theorem at_ints {ns : List Int} {i : Nat} {x : Int} (h : ns[i]? = some x) : atI (ns.map V.int) (i : Int) = some (.int x) := at_of rfl (by rw [List.getElem?_map, h]; rfl)
theorem ok_Kin_between (T : Txt K mg w) : Ok P w K mg base CX0 4 (He5.wf K (He.ga K "Kin") "staticmethod" "between") ["first", "second"] (sp_x (a_between K)) := by
  refine okD (F_Kin_between T) sc_Kin_between (fun _ _ _ _ _ _ us hl => match us, hl with | [_, _], _ => rfl) (fun vs H Q E h => ?_) (fun cdv A outer s H vs Q E hr h => ?_)
  · obtain ⟨S, PP, ⟨rfl, p, q, xs, ys, rfl, _⟩, _⟩ := h; rfl
  · obtain ⟨S, PP, ⟨rfl, p, q, xs, ys, rfl, hx, hy, l1, l2, rfl⟩, _, k⟩ := h
    refine ⟨_, (pss_cons (ps_set (i := 2) sc_Kin_between.nd rfl (Or.inl rfl) pe_int)
      (pss_cons (ps_while PassesOwn.never (PW.pt (pw_and (pt_cmpR op_lt (pv 2) (pe_callB (lenK K rfl) (by rfl) (n_len T) (by decide +kernel) (pa_cons (pv 0) pa_nil)) (nomark _)) (pw_and (pt_cmpR op_lt (pv 2) (pe_callB (lenK K rfl) (by rfl) (n_len T) (by decide +kernel) (pa_cons (pv 1) pa_nil)) (nomark _)) (pw_and1 (pt_cmpR op_eq (pe_ix (ixQ K rfl) (pv 0) (pv 2) (fun _ _ => rfl)) (pe_ix (ixQ K rfl) (pv 1) (pv 2) (fun _ _ => rfl)) (nomark _))))))
      (pss_one (ps_aug (i := 2) sc_Kin_between.nd rfl (Or.inl rfl) pe_int ip_add)))
      (pss_cons (ps_set (i := 3) sc_Kin_between.nd rfl (Or.inl rfl) (pe_op op_sub (pe_callB (lenK K rfl) (by rfl) (n_len T) (by decide +kernel) (pa_cons (pv 0) pa_nil)) (pv 2)))
      (pss_cons (ps_set (i := 4) sc_Kin_between.nd rfl (Or.inl rfl) (pe_op op_sub (pe_callB (lenK K rfl) (by rfl) (n_len T) (by decide +kernel) (pa_cons (pv 1) pa_nil)) (pv 2)))
      (pss_cons (ps_if (PW.pt (pw_or (pt_cmpR op_eq (pv 3) pe_int (nomark _)) (pw_or1 (pt_cmpR op_eq (pv 4) pe_int (nomark _)))))
      (pss_one (ps_ret (pe_makeO (M_Kin T) (ok_KinD__initD_ T) (hr.mono (by first | decide | omega)) rfl (g_Kin T) pass0 (pa_cons (pv 3) (pa_cons (pv 4) (pa_cons pe_str pa_nil))))))
      pss_nil)
      (pss_cons (ps_if (pt_cmpR op_lt (pe_ix (ixQ K rfl) (pv 1) (pv 2) (fun _ _ => rfl)) (pe_ix (ixQ K rfl) (pv 0) (pv 2) (fun _ _ => rfl)) (nomark _))
      (pss_one (ps_ret (pe_makeO (M_Kin T) (ok_KinD__initD_ T) (hr.mono (by first | decide | omega)) rfl (g_Kin T) pass0 (pa_cons (pv 3) (pa_cons (pv 4) (pa_cons pe_str pa_nil))))))
      pss_nil)
      (pss_one (ps_ret (pe_makeO (M_Kin T) (ok_KinD__initD_ T) (hr.mono (by first | decide | omega)) rfl (g_Kin T) pass0 (pa_cons (pv 3) (pa_cons (pv 4) (pa_cons pe_str pa_nil)))))))))))), ?_⟩
    refine go (K := K) (σ' := [some (.ref p), some (.ref q), none, none, none]) rfl ?_
    refine s_asg ev_c ?_
    dsimp only [List.set]
    have c1 := cp_l xs ys
    have c2 := cp_r xs ys
    have lenV : ∀ {te : TE} {σ : L2.St} {H1 : Hp} {a : Addr} {ns : List Int}, Ev K none te σ H1 (.ref a) → SqI K H1 a ns → Ev K none (tCB (rLn K) (tCons te tNil)) σ H1 (.int (ns.length : Int)) := fun h s => ev_is (ev_cb (ea_cons h ea_nil) (rc_lenLU s sx_none)) (by rw [List.length_map])
    have kv := bkv l1 l2
    refine s_whileN (fun m σ' H' => Lx none H H' ∧ ∃ i : Nat, m = cp xs ys - i ∧ i ≤ cp xs ys ∧ σ' = [some (.ref p), some (.ref q), some (.int (i : Int)), none, none]) _ (fun H1 e => ⟨e, 0, rfl, Nat.zero_le _, rfl⟩) (fun _ _ _ z => Lx.rfl0) ?_
    rintro m σ' H' ⟨e, i, rfl, hi, rfl⟩
    have gx := sqI_n (S := none) hx e
    have gy := sqI_n (S := none) hy e
    refine ⟨decide ((i : Int) < (xs.length : Int)) && (decide ((i : Int) < (ys.length : Int)) && decide (i < cp xs ys)), ?_, fun hb => ?_, fun hb => ?_⟩
    · refine et_and (et_test (ev_op (ev_var rfl) (lenV (ev_var rfl) gx) rv_I0)) fun h1 => et_and (et_test (ev_op (ev_var rfl) (lenV (ev_var rfl) gy) rv_I0)) fun h2 => ?_
      have i1 : i < xs.length := by have := of_decide_eq_true h1; omega
      have i2 : i < ys.length := by have := of_decide_eq_true h2; omega
      have g1 := List.getElem?_eq_getElem i1
      have g2 := List.getElem?_eq_getElem i2
      refine et_test (ev_is (ev_op (ev_op (ev_var rfl) (ev_var rfl) (rv_ix gx sx_none (at_ints g1))) (ev_op (ev_var rfl) (ev_var rfl) (rv_ix gy sx_none (at_ints g2))) (rv_eq rfl)) ?_)
      have z : (xs[i] = ys[i]) ↔ i < cp xs ys := by
        constructor
        · intro e
          rcases Nat.lt_or_ge i (cp xs ys) with h | h
          · exact h
          · have : i = cp xs ys := by omega
            exact absurd e (cp_ne (xs := xs) (ys := ys) (by rw [← this]; exact g1) (by rw [← this]; exact g2))
        · intro h
          obtain ⟨x, a, b⟩ := cp_eq h
          rw [g1] at a; rw [g2] at b
          cases a
          exact (Option.some.inj b).symm
      simp [z]
    · have hlt : i < cp xs ys := by simp at hb; omega
      exact s_aug1 rfl ev_c fun H1 e1 => ⟨_, by omega, e.trans e1, i + 1, rfl, hlt, by simp⟩
    · have hi2 : i = cp xs ys := by simp at hb; omega
      subst hi2
      refine s_asg (ev_op (lenV (ev_var rfl) gx) (ev_var rfl) rv_I0) ?_
      dsimp only [List.set]
      refine s_asg (ev_op (lenV (ev_var rfl) gy) (ev_var rfl) rv_I0) ?_
      dsimp only [List.set]
      have fin : ∀ {s : Str} {te : TE} {σ : L2.St}, bs xs ys = s → Ev K none te σ H' (.str s) → ∀ {t1 t2 : TE}, Ev K none t1 σ H' (.int (bu xs ys)) → Ev K none t2 σ H' (.int (bd xs ys)) → EvX K none (StX.tMakeR (He.ga K "Kin") (sp_init (He.ga K "Kin") a_kin) E0 (tCons t1 (tCons t2 (tCons te tNil)))) σ H' (NewI none H' (He.ga K "Kin") (kinF (bu xs ys) (bd xs ys) (bs xs ys))) := by
        intro s te σ hs h3 t1 t2 h1 h2
        subst hs
        exact ex_make (ea_cons h1 (ea_cons h2 (ea_cons h3 ea_nil))) (fun _ _ => ⟨_, _, _, rfl, kv, rfl⟩) (fun _ _ _ _ _ _ q => q)
      have done : ∀ v H1, Lx none H' H1 → NewI none H' (He.ga K "Kin") (kinF (bu xs ys) (bd xs ys) (bs xs ys)) v H1 → Q v H1 := fun v H1 e1 pp => k _ _ (e.trans e1) (newI_up e pp)
      walk_at "if"
      · intro hb
        refine s_retX (fin (s := "line") ?_ ev_c (ev_var rfl) (ev_var rfl)) done
        unfold bs
        rw [if_pos (by simpa [bu, bd] using hb)]
      intro hb
      have hb' : ¬ (bu xs ys = 0 ∨ bd xs ys = 0) := by simpa [bu, bd] using hb
      have n1 : cp xs ys < xs.length := by unfold bu at hb'; omega
      have n2 : cp xs ys < ys.length := by unfold bd at hb'; omega
      have g1 := List.getElem?_eq_getElem n1
      have g2 := List.getElem?_eq_getElem n2
      refine s_next ?_
      refine s_if (et_test (ev_op (ev_op (ev_var rfl) (ev_var rfl) (rv_ix gy sx_none (at_ints g2))) (ev_op (ev_var rfl) (ev_var rfl) (rv_ix gx sx_none (at_ints g1))) rv_I0)) (fun h3 => ?_) (fun h3 => s_next ?_)
      · refine s_retX (fin (s := "elder") ?_ ev_c (ev_var rfl) (ev_var rfl)) done
        unfold bs
        rw [if_neg hb', List.getD_eq_getElem?_getD, List.getD_eq_getElem?_getD, g1, g2]
        exact if_pos (of_decide_eq_true h3)
      · refine s_retX (fin (s := "younger") ?_ ev_c (ev_var rfl) (ev_var rfl)) done
        unfold bs
        rw [if_neg hb', List.getD_eq_getElem?_getD, List.getD_eq_getElem?_getD, g1, g2]
        exact if_neg (of_decide_eq_false h3)
/-! _law_start -/
theorem ok__law_start (T : Txt K mg w) : Ok P w K mg base CX0 1 (He.fAd K ("_law_start", none)) ["script"] (sp_start K) := by
  refine okD (F__law_start T) sc__law_start (fun _ _ _ _ _ _ us hl => match us, hl with | [_], _ => rfl) (fun vs H Q E h => ?_) (fun cdv A outer s H vs Q E hr h => ?_)
  · obtain ⟨a, ns, rfl, _⟩ := h; rfl
  · obtain ⟨a, ns, rfl, hS, k⟩ := h
    refine ⟨_, (pss_one (ps_ret (pe_lst (pa_cons (pe_callTy (listK K rfl) (by rfl) (n_list T) (by decide +kernel) (pa_cons (pv 0) pa_nil)) (pa_cons pe_int (pa_cons pe_int (pa_cons pe_int (pa_cons pe_int pa_nil)))))))), ?_⟩
    refine go (K := K) (σ' := [some (.ref a)]) rfl ?_
    refine s_retX (ex_lstX (PA := fun vs H2 => ∃ l, vs = [.ref l, .int 0, .int 0, .int 0, .int 0] ∧ H l = none ∧ H2 l = some (.lst (ns.map V.int))) ?_ ?_) ?_
    · refine eax_cons (ex_cb (ea_cons (ev_var rfl) ea_nil) (rc_list (LA.of0 hS))) ?_
      rintro v H1 e ⟨l, rfl, hl, _, hl1⟩
      exact (EvA.toX (vs := [.int 0, .int 0, .int 0, .int 0]) (by walk_at "ev")).imp fun vs H2 e2 q => ⟨l, by rw [q], hl, (e2.1 _ _ sx_none hl1)⟩
    · rintro vs H2 ⟨l, rfl, _⟩
      show 5 ≤ sizeLine
      decide
    · rintro v H1 e ⟨vs, H3, ⟨l, rfl, hl, hl1⟩, e3, e4, p, rfl, hp, _, hp1⟩
      exact k p l H1 hp hl e.same ⟨ns, 0, 0, 0, 0, hp1, by decide, e4.1 _ _ sx_none hl1⟩
/-! _law_draw -/
theorem ok__law_draw (T : Txt K mg w) : Ok P w K mg base CX0 1 (He.fAd K ("_law_draw", none)) ["state", "many"] (sp_draw) := by
  refine okD (F__law_draw T) sc__law_draw (fun _ _ _ _ _ _ us hl => match us, hl with | [_, _], _ => rfl) (fun vs H Q E h => ?_) (fun cdv A outer s H vs Q E hr h => ?_)
  · obtain ⟨st, l, m, rfl, _⟩ := h; rfl
  · obtain ⟨st, l, m, rfl, m0, m1, ⟨ns, p, c, n, b, hst, hp0, hl⟩, k⟩ := h
    have nl : ∀ (H' : Hp) (p c n b : Int), H' st = some (.lst [.ref l, .int p, .int c, .int n, .int b]) → H' l = some (.lst (ns.map V.int)) → l ≠ st := fun H' p c n b h1 h2 z => by
      subst z
      rw [h1] at h2
      have z2 := congrArg (fun o => match o with | some (HO.lst (x :: _)) => x | _ => .non) h2
      cases ns with
      | nil => exact nomatch z2
      | cons y r => exact nomatch z2
    have nls := nl H p c n b hst hl
    -- what holds all the while
    let D5 : Hp → Int → Int → Int → Int → Prop := fun H' p c n b => H' st = some (.lst [.ref l, .int p, .int c, .int n, .int b]) ∧ 0 ≤ p ∧ H' l = some (.lst (ns.map V.int)) ∧ ∀ b o, b ≠ st → H b = some o → H' b = some o
    have d0 : D5 H p c n b := ⟨hst, hp0, hl, fun _ _ _ e => e⟩
    have dx : ∀ {H1 H2 p c n b}, D5 H1 p c n b → Lx none H1 H2 → D5 H2 p c n b := fun d e => ⟨e.1 _ _ sx_none d.1, d.2.1, e.1 _ _ sx_none d.2.2.1, fun b o nb eb => e.1 _ _ sx_none (d.2.2.2 b o nb eb)⟩
    have du : ∀ {H1 p c n b} (p' c' n' b' : Int), D5 H1 p c n b → 0 ≤ p' → D5 (upd H1 st (.lst [.ref l, .int p', .int c', .int n', .int b'])) p' c' n' b' := fun p' c' n' b' d h => ⟨upd_same, h, by rw [upd_ne nls]; exact d.2.2.1, fun b o nb eb => by rw [upd_ne nb]; exact d.2.2.2 b o nb eb⟩
    have fin : ∀ (r p c n b : Int) H1, 0 ≤ r → r < m → D5 H1 p c n b → Q (.int r) H1 := fun r p c n b H1 r0 r1 d => k r H1 r0 r1 ⟨ns, p, c, n, b, d.1, d.2.1, d.2.2.1⟩ d.2.2.2
    have LS : ∀ {H1 p c n b}, D5 H1 p c n b → LA K none H1 st [.ref l, .int p, .int c, .int n, .int b] := fun d => LA.of d.1 sx_none
    have LN : ∀ {H1 p c n b}, D5 H1 p c n b → LA K none H1 l (ns.map V.int) := fun d => LA.of d.2.2.1 sx_none
    have mpos : ∀ i : Int, 0 ≤ i % m ∧ i % m < m := fun i => ⟨Int.emod_nonneg _ (by omega), Int.emod_lt_of_pos _ m0⟩
    refine ⟨_, (Evl.pss_cut (ps_if (pt_cmpR op_eq (pe_ix (ixL K rfl) (pv 0) pe_int (fun _ _ => rfl)) pe_int (nomark _))
      (pss_cons (ps_if (pt_cmpR op_ge (pe_ix (ixL K rfl) (pv 0) pe_int (fun _ _ => rfl)) (pe_callB (lenK K rfl) (by rfl) (n_len T) (by decide +kernel) (pa_cons (pe_ix (ixL K rfl) (pv 0) pe_int (fun _ _ => rfl)) pa_nil)) (nomark _))
      (pss_one (ps_ret pe_int))
      pss_nil)
      (pss_cons (ps_asg (pe_ix (ixL K rfl) (pe_ix (ixL K rfl) (pv 0) pe_int (fun _ _ => rfl)) (pe_ix (ixL K rfl) (pv 0) pe_int (fun _ _ => rfl)) (fun _ _ => rfl)) (pg_sub (pv 0) pe_int set_list))
      (pss_cons (ps_asg (pe_op op_add (pe_ix (ixL K rfl) (pv 0) pe_int (fun _ _ => rfl)) pe_int) (pg_sub (pv 0) pe_int set_list))
      (pss_cons (ps_asg pe_int (pg_sub (pv 0) pe_int set_list))
      (pss_cons (ps_asg pe_int (pg_sub (pv 0) pe_int set_list))
      (pss_one (ps_if (pt_cmpR op_ge (pe_ix (ixL K rfl) (pv 0) pe_int (fun _ _ => rfl)) (pe_op op_pow pe_int pe_int) (nomark _))
      (pss_cons (ps_asg pe_int (pg_sub (pv 0) pe_int set_list))
      (pss_one (ps_asg pe_int (pg_sub (pv 0) pe_int set_list))))
      pss_nil)))))))
      pss_nil)
      (pss_cons (ps_asg (pe_op op_sub (pe_ix (ixL K rfl) (pv 0) pe_int (fun _ _ => rfl)) pe_int) (pg_sub (pv 0) pe_int set_list))
      (pss_cons (ps_if (pt_cmpR op_eq (pe_ix (ixL K rfl) (pv 0) pe_int (fun _ _ => rfl)) pe_int (nomark _))
      (pss_cons (ps_set (i := 2) sc__law_draw.nd rfl (Or.inl rfl) (pe_op op_mod (pe_callTy callInt (by rfl) (n_int T) (by decide +kernel) (pa_cons (pe_ix (ixL K rfl) (pv 0) pe_int (fun _ _ => rfl)) pa_nil)) (pv 1)))
      (pss_cons (ps_asg (pe_op op_fdiv (pe_callTy callInt (by rfl) (n_int T) (by decide +kernel) (pa_cons (pe_ix (ixL K rfl) (pv 0) pe_int (fun _ _ => rfl)) pa_nil)) (pv 1)) (pg_sub (pv 0) pe_int set_list))
      (Evl.pss_cut (ps_if (pt_cmpR op_eq (pe_ix (ixL K rfl) (pv 0) pe_int (fun _ _ => rfl)) pe_int (nomark _))
      (pss_one (ps_asg pe_int (pg_sub (pv 0) pe_int set_list)))
      pss_nil)
      (pss_one (ps_ret (pv 2))))))
      pss_nil)
      (pss_cons (ps_set (i := 3) sc__law_draw.nd rfl (Or.inl rfl) (pe_op op_mod (pe_callTy callInt (by rfl) (n_int T) (by decide +kernel) (pa_cons (pe_op op_add (pe_op op_add (pe_op op_mul (pe_ix (ixL K rfl) (pv 0) pe_int (fun _ _ => rfl)) pe_int) (pe_op op_mul (pe_ix (ixL K rfl) (pv 0) pe_int (fun _ _ => rfl)) pe_int)) pe_int) pa_nil)) pe_int))
      (pss_cons (ps_set (i := 3) sc__law_draw.nd rfl (Or.inl rfl) (pe_op op_mod (pe_callTy callInt (by rfl) (n_int T) (by decide +kernel) (pa_cons (pe_op op_add (pe_op op_add (pe_op op_mul (pv 3) pe_int) (pe_op op_fdiv (pv 3) pe_int)) pe_int) pa_nil)) pe_int))
      (pss_one (ps_ret (pe_op op_mod (pe_callTy callInt (by rfl) (n_int T) (by decide +kernel) (pa_cons (pv 3) pa_nil)) (pv 1))))))))), ?_⟩
    refine go (K := K) (σ' := [some (.ref st), some (.int m), none, none]) rfl ?_
    have L1 := LS d0
    have L1n := LN d0
    refine s_ifJ (fun σ' H' => σ' = [some (.ref st), some (.int m), none, none] ∧ ∃ p c n b, D5 H' p c n b) (fun _ _ _ => Lx.rfl0) (by walk_at "ev") (fun _ => ?_) (fun _ => s_nx fun H1 e => ⟨rfl, _, _, _, _, dx d0 e⟩) ?_
    · walk_at "if"
      · intro _
        exact s_ret ev_c fun H1 e => fin 0 _ _ _ _ H1 (by omega) m0 (dx d0 e)
      · intro hlt
        refine s_next ?_
        have hlt' : p < (ns.length : Int) := by
          have z := of_decide_eq_false hlt
          simp only [List.length_map] at z
          omega
        obtain ⟨y, hy⟩ : ∃ y, ns[p.toNat]? = some y := ⟨_, List.getElem?_eq_getElem (by omega)⟩
        have hat : atI (ns.map V.int) p = some (.int y) := at_of (j := p.toNat) (by omega) (by rw [List.getElem?_map, hy]; rfl)
        refine s_setL (v := .int y) (ev_op (ev_op (by walk_at "ev") ev_c (rv_ixL L1 rfl)) (ev_op (by walk_at "ev") ev_c (rv_ixL L1 rfl)) (rv_ixL L1n hat)) (by walk_at "ev") (by walk_at "ev") d0.1 rfl sx_none ?_
        try dsimp only [List.set]
        have d1 := du p y n b d0 hp0
        have L2' := LS d1
        refine s_setL (ev_op (ev_op (ev_var rfl) ev_c (rv_ixL L2' rfl)) ev_c rv_I0) (by walk_at "ev") (by walk_at "ev") d1.1 rfl sx_none ?_
        try dsimp only [List.set]
        have d2 := du (p + 1) y n b d1 (by omega)
        refine s_setL (by walk_at "ev") (by walk_at "ev") (by walk_at "ev") d2.1 rfl sx_none ?_
        try dsimp only [List.set]
        have d3 := du (p + 1) y 10 b d2 (by omega)
        refine s_setL (by walk_at "ev") (by walk_at "ev") (by walk_at "ev") d3.1 rfl sx_none ?_
        try dsimp only [List.set]
        have d4 := du (p + 1) y 10 0 d3 (by omega)
        have L4 := LS d4
        refine s_if1 (et_test (ev_op (ev_op (ev_var rfl) ev_c (rv_ixL L4 rfl)) (ev_op ev_c ev_c (rv_I ⟨by decide, by decide, by decide⟩)) rv_I0)) (fun _ => ?_) (fun _ => s_nx fun H1 e => ⟨rfl, _, _, _, _, dx d4 e⟩)
        refine s_setL (by walk_at "ev") (by walk_at "ev") (by walk_at "ev") d4.1 rfl sx_none ?_
        have d5 := du (p + 1) y 60 0 d4 (by omega)
        refine s_setL1 (by walk_at "ev") (by walk_at "ev") (by walk_at "ev") d5.1 rfl sx_none fun H1 e => ?_
        exact ⟨rfl, _, _, _, _, dx (du (p + 1) y 60 1 d5 (by omega)) e⟩
    · clear L1 L1n d0 hl hst
      rintro σ' H' ⟨rfl, p, c, n, b, d0⟩
      have L1 := LS d0
      refine s_setL (ev_op (ev_op (ev_var rfl) ev_c (rv_ixL L1 rfl)) ev_c rv_I0) (by walk_at "ev") (by walk_at "ev") d0.1 rfl sx_none ?_
      try dsimp only [List.set]
      have d1 := du p c (n - 1) b d0 d0.2.1
      have L1 := LS d1
      refine s_if (et_test (ev_op (ev_op (ev_var rfl) ev_c (rv_ixL L1 rfl)) ev_c (rv_eq rfl))) (fun _ => ?_) (fun _ => s_next ?_)
      · refine s_asg (ev_op (ev_cb (ea_cons (ev_op (ev_var rfl) ev_c (rv_ixL L1 rfl)) ea_nil) rc_int) (ev_var rfl) (rv_I m0)) ?_
        try dsimp only [List.set]
        refine s_setL (ev_op (ev_cb (ea_cons (ev_op (ev_var rfl) ev_c (rv_ixL L1 rfl)) ea_nil) rc_int) (ev_var rfl) (rv_I ⟨m0, m1⟩)) (by walk_at "ev") (by walk_at "ev") d1.1 rfl sx_none ?_
        try dsimp only [List.set]
        have d2 := du p (c / m) (n - 1) b d1 d1.2.1
        have L3 := LS d2
        refine s_ifJ (fun σ' H' => σ' = [some (.ref st), some (.int m), some (.int (c % m)), none] ∧ ∃ p c n b, D5 H' p c n b) (fun _ _ _ => Lx.rfl0) (et_test (ev_op (ev_op (ev_var rfl) ev_c (rv_ixL L3 rfl)) ev_c (rv_eq rfl))) (fun _ => ?_) (fun _ => s_nx fun H1 e => ⟨rfl, _, _, _, _, dx d2 e⟩) ?_
        · refine s_setL1 (by walk_at "ev") (by walk_at "ev") (by walk_at "ev") d2.1 rfl sx_none fun H1 e => ?_
          exact ⟨rfl, _, _, _, _, dx (du _ _ _ _ d2 d2.2.1) e⟩
        · rintro σ' H' ⟨rfl, _, _, _, _, d3⟩
          exact s_ret (ev_var rfl) fun H1 e => fin _ _ _ _ _ H1 (mpos _).1 (mpos _).2 (dx d3 e)
      · refine s_asg (ev_op (ev_cb (ea_cons (ev_op (ev_op (ev_op (ev_op (ev_var rfl) ev_c (rv_ixL L1 rfl)) ev_c (rv_I (.inr (by decide)))) (ev_op (ev_op (ev_var rfl) ev_c (rv_ixL L1 rfl)) ev_c (rv_I (.inr (by decide)))) rv_I0) ev_c rv_I0) ea_nil) rc_int) ev_c (rv_I (by decide))) ?_
        try dsimp only [List.set]
        refine s_asg (ev_op (ev_cb (ea_cons (ev_op (ev_op (ev_op (ev_var rfl) ev_c (rv_I (.inr (by decide)))) (ev_op (ev_var rfl) ev_c (rv_I ⟨by decide, by decide⟩)) rv_I0) ev_c rv_I0) ea_nil) rc_int) ev_c (rv_I (by decide))) ?_
        try dsimp only [List.set]
        exact s_ret (ev_op (ev_cb (ea_cons (ev_var rfl) ea_nil) rc_int) (ev_var rfl) (rv_I m0)) fun H2 e2 => fin _ _ _ _ _ H2 (mpos _).1 (mpos _).2 (dx d1 e2)
/-! _law_is_number -/
theorem ok__law_is_number (T : Txt K mg w) : Ok P w K mg base CX0 1 (He.fAd K ("_law_is_number", none)) ["actual"] (sp_isnum) := by
  refine okD (F__law_is_number T) sc__law_is_number (fun _ _ _ _ _ _ us hl => match us, hl with | [_], _ => rfl) (fun vs H Q E h => ?_) (fun cdv A outer s H vs Q E hr h => ?_)
  · obtain ⟨x, d, rfl, _⟩ := h; rfl
  · obtain ⟨x, d, rfl, r, k⟩ := h
    refine ⟨_, (pss_one (ps_ret (pe_and (pe_callB (isiK K rfl) (by rfl) (n_isinstance T) (by decide +kernel) (pa_cons (pv 0) (pa_cons (pe_bltn (v := .ty "int") (by rfl) (n_int T) (by decide +kernel) rfl) pa_nil))) (pe_one (pe_not (pe_callB (isiK K rfl) (by rfl) (n_isinstance T) (by decide +kernel) (pa_cons (pv 0) (pa_cons (pe_bltn (v := .ty "bool") (by rfl) (n_bool T) (by decide +kernel) rfl) pa_nil)))))))), ?_⟩
    refine go (K := K) (σ' := [some x]) rfl ?_
    have key : ∃ a b, kitB (tyD d) "int" = some a ∧ kitB (tyD d) "bool" = some b ∧ (a && !b) = isNumD d := by
      cases d with
      | none => exact ⟨false, false, kD "NoneType" rfl (by decide +kernel), kD "NoneType" rfl (by decide +kernel), rfl⟩
      | bool _ => exact ⟨true, true, kD "bool" rfl (by decide +kernel), kD "bool" rfl (by decide +kernel), rfl⟩
      | int _ => exact ⟨true, false, kD "int" rfl (by decide +kernel), kD "int" rfl (by decide +kernel), rfl⟩
      | str _ => exact ⟨false, false, kD "str" rfl (by decide +kernel), kD "str" rfl (by decide +kernel), rfl⟩
      | list _ => exact ⟨false, false, kD "list" rfl (by decide +kernel), kD "list" rfl (by decide +kernel), rfl⟩
      | tuple _ => exact ⟨false, false, kD "tuple" rfl (by decide +kernel), kD "tuple" rfl (by decide +kernel), rfl⟩
      | dict _ => cases r
    obtain ⟨a, b, ka, kb, e⟩ := key
    refine s_ret (ev_andV (ev_isi (ev_var rfl) r ka) fun _ => ev_notV (ev_isi (ev_var rfl) r kb)) fun H1 e1 => ?_
    rw [e]
    exact k _ e1
/-! _law_same -/
/-- the reading of the walk over the items -/
theorem same_loop {Q : VK} {H H' : Hp} {a b : Addr} {xs ys : List V} {ds : List PyData} {n : Nat} (hd : PyData.depthAll ds < n) (h4 : RpAll none H xs ds) (g4 : RpAll none H ys ds)
    (hx : (H a = some (.lst xs) ∧ H b = some (.lst ys)) ∨ (H a = some (.tup xs) ∧ H b = some (.tup ys))) (h3 : xs.length ≤ 100000) (g3 : ys.length ≤ 100000) (e : Lx none H H') (k : ∀ H', Lx none H H' → Q (.bl true) H') {D : Ends} (hD : D.rt = Q) :
    Fw.St K none (tSeq (tFor (iRng1 (tCons (tCB (rLn K) (tCons (tVar 1) tNil)) tNil)) (gName 2) (tIfS (tNot (tB (tCall (sp_same n) [] E0 (tCons (tOp (rIx K) (tVar 0) (tVar 2)) (tCons (tOp (rIx K) (tVar 1) (tVar 2)) tNil))))) (tRet (tC (.bl false))) tNext)) (tRet (tC (.bl true)))) D [some (.ref a), some (.ref b), none] H' := by
  have sx : SqL K H a xs ∨ SqT K H a xs := hx.imp (fun z => SqL.of z.1) (fun z => SqT.of z.1)
  have sy : SqL K H b ys ∨ SqT K H b ys := hx.imp (fun z => SqL.of z.2) (fun z => SqT.of z.2)
  have mv : ∀ {H1 p zs}, Lx none H H1 → (SqL K H p zs ∨ SqT K H p zs) → (SqL K H1 p zs ∨ SqT K H1 p zs) := fun e z => z.imp (fun z => ((LA.of0 z).mono e).q) (fun z => ((UA.of0 z).mono e).q)
  refine s_forRn (n := (ys.length : Int)) (ea_cons (ev_cb (ea_cons (ev_var rfl) ea_nil) (rc_lenLU (mv e sy) sx_none)) ea_nil) ⟨by omega, by omega⟩ (fun i σ' H1 => (∃ v, σ' = [some (.ref a), some (.ref b), v]) ∧ Lx none H H1) wf0 (fun H1 e1 => ⟨⟨_, rfl⟩, e.trans e1⟩) ?_ ?_
  · rintro i σ' H1 hi ⟨⟨v, rfl⟩, e1⟩
    dsimp only [List.set]
    have il : i < ds.length := by have := g4.length; omega
    obtain ⟨d, hdi⟩ : ∃ d, ds[i]? = some d := ⟨_, List.getElem?_eq_getElem il⟩
    obtain ⟨vx, hvx, rx⟩ := h4.get hdi
    obtain ⟨vy, hvy, ry⟩ := g4.get hdi
    have dep : d.depth < n := Nat.lt_of_le_of_lt (depth_mem hdi) hd
    refine s_if1 (b := false) (et_not (b := true) (et_B (ev_same (ev_op (ev_var rfl) (ev_var rfl) (rv_ix (mv e1 sx) sx_none (at_of rfl hvx))) (ev_op (ev_var rfl) (ev_var rfl) (rv_ix (mv e1 sy) sx_none (at_of rfl hvy))) (rx.m e1) (ry.m e1) dep))) (fun z => nomatch z) (fun _ => s_nx fun H2 e2 => ⟨⟨_, rfl⟩, e1.trans e2⟩)
  · rintro σ' H1 ⟨⟨v, rfl⟩, e1⟩
    refine s_ret ev_c fun H2 e2 => ?_
    rw [hD]
    exact k _ (e1.trans e2)
theorem same_body (T : Txt K mg w) (n : Nat) (IH : Ok P w K mg base CX0 (n + 1) (He.fAd K ("_law_same", none)) ["actual", "expected"] (sp_same n)) : Ok P w K mg base CX0 (n + 1 + 1) (He.fAd K ("_law_same", none)) ["actual", "expected"] (sp_same (n + 1)) := by
  refine okD (F__law_same T) sc__law_same (fun _ _ _ _ _ _ us hl => match us, hl with | [_, _], _ => rfl) (fun vs H Q E h => ?_) (fun cdv A outer s H vs Q E hr h => ?_)
  · obtain ⟨x, y, d, rfl, _⟩ := h; rfl
  · obtain ⟨x, y, d, rfl, hd, rx, ry, k⟩ := h
    refine ⟨_, (pss_cons (ps_if (pt_cmpR op_isN (pv 1) pe_non (nomark _))
      (pss_one (ps_ret (pe_cmpR op_isN (pv 0) pe_non (nomark _))))
      pss_nil)
      (pss_cons (ps_if (pt_val (pe_callB (isiK K rfl) (by rfl) (n_isinstance T) (by decide +kernel) (pa_cons (pv 1) (pa_cons (pe_bltn (v := .ty "bool") (by rfl) (n_bool T) (by decide +kernel) rfl) pa_nil))))
      (pss_one (ps_ret (pe_and (pe_callB (isiK K rfl) (by rfl) (n_isinstance T) (by decide +kernel) (pa_cons (pv 0) (pa_cons (pe_bltn (v := .ty "bool") (by rfl) (n_bool T) (by decide +kernel) rfl) pa_nil))) (pe_one (pe_cmpR op_eq (pv 0) (pv 1) (nomark _))))))
      pss_nil)
      (pss_cons (ps_if (pt_val (pe_callB (isiK K rfl) (by rfl) (n_isinstance T) (by decide +kernel) (pa_cons (pv 1) (pa_cons (pe_bltn (v := .ty "int") (by rfl) (n_int T) (by decide +kernel) rfl) pa_nil))))
      (pss_one (ps_ret (pe_and (pe_callO (ok__law_is_number T) (hr.mono (by first | decide | omega)) rfl (g__law_is_number T) pass0 (pa_cons (pv 0) pa_nil)) (pe_one (pe_cmpR op_eq (pv 0) (pv 1) (nomark _))))))
      pss_nil)
      (pss_cons (ps_if (pt_val (pe_callB (isiK K rfl) (by rfl) (n_isinstance T) (by decide +kernel) (pa_cons (pv 1) (pa_cons (pe_bltn (v := .ty "str") (by rfl) (n_str T) (by decide +kernel) rfl) pa_nil))))
      (pss_one (ps_ret (pe_and (pe_callB (isiK K rfl) (by rfl) (n_isinstance T) (by decide +kernel) (pa_cons (pv 0) (pa_cons (pe_bltn (v := .ty "str") (by rfl) (n_str T) (by decide +kernel) rfl) pa_nil))) (pe_one (pe_cmpR op_eq (pv 0) (pv 1) (nomark _))))))
      pss_nil)
      (Evl.pss_cut (ps_if (pt_val (pe_callB (isiK K rfl) (by rfl) (n_isinstance T) (by decide +kernel) (pa_cons (pv 1) (pa_cons (pe_bltn (v := .ty "list") (by rfl) (n_list T) (by decide +kernel) rfl) pa_nil))))
      (pss_one (ps_if (PW.pt (pw_or (pt_not (pt_val (pe_callB (isiK K rfl) (by rfl) (n_isinstance T) (by decide +kernel) (pa_cons (pv 0) (pa_cons (pe_bltn (v := .ty "list") (by rfl) (n_list T) (by decide +kernel) rfl) pa_nil))))) (pw_or1 (pt_cmpR op_ne (pe_callB (lenK K rfl) (by rfl) (n_len T) (by decide +kernel) (pa_cons (pv 0) pa_nil)) (pe_callB (lenK K rfl) (by rfl) (n_len T) (by decide +kernel) (pa_cons (pv 1) pa_nil)) (nomark _)))))
      (pss_one (ps_ret pe_bl))
      pss_nil))
      (pss_one (ps_if (PW.pt (pw_or (pt_not (pt_val (pe_callB (isiK K rfl) (by rfl) (n_isinstance T) (by decide +kernel) (pa_cons (pv 1) (pa_cons (pe_bltn (v := .ty "tuple") (by rfl) (n_tuple T) (by decide +kernel) rfl) pa_nil))))) (pw_or (pt_not (pt_val (pe_callB (isiK K rfl) (by rfl) (n_isinstance T) (by decide +kernel) (pa_cons (pv 0) (pa_cons (pe_bltn (v := .ty "tuple") (by rfl) (n_tuple T) (by decide +kernel) rfl) pa_nil))))) (pw_or1 (pt_cmpR op_ne (pe_callB (lenK K rfl) (by rfl) (n_len T) (by decide +kernel) (pa_cons (pv 0) pa_nil)) (pe_callB (lenK K rfl) (by rfl) (n_len T) (by decide +kernel) (pa_cons (pv 1) pa_nil)) (nomark _))))))
      (pss_one (ps_ret pe_bl))
      pss_nil)))
      (pss_cons (ps_for PassesOwn.never rfl (pi_range1 (by rfl) (n_range T) (pa_cons (pe_callB (lenK K rfl) (by rfl) (n_len T) (by decide +kernel) (pa_cons (pv 1) pa_nil)) pa_nil)) (pg_name (i := 2) sc__law_same.nd rfl (Or.inl rfl))
      (pss_one (ps_if (pt_not (pt_val (pe_callO IH hr rfl (g__law_same T) pass0 (pa_cons (pe_ix (ixQ K rfl) (pv 0) (pv 2) (fun _ _ => rfl)) (pa_cons (pe_ix (ixQ K rfl) (pv 1) (pv 2) (fun _ _ => rfl)) pa_nil)))))
      (pss_one (ps_ret pe_bl))
      pss_nil)))
      (pss_one (ps_ret pe_bl)))))))), ?_⟩
    refine go (K := K) (σ' := [some x, some y, none]) rfl ?_
    cases d with
    | dict _ => cases rx
    | none =>
      cases rx; cases ry
      refine s_if (b := true) (et_test (ev_op (ev_var rfl) ev_c rv_isN)) (fun _ => ?_) (fun z => nomatch z)
      exact s_ret (ev_op (ev_var rfl) ev_c rv_isN) fun H1 e => k _ e
    | bool b =>
      cases rx; cases ry
      refine s_if (b := false) (et_test (ev_op (ev_var rfl) ev_c rv_isN)) (fun z => nomatch z) (fun _ => s_next ?_)
      refine s_if (b := true) (et_B (ev_isi (ev_var rfl) (.bl b) (kD "bool" rfl (by decide +kernel)))) (fun _ => ?_) (fun z => nomatch z)
      refine s_ret (ev_andV (ev_isi (b := true) (ev_var rfl) (.bl b) (kD "bool" rfl (by decide +kernel))) fun _ => ev_op (ev_var rfl) (ev_var rfl) (rv_eq rfl)) fun H1 e => ?_
      rw [decide_eq_true rfl]
      exact k _ e
    | int b =>
      cases rx; cases ry
      refine s_if (b := false) (et_test (ev_op (ev_var rfl) ev_c rv_isN)) (fun z => nomatch z) (fun _ => s_next ?_)
      refine s_if (b := false) (et_B (ev_isi (ev_var rfl) (.int b) (kD "int" rfl (by decide +kernel)))) (fun z => nomatch z) (fun _ => s_next ?_)
      refine s_if (b := true) (et_B (ev_isi (ev_var rfl) (.int b) (kD "int" rfl (by decide +kernel)))) (fun _ => ?_) (fun z => nomatch z)
      refine s_ret (ev_andV (ev_isnum (ev_var rfl) (.int b)) fun _ => ev_op (ev_var rfl) (ev_var rfl) (rv_eq rfl)) fun H1 e => ?_
      rw [decide_eq_true rfl]
      exact k _ e
    | str b =>
      cases rx; cases ry
      refine s_if (b := false) (et_test (ev_op (ev_var rfl) ev_c rv_isN)) (fun z => nomatch z) (fun _ => s_next ?_)
      refine s_if (b := false) (et_B (ev_isi (ev_var rfl) (.str b) (kD "str" rfl (by decide +kernel)))) (fun z => nomatch z) (fun _ => s_next ?_)
      refine s_if (b := false) (et_B (ev_isi (ev_var rfl) (.str b) (kD "str" rfl (by decide +kernel)))) (fun z => nomatch z) (fun _ => s_next ?_)
      refine s_if (b := true) (et_B (ev_isi (ev_var rfl) (.str b) (kD "str" rfl (by decide +kernel)))) (fun _ => ?_) (fun z => nomatch z)
      refine s_ret (ev_andV (ev_isi (b := true) (ev_var rfl) (.str b) (kD "str" rfl (by decide +kernel))) fun _ => ev_op (ev_var rfl) (ev_var rfl) (rv_eq rfl)) fun H1 e => ?_
      rw [decide_eq_true rfl]
      exact k _ e
    | list ds =>
      have rx' := rx
      have ry' := ry
      cases rx with
      | @lst a xs _ h1 _ h3 h4 => cases ry with
        | @lst b ys _ g1 _ g3 g4 =>
          refine s_if (b := false) (et_test (ev_op (ev_var rfl) ev_c rv_isN)) (fun z => nomatch z) (fun _ => s_next ?_)
          refine s_if (b := false) (et_B (ev_isi (ev_var rfl) ry' (kD "list" rfl (by decide +kernel)))) (fun z => nomatch z) (fun _ => s_next ?_)
          refine s_if (b := false) (et_B (ev_isi (ev_var rfl) ry' (kD "list" rfl (by decide +kernel)))) (fun z => nomatch z) (fun _ => s_next ?_)
          refine s_if (b := false) (et_B (ev_isi (ev_var rfl) ry' (kD "list" rfl (by decide +kernel)))) (fun z => nomatch z) (fun _ => s_next ?_)
          have len : xs.length = ys.length := h4.length.trans g4.length.symm
          refine s_ifJ (fun σ' H' => σ' = [some (.ref a), some (.ref b), none] ∧ Lx none H H') (fun _ _ _ => Lx.rfl0) (b := true) (et_B (ev_isi (ev_var rfl) ry' (kD "list" rfl (by decide +kernel)))) (fun _ => ?_) (fun z => nomatch z) ?_
          · refine s_if1 (b := false) (et_is (et_or (et_not (et_B (ev_isi (ev_var rfl) rx' (b := true) (kD "list" rfl (by decide +kernel))))) fun _ => et_test (ev_op (ev_cb (ea_cons (ev_var rfl) ea_nil) (rc_lenLU (.inl (SqL.of h1)) sx_none)) (ev_cb (ea_cons (ev_var rfl) ea_nil) (rc_lenLU (.inl (SqL.of g1)) sx_none)) (rv_ne rfl))) (by rw [len]; simp)) (fun z => nomatch z) (fun _ => s_nx fun H1 e => ⟨rfl, e⟩)
          · rintro σ' H' ⟨rfl, e⟩
            exact same_loop (Nat.lt_of_succ_lt_succ hd) h4 g4 (.inl ⟨h1, g1⟩) h3 g3 e k (by rfl)
    | tuple ds =>
      have rx' := rx
      have ry' := ry
      cases rx with
      | @tup a xs _ h1 _ h3 h4 => cases ry with
        | @tup b ys _ g1 _ g3 g4 =>
          refine s_if (b := false) (et_test (ev_op (ev_var rfl) ev_c rv_isN)) (fun z => nomatch z) (fun _ => s_next ?_)
          refine s_if (b := false) (et_B (ev_isi (ev_var rfl) ry' (kD "tuple" rfl (by decide +kernel)))) (fun z => nomatch z) (fun _ => s_next ?_)
          refine s_if (b := false) (et_B (ev_isi (ev_var rfl) ry' (kD "tuple" rfl (by decide +kernel)))) (fun z => nomatch z) (fun _ => s_next ?_)
          refine s_if (b := false) (et_B (ev_isi (ev_var rfl) ry' (kD "tuple" rfl (by decide +kernel)))) (fun z => nomatch z) (fun _ => s_next ?_)
          have len : xs.length = ys.length := h4.length.trans g4.length.symm
          refine s_ifJ (fun σ' H' => σ' = [some (.ref a), some (.ref b), none] ∧ Lx none H H') (fun _ _ _ => Lx.rfl0) (b := false) (et_B (ev_isi (ev_var rfl) ry' (kD "tuple" rfl (by decide +kernel)))) (fun z => nomatch z) (fun _ => ?_) ?_
          · refine s_if1 (b := false) (et_is (et_or (et_not (et_B (ev_isi (ev_var rfl) ry' (b := true) (kD "tuple" rfl (by decide +kernel))))) fun _ => et_or (et_not (et_B (ev_isi (ev_var rfl) rx' (b := true) (kD "tuple" rfl (by decide +kernel))))) fun _ => et_test (ev_op (ev_cb (ea_cons (ev_var rfl) ea_nil) (rc_lenLU (.inr (SqT.of h1)) sx_none)) (ev_cb (ea_cons (ev_var rfl) ea_nil) (rc_lenLU (.inr (SqT.of g1)) sx_none)) (rv_ne rfl))) (by rw [len]; simp)) (fun z => nomatch z) (fun _ => s_nx fun H1 e => ⟨rfl, e⟩)
          · rintro σ' H' ⟨rfl, e⟩
            exact same_loop (Nat.lt_of_succ_lt_succ hd) h4 g4 (.inr ⟨h1, g1⟩) h3 g3 e k (by rfl)
theorem ok__law_same (T : Txt K mg w) : Ok P w K mg base CX0 6 (He.fAd K ("_law_same", none)) ["actual", "expected"] (sp_same 5) := by
  have all : ∀ n : Nat, Ok P w K mg base CX0 (n + 1) (He.fAd K ("_law_same", none)) ["actual", "expected"] (sp_same n) := fun n => by
    induction n with
    | zero =>
      refine (ok_zero (F__law_same T) (fun _ _ _ _ _ _ us hl => match us, hl with | [_, _], _ => rfl) fun vs H Q E h => ?_).mono (Nat.zero_le _)
      obtain ⟨_, _, _, _, hd, _⟩ := h
      exact nomatch hd
    | succ n ih => exact same_body T n ih
  exact all 5
/-! _law_other_side -/
def a_other : List V → Hp → Dst → (V → Hp → Prop) → Prop := fun vs H S PP => S = none ∧ ∃ s, vs = [.str s] ∧ PP = fun v _ => v = .str (otherS s)
theorem ok__law_other_side (T : Txt K mg w) : Ok P w K mg base CX0 1 (He.fAd K ("_law_other_side", none)) ["side"] (sp_x a_other) := by
  refine okD (F__law_other_side T) sc__law_other_side (fun _ _ _ _ _ _ us hl => match us, hl with | [_], _ => rfl) (fun vs H Q E h => ?_) (fun cdv A outer s H vs Q E hr h => ?_)
  · obtain ⟨S, PP, ⟨rfl, s, rfl, rfl⟩, _⟩ := h; rfl
  · obtain ⟨S, PP, ⟨rfl, s, rfl, rfl⟩, _, k⟩ := h
    refine ⟨_, (pss_cons (ps_if (pt_cmpR op_eq (pv 0) pe_str (nomark _))
      (pss_one (ps_ret pe_str))
      pss_nil)
      (pss_cons (ps_if (pt_cmpR op_eq (pv 0) pe_str (nomark _))
      (pss_one (ps_ret pe_str))
      pss_nil)
      (pss_one (ps_ret (pv 0))))), ?_⟩
    refine go (K := K) (σ' := [some (.str s)]) rfl ?_
    walk_at "if"
    · intro h1
      refine s_ret ev_c fun H1 e => k _ _ e ?_
      have z : s = "elder" := by simpa using h1
      subst z
      rfl
    · intro h1
      refine s_next ?_
      walk_at "if"
      · intro h2
        refine s_ret ev_c fun H1 e => k _ _ e ?_
        have z : s = "younger" := by simpa using h2
        subst z
        rfl
      · intro h2
        refine s_next (s_ret (ev_var rfl) fun H1 e => k _ _ e ?_)
        unfold otherS
        rw [if_neg (by simpa using h1), if_neg (by simpa using h2)]
/-! _law_minus -/
def a_minus : List V → Hp → Dst → (V → Hp → Prop) → Prop := fun vs H S PP => S = none ∧ ∃ v u d s, vs = [v] ∧ Row none H v u d s ∧ PP = fun v H2 => Row none H2 v d u (otherS s)
theorem ok__law_minus (T : Txt K mg w) : Ok P w K mg base CX0 2 (He.fAd K ("_law_minus", none)) ["parts"] (sp_x a_minus) := by
  refine okD (F__law_minus T) sc__law_minus (fun _ _ _ _ _ _ us hl => match us, hl with | [_], _ => rfl) (fun vs H Q E h => ?_) (fun cdv A outer s H vs Q E hr h => ?_)
  · obtain ⟨S, PP, ⟨rfl, v, u, d, s, rfl, _⟩, _⟩ := h; rfl
  · obtain ⟨S, PP, ⟨rfl, v, u, d, s, rfl, r, rfl⟩, _, k⟩ := h
    refine ⟨_, (pss_one (ps_ret (pe_tup (pa_cons (pe_ix (ixU K rfl) (pv 0) pe_int (fun _ _ => rfl)) (pa_cons (pe_ix (ixU K rfl) (pv 0) pe_int (fun _ _ => rfl)) (pa_cons (pe_callO (ok__law_other_side T) (hr.mono (by first | decide | omega)) rfl (g__law_other_side T) pass0 (pa_cons (pe_ix (ixU K rfl) (pv 0) pe_int (fun _ _ => rfl)) pa_nil)) pa_nil)))))), ?_⟩
    refine go (K := K) (σ' := [some v]) rfl ?_
    refine s_retX (ex_tup (vs := pv d u (otherS s)) (ea_cons (r.ev1 (ev_var rfl)) (ea_cons (r.ev0 (ev_var rfl)) (ea_cons (ev_p0 (ea_cons (r.ev2 (ev_var rfl)) ea_nil) fun H1 e => ⟨rfl, s, rfl, rfl⟩) ea_nil))) (len_le (by simp))) ?_
    rintro w H1 e ⟨p, rfl, _, _, hp⟩
    exact k _ _ e ⟨p, rfl, hp, sx_none⟩
/-! _law_is_kin -/
def a_iskin (K : PySem.W.Frag) : List V → Hp → Dst → (V → Hp → Prop) → Prop := fun vs H S PP => S = none ∧ ∃ a v u d s, vs = [.ref a, v] ∧ KinA K none H a u d s ∧ Row none H v u d s ∧ PP = fun v _ => v = .bl true
theorem rp_kin {S : Dst} {H : Hp} {p : Addr} {u d : Int} {s : Str} (h : H p = some (.lst (pv u d s))) (n : ¬ Sx S p) : Rp S H (.ref p) (.list [.int u, .int d, .str s]) := .lst h n (by simp) (.cons (.int u) (.cons (.int d) (.cons (.str s) .nil)))
theorem ok__law_is_kin (T : Txt K mg w) : Ok P w K mg base CX0 7 (He.fAd K ("_law_is_kin", none)) ["actual", "parts"] (sp_x (a_iskin K)) := by
  refine okD (F__law_is_kin T) sc__law_is_kin (fun _ _ _ _ _ _ us hl => match us, hl with | [_, _], _ => rfl) (fun vs H Q E h => ?_) (fun cdv A outer s H vs Q E hr h => ?_)
  · obtain ⟨S, PP, ⟨rfl, a, v, u, d, s, rfl, _⟩, _⟩ := h; rfl
  · obtain ⟨S, PP, ⟨rfl, a, v, u, d, s, rfl, ka, r, rfl⟩, _, k⟩ := h
    refine ⟨_, (pss_cons (ps_if (pt_not (pt_val (pe_callB (isiK K rfl) (by rfl) (n_isinstance T) (by decide +kernel) (pa_cons (pv 0) (pa_cons (pe_glob (v := V.ref (He.ga K "Kin")) rfl (g_Kin T) rfl) pa_nil)))))
      (pss_one (ps_ret pe_bl))
      pss_nil)
      (pss_one (ps_ret (pe_callO (ok__law_same T) (hr.mono (by first | decide | omega)) rfl (g__law_same T) pass0 (pa_cons (pe_lst (pa_cons (fldK K rfl (pv 0)) (pa_cons (fldK K rfl (pv 0)) (pa_cons (fldK K rfl (pv 0)) pa_nil)))) (pa_cons (pe_lst (pa_cons (pe_ix (ixU K rfl) (pv 1) pe_int (fun _ _ => rfl)) (pa_cons (pe_ix (ixU K rfl) (pv 1) pe_int (fun _ _ => rfl)) (pa_cons (pe_ix (ixU K rfl) (pv 1) pe_int (fun _ _ => rfl)) pa_nil)))) pa_nil)))))), ?_⟩
    refine go (K := K) (σ' := [some (.ref a), some v]) rfl ?_
    have c := c_Kin T
    refine s_if (b := false) (et_not (b := true) (et_B (ev_isO (ev_var rfl) ev_c ka c (isc_Kin T) kit_self))) (fun z => nomatch z) (fun _ => s_next ?_)
    refine s_retX (P := fun v _ => v = .bl true) (ex_callX (PA := fun vs H2 => ∃ p q, vs = [.ref p, .ref q] ∧ H2 p = some (.lst (pv u d s)) ∧ H2 q = some (.lst (pv u d s))) (eax_cons (ex_lst (vs := pv u d s) (ea_cons (ev_fld (ev_var rfl) ka c (na_Kin_up T) rfl) (ea_cons (ev_fld (ev_var rfl) ka c (na_Kin_down T) rfl) (ea_cons (ev_fld (ev_var rfl) ka c (na_Kin_side T) rfl) ea_nil))) (len_le (by simp))) ?_) ?_) ?_
    · rintro w H1 e1 ⟨p, rfl, _, _, hp⟩
      have r1 := r.mono e1
      refine eax_cons (ex_lst (vs := pv u d s) (ea_cons (r1.ev0 (ev_var rfl)) (ea_cons (r1.ev1 (ev_var rfl)) (ea_cons (r1.ev2 (ev_var rfl)) ea_nil))) (len_le (by simp))) ?_
      rintro w H2 e2 ⟨q, rfl, _, _, hq⟩
      exact ea_nil.toX.imp fun w H3 e3 z => ⟨p, q, by rw [z], (e2.trans e3).1 _ _ sx_none hp, e3.1 _ _ sx_none hq⟩
    · rintro vs H1 e1 ⟨p, q, rfl, hp, hq⟩
      exact spx_same (n := 5) (rp_kin hp sx_none) (rp_kin hq sx_none) (by simp [PyData.depth, PyData.depthAll])
    · rintro w H1 e rfl
      exact k _ _ e rfl
/-! _law_path -/
def a_path : List V → Hp → Dst → (V → Hp → Prop) → Prop := fun vs H S PP => ∃ (st l p : Addr) (xs : List Int) (m : Int), S = some (st, l) ∧ vs = [.ref st, .ref p, .int m] ∧ H p = some (.lst (xs.map V.int)) ∧ ¬ Sx (some (st, l)) p ∧ xs.length ≤ 100 ∧ 0 < m ∧ m ≤ 1000000000 ∧
  PP = fun v H2 => ∃ (q : Addr) (ys : List Int), v = .ref q ∧ H q = none ∧ H2 q = some (.lst (ys.map V.int)) ∧ ys.length ≤ xs.length + 12
theorem ok__law_path (T : Txt K mg w) : Ok P w K mg base CX0 2 (He.fAd K ("_law_path", none)) ["state", "start", "spread"] (sp_x a_path) := by
  refine okD (F__law_path T) sc__law_path (fun _ _ _ _ _ _ us hl => match us, hl with | [_, _, _], _ => rfl) (fun vs H Q E h => ?_) (fun cdv A outer s H vs Q E hr h => ?_)
  · obtain ⟨S, PP, ⟨st, l, p, xs, m, rfl, rfl, _⟩, _⟩ := h; rfl
  · obtain ⟨S, PP, ⟨st, l, p, xs, m, rfl, rfl, hp, np, lx, m0, m1, rfl⟩, w, k⟩ := h
    refine ⟨_, (pss_cons (ps_set (i := 3) sc__law_path.nd rfl (Or.inl rfl) (pe_callTy (listK K rfl) (by rfl) (n_list T) (by decide +kernel) (pa_cons (pv 1) pa_nil)))
      (pss_cons (ps_for PassesOwn.never rfl (pi_range1 (by rfl) (n_range T) (pa_cons (pe_callO (ok__law_draw T) (hr.mono (by first | decide | omega)) rfl (g__law_draw T) pass0 (pa_cons (pv 0) (pa_cons pe_int pa_nil))) pa_nil)) (pg_name (i := 4) sc__law_path.nd rfl (Or.inl rfl))
      (pss_one (ps_expr (bmK K rfl PySem.F.plainAttrs_list PySem.F.slot_list_append PySem.F.type_list_append mt_append (pv 3) (pa_cons (pe_callO (ok__law_draw T) (hr.mono (by first | decide | omega)) rfl (g__law_draw T) pass0 (pa_cons (pv 0) (pa_cons (pv 2) pa_nil))) pa_nil)))))
      (pss_one (ps_ret (pv 3))))), ?_⟩
    refine goS (K := K) (σ' := [some (.ref st), some (.ref p), some (.int m), none, none]) rfl (w.2 _ rfl) ?_
    refine s_asgX (ex_cb (ea_cons (ev_var rfl) ea_nil) (rc_list (LA.of hp np))) ?_
    rintro _ H1 e1 ⟨q, rfl, fq, nq, hq⟩
    dsimp only [List.set]
    refine s_forRX (PA := fun vs _ => ∃ r : Int, vs = [.int r] ∧ 0 ≤ r ∧ r < 13) (eax_cons (ex_draw (ev_var rfl) ev_c (by omega) (by omega)) ?_) ?_
    · rintro _ H2 e2 ⟨r, rfl, r0, r1⟩
      exact ea_nil.toX.imp fun w _ _ z => ⟨r, by rw [z], r0, r1⟩
    rintro vs H2 e2 ⟨r, rfl, r0, r1⟩
    refine ⟨r, rfl, ?_⟩
    refine s_forRn (n := r) (ea_cons ev_c ea_nil) ⟨by omega, by omega⟩ (fun i σ' H' => (∃ v, σ' = [some (.ref st), some (.ref p), some (.int m), some (.ref q), v]) ∧ Lx (some (st, l)) H H' ∧ ∃ ys : List Int, H' q = some (.lst (ys.map V.int)) ∧ ys.length = xs.length + i) (fun _ _ _ z => z.2.1.refl) (fun H3 e3 => ⟨⟨_, rfl⟩, (e1.trans e2).trans e3, xs, (e2.trans e3).1 _ _ nq hq, rfl⟩) ?_ ?_
    · rintro i σ' H3 hi ⟨⟨v, rfl⟩, e3, ys, hys, ly⟩
      dsimp only [List.set]
      refine s_appX1 hys nq (ev_var rfl) (ex_draw (ev_var rfl) (ev_var rfl) m0 (by omega)) (by rw [List.length_map, ly]; have := sizeLine_eq; omega) ?_
      rintro _ H4 e4 ⟨d, rfl, d0, d1⟩ H5 e5
      have e6 : Lx (some (st, l)) H (upd H4 q (.lst (ys.map V.int ++ [.int d]))) := (e3.trans e4).put nq fun u z => by rw [fq] at z; cases z
      refine ⟨⟨_, rfl⟩, e6.trans e5, ys ++ [d], ?_, by rw [List.length_append, ly]; rfl⟩
      rw [List.map_append]
      exact e5.1 _ _ nq upd_same
    · rintro σ' H3 ⟨⟨v, rfl⟩, e3, ys, hys, ly⟩
      exact s_ret (ev_var rfl) fun H4 e4 => k _ _ (e3.trans e4) ⟨q, ys, rfl, fq, e4.1 _ _ nq hys, by omega⟩
/-! _law_between -/
def a_btw : List V → Hp → Dst → (V → Hp → Prop) → Prop := fun vs H S PP => S = none ∧ ∃ (p q : Addr) (xs ys : List Int), vs = [.ref p, .ref q] ∧ H p = some (.lst (xs.map V.int)) ∧ H q = some (.lst (ys.map V.int)) ∧ xs.length ≤ 100 ∧ ys.length ≤ 100 ∧ PP = fun v H2 => Row none H2 v (bu xs ys) (bd xs ys) (bs xs ys)
theorem ok__law_between (T : Txt K mg w) : Ok P w K mg base CX0 1 (He.fAd K ("_law_between", none)) ["first", "second"] (sp_x a_btw) := by
  refine okD (F__law_between T) sc__law_between (fun _ _ _ _ _ _ us hl => match us, hl with | [_, _], _ => rfl) (fun vs H Q E h => ?_) (fun cdv A outer s H vs Q E hr h => ?_)
  · obtain ⟨S, PP, ⟨rfl, p, q, xs, ys, rfl, _⟩, _⟩ := h; rfl
  · obtain ⟨S, PP, ⟨rfl, p, q, xs, ys, rfl, hx, hy, l1, l2, rfl⟩, _, k⟩ := h
    refine ⟨_, (pss_cons (ps_set (i := 2) sc__law_between.nd rfl (Or.inl rfl) pe_int)
      (pss_cons (ps_for PassesOwn.never rfl (pi_range1 (by rfl) (n_range T) (pa_cons (pe_callB (call_min2 rfl) (by rfl) (n_min T) (by decide +kernel) (pa_cons (pe_callB (lenK K rfl) (by rfl) (n_len T) (by decide +kernel) (pa_cons (pv 0) pa_nil)) (pa_cons (pe_callB (lenK K rfl) (by rfl) (n_len T) (by decide +kernel) (pa_cons (pv 1) pa_nil)) pa_nil))) pa_nil)) (pg_name (i := 3) sc__law_between.nd rfl (Or.inl rfl))
      (pss_one (ps_if (PW.pt (pw_and (pt_cmpR op_eq (pv 2) (pv 3) (nomark _)) (pw_and1 (pt_cmpR op_eq (pe_ix (ixL K rfl) (pv 0) (pv 3) (fun _ _ => rfl)) (pe_ix (ixL K rfl) (pv 1) (pv 3) (fun _ _ => rfl)) (nomark _)))))
      (pss_one (ps_set (i := 2) sc__law_between.nd rfl (Or.inl rfl) (pe_op op_add (pv 3) pe_int)))
      pss_nil)))
      (pss_cons (ps_set (i := 4) sc__law_between.nd rfl (Or.inl rfl) (pe_op op_sub (pe_callB (lenK K rfl) (by rfl) (n_len T) (by decide +kernel) (pa_cons (pv 0) pa_nil)) (pv 2)))
      (pss_cons (ps_set (i := 5) sc__law_between.nd rfl (Or.inl rfl) (pe_op op_sub (pe_callB (lenK K rfl) (by rfl) (n_len T) (by decide +kernel) (pa_cons (pv 1) pa_nil)) (pv 2)))
      (pss_cons (ps_if (PW.pt (pw_or (pt_cmpR op_eq (pv 4) pe_int (nomark _)) (pw_or1 (pt_cmpR op_eq (pv 5) pe_int (nomark _)))))
      (pss_one (ps_ret (pe_tup (pa_cons (pv 4) (pa_cons (pv 5) (pa_cons pe_str pa_nil))))))
      pss_nil)
      (pss_cons (ps_if (pt_cmpR op_lt (pe_ix (ixL K rfl) (pv 1) (pv 2) (fun _ _ => rfl)) (pe_ix (ixL K rfl) (pv 0) (pv 2) (fun _ _ => rfl)) (nomark _))
      (pss_one (ps_ret (pe_tup (pa_cons (pv 4) (pa_cons (pv 5) (pa_cons pe_str pa_nil))))))
      pss_nil)
      (pss_one (ps_ret (pe_tup (pa_cons (pv 4) (pa_cons (pv 5) (pa_cons pe_str pa_nil)))))))))))), ?_⟩
    refine go (K := K) (σ' := [some (.ref p), some (.ref q), none, none, none, none]) rfl ?_
    refine s_asg ev_c ?_
    dsimp only [List.set]
    have c1 := cp_l xs ys
    have c2 := cp_r xs ys
    have lenV : ∀ {te : TE} {σ : L2.St} {H1 : Hp} {a : Addr} {ns : List Int}, Ev K none te σ H1 (.ref a) → H1 a = some (.lst (ns.map V.int)) → Ev K none (tCB (rLn K) (tCons te tNil)) σ H1 (.int (ns.length : Int)) := fun h s => ev_is (ev_cb (ea_cons h ea_nil) (rc_len (LA.of s sx_none))) (by rw [List.length_map])
    have hm : min (xs.length : Int) (ys.length : Int) ≤ 100 := by omega
    refine s_forRn (n := min (xs.length : Int) (ys.length : Int)) (ea_cons (ev_cb (ea_cons (lenV (ev_var rfl) hx) (ea_cons (lenV (ev_var rfl) hy) ea_nil)) rc_min2) ea_nil) ⟨by omega, by omega⟩ (fun i σ' H' => (∃ v, σ' = [some (.ref p), some (.ref q), some (.int ((min (cp xs ys) i : Nat) : Int)), v, none, none]) ∧ Lx none H H') wf0 (fun H1 e => ⟨⟨none, by simp⟩, e⟩) ?_ ?_
    · rintro i σ' H' hi ⟨⟨v, rfl⟩, e⟩
      dsimp only [List.set]
      have i1 : i < xs.length := by omega
      have i2 : i < ys.length := by omega
      have g1 := List.getElem?_eq_getElem i1
      have g2 := List.getElem?_eq_getElem i2
      have gx := e.1 _ _ sx_none hx
      have gy := e.1 _ _ sx_none hy
      refine s_if1 (b := decide (i < cp xs ys)) (et_is (et_and (et_test (ev_op (ev_var rfl) (ev_var rfl) (rv_eq rfl))) fun _ => et_test (ev_op (ev_op (ev_var rfl) (ev_var rfl) (rv_ixL (LA.of gx sx_none) (at_ints g1))) (ev_op (ev_var rfl) (ev_var rfl) (rv_ixL (LA.of gy sx_none) (at_ints g2))) (rv_eq rfl))) ?_) (fun hb => ?_) (fun hb => ?_)
      · have z : ((((min (cp xs ys) i : Nat) : Int) = (i : Int)) ∧ xs[i] = ys[i]) ↔ i < cp xs ys := by
          constructor
          · rintro ⟨h1, e⟩
            rcases Nat.lt_or_ge i (cp xs ys) with h | h
            · exact h
            · have : i = cp xs ys := by omega
              exact absurd e (cp_ne (xs := xs) (ys := ys) (by rw [← this]; exact g1) (by rw [← this]; exact g2))
          · intro h
            obtain ⟨x, a, b⟩ := cp_eq h
            rw [g1] at a; rw [g2] at b
            cases a
            exact ⟨by omega, (Option.some.inj b).symm⟩
        rw [← Bool.decide_and]
        exact decide_eq_decide.mpr (by simpa using z)
      · have hlt := of_decide_eq_true hb
        refine s_asg1 (ev_op (ev_var rfl) ev_c rv_I0) fun H1 e1 => ⟨⟨some (.int (i : Int)), ?_⟩, e.trans e1⟩
        have z : min (cp xs ys) (i + 1) = i + 1 := by omega
        rw [z]
        rfl
      · have hge : cp xs ys ≤ i := by simpa using hb
        refine s_nx fun H1 e1 => ⟨⟨some (.int (i : Int)), ?_⟩, e.trans e1⟩
        rw [show min (cp xs ys) (i + 1) = min (cp xs ys) i by omega]
    · rintro σ' H' ⟨⟨v, rfl⟩, e⟩
      have zm : min (cp xs ys) (min (xs.length : Int) (ys.length : Int)).toNat = cp xs ys := by omega
      rw [zm]
      have gx := e.1 _ _ sx_none hx
      have gy := e.1 _ _ sx_none hy
      refine s_asg (ev_op (lenV (ev_var rfl) gx) (ev_var rfl) rv_I0) ?_
      dsimp only [List.set]
      refine s_asg (ev_op (lenV (ev_var rfl) gy) (ev_var rfl) rv_I0) ?_
      dsimp only [List.set]
      have fin : ∀ {s : Str} {t1 t2 t3 : TE} {σ : L2.St}, bs xs ys = s → Ev K none t1 σ H' (.int (bu xs ys)) → Ev K none t2 σ H' (.int (bd xs ys)) → Ev K none t3 σ H' (.str s) → EvX K none (tTup (tCons t1 (tCons t2 (tCons t3 tNil)))) σ H' (NewU none H' (pv (bu xs ys) (bd xs ys) (bs xs ys))) := by
        intro s t1 t2 t3 σ hs h1 h2 h3
        subst hs
        exact ex_tup (ea_cons h1 (ea_cons h2 (ea_cons h3 ea_nil))) (len_le (by simp))
      have done : ∀ v H1, Lx none H' H1 → NewU none H' (pv (bu xs ys) (bd xs ys) (bs xs ys)) v H1 → Q v H1 := fun v H1 e1 ⟨a, ha, _, _, h2⟩ => k _ _ (e.trans e1) ⟨a, ha, h2, sx_none⟩
      walk_at "if"
      · intro hb
        refine s_retX (fin (s := "line") ?_ (ev_var rfl) (ev_var rfl) ev_c) done
        unfold bs
        rw [if_pos (by simpa [bu, bd] using hb)]
      intro hb
      have hb' : ¬ (bu xs ys = 0 ∨ bd xs ys = 0) := by simpa [bu, bd] using hb
      have n1 : cp xs ys < xs.length := by unfold bu at hb'; omega
      have n2 : cp xs ys < ys.length := by unfold bd at hb'; omega
      have g1 := List.getElem?_eq_getElem n1
      have g2 := List.getElem?_eq_getElem n2
      refine s_next ?_
      refine s_if (et_test (ev_op (ev_op (ev_var rfl) (ev_var rfl) (rv_ixL (LA.of gy sx_none) (at_ints g2))) (ev_op (ev_var rfl) (ev_var rfl) (rv_ixL (LA.of gx sx_none) (at_ints g1))) rv_I0)) (fun h3 => ?_) (fun h3 => s_next ?_)
      · refine s_retX (fin (s := "elder") ?_ (ev_var rfl) (ev_var rfl) ev_c) done
        unfold bs
        rw [if_neg hb', List.getD_eq_getElem?_getD, List.getD_eq_getElem?_getD, g1, g2]
        exact if_pos (of_decide_eq_true h3)
      · refine s_retX (fin (s := "younger") ?_ (ev_var rfl) (ev_var rfl) ev_c) done
        unfold bs
        rw [if_neg hb', List.getD_eq_getElem?_getD, List.getD_eq_getElem?_getD, g1, g2]
        exact if_neg (of_decide_eq_false h3)
/-! _law_asked -/
def a_asked : List V → Hp → Dst → (V → Hp → Prop) → Prop := fun vs H S PP => S = none ∧ ∃ (p q : Addr) (xs ys : List Int), vs = [.ref p, .ref q] ∧ H p = some (.lst (xs.map V.int)) ∧ H q = some (.lst (ys.map V.int)) ∧ xs.length ≤ 100 ∧ ys.length ≤ 100 ∧ PP = fun v _ => v = .bl true
/-- _law_is_kin(Kin.between(a, b), row) -/
theorem et_iskin (T : Txt K mg w) {t1 t2 t3 : TE} {σ : L2.St} {H : Hp} {xs ys : List Int} {v : V} (c : Ev K none (tC (.ref (He.ga K "Kin"))) σ H (.ref (He.ga K "Kin"))) (h1 : EvX K none t1 σ H fun x H2 => ∃ p, x = .ref p ∧ SqI K H2 p xs) (h2 : ∀ H1, Lx none H H1 → EvX K none t2 σ H1 fun x H2 => ∃ p, x = .ref p ∧ SqI K H2 p ys) (h3 : Ev K none t3 σ H v)
    (l1 : xs.length ≤ 100) (l2 : ys.length ≤ 100) (r : Row none H v (bu xs ys) (bd xs ys) (bs xs ys)) :
    EvX K none (tCall (sp_x (a_iskin K)) [] E0 (tCons (tSMeth (He.ga K "Kin") (sp_x (a_between K)) E0 (tC (.ref (He.ga K "Kin"))) (tCons t1 (tCons t2 tNil))) (tCons t3 tNil))) σ H (fun v _ => v = .bl true) := by
  refine ex_p0X (PA := fun vs H2 => ∃ a, vs = [.ref a, v] ∧ KinA K none H2 a (bu xs ys) (bd xs ys) (bs xs ys)) (eax_cons (ex_smethX (P := fun x H2 => ∃ a, x = .ref a ∧ KinA K none H2 a (bu xs ys) (bd xs ys) (bs xs ys)) (PA := fun vs H2 => ∃ p q, vs = [.ref p, .ref q] ∧ SqI K H2 p xs ∧ SqI K H2 q ys) c (eax_cons h1 ?_) ?_) ?_) ?_
  · rintro _ H1 e1 ⟨p, rfl, sp⟩
    refine eax_cons (h2 H1 e1) ?_
    rintro _ H2 e2 ⟨q, rfl, sq⟩
    exact ea_nil.toX.imp fun w H3 e3 z => ⟨p, q, by rw [z], sqI_n (S := none) sp (e2.trans e3), sqI_n (S := none) sq e3⟩
  · rintro vs H1 e1 ⟨p, q, rfl, sp, sq⟩
    exact spx_0 fun H2 e2 => ⟨_, ⟨rfl, p, q, xs, ys, rfl, sqI_n (S := none) sp e2, sqI_n (S := none) sq e2, by omega, by omega, rfl⟩, fun v H3 e3 ⟨a, ha, _, ka⟩ => ⟨a, ha, ka⟩⟩
  · rintro _ H1 e1 ⟨a, rfl, ka⟩
    refine eax_cons (h3.mono e1).toX ?_
    rintro _ H2 e2 rfl
    exact ea_nil.toX.imp fun w H3 e3 z => ⟨a, by rw [z], ka.mono (e2.trans e3)⟩
  · rintro vs H1 e1 ⟨a, rfl, ka⟩ H2 e2
    exact ⟨_, ⟨rfl, a, v, _, _, _, rfl, ka.mono e2, r.mono (e1.trans e2), rfl⟩, fun _ _ _ z => z⟩
/-- .. the row made last -/
theorem et_iskinX (T : Txt K mg w) {t1 t2 t3 : TE} {σ : L2.St} {H : Hp} {xs ys : List Int} (c : Ev K none (tC (.ref (He.ga K "Kin"))) σ H (.ref (He.ga K "Kin"))) (h1 : EvX K none t1 σ H fun x H2 => ∃ p, x = .ref p ∧ SqI K H2 p xs) (h2 : ∀ H1, Lx none H H1 → EvX K none t2 σ H1 fun x H2 => ∃ p, x = .ref p ∧ SqI K H2 p ys) (h3 : ∀ H1, Lx none H H1 → EvX K none t3 σ H1 fun v H2 => Row none H2 v (bu xs ys) (bd xs ys) (bs xs ys))
    (l1 : xs.length ≤ 100) (l2 : ys.length ≤ 100) :
    EvX K none (tCall (sp_x (a_iskin K)) [] E0 (tCons (tSMeth (He.ga K "Kin") (sp_x (a_between K)) E0 (tC (.ref (He.ga K "Kin"))) (tCons t1 (tCons t2 tNil))) (tCons t3 tNil))) σ H (fun v _ => v = .bl true) := by
  refine ex_p0X (PA := fun vs H2 => ∃ a v, vs = [.ref a, v] ∧ KinA K none H2 a (bu xs ys) (bd xs ys) (bs xs ys) ∧ Row none H2 v (bu xs ys) (bd xs ys) (bs xs ys)) (eax_cons (ex_smethX (P := fun x H2 => ∃ a, x = .ref a ∧ KinA K none H2 a (bu xs ys) (bd xs ys) (bs xs ys)) (PA := fun vs H2 => ∃ p q, vs = [.ref p, .ref q] ∧ SqI K H2 p xs ∧ SqI K H2 q ys) c (eax_cons h1 ?_) ?_) ?_) ?_
  · rintro _ H1 e1 ⟨p, rfl, sp⟩
    refine eax_cons (h2 H1 e1) ?_
    rintro _ H2 e2 ⟨q, rfl, sq⟩
    exact ea_nil.toX.imp fun w H3 e3 z => ⟨p, q, by rw [z], sqI_n (S := none) sp (e2.trans e3), sqI_n (S := none) sq e3⟩
  · rintro vs H1 e1 ⟨p, q, rfl, sp, sq⟩
    exact spx_0 fun H2 e2 => ⟨_, ⟨rfl, p, q, xs, ys, rfl, sqI_n (S := none) sp e2, sqI_n (S := none) sq e2, by omega, by omega, rfl⟩, fun v H3 e3 ⟨a, ha, _, ka⟩ => ⟨a, ha, ka⟩⟩
  · rintro _ H1 e1 ⟨a, rfl, ka⟩
    refine eax_cons (h3 H1 e1) ?_
    rintro v H2 e2 r
    exact ea_nil.toX.imp fun w H3 e3 z => ⟨a, v, by rw [z], ka.mono (e2.trans e3), r.mono e3⟩
  · rintro vs H1 e1 ⟨a, v, rfl, ka, r⟩ H2 e2
    exact ⟨_, ⟨rfl, a, v, _, _, _, rfl, ka.mono e2, r.mono e2, rfl⟩, fun _ _ _ z => z⟩
theorem dall_ints : ∀ ns : List Int, PyData.depthAll (ns.map .int) = 0
  | [] => rfl
  | n :: ns => by rw [List.map_cons, PyData.depthAll, dall_ints ns, PyData.depth]; rfl
theorem clay_ints : ∀ ns : List Int, PyData.canLayAll0 (ns.map .int) = true
  | [] => rfl
  | n :: ns => by rw [List.map_cons, PyData.canLayAll0, clay_ints ns, PyData.canLay0]; rfl
theorem shaped_ints (ns : List Int) : SeqAt.shaped (.list (ns.map .int)) = true := by
  unfold SeqAt.shaped
  rw [PyData.canLay0, PyData.depth, dall_ints, clay_ints]
  rfl
theorem eall_ints : ∀ ns : List Int, PyData.eqvAll (ns.map .int) (ns.map .int) = true
  | [] => rfl
  | n :: ns => by rw [List.map_cons, PyData.eqvAll, eall_ints ns, PyData.eqv]; simp
theorem eqv_ints (ns : List Int) : PyData.eqv (.list (ns.map .int)) (.list (ns.map .int)) = true := by rw [PyData.eqv]; exact eall_ints ns
theorem ok__law_asked (T : Txt K mg w) : Ok P w K mg base CX0 8 (He.fAd K ("_law_asked", none)) ["first", "second"] (sp_x a_asked) := by
  refine okD (F__law_asked T) sc__law_asked (fun _ _ _ _ _ _ us hl => match us, hl with | [_, _], _ => rfl) (fun vs H Q E h => ?_) (fun cdv A outer s H vs Q E hr h => ?_)
  · obtain ⟨S, PP, ⟨rfl, p, q, xs, ys, rfl, _⟩, _⟩ := h; rfl
  · obtain ⟨S, PP, ⟨rfl, p, q, xs, ys, rfl, hx, hy, l1, l2, rfl⟩, _, k⟩ := h
    refine ⟨_, (pss_cons (ps_set (i := 2) sc__law_asked.nd rfl (Or.inl rfl) (pe_callO (ok__law_between T) (hr.mono (by first | decide | omega)) rfl (g__law_between T) pass0 (pa_cons (pv 0) (pa_cons (pv 1) pa_nil))))
      (pss_cons (ps_set (i := 3) sc__law_asked.nd rfl (Or.inl rfl) (pe_callTy (listK K rfl) (by rfl) (n_list T) (by decide +kernel) (pa_cons (pv 0) pa_nil)))
      (pss_cons (ps_set (i := 4) sc__law_asked.nd rfl (Or.inl rfl) (pe_callTy (listK K rfl) (by rfl) (n_list T) (by decide +kernel) (pa_cons (pv 1) pa_nil)))
      (pss_cons (ps_if (PW.pt (pw_or (pt_not (pt_val (pe_callO (ok__law_is_kin T) (hr.mono (by first | decide | omega)) rfl (g__law_is_kin T) pass0 (pa_cons (pe_smethO (pe_glob (v := V.ref (He.ga K "Kin")) rfl (g_Kin T) rfl) (sm_Kin_between T) (ok_Kin_between T) (hr.mono (by first | decide | omega)) pass0 (pa_cons (pv 3) (pa_cons (pv 4) pa_nil))) (pa_cons (pv 2) pa_nil))))) (pw_or (pt_cmpR (neDK K rfl hr.units) (pv 3) (pv 0) (nomark _)) (pw_or1 (pt_cmpR (neDK K rfl hr.units) (pv 4) (pv 1) (nomark _))))))
      (pss_one (ps_ret pe_bl))
      pss_nil)
      (pss_cons (ps_if (PW.pt (pw_or (pt_not (pt_val (pe_callO (ok__law_is_kin T) (hr.mono (by first | decide | omega)) rfl (g__law_is_kin T) pass0 (pa_cons (pe_smethO (pe_glob (v := V.ref (He.ga K "Kin")) rfl (g_Kin T) rfl) (sm_Kin_between T) (ok_Kin_between T) (hr.mono (by first | decide | omega)) pass0 (pa_cons (pv 4) (pa_cons (pv 3) pa_nil))) (pa_cons (pe_callO (ok__law_minus T) (hr.mono (by first | decide | omega)) rfl (g__law_minus T) pass0 (pa_cons (pv 2) pa_nil)) pa_nil))))) (pw_or (pt_cmpR (neDK K rfl hr.units) (pv 3) (pv 0) (nomark _)) (pw_or1 (pt_cmpR (neDK K rfl hr.units) (pv 4) (pv 1) (nomark _))))))
      (pss_one (ps_ret pe_bl))
      pss_nil)
      (pss_one (ps_ret (pe_callO (ok__law_is_kin T) (hr.mono (by first | decide | omega)) rfl (g__law_is_kin T) pass0 (pa_cons (pe_smethO (pe_glob (v := V.ref (He.ga K "Kin")) rfl (g_Kin T) rfl) (sm_Kin_between T) (ok_Kin_between T) (hr.mono (by first | decide | omega)) pass0 (pa_cons (pe_callTy (tupleK K rfl) (by rfl) (n_tuple T) (by decide +kernel) (pa_cons (pv 0) pa_nil)) (pa_cons (pe_callTy (tupleK K rfl) (by rfl) (n_tuple T) (by decide +kernel) (pa_cons (pv 1) pa_nil)) pa_nil))) (pa_cons (pv 2) pa_nil)))))))))), ?_⟩
    refine go (K := K) (σ' := [some (.ref p), some (.ref q), none, none, none]) rfl ?_
    have c1 : ∀ {σ : L2.St} {H1 : Hp}, Ev K none (tC (.ref (He.ga K "Kin"))) σ H1 (.ref (He.ga K "Kin")) := ev_c
    refine s_asgX (ex_p0 (P' := fun v H2 => Row none H2 v (bu xs ys) (bd xs ys) (bs xs ys)) (ea_cons (ev_var rfl) (ea_cons (ev_var rfl) ea_nil)) fun H1 e => ⟨_, ⟨rfl, p, q, xs, ys, rfl, e.1 _ _ sx_none hx, e.1 _ _ sx_none hy, l1, l2, rfl⟩, fun _ _ _ z => z⟩) ?_
    rintro v H1 e1 r
    dsimp only [List.set]
    refine s_asgX (ex_cb (ea_cons (ev_var rfl) ea_nil) (rc_list (LA.of (e1.1 _ _ sx_none hx) sx_none))) ?_
    rintro _ H2 e2 ⟨a, rfl, _, _, ha⟩
    dsimp only [List.set]
    refine s_asgX (ex_cb (ea_cons (ev_var rfl) ea_nil) (rc_list (LA.of ((e1.trans e2).1 _ _ sx_none hy) sx_none))) ?_
    rintro _ H3 e3 ⟨b, rfl, _, _, hb⟩
    dsimp only [List.set]
    have e03 := (e1.trans e2).trans e3
    have gp : ∀ {H'}, Lx none H3 H' → H' p = some (.lst (xs.map V.int)) := fun e => (e03.trans e).1 _ _ sx_none hx
    have gq : ∀ {H'}, Lx none H3 H' → H' q = some (.lst (ys.map V.int)) := fun e => (e03.trans e).1 _ _ sx_none hy
    have ga : ∀ {H'}, Lx none H3 H' → H' a = some (.lst (xs.map V.int)) := fun e => (e3.trans e).1 _ _ sx_none ha
    have gb : ∀ {H'}, Lx none H3 H' → H' b = some (.lst (ys.map V.int)) := fun e => e.1 _ _ sx_none hb
    have gr : ∀ {H'}, Lx none H3 H' → Row none H' v (bu xs ys) (bd xs ys) (bs xs ys) := fun e => r.mono ((e2.trans e3).trans e)
    have sv : ∀ {te : TE} {σ : L2.St} {H' : Hp} {x : Addr} {ns : List Int}, Ev K none te σ H' (.ref x) → H' x = some (.lst (ns.map V.int)) → EvX K none te σ H' fun w H2 => ∃ p, w = .ref p ∧ SqI K H2 p ns := fun h hx => h.toX.imp fun w H2 e2 z => ⟨_, z, .inl (SqL.of (e2.1 _ _ sx_none hx))⟩
    have dpl : ∀ {H' : Hp} {x : Addr} {ns : List Int}, H' x = some (.lst (ns.map V.int)) → Dp K H' (.ref x) (.list (ns.map .int)) := fun h => .lst (SqL.of h) (dp_ints _)
    have dep : ∀ ns : List Int, (PyData.list (ns.map .int)).depth ≤ 64 := fun ns => by
      have : PyData.depthAll (ns.map .int) ≤ 0 := by
        induction ns with
        | nil => exact Nat.le_refl _
        | cons n ns ih => rw [List.map_cons, PyData.depthAll, PyData.depth]; omega
      rw [PyData.depth]
      omega
    have lay : ∀ ns : List Int, (PyData.list (ns.map .int)).canLay0 = true := fun ns => SeqAt.canLay_of_shaped (shaped_ints ns)
    have same : ∀ {te tf : TE} {σ : L2.St} {H' : Hp} {x y : Addr} {ns : List Int}, Ev K none te σ H' (.ref x) → Ev K none tf σ H' (.ref y) → H' x = some (.lst (ns.map V.int)) → H' y = some (.lst (ns.map V.int)) → EvT K none (tTest (tOp (rNeD K) te tf)) σ H' false := fun {te tf σ H' x y ns} h1 h2 g1 g2 =>
      et_test (ev_is (ev_op h1 h2 (rv_neD (d := .list (ns.map .int)) (d' := .list (ns.map .int)) (fun _ e => dpl (e.1 _ _ sx_none g1)) (fun _ e => dpl (e.1 _ _ sx_none g2)) (shaped_ints ns) (shaped_ints ns))) (by rw [eqv_ints]; rfl))
    have w3 : Lx none H3 H3 := Lx.rfl0
    refine s_ifX (PB := fun b _ => b = false) (etx_or2 (PA := fun b _ => b = false) (etx_not (etx_B ((et_iskin T c1 (sv (ev_var rfl) (ga w3)) (fun H4 e4 => sv (ev_var rfl) (gb e4)) (ev_var rfl) l1 l2 (gr w3)).imp fun w H4 _ z => ⟨true, z, rfl⟩))) (fun H4 e4 _ => (et_or (same (ns := xs) (ev_var rfl) (ev_var rfl) (ga e4) (gp e4)) fun _ => same (ns := ys) (ev_var rfl) (ev_var rfl) (gb e4) (gq e4)).toX.imp fun b H5 _ z => by rw [z]; rfl) (fun _ _ z => nomatch z)) (fun _ _ z => nomatch z) (fun H4 e4 _ => s_next ?_)
    obtain ⟨s1, s2, s3⟩ := b_swap xs ys
    have rm : ∀ {H'}, Row none H' v (bu xs ys) (bd xs ys) (bs xs ys) → EvX K none (tCall (sp_x a_minus) [] E0 (tCons (tVar 2) tNil)) [some (.ref p), some (.ref q), some v, some (.ref a), some (.ref b)] H' fun w H2 => Row none H2 w (bu ys xs) (bd ys xs) (bs ys xs) := fun r => by
      rw [s1, s2, s3]
      exact ex_p0 (P' := fun w H2 => Row none H2 w (bd xs ys) (bu xs ys) (otherS (bs xs ys))) (ea_cons (ev_var rfl) ea_nil) fun H5 e5 => ⟨_, ⟨rfl, v, _, _, _, rfl, r.mono e5, rfl⟩, fun _ _ _ z => z⟩
    refine s_ifX (PB := fun b _ => b = false) (etx_or2 (PA := fun b _ => b = false) (etx_not (etx_B ((et_iskinX T c1 (sv (ev_var rfl) (gb e4)) (fun H5 e5 => sv (ev_var rfl) (ga (e4.trans e5))) (fun H5 e5 => rm (gr (e4.trans e5))) l2 l1).imp fun w H5 _ z => ⟨true, z, rfl⟩))) (fun H5 e5 _ => (et_or (same (ns := xs) (ev_var rfl) (ev_var rfl) (ga (e4.trans e5)) (gp (e4.trans e5))) fun _ => same (ns := ys) (ev_var rfl) (ev_var rfl) (gb (e4.trans e5)) (gq (e4.trans e5))).toX.imp fun b H6 _ z => by rw [z]; rfl) (fun _ _ z => nomatch z)) (fun _ _ z => nomatch z) (fun H5 e5 _ => s_next ?_)
    have e35 := e4.trans e5
    have tu : ∀ {te : TE} {σ : L2.St} {H' : Hp} {x : Addr} {ns : List Int}, Ev K none te σ H' (.ref x) → H' x = some (.lst (ns.map V.int)) → EvX K none (tCB (rTup1 K) (tCons te tNil)) σ H' fun w H2 => ∃ p, w = .ref p ∧ SqI K H2 p ns := fun h hx => (ex_cb (ea_cons h ea_nil) (rc_tupleL (LA.of hx sx_none))).imp fun w H2 e2 ⟨p, hp, _, _, h2⟩ => ⟨p, hp, .inr (SqT.of h2)⟩
    exact s_retX (et_iskin T c1 (tu (ev_var rfl) (gp e35)) (fun H6 e6 => tu (ev_var rfl) (gq (e35.trans e6))) (ev_var rfl) l1 l2 (gr e35)) fun w H6 e6 z => k _ _ ((e03.trans e35).trans e6) z
/-! law -/
def sp_law (K : PySem.W.Frag) : Sp := fun vs H Q _ => ∃ (a : Addr) (ns : List Int), vs = [.ref a] ∧ SqL K H a (ns.map V.int) ∧ ns.length ≤ 63 ∧ ∀ H', Q (.bl true) H'
theorem sp_law_of {H : Hp} {a : Addr} {ns : List Int} {E : XK} (hl : ns.length ≤ 63) (hS : SqL K H a (ns.map V.int)) : sp_law K [.ref a] H (fun v _ => v = .bl true) E := ⟨a, ns, rfl, hS, hl, fun _ => rfl⟩
/-- a list of whole numbers, apart from the drawing state -/
abbrev IsL (S : Dst) (xs : List Int) : V → Hp → Prop := fun v H => ∃ p, v = .ref p ∧ H p = some (.lst (xs.map V.int)) ∧ ¬ Sx S p
theorem IsL.mono {S : Dst} {xs : List Int} {v : V} {H H1 : Hp} (h : IsL S xs v H) (e : Lx S H H1) : IsL S xs v H1 := by
  obtain ⟨p, hv, hp, n⟩ := h
  exact ⟨p, hv, e.1 _ _ n hp, n⟩
theorem ev_asked {S : Dst} {t1 t2 : TE} {σ : L2.St} {H : Hp} {xs ys : List Int} (h1 : EvX K S t1 σ H (IsL S xs)) (h2 : ∀ H1, Lx S H H1 → EvX K S t2 σ H1 (IsL S ys)) (l1 : xs.length ≤ 100) (l2 : ys.length ≤ 100) : Ev K S (tCall (sp_x a_asked) [] E0 (tCons t1 (tCons t2 tNil))) σ H (.bl true) := by
  refine (ex_p0X (P' := fun v _ => v = .bl true) (PA := fun vs H2 => ∃ v w, vs = [v, w] ∧ IsL S xs v H2 ∧ IsL S ys w H2) (eax_cons h1 ?_) ?_).ev fun _ _ _ z => z
  · rintro v H1 e1 hv
    refine eax_cons (h2 H1 e1) ?_
    rintro w H2 e2 hw
    exact ea_nil.toX.imp fun z H3 e3 q => ⟨v, w, by rw [q], hv.mono (e2.trans e3), hw.mono e3⟩
  · rintro vs H1 e1 ⟨v, w, rfl, hv, hw⟩ H2 e2
    obtain ⟨p, rfl, hp, _⟩ := hv.mono e2
    obtain ⟨q, rfl, hq, _⟩ := hw.mono e2
    exact ⟨_, ⟨rfl, p, q, xs, ys, rfl, hp, hq, l1, l2, rfl⟩, fun _ _ _ z => z⟩
/-- a variable that holds such a list -/
theorem ex_isL {S : Dst} {te : TE} {σ : L2.St} {H : Hp} {p : Addr} {xs : List Int} (h : Ev K S te σ H (.ref p)) (hp : H p = some (.lst (xs.map V.int))) (n : ¬ Sx S p) : EvX K S te σ H (IsL S xs) := h.toX.imp fun w H2 e2 z => ⟨p, z, e2.1 _ _ n hp, n⟩
/-- a new list of one number -/
theorem ex_oneL {S : Dst} {te : TE} {σ : L2.St} {H : Hp} {x : Int} (h : Ev K S te σ H (.int x)) : EvX K S (tLst (tCons te tNil)) σ H (IsL S [x]) := (ex_lst (vs := [.int x]) (ea_cons h ea_nil) (len_le (by simp))).imp fun w H2 e2 ⟨p, hv, _, n, hp⟩ => ⟨p, hv, hp, n⟩
/-- a + b -/
theorem ex_catL {S : Dst} {t1 t2 : TE} {σ : L2.St} {H : Hp} {xs ys : List Int} (h1 : EvX K S t1 σ H (IsL S xs)) (h2 : ∀ H1, Lx S H H1 → EvX K S t2 σ H1 (IsL S ys)) (l1 : xs.length ≤ 100) (l2 : ys.length ≤ 100) : EvX K S (tOp rCat t1 t2) σ H (IsL S (xs ++ ys)) := by
  refine ex_op1 h1 ?_
  rintro v H1 e1 ⟨p, rfl, hp, np⟩
  refine ex_op2 ev_c (h2 H1 e1) ?_
  rintro w H2 e2 ⟨q, rfl, hq, nq⟩
  refine (ex_op ev_c ev_c (rvx_cat (e2.1 _ _ np hp) np hq nq (by simp only [List.length_map]; have := sizeLine_eq; omega))).imp ?_
  rintro z H3 e3 ⟨r, hz, _, nr, hr⟩
  exact ⟨r, hz, by rw [hr, List.map_append], nr⟩
theorem ok_law (T : Txt K mg w) : Ok P w K mg base CX0 9 (He.fAd K ("law", none)) ["script"] (sp_law K) := by
  refine okD (F_law T) sc_law (fun _ _ _ _ _ _ us hl => match us, hl with | [_], _ => rfl) (fun vs H Q E h => ?_) (fun cdv A outer s H vs Q E hr h => ?_)
  · obtain ⟨a, ns, rfl, _⟩ := h; rfl
  · obtain ⟨a, ns, rfl, hS, hl, k⟩ := h
    refine ⟨_, (pss_cons (ps_set (i := 1) sc_law.nd rfl (Or.inl rfl) (pe_callO (ok__law_start T) (hr.mono (by first | decide | omega)) rfl (g__law_start T) pass0 (pa_cons (pv 0) pa_nil)))
      (pss_cons (ps_set (i := 2) sc_law.nd rfl (Or.inl rfl) (pe_ix (ixL K rfl) (pe_lst (pa_cons pe_int (pa_cons pe_int (pa_cons pe_int (pa_cons (pe_op op_pow pe_int pe_int) pa_nil))))) (pe_callO (ok__law_draw T) (hr.mono (by first | decide | omega)) rfl (g__law_draw T) pass0 (pa_cons (pv 1) (pa_cons pe_int pa_nil))) (fun _ _ => rfl)))
      (pss_cons (ps_set (i := 3) sc_law.nd rfl (Or.inl rfl) (pe_callO (ok__law_path T) (hr.mono (by first | decide | omega)) rfl (g__law_path T) pass0 (pa_cons (pv 1) (pa_cons (pe_lst pa_nil) (pa_cons (pv 2) pa_nil)))))
      (pss_cons (ps_set (i := 4) sc_law.nd rfl (Or.inl rfl) (pe_callO (ok__law_path T) (hr.mono (by first | decide | omega)) rfl (g__law_path T) pass0 (pa_cons (pv 1) (pa_cons (pv 3) (pa_cons (pv 2) pa_nil)))))
      (pss_cons (ps_set (i := 5) sc_law.nd rfl (Or.inl rfl) (pe_callO (ok__law_path T) (hr.mono (by first | decide | omega)) rfl (g__law_path T) pass0 (pa_cons (pv 1) (pa_cons (pv 3) (pa_cons (pv 2) pa_nil)))))
      (pss_cons (ps_if (PW.pt (pw_or (pt_not (pt_val (pe_callO (ok__law_asked T) (hr.mono (by first | decide | omega)) rfl (g__law_asked T) pass0 (pa_cons (pv 4) (pa_cons (pv 5) pa_nil))))) (pw_or (pt_not (pt_val (pe_callO (ok__law_asked T) (hr.mono (by first | decide | omega)) rfl (g__law_asked T) pass0 (pa_cons (pv 4) (pa_cons (pv 4) pa_nil))))) (pw_or1 (pt_not (pt_val (pe_callO (ok__law_asked T) (hr.mono (by first | decide | omega)) rfl (g__law_asked T) pass0 (pa_cons (pv 4) (pa_cons (pv 3) pa_nil)))))))))
      (pss_one (ps_ret pe_bl))
      pss_nil)
      (pss_cons (ps_set (i := 6) sc_law.nd rfl (Or.inl rfl) (pe_callO (ok__law_draw T) (hr.mono (by first | decide | omega)) rfl (g__law_draw T) pass0 (pa_cons (pv 1) (pa_cons (pv 2) pa_nil))))
      (pss_cons (ps_if (PW.pt (pw_or (pt_not (pt_val (pe_callO (ok__law_asked T) (hr.mono (by first | decide | omega)) rfl (g__law_asked T) pass0 (pa_cons (pe_op op_cat (pv 4) (pe_lst (pa_cons (pv 6) pa_nil))) (pa_cons (pv 5) pa_nil))))) (pw_or1 (pt_not (pt_val (pe_callO (ok__law_asked T) (hr.mono (by first | decide | omega)) rfl (g__law_asked T) pass0 (pa_cons (pe_op op_cat (pv 4) (pe_lst (pa_cons (pv 6) pa_nil))) (pa_cons (pe_op op_cat (pv 4) (pe_lst (pa_cons (pe_op op_add (pv 6) pe_int) pa_nil))) pa_nil))))))))
      (pss_one (ps_ret pe_bl))
      pss_nil)
      (pss_one (ps_ret (pe_and (pe_callO (ok__law_asked T) (hr.mono (by first | decide | omega)) rfl (g__law_asked T) pass0 (pa_cons (pv 3) (pa_cons (pv 5) pa_nil))) (pe_one (pe_callO (ok__law_asked T) (hr.mono (by first | decide | omega)) rfl (g__law_asked T) pass0 (pa_cons (pe_op op_cat (pe_lst (pa_cons (pe_op op_add (pv 6) pe_int) pa_nil)) (pv 4)) (pa_cons (pe_op op_cat (pe_lst (pa_cons (pv 6) pa_nil)) (pv 4)) pa_nil))))))))))))))), ?_⟩
    refine go (K := K) (σ' := [some (.ref a), none, none, none, none, none, none]) rfl ?_
    refine s_asgX (ex_start (ev_var rfl) hS) ?_
    rintro v H1 _ ⟨st, l, rfl, d1⟩
    dsimp only [List.set]
    refine s_S d1 ?_
    refine s_asgX (P := fun v _ => ∃ m : Int, v = .int m ∧ 0 < m ∧ m ≤ 1000000000) (ex_op1 (ex_lst (vs := [.int 2, .int 12, .int 3, .int 1000000000]) (ea_cons ev_c (ea_cons ev_c (ea_cons ev_c (ea_cons (ev_op ev_c ev_c (rv_I ⟨by decide, by decide, by decide⟩)) ea_nil)))) (len_le (by simp))) ?_) ?_
    · rintro _ H2 e2 ⟨p, rfl, _, np, hp⟩
      refine ex_op2 ev_c (ex_draw (ev_var rfl) ev_c (by decide) (by decide)) ?_
      rintro _ H3 e3 ⟨r, rfl, r0, r1⟩
      have hh : ∃ m : Int, atI [V.int 2, V.int 12, V.int 3, V.int 1000000000] r = some (.int m) ∧ 0 < m ∧ m ≤ 1000000000 := by
        have : r = 0 ∨ r = 1 ∨ r = 2 ∨ r = 3 := by omega
        rcases this with rfl | rfl | rfl | rfl
        · exact ⟨2, rfl, by decide, by decide⟩
        · exact ⟨12, rfl, by decide, by decide⟩
        · exact ⟨3, rfl, by decide, by decide⟩
        · exact ⟨1000000000, rfl, by decide, by decide⟩
      obtain ⟨m, hm, m0, m1⟩ := hh
      exact (ev_op ev_c ev_c (rv_ixL (LA.of (e3.1 _ _ np hp) np) hm)).toX.imp fun w _ _ z => ⟨m, z, m0, m1⟩
    rintro _ H2 e2 ⟨m, rfl, m0, m1⟩
    dsimp only [List.set]
    refine s_asgX (P := fun v H2 => ∃ ys : List Int, ys.length ≤ 12 ∧ IsL (some (st, l)) ys v H2) (ex_pSX (PA := fun vs H2 => ∃ p, vs = [.ref st, .ref p, .int m] ∧ H2 p = some (.lst []) ∧ ¬ Sx (some (st, l)) p) (eax_cons (ev_var rfl).toX ?_) ?_) ?_
    · rintro _ G1 f1 rfl
      refine eax_cons (ex_lst (vs := []) ea_nil (len_le (by simp))) ?_
      rintro _ G2 f2 ⟨p, rfl, _, np, hp⟩
      exact (ea_cons (ev_var rfl) ea_nil).toX.imp fun w G3 f3 z => ⟨p, by rw [z], f3.1 _ _ np hp, np⟩
    · rintro vs G1 f1 ⟨p, rfl, hp, np⟩ G2 f2
      exact ⟨_, ⟨st, l, p, [], m, rfl, rfl, f2.1 _ _ np hp, np, Nat.zero_le _, m0, m1, rfl⟩, fun v G3 f3 ⟨q, ys, hv, fq, hq, lq⟩ => ⟨ys, by simpa using lq, q, hv, hq, ((e2.trans f1).trans f2).ns fq⟩⟩
    rintro _ H3 e3 ⟨cs, lc, pc, rfl, hc, nc⟩
    dsimp only [List.set]
    have step : ∀ {σ : L2.St} {H' : Hp} {i : Nat}, Lx (some (st, l)) H3 H' → σ[1]? = some (some (.ref st)) → σ[3]? = some (some (.ref pc)) → σ[2]? = some (some (.int m)) → EvX K (some (st, l)) (tCall (sp_x a_path) [] E0 (tCons (tVar 1) (tCons (tVar 3) (tCons (tVar 2) tNil)))) σ H' (fun v H2 => ∃ ys : List Int, ys.length ≤ 24 ∧ IsL (some (st, l)) ys v H2) := fun e h1 h2 h3 =>
      ex_pS (ea_cons (ev_var h1) (ea_cons (ev_var h2) (ea_cons (ev_var h3) ea_nil))) fun G2 f2 => ⟨_, ⟨st, l, pc, cs, m, rfl, rfl, (e.trans f2).1 _ _ nc hc, nc, by omega, m0, m1, rfl⟩, fun v G3 f3 ⟨q, ys, hv, fq, hq, lq⟩ => ⟨ys, by omega, q, hv, hq, f2.ns fq⟩⟩
    refine s_asgX (step (i := 0) e3.refl rfl rfl rfl) ?_
    rintro _ H4 e4 ⟨xs, lx, pf, rfl, hf, nf⟩
    dsimp only [List.set]
    refine s_asgX (step (i := 0) e4 rfl rfl rfl) ?_
    rintro _ H5 e5 ⟨ys, ly, ps, rfl, hs, ns'⟩
    dsimp only [List.set]
    have gc : ∀ {H'}, Lx (some (st, l)) H5 H' → H' pc = some (.lst (cs.map V.int)) := fun e => ((e4.trans e5).trans e).1 _ _ nc hc
    have gf : ∀ {H'}, Lx (some (st, l)) H5 H' → H' pf = some (.lst (xs.map V.int)) := fun e => (e5.trans e).1 _ _ nf hf
    have gs : ∀ {H'}, Lx (some (st, l)) H5 H' → H' ps = some (.lst (ys.map V.int)) := fun e => e.1 _ _ ns' hs
    have w5 : Lx (some (st, l)) H5 H5 := e5.refl
    refine s_if (b := false) (et_is (et_or (et_not (et_B (ev_asked (ex_isL (ev_var rfl) (gf w5) nf) (fun H6 e6 => ex_isL (ev_var rfl) (gs e6) ns') (by omega) (by omega)))) fun _ => et_or (et_not (et_B (ev_asked (ex_isL (ev_var rfl) (gf w5) nf) (fun H6 e6 => ex_isL (ev_var rfl) (gf e6) nf) (by omega) (by omega)))) fun _ => et_not (et_B (ev_asked (ex_isL (ev_var rfl) (gf w5) nf) (fun H6 e6 => ex_isL (ev_var rfl) (gc e6) nc) (by omega) (by omega)))) rfl) (fun z => nomatch z) (fun _ => s_next ?_)
    refine s_asgX (ex_draw (ev_var rfl) (ev_var rfl) m0 (by omega)) ?_
    rintro _ H6 e6 ⟨x, rfl, _, _⟩
    dsimp only [List.set]
    have plus : ∀ {σ : L2.St} {H' : Hp} {te : TE} {z : Int}, Lx (some (st, l)) H5 H' → σ[4]? = some (some (.ref pf)) → Ev K (some (st, l)) te σ H' (.int z) → EvX K (some (st, l)) (tOp rCat (tVar 4) (tLst (tCons te tNil))) σ H' (IsL (some (st, l)) (xs ++ [z])) := fun e h hz => ex_catL (ex_isL (ev_var h) (gf e) nf) (fun H7 e7 => ex_oneL (hz.mono e7)) (by omega) (by simp)
    have plus' : ∀ {σ : L2.St} {H' : Hp} {te : TE} {z : Int}, Lx (some (st, l)) H5 H' → σ[4]? = some (some (.ref pf)) → Ev K (some (st, l)) te σ H' (.int z) → EvX K (some (st, l)) (tOp rCat (tLst (tCons te tNil)) (tVar 4)) σ H' (IsL (some (st, l)) ([z] ++ xs)) := fun e h hz => ex_catL (ex_oneL hz) (fun H7 e7 => ex_isL (ev_var h) (gf (e.trans e7)) nf) (by simp) (by omega)
    refine s_if (b := false) (et_is (et_or (et_not (et_B (ev_asked (plus e6 rfl (ev_var rfl)) (fun H7 e7 => ex_isL (ev_var rfl) (gs (e6.trans e7)) ns') (by simp; omega) (by omega)))) fun _ => et_not (et_B (ev_asked (plus e6 rfl (ev_var rfl)) (fun H7 e7 => plus (e6.trans e7) rfl (ev_op (ev_var rfl) ev_c rv_I0)) (by simp; omega) (by simp; omega)))) rfl) (fun z => nomatch z) (fun _ => s_next ?_)
    exact s_ret (ev_andV (ev_asked (ex_isL (ev_var rfl) (gc e6) nc) (fun H7 e7 => ex_isL (ev_var rfl) (gs (e6.trans e7)) ns') (by omega) (by omega)) fun _ => ev_asked (plus' e6 rfl (ev_op (ev_var rfl) ev_c rv_I0)) (fun H7 e7 => plus' (e6.trans e7) rfl (ev_var rfl)) (by simp; omega) (by simp; omega)) fun H7 e7 => k _
end
end Fk
set_option maxHeartbeats 0
namespace Fk
open PySem PySem.W PySem.Calls PyProof.Rows
def loose : List PySem.Str := (["_wall", "ForkError", "BadKin", "BadReach", "BadText", "DIGITS", "MOST_DIGITS", "read_number", "SIDES", "OPPOSITE", "capped", "fits_side", "Kin", "line_word", "open_kins", "_law_start", "_law_draw", "_law_is_number", "_law_same", "_law_other_side", "_law_minus", "_law_is_kin", "_law_path", "_law_between", "_law_asked"] : List PySem.Str)
abbrev R : PySem.W.OpenRow := PySem.W.OpenLaw.row PySem.Challenge.rw_forkwaits_k06_kins_between_paths
abbrev hk : PySem.W.Hook := Fw.hookY 6 fa ts exB fn
def ob (s : PySem.W.SharedT) : Fw.AlY := Fw.obsY 6 fa ts exB fn (HandSHeadRun.getT s)
theorem ob_eq (s : PySem.W.SharedT) : ob s = hk.obs s.abs := Fw.obsY_eq (HandSHeadRun.getT_eq s)
theorem run (w : World) : HandSHeadRun.RunEq R (PySem.W.view R.prog [29]) hk ob 8000 loose w := by
  refine byRow2 "special-get-raises" (P := fun w => HandSHeadRun.RunEq R (PySem.W.view R.prog [29]) hk ob 8000 loose w) (fun w os => ?_) (fun w os => ?_) w
  · kernel_rfl
  · kernel_rfl
end Fk
open PySem PySem.W PySem.Calls PyProof.Rows
theorem PySem.Challenge.cw_forkwaits_k06_kins_between_paths_holds : PySem.Challenge.rw_forkwaits_k06_kins_between_paths.Holds := by
  w_on; o_law
  refine HandSHeadRun.head_any (r := OpenLaw.row PySem.Challenge.rw_forkwaits_k06_kins_between_paths) (q := view (OpenLaw.row PySem.Challenge.rw_forkwaits_k06_kins_between_paths).prog [29]) (H := Fk.hk) (ob := Fk.ob) (M := 8000) (loose := Fk.loose) (d := HandSHeadRun.topDef (OpenLaw.row PySem.Challenge.rw_forkwaits_k06_kins_between_paths).prog 29) (kwd := []) Fk.ob_eq
    (by kernel_rfl) (fun s => by kernel_rfl) Fk.run (by kernel_rfl) (by kernel_rfl) (by kernel_rfl) (by rfl) (by first | assumption | decide +kernel) (by decide +kernel) ⟨rfl, rfl, rfl, rfl, rfl, by decide +kernel⟩ ?hw ?hc
  case hw => w_witness2
  case hc =>
    refine L2.walk_ofE (l := PySem.Challenge.rw_forkwaits_k06_kins_between_paths) (n := 63) (k := 9) (x := "script") (CX := L2.CX0) rfl (by decide) (by kernel_rfl) ⟨rfl, by decide, by decide⟩ ?F (fun _ _ _ _ z => z)
    intro w mg fa h Y G hmg0
    obtain ⟨K, KX, c⟩ := Y
    have hmg : mg ("law" : PySem.Str) = some (.ref fa) := by
      have e : (HandSHeadRun.topDef (OpenLaw.row PySem.Challenge.rw_forkwaits_k06_kins_between_paths).prog 29).name = ("law" : PySem.Str) := by kernel_rfl
      rw [← e]
      exact hmg0
    have T : Fk.Txt K mg w := ⟨h, KX, G, c⟩
    have e := hmg.symm.trans (Fk.g_law T)
    cases e
    obtain ⟨fd, F⟩ := Fk.F_law T
    have hb := L2.FunD.bindsA (ps := ["script"]) F fun _ _ _ _ _ _ us hl => match us, hl with | [_], _ => rfl
    refine ⟨K, fd, Fk.sp_law K, KX, fun s v => hb s [v] rfl, fun H a ns hl _ hS => Fk.sp_law_of hl hS, fun base _ _ => ?_⟩
    exact (Fk.ok_law (P := (PySem.Challenge.rw_forkwaits_k06_kins_between_paths).prog) (base := base) T).fn F
