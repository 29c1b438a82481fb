import PyProof.Rows.All
import Wide.All
import OpenK.AllK
import Wide.FinOn
import HandS.ForMost
import HandS.Walk
import HandS.TupAny
import HandS.TupMul
import HandS.Gcd
import HandS.Wide
import HandS.IsInst
import HandS.Conv
import HandS.Defaults
import KE.GoesZip
import KE.GoesEnum
import HandS.Zip
import KE.KStateDown
import HandS.Base
import HandS.Call
import HandS.Ends
import HandS.More
import HandS.Words
import HandS.WordsExc
import HandS.Head0
import HandS.Head1
import HandS.Head2
import HandS.Head3
import HandS.HeadEnd
import HandS.HeadHook1
import HandS.HeadHook2
import HandS.HeadHook3
import HandS.HeadHook4
import PySem.Challenge.RW_straightleast_k38_whole_rounds_and_power
section
set_option Elab.async false
set_option linter.all false
set_option maxRecDepth 100000
set_option maxHeartbeats 4000000
/-! K38A: kinds of values that stand through growth, and what expressions evaluate to. -/
namespace K38
open PySem PySem.Spec PyProof.Rows L2

/-! ### kinds of values -/
structure Rp where
  p : V → Hp → Prop
  mono : ∀ {v : V} {H H' : Hp}, Same H H' → p v H → p v H'
theorem sameT {K : PySem.W.Frag} {H H' : Hp} {a : Addr} {xs : List V} (e : Same H H') (h : SqT K H a xs) : SqT K H' a xs := by
  rcases h with (h | ⟨o, h⟩) | h
  · exact .inl (.inl (e _ _ h))
  · exact .inl (.inr ⟨o, e _ _ h⟩)
  · exact .inr h
theorem sameL {K : PySem.W.Frag} {H H' : Hp} {a : Addr} {xs : List V} (e : Same H H') (h : SqL K H a xs) : SqL K H' a xs := e.seq h
theorem Same.new {H : Hp} {p : Addr} {o : HO} (h : H p = none) : Same H (upd H p o) := fun a u e => by
  rw [upd_ne (ne_of_none e h)]
  exact e
theorem Same.mut {H H' : Hp} {p : Addr} {o : HO} (e : Same H H') (h : H p = none) : Same H (upd H' p o) := fun a u ha => by
  rw [upd_ne (ne_of_none ha h)]
  exact e a u ha
def kV (v0 : V) : Rp := ⟨fun v _ => v = v0, fun _ h => h⟩
abbrev kI (i : Int) : Rp := kV (.int i)
abbrev kB (b : Bool) : Rp := kV (.bl b)
abbrev kN : Rp := kV .non
def kAny : Rp := ⟨fun _ _ => True, fun _ h => h⟩
def kEx {β : Type} (P : β → Prop) (r : β → Rp) : Rp := ⟨fun v H => ∃ b, P b ∧ (r b).p v H, fun e ⟨b, hb, h⟩ => ⟨b, hb, (r b).mono e h⟩⟩
def kL (K : PySem.W.Frag) (n : Nat) (r : Nat → Rp) : Rp :=
  ⟨fun v H => ∃ a xs, v = .ref a ∧ SqL K H a xs ∧ xs.length = n ∧ ∀ (i : Nat) x, xs[i]? = some x → (r i).p x H,
   fun e ⟨a, xs, h1, h2, h3, h4⟩ => ⟨a, xs, h1, sameL e h2, h3, fun i x h => (r i).mono e (h4 i x h)⟩⟩
def kT (K : PySem.W.Frag) (n : Nat) (r : Nat → Rp) : Rp :=
  ⟨fun v H => ∃ a xs, v = .ref a ∧ SqT K H a xs ∧ xs.length = n ∧ ∀ (i : Nat) x, xs[i]? = some x → (r i).p x H,
   fun e ⟨a, xs, h1, h2, h3, h4⟩ => ⟨a, xs, h1, sameT e h2, h3, fun i x h => (r i).mono e (h4 i x h)⟩⟩
/-- a tuple of n ints; a list of n ints; a square table -/
abbrev kTI (K : PySem.W.Frag) (n : Nat) (f : Nat → Int) : Rp := kT K n fun i => kI (f i)
abbrev kLI (K : PySem.W.Frag) (n : Nat) (f : Nat → Int) : Rp := kL K n fun i => kI (f i)
abbrev kTab (K : PySem.W.Frag) (n : Nat) (f : Nat → Nat → Int) : Rp := kT K n fun i => kTI K n (f i)
theorem kT_mono {K : PySem.W.Frag} {n : Nat} {r r' : Nat → Rp} {v : V} {H : Hp} (h : ∀ i < n, ∀ x H, (r i).p x H → (r' i).p x H) (q : (kT K n r).p v H) : (kT K n r').p v H := by
  obtain ⟨a, xs, h1, h2, h3, h4⟩ := q
  exact ⟨a, xs, h1, h2, h3, fun i x hx => h i (by rw [← h3]; exact (List.getElem?_eq_some_iff.mp hx).1) x H (h4 i x hx)⟩
theorem kL_mono {K : PySem.W.Frag} {n : Nat} {r r' : Nat → Rp} {v : V} {H : Hp} (h : ∀ i < n, ∀ x H, (r i).p x H → (r' i).p x H) (q : (kL K n r).p v H) : (kL K n r').p v H := by
  obtain ⟨a, xs, h1, h2, h3, h4⟩ := q
  exact ⟨a, xs, h1, h2, h3, fun i x hx => h i (by rw [← h3]; exact (List.getElem?_eq_some_iff.mp hx).1) x H (h4 i x hx)⟩
theorem kTI_congr {K : PySem.W.Frag} {n : Nat} {f g : Nat → Int} {v : V} {H : Hp} (h : ∀ i < n, f i = g i) (q : (kTI K n f).p v H) : (kTI K n g).p v H :=
  kT_mono (fun i hi x H (e : x = .int (f i)) => show x = .int (g i) by rw [e, h i hi]) q
theorem kLI_congr {K : PySem.W.Frag} {n : Nat} {f g : Nat → Int} {v : V} {H : Hp} (h : ∀ i < n, f i = g i) (q : (kLI K n f).p v H) : (kLI K n g).p v H :=
  kL_mono (fun i hi x H (e : x = .int (f i)) => show x = .int (g i) by rw [e, h i hi]) q
theorem kTab_congr {K : PySem.W.Frag} {n : Nat} {f g : Nat → Nat → Int} {v : V} {H : Hp} (h : ∀ i < n, ∀ j < n, f i j = g i j) (q : (kTab K n f).p v H) : (kTab K n g).p v H :=
  kT_mono (fun i hi x H q => kTI_congr (h i hi) q) q
/-- the items of a list or tuple of ints, as a list -/
theorem ints_of {xs : List V} {n : Nat} {f : Nat → Int} {H : Hp} (hl : xs.length = n) (h : ∀ (i : Nat) x, xs[i]? = some x → (kI (f i)).p x H) : xs = ((List.range n).map f).map V.int := by
  apply List.ext_getElem?
  intro i
  by_cases hi : i < n
  · have h1 : xs[i]? = some xs[i] := List.getElem?_eq_getElem (by omega)
    have h2 : xs[i] = .int (f i) := h i _ h1
    rw [h1, h2]
    simp [hi]
  · rw [List.getElem?_eq_none (by omega)]
    simp [hi]

/-! ### arguments -/
def Fits (H : Hp) : List V → List Rp → Prop
  | [], [] => True
  | v :: vs, r :: rs => r.p v H ∧ Fits H vs rs
  | _, _ => False
theorem Fits.mono {H H' : Hp} (e : Same H H') : ∀ {vs : List V} {rs : List Rp}, Fits H vs rs → Fits H' vs rs
  | [], [], _ => trivial
  | _ :: _, r :: _, ⟨h, t⟩ => ⟨r.mono e h, Fits.mono e t⟩
  | [], _ :: _, h => h.elim
  | _ :: _, [], h => h.elim
theorem Fits.len {H : Hp} : ∀ {vs : List V} {rs : List Rp}, Fits H vs rs → vs.length = rs.length
  | [], [], _ => rfl
  | _ :: _, _ :: _, ⟨_, t⟩ => congrArg (· + 1) (Fits.len t)
  | [], _ :: _, h => h.elim
  | _ :: _, [], h => h.elim
theorem Fits.c0 {H : Hp} {vs : List V} (h : Fits H vs []) : vs = [] := by
  cases vs with
  | nil => rfl
  | cons v r => exact h.elim
theorem Fits.c1 {H : Hp} {vs : List V} {r : Rp} {rs : List Rp} (h : Fits H vs (r :: rs)) : ∃ v ws, vs = v :: ws ∧ r.p v H ∧ Fits H ws rs := by
  cases vs with
  | nil => exact h.elim
  | cons v ws => exact ⟨v, ws, rfl, h.1, h.2⟩
theorem Fits.one {H : Hp} {vs : List V} {r : Rp} (h : Fits H vs [r]) : ∃ v, vs = [v] ∧ r.p v H := by
  obtain ⟨v, ws, rfl, h1, h2⟩ := h.c1
  exact ⟨v, by rw [h2.c0], h1⟩
theorem Fits.two {H : Hp} {vs : List V} {r q : Rp} (h : Fits H vs [r, q]) : ∃ v w, vs = [v, w] ∧ r.p v H ∧ q.p w H := by
  obtain ⟨v, ws, rfl, h1, h2⟩ := h.c1
  obtain ⟨w, rfl, h3⟩ := h2.one
  exact ⟨v, w, rfl, h1, h3⟩
theorem Fits.three {H : Hp} {vs : List V} {r q t : Rp} (h : Fits H vs [r, q, t]) : ∃ v w x, vs = [v, w, x] ∧ r.p v H ∧ q.p w H ∧ t.p x H := by
  obtain ⟨v, ws, rfl, h1, h2⟩ := h.c1
  obtain ⟨w, x, rfl, h3, h4⟩ := h2.two
  exact ⟨v, w, x, rfl, h1, h3, h4⟩
theorem Fits.four {H : Hp} {vs : List V} {r q t u : Rp} (h : Fits H vs [r, q, t, u]) : ∃ v w x y, vs = [v, w, x, y] ∧ r.p v H ∧ q.p w H ∧ t.p x H ∧ u.p y H := by
  obtain ⟨v, ws, rfl, h1, h2⟩ := h.c1
  obtain ⟨w, x, y, rfl, h3, h4, h5⟩ := h2.three
  exact ⟨v, w, x, y, rfl, h1, h3, h4, h5⟩

/-! ### what is known of a heap: H2 without what stood in H1 beyond H -/
open Classical in
noncomputable def nu (H H1 H2 : Hp) : Hp := fun a => if H a = none ∧ H1 a ≠ none then none else H2 a
theorem nu_in {H H1 H2 : Hp} {a : Addr} (h : H a ≠ none ∨ H1 a = none) : nu H H1 H2 a = H2 a := by
  unfold nu
  rw [if_neg]
  rintro ⟨h1, h2⟩
  rcases h with h | h
  · exact h h1
  · exact h2 h
theorem nu_of {H H1 H2 : Hp} {a : Addr} {o : HO} (h : nu H H1 H2 a = some o) : (H a ≠ none ∨ H1 a = none) ∧ H2 a = some o := by
  unfold nu at h
  by_cases c : H a = none ∧ H1 a ≠ none
  · rw [if_pos c] at h
    cases h
  · rw [if_neg c] at h
    refine ⟨?_, h⟩
    by_cases c1 : H a = none
    · exact .inr (Classical.byContradiction fun c2 => c ⟨c1, c2⟩)
    · exact .inl c1
theorem ne_none {H : Hp} {a : Addr} {o : HO} (h : H a = some o) : H a ≠ none := fun e => by
  rw [h] at e
  cases e
theorem nu_sub {H H1 H2 : Hp} : Same (nu H H1 H2) H2 := fun a o h => (nu_of h).2
theorem nu_base {H H1 H2 : Hp} (e : Same H H1) (e2 : Same H1 H2) : Same H (nu H H1 H2) := fun a o h => by
  rw [nu_in (.inl (ne_none h))]
  exact e2 _ _ (e _ _ h)
theorem nu_fwd {H H1 H2 H3 : Hp} (e : Same H2 H3) : Same (nu H H1 H2) (nu H H1 H3) := fun a o h => by
  obtain ⟨c, h2⟩ := nu_of h
  rw [nu_in c]
  exact e _ _ h2
theorem nu_back {H H1 H2 H3 : Hp} (e : Same H1 H2) : Same (nu H H2 H3) (nu H H1 H3) := fun a o h => by
  obtain ⟨c, h2⟩ := nu_of h
  rw [nu_in (c.imp id fun z => e.free z)]
  exact h2
theorem nu_nest {H H1 H3 H4 : Hp} (e : Same H1 H3) : Same (nu (nu H H1 H3) H3 H4) (nu H H1 H4) := fun a o h => by
  obtain ⟨c, h2⟩ := nu_of h
  refine (nu_in ?_).trans h2
  rcases c with c | c
  · cases q : nu H H1 H3 a with
    | none => exact absurd q c
    | some u => exact (nu_of q).1
  · exact .inr (e.free c)
theorem nu_all {H H2 : Hp} : Same H2 (nu H H H2) := fun a o h => by
  rw [nu_in ?_]
  · exact h
  · by_cases c : H a = none
    · exact .inr c
    · exact .inl c
theorem nu_mono {H H' H1 H2 : Hp} (e : Same H H') : Same (nu H H1 H2) (nu H' H1 H2) := fun a o h => by
  obtain ⟨c, h2⟩ := nu_of h
  rw [nu_in ?_]
  · exact h2
  · rcases c with c | c
    · refine .inl ?_
      cases q : H a with
      | none => exact absurd q c
      | some u => exact ne_none (e _ _ q)
    · exact .inr c
/-- a new object is known -/
theorem nu_new {H H1 H2 : Hp} {p : Addr} {o : HO} (e : Same H1 H2) (h : H2 p = none) : nu H H1 (upd H2 p o) p = some o := by
  rw [nu_in (.inr (e.free h))]
  exact upd_same

/-! ### what evaluates to what -/
def GE (te : TE) (σ : L2.St) (H : Hp) (r : Rp) : Prop := ∀ H1, Same H H1 → ∀ Q : VK, (∀ v H2, Same H1 H2 → r.p v (nu H H1 H2) → Q v H2) → te σ H1 Q
def GT (tt : TT) (σ : L2.St) (H : Hp) (b : Bool) : Prop := ∀ H1, Same H H1 → ∀ Q : Bool → Hp → Prop, (∀ H2, Same H1 H2 → Q b H2) → tt σ H1 Q
def GA (ta : TA) (σ : L2.St) (H : Hp) (rs : List Rp) : Prop := ∀ H1, Same H H1 → ∀ Q : List V → Hp → Prop, (∀ vs H2, Same H1 H2 → Fits (nu H H1 H2) vs rs → Q vs H2) → ta σ H1 Q
def GO (to : TO) (σ : L2.St) (H : Hp) (o : Option Int) : Prop := ∀ H1, Same H H1 → ∀ Q : Option Int → Hp → Prop, (∀ H2, Same H1 H2 → Q o H2) → to σ H1 Q
/-- a two-place operation on values; a call -/
def GR (r : R2) (a b c : Rp) : Prop := ∀ x y H H1, Same H H1 → a.p x H → b.p y H → ∀ Q : VK, (∀ v H2, Same H1 H2 → c.p v (nu H H1 H2) → Q v H2) → r x y H1 Q
def GC (r : List V → Hp → VK → Prop) (rs : List Rp) (c : Rp) : Prop := ∀ vs H H1, Same H H1 → Fits H vs rs → ∀ Q : VK, (∀ v H2, Same H1 H2 → c.p v (nu H H1 H2) → Q v H2) → r vs H1 Q

section
variable {K : PySem.W.Frag} {σ : L2.St} {H H' : Hp} {ta tb tc te : TE} {t u : TT} {a b c r r' : Rp} {rs : List Rp}
theorem GE.mono (e : Same H H') (h : GE te σ H r) : GE te σ H' r := fun H1 a Q q => h H1 (e.trans a) Q fun v H2 e2 p => q v H2 e2 (r.mono (nu_mono e) p)
theorem GT.mono {b : Bool} (e : Same H H') (h : GT t σ H b) : GT t σ H' b := fun H1 a Q q => h H1 (e.trans a) Q q
theorem GA.mono {ta : TA} (e : Same H H') (h : GA ta σ H rs) : GA ta σ H' rs := fun H1 a Q q => h H1 (e.trans a) Q fun v H2 e2 p => q v H2 e2 (p.mono (nu_mono e))
theorem GE.conv (h : GE te σ H r) (c : ∀ v H1, Same H H1 → r.p v H1 → r'.p v H1) : GE te σ H r' := fun H1 a Q q => h H1 a Q fun v H2 e p => q v H2 e (c v _ (nu_base a e) p)
theorem GE.int {i j : Int} (h : GE te σ H (kI i)) (e : i = j) : GE te σ H (kI j) := e ▸ h
theorem GE.bool {i j : Bool} (h : GE te σ H (kB i)) (e : i = j) : GE te σ H (kB j) := e ▸ h
theorem GT.to {b b' : Bool} (h : GT t σ H b) (e : b = b') : GT t σ H b' := e ▸ h
theorem ge_var {i : Nat} {v : V} (hv : r.p v H) (h : σ[i]? = some (some v)) : GE (tVar i) σ H r := fun H1 e Q q => ⟨v, h, q v H1 (Same.refl H1) (r.mono (nu_base e (Same.refl H1)) hv)⟩
theorem ge_c {v : V} : GE (tC v) σ H (kV v) := fun H1 e Q q => q v H1 (Same.refl H1) rfl
theorem ge_op {ρ : R2} (ha : GE ta σ H a) (hb : GE tb σ H b) (hr : GR ρ a b c) : GE (tOp ρ ta tb) σ H c := fun H1 e Q q =>
  ha H1 e _ fun x H2 e2 px => hb H2 (e.trans e2) _ fun y H3 e3 py =>
    hr x y (nu H H1 H3) H3 nu_sub (a.mono (nu_fwd e3) px) (b.mono (nu_back e2) py) Q fun v H4 e4 pv => q v H4 ((e2.trans e3).trans e4) (c.mono (nu_nest (e2.trans e3)) pv)
theorem gr_I0 {g : Int → Int → V} {i j : Int} : GR (rI0 g) (kI i) (kI j) (kV (g i j)) := fun x y _ H1 _ hx hy Q q => ⟨i, j, hx, hy, q _ H1 (Same.refl H1) rfl⟩
theorem gr_I {C : Int → Int → Prop} {g : Int → Int → V} {i j : Int} (hc : C i j) : GR (rI C g) (kI i) (kI j) (kV (g i j)) := fun x y _ H1 _ hx hy Q q => ⟨i, j, hx, hy, hc, q _ H1 (Same.refl H1) rfl⟩
theorem ge_I0 {g : Int → Int → V} {i j : Int} (ha : GE ta σ H (kI i)) (hb : GE tb σ H (kI j)) : GE (tOp (rI0 g) ta tb) σ H (kV (g i j)) := ge_op ha hb gr_I0
theorem ge_I {C : Int → Int → Prop} {g : Int → Int → V} {i j : Int} (ha : GE ta σ H (kI i)) (hb : GE tb σ H (kI j)) (hc : C i j) : GE (tOp (rI C g) ta tb) σ H (kV (g i j)) := ge_op ha hb (gr_I hc)
theorem ge_neg {i : Int} (ha : GE ta σ H (kI i)) : GE (tUn (rU fun i => .int (-i)) ta) σ H (kI (-i)) := fun H1 e Q q => ha H1 e _ fun x H2 e2 px => ⟨i, px, q _ H2 e2 rfl⟩
theorem ge_eqI {i j : Int} (ha : GE ta σ H (kI i)) (hb : GE tb σ H (kI j)) : GE (tOp rEq ta tb) σ H (kB (decide (i = j))) := ge_op ha hb fun x y _ H1 _ hx hy Q q => by
  cases hx
  cases hy
  refine ⟨rfl, q _ H1 (Same.refl H1) ?_⟩
  show V.bl _ = V.bl _
  congr 1
  exact decide_eq_decide.mpr ⟨fun h => V.int.inj h, fun h => by rw [h]⟩
theorem ge_neI {i j : Int} (ha : GE ta σ H (kI i)) (hb : GE tb σ H (kI j)) : GE (tOp rNe ta tb) σ H (kB (!decide (i = j))) := ge_op ha hb fun x y _ H1 _ hx hy Q q => by
  cases hx
  cases hy
  refine ⟨rfl, q _ H1 (Same.refl H1) ?_⟩
  show V.bl _ = V.bl _
  congr 2
  exact decide_eq_decide.mpr ⟨fun h => V.int.inj h, fun h => by rw [h]⟩
/-- subscripts -/
theorem ge_ixT {n : Nat} {ρ : Nat → Rp} {i : Nat} {z : Int} (ha : GE ta σ H (kT K n ρ)) (hb : GE tb σ H (kI z)) (hz : z = (i : Int)) (hi : i < n) : GE (tOp (rIxT K) ta tb) σ H (ρ i) := ge_op ha hb fun x y H0 H1 e0 hx hy Q q => by
  obtain ⟨p, xs, rfl, hS, hl, hp⟩ := hx
  have e : xs[i]? = some xs[i] := List.getElem?_eq_getElem (by omega)
  subst hz
  exact ⟨p, xs, _, _, rfl, hy, sameT e0 hS, atI_nat e, q _ H1 (Same.refl H1) ((ρ i).mono (nu_base e0 (Same.refl H1)) (hp i _ e))⟩
theorem ge_ixL {n : Nat} {ρ : Nat → Rp} {i : Nat} {z : Int} (ha : GE ta σ H (kL K n ρ)) (hb : GE tb σ H (kI z)) (hz : z = (i : Int)) (hi : i < n) : GE (tOp (rIxL K) ta tb) σ H (ρ i) := ge_op ha hb fun x y H0 H1 e0 hx hy Q q => by
  obtain ⟨p, xs, rfl, hS, hl, hp⟩ := hx
  have e : xs[i]? = some xs[i] := List.getElem?_eq_getElem (by omega)
  subst hz
  exact ⟨p, xs, _, _, rfl, hy, sameL e0 hS, atI_nat e, q _ H1 (Same.refl H1) ((ρ i).mono (nu_base e0 (Same.refl H1)) (hp i _ e))⟩
/-- tests, truth values -/
theorem gt_test {k : Bool} (h : GE te σ H (kB k)) : GT (tTest te) σ H k := fun H1 e Q q => h H1 e _ fun v H2 e2 p => ⟨k, p, q H2 e2⟩
theorem gt_B {k : Bool} (h : GE te σ H (kB k)) : GT (tB te) σ H k := fun H1 e Q q => h H1 e _ fun v H2 e2 p => ⟨k, p, q H2 e2⟩
theorem gt_not {k : Bool} (h : GT t σ H k) : GT (tNot t) σ H (!k) := fun H1 e Q q => h H1 e _ fun H2 e2 => q H2 e2
theorem gt_and {k l : Bool} (h1 : GT t σ H k) (h2 : k = true → GT u σ H l) : GT (tAnd t u) σ H (k && l) := fun H1 e Q q => h1 H1 e _ fun H2 e2 => by
  cases k with
  | true => exact h2 rfl H2 (e.trans e2) Q fun H3 e3 => q H3 (e2.trans e3)
  | false => exact q H2 e2
theorem gt_or {k l : Bool} (h1 : GT t σ H k) (h2 : k = false → GT u σ H l) : GT (tOr t u) σ H (k || l) := fun H1 e Q q => h1 H1 e _ fun H2 e2 => by
  cases k with
  | true => exact q H2 e2
  | false => exact h2 rfl H2 (e.trans e2) Q fun H3 e3 => q H3 (e2.trans e3)
theorem ge_andV {k l : Bool} (h1 : GE ta σ H (kB k)) (h2 : k = true → GE tb σ H (kB l)) : GE (tAndV ta tb) σ H (kB (k && l)) := fun H1 e Q q => h1 H1 e _ fun v H2 e2 p => ⟨k, p, by
  cases k with
  | true => exact h2 rfl H2 (e.trans e2) Q fun v H3 e3 p => q v H3 (e2.trans e3) p
  | false => exact q _ H2 e2 rfl⟩
theorem ge_notV {k : Bool} (h1 : GE ta σ H (kB k)) : GE (tNotV ta) σ H (kB (!k)) := fun H1 e Q q => h1 H1 e _ fun v H2 e2 p => ⟨k, p, q _ H2 e2 rfl⟩
theorem ge_if {k : Bool} (h : GT t σ H k) (h1 : k = true → GE ta σ H r) (h2 : k = false → GE tb σ H r) : GE (tIf t ta tb) σ H r := fun H1 e Q q => h H1 e _ fun H2 e2 => by
  cases k with
  | true => exact h1 rfl H2 (e.trans e2) Q fun v H3 e3 p => q v H3 (e2.trans e3) (r.mono (nu_back e2) p)
  | false => exact h2 rfl H2 (e.trans e2) Q fun v H3 e3 p => q v H3 (e2.trans e3) (r.mono (nu_back e2) p)
/-- a op b op' c of ints -/
theorem ge_chainI {p p' : Int → Int → Bool} {i j k : Int} (ha : GE ta σ H (kI i)) (hb : GE tb σ H (kI j)) (hc : GE tc σ H (kI k)) :
    GE (tChain (rI0 fun i j => .bl (p i j)) (rI0 fun i j => .bl (p' i j)) ta tb tc) σ H (kB (p i j && p' j k)) := fun H1 e Q q =>
  ha H1 e _ fun x H2 e2 px => hb H2 (e.trans e2) _ fun y H3 e3 py => ⟨i, j, px, py, _, rfl, by
    cases hp : p i j with
    | true =>
      refine hc H3 ((e.trans e2).trans e3) _ fun z H4 e4 pz => ⟨j, k, py, pz, q _ H4 ((e2.trans e3).trans e4) ?_⟩
      show V.bl _ = V.bl _
      rw [hp] <;> rfl
    | false =>
      refine q _ H3 (e2.trans e3) ?_
      show V.bl _ = V.bl _
      rw [hp] <;> rfl⟩
/-- arguments -/
theorem ga_nil : GA tNil σ H [] := fun H1 e Q q => q [] H1 (Same.refl H1) trivial
theorem ga_cons {tr : TA} (h : GE ta σ H r) (hr : GA tr σ H rs) : GA (tCons ta tr) σ H (r :: rs) := fun H1 e Q q =>
  h H1 e _ fun x H2 e2 px => hr H2 (e.trans e2) _ fun vs H3 e3 pv => q _ H3 (e2.trans e3) ⟨r.mono (nu_fwd e3) px, pv.mono (nu_back e2)⟩
theorem ga_one (h : GE ta σ H r) : GA (tCons ta tNil) σ H [r] := ga_cons h ga_nil
theorem ga_two (h : GE ta σ H r) (h2 : GE tb σ H r') : GA (tCons ta (tCons tb tNil)) σ H [r, r'] := ga_cons h (ga_one h2)
theorem ge_cb {ρ : List V → Hp → VK → Prop} {ta : TA} (h : GA ta σ H rs) (hr : GC ρ rs c) : GE (tCB ρ ta) σ H c := fun H1 e Q q =>
  h H1 e _ fun vs H2 e2 pv => hr vs (nu H H1 H2) H2 nu_sub pv Q fun v H3 e3 p => q v H3 (e2.trans e3) (c.mono (nu_nest e2) p)
/-- displays -/
def ixR : List Rp → Nat → Rp
  | [], _ => kAny
  | r :: _, 0 => r
  | _ :: rs, i + 1 => ixR rs i
theorem Fits.at {H : Hp} : ∀ {vs : List V} {rs : List Rp}, Fits H vs rs → ∀ (i : Nat) x, vs[i]? = some x → (ixR rs i).p x H
  | [], [], _, i, x, h => by simp at h
  | v :: vs, r :: rs, ⟨h1, _⟩, 0, x, h => by cases h; exact h1
  | v :: vs, r :: rs, ⟨_, h2⟩, i + 1, x, h => Fits.at h2 i x (by simpa using h)
  | [], _ :: _, h, _, _, _ => h.elim
  | _ :: _, [], h, _, _, _ => h.elim
theorem ge_tup {ta : TA} (h : GA ta σ H rs) (hl : rs.length ≤ 1000) : GE (tTup ta) σ H (kT K rs.length (ixR rs)) := fun H1 e Q q =>
  h H1 e _ fun vs H2 e2 pv => ⟨Nat.le_of_lt (small1000 (by rw [pv.len]; exact hl)), fun p hp => q _ _ (e2.trans (Same.new hp)) ⟨p, vs, rfl, .inl (.inl (nu_new e2 hp)), pv.len, fun i x hx => (pv.mono (nu_fwd (Same.new hp))).at i x hx⟩⟩
theorem ge_lst {ta : TA} (h : GA ta σ H rs) (hl : rs.length ≤ 1000) : GE (tLst ta) σ H (kL K rs.length (ixR rs)) := fun H1 e Q q =>
  h H1 e _ fun vs H2 e2 pv => ⟨Nat.le_of_lt (small1000 (by rw [pv.len]; exact hl)), fun p hp => q _ _ (e2.trans (Same.new hp)) ⟨p, vs, rfl, .inl (.inl (nu_new e2 hp)), pv.len, fun i x hx => (pv.mono (nu_fwd (Same.new hp))).at i x hx⟩⟩
/-- a pair -/
def kP (K : PySem.W.Frag) (a b : Rp) : Rp := kT K 2 (ixR [a, b])
theorem ge_pair (ha : GE ta σ H a) (hb : GE tb σ H b) : GE (tTup (tCons ta (tCons tb tNil))) σ H (kP K a b) := ge_tup (rs := [a, b]) (ga_two ha hb) (by show 2 ≤ 1000; decide)
theorem kP_open {v : V} (h : (kP K a b).p v H) : ∃ p x y, v = .ref p ∧ SqT K H p [x, y] ∧ a.p x H ∧ b.p y H := by
  obtain ⟨p, xs, rfl, hS, hl, hp⟩ := h
  match xs, hl with
  | [x, y], _ => exact ⟨p, x, y, rfl, hS, hp 0 x rfl, hp 1 y rfl⟩

/-! ### built-in functions -/
theorem gc_lenT {n : Nat} {ρ : Nat → Rp} : GC (fun xs H Q => ∃ p ys, xs = [.ref p] ∧ (SqL K H p ys ∨ SqT K H p ys) ∧ Q (.int ys.length) H) [kT K n ρ] (kI n) := fun vs H H1 e hf Q q => by
  obtain ⟨v, rfl, a, xs, rfl, hS, hl, _⟩ := hf.one
  exact ⟨a, xs, rfl, .inr (sameT e hS), q _ H1 (Same.refl H1) (by rw [hl]; rfl)⟩
theorem gc_lenL {n : Nat} {ρ : Nat → Rp} : GC (fun xs H Q => ∃ p ys, xs = [.ref p] ∧ (SqL K H p ys ∨ SqT K H p ys) ∧ Q (.int ys.length) H) [kL K n ρ] (kI n) := fun vs H H1 e hf Q q => by
  obtain ⟨v, rfl, a, xs, rfl, hS, hl, _⟩ := hf.one
  exact ⟨a, xs, rfl, .inl (sameL e hS), q _ H1 (Same.refl H1) (by rw [hl]; rfl)⟩
theorem gc_tuple {n : Nat} {ρ : Nat → Rp} : GC (fun xs H Q => ∃ p ys, xs = [.ref p] ∧ ((SqL K H p ys ∧ ∀ l, H l = none → Q (.ref l) (upd H l (.tup ys))) ∨ (SqT K H p ys ∧ Q (.ref p) H))) [kL K n ρ] (kT K n ρ) := fun vs H H1 e hf Q q => by
  obtain ⟨v, rfl, a, xs, rfl, hS, hl, hp⟩ := hf.one
  exact ⟨a, xs, rfl, .inl ⟨sameL e hS, fun l hn => q _ _ (Same.new hn) ⟨l, xs, rfl, .inl (.inl (nu_new (Same.refl _) hn)), hl, fun i x hx => (ρ i).mono (nu_base e (Same.new hn)) (hp i x hx)⟩⟩⟩
/-- the least of n -/
def minF : Nat → (Nat → Int) → Int
  | 0, f => f 0
  | 1, f => f 0
  | n + 2, f => min (minF (n + 1) f) (f (n + 1))
theorem minF_le : ∀ {n : Nat} {f : Nat → Int} (i : Nat), i < n → minF n f ≤ f i
  | 0, _, _, h => by omega
  | 1, f, i, h => by
    have e : i = 0 := by omega
    rw [e]
    exact Int.le_refl _
  | n + 2, f, i, h => by
    show min (minF (n + 1) f) (f (n + 1)) ≤ f i
    by_cases hi : i < n + 1
    · have := minF_le (f := f) i hi
      omega
    · have e : i = n + 1 := by omega
      rw [e]
      omega
theorem minF_mem : ∀ {n : Nat} {f : Nat → Int}, 0 < n → ∃ i, i < n ∧ minF n f = f i
  | 0, _, h => by omega
  | 1, f, _ => ⟨0, by omega, rfl⟩
  | n + 2, f, _ => by
    obtain ⟨i, hi, e⟩ := minF_mem (n := n + 1) (f := f) (by omega)
    by_cases hc : minF (n + 1) f ≤ f (n + 1)
    · exact ⟨i, by omega, by show min _ _ = _; rw [← e]; omega⟩
    · exact ⟨n + 1, by omega, by show min _ _ = _; omega⟩
theorem minF_eq {n : Nat} {f : Nat → Int} {m : Int} (h : ∃ i, i < n ∧ m = f i) (hl : ∀ i < n, m ≤ f i) : m = minF n f := by
  obtain ⟨i, hi, e⟩ := h
  obtain ⟨j, hj, e2⟩ := minF_mem (f := f) (show 0 < n by omega)
  have h1 := minF_le (f := f) i hi
  have h2 := hl j hj
  omega
theorem minF_congr {n : Nat} {f g : Nat → Int} (h0 : 0 < n) (h : ∀ i < n, f i = g i) : minF n f = minF n g := by
  obtain ⟨i, hi, e⟩ := minF_mem (f := f) h0
  exact minF_eq ⟨i, hi, by rw [e, h i hi]⟩ fun j hj => by rw [← h j hj]; exact minF_le j hj
theorem gc_min {n : Nat} {f : Nat → Int} (h0 : 0 < n) : GC (rMin K) [kLI K n f] (kI (minF n f)) := fun vs H H1 e hf Q q => by
  obtain ⟨v, rfl, a, xs, rfl, hS, hl, hp⟩ := hf.one
  have ex := ints_of hl hp
  rw [ex] at hS
  refine ⟨a, _, rfl, sameL e hS, by simpa using h0, fun m hm hle => q _ H1 (Same.refl H1) ?_⟩
  show V.int m = V.int (minF n f)
  congr 1
  refine minF_eq ?_ fun i hi => hle _ (List.mem_map.mpr ⟨i, List.mem_range.mpr hi, rfl⟩)
  obtain ⟨i, hi, e⟩ := List.mem_map.mp hm
  exact ⟨i, List.mem_range.mp hi, e.symm⟩
theorem gc_max {n : Nat} {f : Nat → Int} (h0 : 0 < n) : GC (rMax K) [kLI K n f] (kEx (fun _ => True) kI) := fun vs H H1 e hf Q q => by
  obtain ⟨v, rfl, a, xs, rfl, hS, hl, hp⟩ := hf.one
  have ex := ints_of hl hp
  rw [ex] at hS
  exact ⟨a, _, rfl, sameL e hS, by simpa using h0, fun m hm hle => q _ H1 (Same.refl H1) ⟨m, trivial, rfl⟩⟩
def sumF (n : Nat) (f : Nat → Int) : Int := ((List.range n).map f).sum
theorem gc_sum {n : Nat} {f : Nat → Int} : GC (rSum K) [kLI K n f] (kI (sumF n f)) := fun vs H H1 e hf Q q => by
  obtain ⟨v, rfl, a, xs, rfl, hS, hl, hp⟩ := hf.one
  rw [ints_of hl hp] at hS
  exact ⟨a, _, rfl, sameL e hS, q _ H1 (Same.refl H1) rfl⟩
/-- all of n truths -/
theorem gc_all {n : Nat} : GC (rAll K) [kL K n fun _ => kB true] (kB true) := fun vs H H1 e hf Q q => by
  obtain ⟨v, rfl, a, xs, rfl, hS, hl, hp⟩ := hf.one
  have ex : xs = (List.replicate n true).map V.bl := by
    apply List.ext_getElem?
    intro i
    by_cases hi : i < n
    · have h1 : xs[i]? = some xs[i] := List.getElem?_eq_getElem (by omega)
      have h2 : xs[i] = .bl true := hp i _ h1
      rw [h1, h2]
      simp [hi]
    · rw [List.getElem?_eq_none (by omega)]
      simp [hi]
  rw [ex] at hS
  refine ⟨a, _, rfl, sameL e hS, q _ H1 (Same.refl H1) ?_⟩
  show V.bl _ = V.bl true
  congr 1
  simp
theorem gc_int {i : Int} : GC (fun xs H Q => (∃ i, xs = [.int i] ∧ Q (.int i) H) ∨ ∃ k, xs = [.bl k] ∧ Q (.int (if k then 1 else 0)) H) [kI i] (kI i) := fun vs H H1 e hf Q q => by
  obtain ⟨v, rfl, hv⟩ := hf.one
  cases hv
  exact .inl ⟨i, rfl, q _ H1 (Same.refl H1) rfl⟩
theorem gc_abs {i : Int} : GC (fun xs H Q => ∃ i, xs = [.int i] ∧ Q (.int (if i < 0 then -i else i)) H) [kI i] (kI (i.natAbs : Int)) := fun vs H H1 e hf Q q => by
  obtain ⟨v, rfl, hv⟩ := hf.one
  cases hv
  refine ⟨i, rfl, q _ H1 (Same.refl H1) ?_⟩
  show V.int _ = V.int _
  congr 1
  split <;> omega
theorem gc_gcd {i j : Int} : GC rGcd [kI i, kI j] (kI ((Nat.gcd i.natAbs j.natAbs : Nat) : Int)) := fun vs H H1 e hf Q q => by
  obtain ⟨v, w, rfl, hv, hw⟩ := hf.two
  cases hv
  cases hw
  exact ⟨i, j, rfl, q _ H1 (Same.refl H1) rfl⟩
/-- isinstance -/
theorem gc_isInt {i : Int} {T : String} {k : Bool} (hk : kitB "int" T = some k) : GC (rIsi K) [kI i, kV (.ty T)] (kB k) := fun vs H H1 e hf Q q => by
  obtain ⟨v, w, rfl, hv, hw⟩ := hf.two
  cases hv
  cases hw
  exact ⟨_, _, _, _, k, rfl, .ty T, .base (.int i), kit_ty hk, q _ H1 (Same.refl H1) rfl⟩
theorem tyx_tup {a : Addr} {xs : List V} (h : SqT K H a xs) : TyX K H (.ref a) (.type "tuple") := by
  rcases h with (h | ⟨o, h⟩) | ⟨o, _, _, h1, h2, _⟩
  · exact .base (.tup h)
  · exact .fTuple h
  · exact .kTuple h1 h2
theorem gc_isTup {n : Nat} {ρ : Nat → Rp} : GC (rIsi K) [kT K n ρ, kV (.ty "tuple")] (kB true) := fun vs H H1 e hf Q q => by
  obtain ⟨v, w, rfl, ⟨a, xs, rfl, hS, _⟩, hw⟩ := hf.two
  cases hw
  exact ⟨_, _, _, _, true, rfl, .ty "tuple", tyx_tup (sameT e hS), kit_ty (by decide +kernel), q _ H1 (Same.refl H1) rfl⟩

/-! ### defs -/
/-- called with such arguments (for some x of which pre holds) it returns such a value, all else as it stood -/
def spF {α : Type} (pre : α → Prop) (args : α → List Rp) (res : α → Rp) : Sp := fun vs H Q _ => ∃ x Hk, pre x ∧ Same Hk H ∧ Fits Hk vs (args x) ∧ ∀ v H', Same H H' → (res x).p v (nu Hk H H') → Q v H'
theorem ge_call {α : Type} {pre : α → Prop} {args : α → List Rp} {res : α → Rp} {E : XK} {ta : TA} (x : α) (hp : pre x) (h : GA ta σ H (args x)) : GE (tCall (spF pre args res) [] E ta) σ H (res x) := fun H1 e Q q =>
  h H1 e _ fun vs H2 e2 pv => ⟨x, nu H H1 H2, hp, nu_sub, by rw [List.append_nil]; exact pv, fun v H3 e3 p => q v H3 (e2.trans e3) ((res x).mono (nu_nest e2) p)⟩
/-- .. what is handed over being told only by what holds of it -/
theorem ge_callE {α : Type} {pre : α → Prop} {args : α → List Rp} {res : α → Rp} {E : XK} {ta : TA} (h : GA ta σ H rs)
    (hx : ∀ vs H', Same H H' → Fits H' vs rs → ∃ x, pre x ∧ Fits H' vs (args x) ∧ ∀ v H2, (res x).p v H2 → r.p v H2) : GE (tCall (spF pre args res) [] E ta) σ H r := fun H1 e Q q =>
  h H1 e _ fun vs H2 e2 pv => by
    obtain ⟨x, hp, hf, hr⟩ := hx vs (nu H H1 H2) (nu_base e e2) pv
    exact ⟨x, nu H H1 H2, hp, nu_sub, by rw [List.append_nil]; exact hf, fun v H3 e3 p => q v H3 (e2.trans e3) (r.mono (nu_nest e2) (hr v _ p))⟩

/-! ### statements -/
variable {D : Ends} {ts tu : TS} {Hk : Hp}
theorem s_ret (h : GE te σ Hk r) (e : Same Hk H) (k : ∀ v H1, Same H H1 → r.p v (nu Hk H H1) → D.rt v H1) : tRet te D σ H := h H e _ k
theorem s_set {i : Nat} (h : GE te σ Hk r) (e : Same Hk H) (k : ∀ v H1, Same H H1 → r.p v (nu Hk H H1) → ts D (σ.set i (some v)) H1) : tSeq (tAsg te (gName i)) ts D σ H := h H e _ k
theorem s_if {k : Bool} (h : GT t σ Hk k) (e : Same Hk H) (h1 : k = true → ∀ H1, Same H H1 → ts D σ H1) (h2 : k = false → ∀ H1, Same H H1 → tu D σ H1) : tIfS t ts tu D σ H := h H e _ fun H1 e => by
  cases k with
  | true => exact h1 rfl H1 e
  | false => exact h2 rfl H1 e
/-- if not ..: raise, not taken -/
theorem s_skip {tn : TS} (h : GT t σ Hk false) (e : Same Hk H) (k : ∀ H1, Same H H1 → ts D σ H1) : tSeq (tIfS t tn tNext) ts D σ H := h H e _ fun H1 e => k H1 e
theorem s_skipN {tn : TS} (h : GT t σ Hk false) (e : Same Hk H) (k : ∀ H1, Same H H1 → D.nx σ H1) : tIfS t tn tNext D σ H := h H e _ fun H1 e => k H1 e
theorem s_drop (h : GE te σ Hk r) (e : Same Hk H) (k : ∀ H1, Same H H1 → ts D σ H1) : tSeq (tDrop te) ts D σ H := h H e _ fun v H1 e _ => k H1 e
/-- xs.append(e) -/
theorem s_app {l : Addr} {i : Nat} {xs : List V} (hl : H l = some (.lst xs)) (ha : σ[i]? = some (some (V.ref l))) (h : GE te σ Hk r) (e : Same Hk H) (hz : xs.length < 100000)
    (k : ∀ v H1, Same H H1 → r.p v (nu Hk H H1) → D.nx σ (upd H1 l (.lst (xs ++ [v])))) : tDrop (tBM K "list" rAppend (tVar i) (tCons te tNil)) D σ H :=
  ⟨.ref l, ha, Or.inl ⟨rfl, xs, .inl (.inl hl)⟩, h H e _ fun v H1 e p => ⟨l, xs, v, rfl, rfl, e l _ hl, Nat.lt_of_lt_of_le hz (by decide), k v H1 e p⟩⟩
theorem s_test {k : Bool} {Q : Bool → Hp → Prop} (h : GT t σ Hk k) (e : Same Hk H) (q : ∀ H1, Same H H1 → Q k H1) : t σ H Q := h H e _ q
theorem s_set1 {i : Nat} (h : GE te σ Hk r) (e : Same Hk H) (k : ∀ v H1, Same H H1 → r.p v (nu Hk H H1) → D.nx (σ.set i (some v)) H1) : tAsg te (gName i) D σ H := h H e _ k
/-- what is known grows with the heap -/
theorem Rp.up {v : V} {H0 H1 H2 H3 : Hp} (e : Same H2 H3) (h : r.p v (nu H0 H1 H2)) : r.p v (nu H0 H1 H3) := r.mono (nu_fwd e) h
/-! ### the same, from the entry H0 on: what is known now is nu Hk H0 H -/
variable {H0 : Hp}
theorem z_start {v : V} (e : Same Hk H) (h : r.p v Hk) : r.p v (nu Hk H H) := r.mono (nu_base e (Same.refl H)) h
theorem z_set {i : Nat} (b : Same H0 H) (h : GE te σ (nu Hk H0 H) r) (k : ∀ v H1, Same H H1 → Same H0 H1 → r.p v (nu Hk H0 H1) → ts D (σ.set i (some v)) H1) : tSeq (tAsg te (gName i)) ts D σ H := s_set h nu_sub fun v H1 e p => k v H1 e (b.trans e) (r.mono (nu_nest b) p)
theorem z_set1 {i : Nat} (b : Same H0 H) (h : GE te σ (nu Hk H0 H) r) (k : ∀ v H1, Same H H1 → Same H0 H1 → r.p v (nu Hk H0 H1) → D.nx (σ.set i (some v)) H1) : tAsg te (gName i) D σ H := s_set1 h nu_sub fun v H1 e p => k v H1 e (b.trans e) (r.mono (nu_nest b) p)
theorem z_ret (b : Same H0 H) (h : GE te σ (nu Hk H0 H) r) (k : ∀ v H1, Same H0 H1 → r.p v (nu Hk H0 H1) → D.rt v H1) : tRet te D σ H := s_ret h nu_sub fun v H1 e p => k v H1 (b.trans e) (r.mono (nu_nest b) p)
theorem z_drop (b : Same H0 H) (h : GE te σ (nu Hk H0 H) r) (k : ∀ H1, Same H H1 → Same H0 H1 → ts D σ H1) : tSeq (tDrop te) ts D σ H := s_drop h nu_sub fun H1 e => k H1 e (b.trans e)
theorem z_skip {tn : TS} (b : Same H0 H) (h : GT t σ (nu Hk H0 H) false) (k : ∀ H1, Same H H1 → Same H0 H1 → ts D σ H1) : tSeq (tIfS t tn tNext) ts D σ H := s_skip h nu_sub fun H1 e => k H1 e (b.trans e)
theorem z_if {k : Bool} (b : Same H0 H) (h : GT t σ (nu Hk H0 H) k) (h1 : k = true → ∀ H1, Same H H1 → Same H0 H1 → ts D σ H1) (h2 : k = false → ∀ H1, Same H H1 → Same H0 H1 → tu D σ H1) : tIfS t ts tu D σ H := s_if h nu_sub (fun c H1 e => h1 c H1 e (b.trans e)) fun c H1 e => h2 c H1 e (b.trans e)
theorem z_test {k : Bool} {Q : Bool → Hp → Prop} (b : Same H0 H) (h : GT t σ (nu Hk H0 H) k) (q : ∀ H1, Same H H1 → Same H0 H1 → Q k H1) : t σ H Q := h H nu_sub _ fun H1 e => q H1 e (b.trans e)
/-- a first statement with several ways out, then the rest: what holds between -/
theorem z_cut {M : L2.St → Hp → Prop} (hm : ∀ σ' H', M σ' H' → tu D σ' H') (h : (∀ σ' H', M σ' H' → tu D σ' H') → ts { D with nx := tu D } σ H) : tSeq ts tu D σ H := h hm
end
end K38
end
section
set_option Elab.async false
set_option linter.all false
set_option maxRecDepth 100000
set_option maxHeartbeats 4000000
/-! K38B: zip of a tuple and a list; comprehensions and loops over kinds of values. -/
namespace K38
open PySem PySem.Spec PyProof.Rows L2

/-! ### zip(tuple, list) -/
def ItzM (K : PySem.W.Frag) (a b : Addr) : It :=
  ⟨fun i H => ∃ (xs ys : List V) (x y : V), SqT K H a xs ∧ SqL K H b ys ∧ xs[i]? = some x ∧ ys[i]? = some y,
    fun i H v H' => ∃ T x y, v = .ref T ∧ H T = none ∧ H' = upd H T (.tup [x, y]) ∧ (∀ xs, SqT K H a xs → xs[i]? = some x) ∧ ∀ ys, SqL K H b ys → ys[i]? = some y,
    fun i H => ∃ xs ys : List V, SqT K H a xs ∧ SqL K H b ys ∧ xs.length = i ∧ ys.length = i⟩
theorem five {N c : Nat} (h : c ∈ [N + 4, N + 2, N + 3, N, N + 1]) : c = N + 4 ∨ c = N + 2 ∨ c = N + 3 ∨ c = N ∨ c = N + 1 := by simpa using h
theorem turn_zipM {P : Program} {w : World} {K : PySem.W.Frag} {elts : List Expr} {kk : Nat} {tpos : Pos} {a b N : Addr} (ha : a < N) (hb : b < N) :
    Turn P w K (.Tuple elts kk tpos) (ItzM K a b) [N + 4, N + 2, N + 3, N, N + 1] (N + 4)
      (fun i h => IsZip h (N + 4) (N + 2) (N + 3) .none ∧ IsTupOf2 h (N + 2) (.ref N) (.ref (N + 1)) ∧ (∃ x y, IsTupOf2 h (N + 3) x y) ∧ h.IsTupleIter N a i ∧ h.IsListIter (N + 1) b i) := by
  have S : ZipSep2 (N + 4) (N + 2) (N + 3) N (N + 1) (N :: [a]) ((N + 1) :: [b]) := zip_sep2 (fun c hc => by rw [List.mem_singleton.mp hc]; exact ha) (fun c hc => by rw [List.mem_singleton.mp hc]; exact hb)
  have na : a ≠ N := Nat.ne_of_lt ha
  have nb : b ≠ N + 1 := Nat.ne_of_lt (Nat.lt_succ_of_lt hb)
  refine ⟨by simp, fun i h st c hc => ?_, fun i h h' st k => ?_, ?_, ?_, fun A i s Q E st h => wpAny_pyIter_zip st.1 h⟩
  · obtain ⟨hz, hTI, ⟨x, y, hTO⟩, ⟨o1, e1, _, d1⟩, ⟨o2, e2, _, d2⟩⟩ := st
    rcases five hc with q | q | q | q | q
    · rw [q]; exact ⟨_, hz, fun v q => nomatch q⟩
    · rw [q]; exact ⟨_, hTI, fun v q => nomatch q⟩
    · rw [q]; exact ⟨_, hTO, fun v q => nomatch q⟩
    · rw [q]; exact ⟨o1, e1, fun v q => by rw [d1] at q; cases q⟩
    · rw [q]; exact ⟨o2, e2, fun v q => by rw [d2] at q; cases q⟩
  · obtain ⟨hz, hTI, ⟨x, y, hTO⟩, h1, h2⟩ := st
    exact ⟨k _ (by simp) _ hz, k _ (by simp) _ hTI, ⟨x, y, k _ (by simp) _ hTO⟩, h1.at fun o q => k _ (by simp) o q, h2.at fun o q => k _ (by simp) o q⟩
  · intro X hP hw hK hc i pins s σ H E I hf st hg
    subst hP hw hK
    obtain ⟨hz, hTI, ⟨x0, y0, hTO⟩, h1, h2⟩ := st
    obtain ⟨xs, ys, x, y, hqx, hqy, hx, hy⟩ := hg
    obtain ⟨its, rv, p, _⟩ := I.tuple hqx
    obtain ⟨its2, rv2, p2, _⟩ := I.list hqy
    obtain ⟨u, hu, ru⟩ := rv.get hx
    obtain ⟨u2, hu2, ru2⟩ := rv2.get hy
    have hzl : N + 4 < s.heap.objs.size := Heap.lt_size hz
    have hhn : X.A.in1.handled = none := I.ok.hd hc
    have D1 := Draws.tuple (prog := X.prog) (w := X.w) hhn N a na its.toArray
    have D2 := Draws.list (prog := X.prog) (w := X.w) hhn (N + 1) b nb its2.toArray
    have l1 : i < its.toArray.size := by
      have := (List.getElem?_eq_some_iff.mp hu).1
      simpa using this
    have l2 : i < its2.toArray.size := by
      have := (List.getElem?_eq_some_iff.mp hu2).1
      simpa using this
    refine wpAny_pyNext_zipD2_item S D1 D2 hz hTI hTO ⟨h1, p⟩ ⟨h2, p2.isList⟩ l1 l2 fun x1 x2 h' tk y1 y2 z' TO' d1 d2 hT hsz hk => ?_
    have e1 : x1 = u := by
      have q : its.toArray[i]? = some u := by simpa using hu
      exact Option.some.inj (y1.symm.trans q)
    have e2 : x2 = u2 := by
      have q : its2.toArray[i]? = some u2 := by simpa using hu2
      exact Option.some.inj (y2.symm.trans q)
    subst e1 e2
    refine ⟨_, rfl, wpAny_letOwnedTupleGo_zip (s := { s with heap := h', toks := tk }) z' fun h'' z'' sb => ?_⟩
    have hT2 : h''.get? s.heap.objs.size = some { cls := .type "tuple", data := .seq #[x1, x2] } := (sb.2 _ (Nat.ne_of_gt hzl)).trans hT
    have new : ObjOk X.prog X.w (upd H s.heap.objs.size (.tup [x, y])) h'' s.heap.objs.size (.tup [x, y]) :=
      ⟨by show 2 ≤ sizeLine; decide, [x1, x2], .cons ru (.cons ru2 .nil), ⟨_, hT2, rfl, _, rfl⟩⟩
    have I1 : Inv X pins σ (upd H s.heap.objs.size (.tup [x, y])) { s with heap := h'', toks := tk } :=
      I.turnedNew (t' := tk) (ch := [N + 4, N + 2, N + 3, N, N + 1]) (fun c o hb q => (sb.2 c (fun q' => hb (by simp [q']))).trans (hk c o (fun q' => hb (by simp [q'])) (fun q' => hb (by simp [q'])) (fun q' => hb (by simp [q'])) (fun q' => hb (by simp [q'])) q)) hf (Nat.le_refl _) new
    refine ⟨.ref s.heap.objs.size, _, I1, rfl, ⟨_, x, y, rfl, I.hok.fresh (Nat.le_refl _), rfl, fun l hl => by rw [I.tuple_inj hl hqx]; exact hx, fun l hl => by rw [I.list_inj hl hqy]; exact hy⟩, ⟨z'', ?_, ⟨x1, x2, ?_⟩, ?_, ?_⟩, fun c hcm => ?_⟩
    · exact (sb.2 _ S.TIz).trans (hk _ _ S.TIz S.TITO S.TIi1 S.TIi2 hTI)
    · exact (sb.2 _ S.TOz).trans TO'
    · exact d1.1.at fun o q => (sb.2 _ (Ne.symm S.zi1)).trans q
    · exact d2.1.at fun o q => (sb.2 _ (Ne.symm S.zi2)).trans q
    · have hlt : c < s.heap.objs.size := by
        rcases five hcm with q | q | q | q | q
        · rw [q]; exact hzl
        · rw [q]; exact Heap.lt_size hTI
        · rw [q]; exact Heap.lt_size hTO
        · rw [q]; obtain ⟨_, e1, _⟩ := h1; exact Heap.lt_size e1
        · rw [q]; obtain ⟨_, e2, _⟩ := h2; exact Heap.lt_size e2
      rw [upd_ne (Nat.ne_of_lt hlt)]
      exact (hf c hcm).1
  · intro X hP hw hK hc i pins s σ H E I hf st hg
    subst hP hw hK
    obtain ⟨hz, hTI, ⟨x0, y0, hTO⟩, h1, h2⟩ := st
    obtain ⟨xs, ys, hqx, hqy, hi, hj⟩ := hg
    obtain ⟨its, rv, p, _⟩ := I.tuple hqx
    obtain ⟨its2, rv2, p2, _⟩ := I.list hqy
    have l1 := rv.length
    have l2 := rv2.length
    have hhn : X.A.in1.handled = none := I.ok.hd hc
    have D1 := Draws.tuple (prog := X.prog) (w := X.w) hhn N a na its.toArray
    have D2 := Draws.list (prog := X.prog) (w := X.w) hhn (N + 1) b nb its2.toArray
    exact wpAny_pyNext_zipD2_end S D1 D2 hz hTI hTO ⟨h1, p⟩ ⟨h2, p2.isList⟩ (by simp; omega) (by simp; omega) (.inl (by simp; omega)) fun h' tk hk => ⟨rfl, I.turnedL (t' := tk) (ch := [N + 4, N + 2, N + 3, N, N + 1]) (fun c o hb q =>
      hk c o (fun q' => hb (by simp [q'])) (fun q' => hb (by simp [q'])) (fun q' => hb (by simp [q'])) (fun q' => hb (by simp [q'])) q) hf⟩

/-- zip of two tuples, or of a tuple and a list -/
def iZipX (K : PySem.W.Frag) (ta : TA) : TI := fun σ H R => ta σ H fun vs H1 => ∃ a b xs ys, vs = [V.ref a, V.ref b] ∧ ((SqT K H1 a xs ∧ SqL K H1 b ys ∧ R (ItzM K a b) H1) ∨ (SqT K H1 a xs ∧ SqT K H1 b ys ∧ R (RZ.ItzT K a b) H1))
theorem pi_zipX {X : Cx} {e e2 : Expr} {ta : TA} {p pos tpos : Pos} {elts : List Expr} {kk : Nat} (hg : Gl X "zip") (hm : X.mg "zip" = none) (ha : PA X [e, e2] ta)
    (hs : starEach [e, e2] X.env = (false, eval e X.env) :: starEach [e2] X.env := by rfl) (hpl : (backTo pos (starEach [e2] X.env)).any (·.1) = false := by rfl) :
    PI X (.Tuple elts kk tpos) (.Call (.Name "zip" p) [e, e2] [] pos) (iZipX X.K ta) := by
  refine ⟨fun pins s σ H R I h => ?_⟩
  refine Call_ (ld_blt I hg hm PyProof.Rows.boot_zip (PyProof.Rows.callWith_type1 (thn (ha.run pos pins s σ H _ I h) fun us s1 ⟨vs, H1, I1, r1, q1⟩ => ?_) hs hpl))
  obtain ⟨a, b, xs, ys, ex, q1⟩ := q1
  subst ex
  cases r1 with
  | cons r rr =>
    cases rr with
    | cons r' rr =>
      cases rr
      cases r
      cases r'
      have fresh5 : ∀ c, c ∈ [s1.heap.objs.size + 4, s1.heap.objs.size + 2, s1.heap.objs.size + 3, s1.heap.objs.size, s1.heap.objs.size + 1] → FpOk X pins H1 c := fun c hcm => by
        have hle : s1.heap.objs.size ≤ c := by
          rcases five hcm with z | z | z | z | z
          · rw [z]; exact Nat.le_add_right _ _
          · rw [z]; exact Nat.le_add_right _ _
          · rw [z]; exact Nat.le_add_right _ _
          · rw [z]; exact Nat.le_refl _
          · rw [z]; exact Nat.le_add_right _ _
        exact I1.fpOk hle (I1.hok.fresh hle)
      rcases q1 with ⟨hqx, hqy, q⟩ | ⟨hqx, hqy, q⟩
      · obtain ⟨its, rv, p1, _⟩ := I1.tuple hqx
        obtain ⟨its2, rv2, p2, _⟩ := I1.list hqy
        obtain ⟨o1, ho1, _⟩ := id p1
        refine zip_begins2 (begins_tuple a its.toArray) (begins_list b its2.toArray) p1 p2.isList fun h' hz hTI hTO h1 h2 hsz hk => wpAny_pyIter_zip hz ?_
        have I2 : Inv X pins σ H1 { s1 with heap := h' } := I1.kept (t' := s1.toks) hk
        exact ⟨s1.heap.objs.size + 4, _, _, _, H1, rfl, I2, turn_zipM (Heap.lt_size ho1) p2.lt, ⟨hz, hTI, ⟨_, _, hTO⟩, ⟨_, h1, rfl, rfl⟩, ⟨_, h2, rfl, rfl⟩⟩, fresh5, q⟩
      · obtain ⟨its, rv, p1, _⟩ := I1.tuple hqx
        obtain ⟨its2, rv2, p2, _⟩ := I1.tuple hqy
        obtain ⟨o1, ho1, _⟩ := id p1
        obtain ⟨o2, ho2, _⟩ := id p2
        refine RZ.call_zipT (show s1.heap.IsTuple a its.toArray from p1) (show s1.heap.IsTuple b its2.toArray from p2) fun h' hz hTI hTO h1 h2 hsz hk => wpAny_pyIter_zip hz ?_
        have I2 : Inv X pins σ H1 { s1 with heap := h' } := I1.kept (t' := s1.toks) hk
        exact ⟨s1.heap.objs.size + 4, _, _, _, H1, rfl, I2, RZ.turn_zipT (PySem.W.ktu_apart s1.heap.objs.size a b (Heap.lt_size ho1) (Heap.lt_size ho2)), ⟨hz, hTI, ⟨_, _, hTO⟩, h1, h2⟩, fresh5, q⟩

/-! ### what is walked, as a Walk -/
section
variable {K : PySem.W.Frag} {a b : Addr} {xs ys : List V} {n : Nat}
theorem walk_zipM (h1 : xs.length = n) (h2 : ys.length = n) : Walk (ItzM K a b) n (fun H => SqT K H a xs ∧ SqL K H b ys) (YPair (fun i => xs[i]?) (fun i => ys[i]?)) := by
  refine ⟨fun i _ hi q => ?_, fun _ q => ⟨xs, ys, q.1, q.2, h1, h2⟩, fun i H v H' _ q y => ?_⟩
  · have e1 : i < xs.length := by omega
    have e2 : i < ys.length := by omega
    exact ⟨xs, ys, xs[i], ys[i], q.1, q.2, by simp [e1], by simp [e2]⟩
  · obtain ⟨T, x, z, h1, h2, h3, h4, h5⟩ := y
    exact ⟨T, x, z, h1, h2, h3, h4 xs q.1, h5 ys q.2⟩
theorem walk_zipT (h1 : xs.length = n) (h2 : ys.length = n) : Walk (RZ.ItzT K a b) n (fun H => SqT K H a xs ∧ SqT K H b ys) (YPair (fun i => xs[i]?) (fun i => ys[i]?)) := by
  refine ⟨fun i _ hi q => ?_, fun _ q => ⟨xs, ys, q.1, q.2, .inl (Nat.le_of_eq h1)⟩, fun i H v H' _ q y => ?_⟩
  · have e1 : i < xs.length := by omega
    have e2 : i < ys.length := by omega
    exact ⟨xs, ys, xs[i], ys[i], q.1, q.2, by simp [e1], by simp [e2]⟩
  · obtain ⟨T, x, z, h1, h2, h3, h4, h5⟩ := y
    exact ⟨T, x, z, h1, h2, h3, h4 xs q.1, h5 ys q.2⟩
end

/-! ### walked things that give values of a kind: one value a turn; a pair a turn -/
/-- what is walked gives n values, the i-th of kind r i, the heap as it was -/
def GI (wi : TI) (σ : L2.St) (H : Hp) (n : Nat) (r : Nat → Rp) : Prop := ∀ H1, Same H H1 → ∀ R : It → Hp → Prop,
  (∀ J H2, Same H1 H2 → Walk J n (fun H' => Same (nu H H1 H2) H') (fun i Hc x H' => H' = Hc ∧ (r i).p x (nu H H1 H2)) → R J H2) → wi σ H1 R
/-- .. n new pairs of such -/
def GI2 (wi : TI) (σ : L2.St) (H : Hp) (n : Nat) (r q : Nat → Rp) : Prop := ∀ H1, Same H H1 → ∀ R : It → Hp → Prop,
  (∀ J H2, Same H1 H2 → Walk J n (fun H' => Same (nu H H1 H2) H') (fun i Hc v H' => ∃ T x y, v = .ref T ∧ Hc T = none ∧ H' = upd Hc T (.tup [x, y]) ∧ (r i).p x (nu H H1 H2) ∧ (q i).p y (nu H H1 H2)) → R J H2) → wi σ H1 R
section
variable {K : PySem.W.Frag} {σ : L2.St} {H : Hp} {tl tl2 te : TE} {n : Nat} {r q : Nat → Rp}
theorem gi_list (h : GE tl σ H (kL K n r)) : GI (iList K tl) σ H n r := fun H1 e R k => h H1 e _ fun v H2 e2 p => by
  obtain ⟨a, xs, rfl, hS, hl, hp⟩ := p
  refine ⟨a, rfl, ⟨xs, sameL nu_sub hS⟩, k _ H2 e2 ?_⟩
  have w := walk_list (K := K) (a := a) (xs := xs)
  rw [hl] at w
  exact w.mono (fun _ g => sameL g hS) fun i H x H' hi g y => ⟨y.1, hp i x y.2⟩
theorem gi_tup (h : GE tl σ H (kT K n r)) : GI (iTup K tl) σ H n r := fun H1 e R k => h H1 e _ fun v H2 e2 p => by
  obtain ⟨a, xs, rfl, hS, hl, hp⟩ := p
  refine ⟨a, rfl, ⟨xs, sameT nu_sub hS⟩, k _ H2 e2 ?_⟩
  have w := walk_tup (K := K) (a := a) (xs := xs)
  rw [hl] at w
  exact w.mono (fun _ g => sameT g hS) fun i H x H' hi g y => ⟨y.1, hp i x y.2⟩
/-- range(n), n small -/
theorem gi_rng {ta : TA} {z : Int} (h : GA ta σ H [kI z]) (hz : z = (n : Int)) (hn : n ≤ 1000000) : GI (iRng1 ta) σ H n (fun i => kI (i : Int)) := fun H1 e R k => h H1 e _ fun vs H2 e2 p => by
  obtain ⟨v, rfl, hv⟩ := p.one
  cases hv
  subst hz
  refine ⟨n, rfl, by omega, by omega, ?_⟩
  have w := walk_range (lo := 0) (n := n)
  rw [show ((n : Int)).toNat = n from Int.toNat_natCast n]
  refine k _ H2 e2 (w.mono (fun _ _ => trivial) fun i H x H' hi g y => ⟨y.1, ?_⟩)
  have y2 : x = .int ((0 : Int) + (i : Int)) := y.2
  show x = .int (i : Int)
  rw [y2, Int.zero_add]
/-- range(a, b) -/
theorem gi_rng2 {ta : TA} {lo hi : Int} (h : GA ta σ H [kI lo, kI hi]) (hl : -1000000 ≤ lo ∧ hi ≤ 1000000) (hn : hi - lo = (n : Int)) : GI (iRng2 ta) σ H n (fun i => kI (lo + (i : Int))) := fun H1 e R k => h H1 e _ fun vs H2 e2 p => by
  obtain ⟨v, w, rfl, hv, hw⟩ := p.two
  cases hv
  cases hw
  refine ⟨lo, hi, rfl, by omega, ?_⟩
  have w := walk_range (lo := lo) (n := n)
  rw [show (hi - lo).toNat = n by omega]
  exact k _ H2 e2 (w.mono (fun _ _ => trivial) fun i H x H' hi g y => ⟨y.1, y.2⟩)
/-- range(a, b, -1) -/
theorem gi_rng3 {ta : TA} {lo hi : Int} (h : GA ta σ H [kI lo, kI hi, kI (-1)]) (hl : -1000000 ≤ lo ∧ lo ≤ 1000000 ∧ -1000000 ≤ hi ∧ hi ≤ 1000000) (hn : (lo - hi).toNat = n) : GI (iRng3 ta) σ H n (fun i => kI (lo - (i : Int))) := fun H1 e R k => h H1 e _ fun vs H2 e2 p => by
  obtain ⟨v, w, x, rfl, hv, hw, hx⟩ := p.three
  cases hv
  cases hw
  cases hx
  refine ⟨lo, hi, -1, n, rfl, by rw [← hn]; exact RgC.neg (by omega) (by omega) (by omega) (by omega), ?_⟩
  refine k _ H2 e2 ((walk_rangeC (lo := lo) (c := -1) (n := n)).mono (fun _ _ => trivial) fun i H x H' hi g y => ⟨y.1, ?_⟩)
  have y2 : x = .int (lo + (i : Int) * (-1)) := y.2
  show x = .int (lo - (i : Int))
  rw [y2]
  congr 1
  omega
theorem gi_enum {ta : TA} (h : GA ta σ H [kL K n r]) : GI2 (iEnum K ta) σ H n (fun i => kI (i : Int)) r := fun H1 e R k => h H1 e _ fun vs H2 e2 p => by
  obtain ⟨v, rfl, a, xs, rfl, hS, hl, hp⟩ := p.one
  refine ⟨a, xs, rfl, sameL nu_sub hS, k _ H2 e2 ?_⟩
  have w := walk_enum (K := K) (a := a) (xs := xs)
  rw [hl] at w
  refine w.mono (fun _ g => sameL g hS) fun i H v H' hi g y => ?_
  obtain ⟨T, x, y, h1, h2, h3, h4, h5⟩ := y
  exact ⟨T, x, y, h1, h2, h3, (Option.some.inj h4).symm, hp i y h5⟩
theorem gi_zipTL {ta : TA} (h : GA ta σ H [kT K n r, kL K n q]) : GI2 (iZipX K ta) σ H n r q := fun H1 e R k => h H1 e _ fun vs H2 e2 p => by
  obtain ⟨v, w, rfl, ⟨a, xs, rfl, hS, hl, hp⟩, ⟨b, ys, rfl, hS2, hl2, hp2⟩⟩ := p.two
  refine ⟨a, b, xs, ys, rfl, .inl ⟨sameT nu_sub hS, sameL nu_sub hS2, k _ H2 e2 ?_⟩⟩
  refine (walk_zipM hl hl2).mono (fun _ g => ⟨sameT g hS, sameL g hS2⟩) fun i H v H' hi g y => ?_
  obtain ⟨T, x, y, h1, h2, h3, h4, h5⟩ := y
  exact ⟨T, x, y, h1, h2, h3, hp i x h4, hp2 i y h5⟩
theorem gi_zipTT {ta : TA} (h : GA ta σ H [kT K n r, kT K n q]) : GI2 (iZipX K ta) σ H n r q := fun H1 e R k => h H1 e _ fun vs H2 e2 p => by
  obtain ⟨v, w, rfl, ⟨a, xs, rfl, hS, hl, hp⟩, ⟨b, ys, rfl, hS2, hl2, hp2⟩⟩ := p.two
  refine ⟨a, b, xs, ys, rfl, .inr ⟨sameT nu_sub hS, sameT nu_sub hS2, k _ H2 e2 ?_⟩⟩
  refine (walk_zipT hl hl2).mono (fun _ g => ⟨sameT g hS, sameT g hS2⟩) fun i H v H' hi g y => ?_
  obtain ⟨T, x, y, h1, h2, h3, h4, h5⟩ := y
  exact ⟨T, x, y, h1, h2, h3, hp i x h4, hp2 i y h5⟩

/-! ### comprehensions -/
/- a heap without D -/
open Classical in
noncomputable def rmv (H : Hp) (D : Addr) : Hp := fun a => if a = D then none else H a
theorem rmv_of {H : Hp} {D a : Addr} {o : HO} (h : rmv H D a = some o) : a ≠ D ∧ H a = some o := by
  unfold rmv at h
  by_cases c : a = D
  · rw [if_pos c] at h
    cases h
  · rw [if_neg c] at h
    exact ⟨c, h⟩
theorem rmv_in {H : Hp} {D a : Addr} {o : HO} (h : H a = some o) (c : a ≠ D) : rmv H D a = some o := by
  unfold rmv
  rw [if_neg c]
  exact h
theorem rmv_sub {H : Hp} {D : Addr} : Same (rmv H D) H := fun a o h => (rmv_of h).2
theorem rmv_self {H : Hp} {D : Addr} : rmv H D D = none := by
  unfold rmv
  rw [if_pos rfl]
theorem rmv_mono {H H' : Hp} {D : Addr} (e : Same H H') : Same (rmv H D) (rmv H' D) := fun a o h => rmv_in (e _ _ (rmv_of h).2) (rmv_of h).1
theorem upd_other {H : Hp} {D a : Addr} {u o : HO} (h : H a = some o) (c : a ≠ D) : upd H D u a = some o := by
  rw [upd_ne c]
  exact h
/-- what a comprehension has made so far: H, H1 the known heap and the heap ahead of it, H2 the heap at its start, D the list -/
def Made (H H1 H2 : Hp) (D : Addr) (q : Nat → Rp) (i : Nat) (Hc : Hp) : Prop :=
  Same H2 Hc ∧ ∃ acc, Hc D = some (.lst acc) ∧ acc.length = i ∧ ∀ (m : Nat) x, acc[m]? = some x → (q m).p x (rmv (nu H H1 Hc) D)
theorem made_start {H H1 H2 : Hp} {D : Addr} {q : Nat → Rp} (hD : H2 D = none) : Made H H1 H2 D q 0 (upd H2 D (.lst [])) :=
  ⟨Same.new hD, [], upd_same, rfl, fun m x hx => by simp at hx⟩
theorem made_next {H H1 H2 Hc Hc' H4 : Hp} {D : Addr} {q : Nat → Rp} {i : Nat} {y : V} (e : Same H H1) (e2 : Same H1 H2) (hD : H2 D = none) (h : Made H H1 H2 D q i Hc) (ec : Same Hc Hc') (e4 : Same Hc' H4) (hy : (q i).p y (nu (nu H H1 H2) Hc' H4)) (hi : i < 1000000) :
    ∃ acc, H4 D = some (.lst acc) ∧ acc.length < sizeLine ∧ Made H H1 H2 D q (i + 1) (upd H4 D (.lst (acc ++ [y]))) := by
  obtain ⟨s, acc, hc, hl, hp⟩ := h
  have h4D : H4 D = some (.lst acc) := e4 _ _ (ec _ _ hc)
  have grow : ∀ a o, rmv (nu H H1 Hc) D a = some o → rmv (nu H H1 (upd H4 D (.lst (acc ++ [y])))) D a = some o := fun a o ha => by
    obtain ⟨c1, h1⟩ := rmv_of ha
    obtain ⟨c2, h2⟩ := nu_of h1
    refine rmv_in ?_ c1
    rw [nu_in c2]
    exact upd_other (e4 _ _ (ec _ _ h2)) c1
  have fresh : ∀ a o, nu (nu H H1 H2) Hc' H4 a = some o → rmv (nu H H1 (upd H4 D (.lst (acc ++ [y])))) D a = some o := fun a o ha => by
    obtain ⟨c2, h2⟩ := nu_of ha
    have c1 : a ≠ D := fun z => by
      subst z
      rcases c2 with c2 | c2
      · cases qq : nu H H1 H2 a with
        | none => exact c2 qq
        | some u =>
          rw [(nu_of qq).2] at hD
          cases hD
      · rw [ec _ _ hc] at c2
        cases c2
    refine rmv_in ?_ c1
    rw [nu_in ?_]
    · exact upd_other h2 c1
    · rcases c2 with c2 | c2
      · cases qq : nu H H1 H2 a with
        | none => exact absurd qq c2
        | some u => exact (nu_of qq).1
      · exact .inr (e2.free (s.free (ec.free c2)))
  refine ⟨acc, h4D, by rw [hl]; exact Nat.lt_of_lt_of_le hi (by decide), fun a o ha => ?_, acc ++ [y], upd_same, by simp [hl], fun m x hx => ?_⟩
  · have c1 : a ≠ D := ne_of_none ha hD
    exact upd_other (e4 _ _ (ec _ _ (s _ _ ha))) c1
  · by_cases hm : m < acc.length
    · rw [List.getElem?_append_left hm] at hx
      exact (q m).mono grow (hp m x hx)
    · rw [List.getElem?_append_right (by omega)] at hx
      have e1 : m = i := by
        have := (List.getElem?_eq_some_iff.mp hx).1
        simp at this
        omega
      subst e1
      have e2 : y = x := by
        rw [hl, Nat.sub_self] at hx
        simpa using hx
      subst e2
      exact (q m).mono fresh hy
theorem made_end {H H1 H2 Hc : Hp} {D : Addr} {q : Nat → Rp} (e2 : Same H1 H2) (hD : H2 D = none) (h : Made H H1 H2 D q n Hc) : (kL K n q).p (.ref D) (nu H H1 Hc) := by
  obtain ⟨s, acc, hc, hl, hp⟩ := h
  refine ⟨D, acc, rfl, .inl (.inl ?_), hl, fun m x hx => (q m).mono rmv_sub (hp m x hx)⟩
  rw [nu_in (.inr (e2.free hD))]
  exact hc
/-- [e for x in ..] -/
theorem ge_lc {wi : TI} {j : Nat} (hi : GI wi σ H n r) (he : ∀ i, i < n → ∀ B, Same H B → ∀ x, (r i).p x B → GE te (σ.set j (some x)) B (q i)) (hn : n ≤ 1000000) : GE (tLc wi (gName j) tYes te [j]) σ H (kL K n q) := fun H1 e Q k =>
  hi H1 e _ fun J H2 e2 w D hD => lc_it w (Made H H1 H2 D q) (made_start hD) (fun i H' _ p => nu_sub.trans p.1) (fun i x Hc H' hlt p y => by
    obtain ⟨rfl, hx⟩ := y
    have ew : wipe ((wipe σ [j]).set j (some x)) [j] = wipe σ [j] := by
      show (((σ.set j none).set j (some x)).set j none) = σ.set j none
      rw [List.set_set, List.set_set]
    refine ⟨ew, ?_⟩
    show te ((σ.set j none).set j (some x)) H' _
    rw [List.set_set]
    exact he i hlt (nu H H1 H2) (nu_base e e2) x hx H' (nu_sub.trans p.1) _ fun y H4 e4 py => made_next e e2 hD p (Same.refl _) e4 py (by omega)) fun H' p => k _ H' (e2.trans p.1) (made_end e2 hD p)
/-- [e for x, y in ..] -/
theorem ge_lc2 {wi : TI} {j k : Nat} {m : Nat} {r2 : Nat → Rp} (hi : GI2 wi σ H n r r2) (hm : m = 2) (hjk : j ≠ k) (he : ∀ i, i < n → ∀ B, Same H B → ∀ x y, (r i).p x B → (r2 i).p y B → GE te ((σ.set j (some x)).set k (some y)) B (q i)) (hn : n ≤ 1000000) :
    GE (tLc wi (gTup K m (gCons (gName j) (gCons (gName k) gNil))) tYes te [j, k]) σ H (kL K n q) := fun H1 e Q kk =>
  hi H1 e _ fun J H2 e2 w D hD => lc_it w (Made H H1 H2 D q) (made_start hD) (fun i H' _ p => nu_sub.trans p.1) (fun i v Hc H' hlt p y => by
    obtain ⟨T, x, y, rfl, hT, rfl, hx, hy⟩ := y
    subst hm
    have ew : wipe (((wipe σ [j, k]).set j (some x)).set k (some y)) [j, k] = wipe σ [j, k] := by
      show ((((((σ.set k none).set j none).set j (some x)).set k (some y)).set k none).set j none) = (σ.set k none).set j none
      rw [List.set_set, List.set_set, List.set_comm _ _ hjk, List.set_set, List.set_set]
    refine ⟨T, [x, y], rfl, .inl (.inl upd_same), rfl, x, [y], rfl, y, [], rfl, rfl, ew, ?_⟩
    show te (((((σ.set k none).set j none).set j (some x)).set k (some y))) _ _
    rw [List.set_set, List.set_comm _ _ hjk.symm, List.set_set]
    have p1 : Same Hc (upd Hc T (.tup [x, y])) := Same.new hT
    exact he i hlt (nu H H1 H2) (nu_base e e2) x y hx hy _ (nu_sub.trans (p.1.trans p1)) _ fun y H4 e4 py => made_next e e2 hD p p1 e4 py (by omega)) fun H' p => kk _ H' (e2.trans p.1) (made_end e2 hD p)

/-! ### loops -/
variable {D : Ends} {tb : TS} {Hk : Hp}
/-- for x in ..: Pv by the turn, the slots, the heap; B what is known of the heap at the start -/
theorem s_for {wi : TI} {j : Nat} (hi : GI wi σ Hk n r) (e : Same Hk H) (h : ∀ H2 B, Same H H2 → Same Hk B → Same B H2 → (∀ a, B a ≠ none → Hk a ≠ none ∨ H a = none) → ∃ Pv : Nat → L2.St → Hp → Prop, Pv 0 σ H2 ∧ (∀ i σ' H', i ≤ n → Pv i σ' H' → Same B H') ∧
    (∀ i x σ' H', i < n → Pv i σ' H' → (r i).p x B → tb { D with nx := Pv (i + 1), ct := Pv (i + 1), bk := D.nx } (σ'.set j (some x)) H') ∧ ∀ σ' H', Pv n σ' H' → D.nx σ' H') : tFor wi (gName j) tb D σ H :=
  hi H e _ fun J H2 e2 w => by
    obtain ⟨Pv, h0, hG, hs, hd⟩ := h H2 (nu Hk H H2) e2 (nu_base e e2) nu_sub (fun a ha => by
      cases qq : nu Hk H H2 a with
      | none => exact absurd qq ha
      | some u => exact (nu_of qq).1)
    exact for_it w Pv h0 hG (fun i x σ' Hc H' hlt p y => by
      obtain ⟨rfl, hx⟩ := y
      exact hs i x σ' H' hlt p hx) hd
theorem s_for2 {wi : TI} {j k m : Nat} {r2 : Nat → Rp} (hi : GI2 wi σ Hk n r r2) (hm : m = 2) (e : Same Hk H) (h : ∀ H2 B, Same H H2 → Same Hk B → Same B H2 → (∀ a, B a ≠ none → Hk a ≠ none ∨ H a = none) → ∃ Pv : Nat → L2.St → Hp → Prop, Pv 0 σ H2 ∧ (∀ i σ' H', i ≤ n → Pv i σ' H' → Same B H') ∧
    (∀ i x y σ' H' H3, i < n → Pv i σ' H' → Same H' H3 → (r i).p x B → (r2 i).p y B → tb { D with nx := Pv (i + 1), ct := Pv (i + 1), bk := D.nx } ((σ'.set j (some x)).set k (some y)) H3) ∧ ∀ σ' H', Pv n σ' H' → D.nx σ' H') :
    tFor wi (gTup K m (gCons (gName j) (gCons (gName k) gNil))) tb D σ H :=
  hi H e _ fun J H2 e2 w => by
    obtain ⟨Pv, h0, hG, hs, hd⟩ := h H2 (nu Hk H H2) e2 (nu_base e e2) nu_sub (fun a ha => by
      cases qq : nu Hk H H2 a with
      | none => exact absurd qq ha
      | some u => exact (nu_of qq).1)
    exact for_it w Pv h0 hG (fun i v σ' Hc H' hlt p y => by
      obtain ⟨T, x, y, rfl, hT, rfl, hx, hy⟩ := y
      subst hm
      exact ⟨T, [x, y], rfl, .inl (.inl upd_same), rfl, x, [y], rfl, y, [], rfl, rfl, hs i x y σ' Hc _ hlt p (Same.new hT) hx hy⟩) hd
end
end K38
end
section
set_option Elab.async false
set_option linter.all false
set_option maxRecDepth 100000
set_option maxHeartbeats 0
/-! K38T: the text by places, the head's run. -/
namespace K38
open PySem PySem.Spec PyProof.Rows L2
def topS (i : Nat) : Stmt := PySem.Challenge.pw_straightleast_k38_whole_rounds_and_power.main.body.getD i (.Pass ⟨0, 0, 0, 0⟩)
abbrev s_is_integer : Stmt := topS 10
def d_is_integer : He.DefD := ⟨("is_integer", none), "is_integer", "is_integer", defArgs s_is_integer, defBody s_is_integer, defScope s_is_integer, [], []⟩
abbrev s_is_within : Stmt := topS 11
def d_is_within : He.DefD := ⟨("is_within", none), "is_within", "is_within", defArgs s_is_within, defBody s_is_within, defScope s_is_within, [], []⟩
abbrev s_is_row_of : Stmt := topS 12
def d_is_row_of : He.DefD := ⟨("is_row_of", none), "is_row_of", "is_row_of", defArgs s_is_row_of, defBody s_is_row_of, defScope s_is_row_of, [], []⟩
abbrev s_are_integers : Stmt := topS 13
def d_are_integers : He.DefD := ⟨("are_integers", none), "are_integers", "are_integers", defArgs s_are_integers, defBody s_are_integers, defScope s_are_integers, [], []⟩
abbrev s_need_number : Stmt := topS 14
def d_need_number : He.DefD := ⟨("need_number", none), "need_number", "need_number", defArgs s_need_number, defBody s_need_number, defScope s_need_number, [], []⟩
abbrev s_columns_of : Stmt := topS 16
def d_columns_of : He.DefD := ⟨("columns_of", none), "columns_of", "columns_of", defArgs s_columns_of, defBody s_columns_of, defScope s_columns_of, [], []⟩
abbrev s_sums_by : Stmt := topS 17
def d_sums_by : He.DefD := ⟨("sums_by", none), "sums_by", "sums_by", defArgs s_sums_by, defBody s_sums_by, defScope s_sums_by, [], []⟩
abbrev s_least_sums : Stmt := topS 18
def d_least_sums : He.DefD := ⟨("least_sums", none), "least_sums", "least_sums", defArgs s_least_sums, defBody s_least_sums, defScope s_least_sums, [], []⟩
abbrev s_tails_ahead : Stmt := topS 19
def d_tails_ahead : He.DefD := ⟨("tails_ahead", none), "tails_ahead", "tails_ahead", defArgs s_tails_ahead, defBody s_tails_ahead, defScope s_tails_ahead, [], []⟩
abbrev s_first_step : Stmt := topS 20
def d_first_step : He.DefD := ⟨("first_step", none), "first_step", "first_step", defArgs s_first_step, defBody s_first_step, defScope s_first_step, [], []⟩
abbrev s_power_of : Stmt := topS 21
def d_power_of : He.DefD := ⟨("power_of", none), "power_of", "power_of", defArgs s_power_of, defBody s_power_of, defScope s_power_of, [], []⟩
abbrev s_way_tails : Stmt := topS 22
def d_way_tails : He.DefD := ⟨("way_tails", none), "way_tails", "way_tails", defArgs s_way_tails, defBody s_way_tails, defScope s_way_tails, [], []⟩
abbrev s_first_way : Stmt := topS 23
def d_first_way : He.DefD := ⟨("first_way", none), "first_way", "first_way", defArgs s_first_way, defBody s_first_way, defScope s_first_way, [], []⟩
abbrev s_steps_sum : Stmt := topS 24
def d_steps_sum : He.DefD := ⟨("steps_sum", none), "steps_sum", "steps_sum", defArgs s_steps_sum, defBody s_steps_sum, defScope s_steps_sum, [], []⟩
abbrev s_returns : Stmt := topS 26
def d_returns : He.DefD := ⟨("returns", none), "returns", "returns", defArgs s_returns, defBody s_returns, defScope s_returns, [], []⟩
abbrev s_is_less : Stmt := topS 27
def d_is_less : He.DefD := ⟨("is_less", none), "is_less", "is_less", defArgs s_is_less, defBody s_is_less, defScope s_is_less, [], []⟩
abbrev s_in_least_terms : Stmt := topS 28
def d_in_least_terms : He.DefD := ⟨("in_least_terms", none), "in_least_terms", "in_least_terms", defArgs s_in_least_terms, defBody s_in_least_terms, defScope s_in_least_terms, [], []⟩
abbrev s_least_mean : Stmt := topS 29
def d_least_mean : He.DefD := ⟨("least_mean", none), "least_mean", "least_mean", defArgs s_least_mean, defBody s_least_mean, defScope s_least_mean, [], []⟩
abbrev s_width : Stmt := topS 31
def d_width : He.DefD := ⟨("width", none), "width", "width", defArgs s_width, defBody s_width, defScope s_width, [], []⟩
abbrev s_column_of : Stmt := topS 32
def d_column_of : He.DefD := ⟨("column_of", none), "column_of", "column_of", defArgs s_column_of, defBody s_column_of, defScope s_column_of, [], []⟩
abbrev s_turned_table : Stmt := topS 33
def d_turned_table : He.DefD := ⟨("turned_table", none), "turned_table", "turned_table", defArgs s_turned_table, defBody s_turned_table, defScope s_turned_table, [], []⟩
abbrev s_lifted_table : Stmt := topS 34
def d_lifted_table : He.DefD := ⟨("lifted_table", none), "lifted_table", "lifted_table", defArgs s_lifted_table, defBody s_lifted_table, defScope s_lifted_table, [], []⟩
abbrev s_scaled_table : Stmt := topS 35
def d_scaled_table : He.DefD := ⟨("scaled_table", none), "scaled_table", "scaled_table", defArgs s_scaled_table, defBody s_scaled_table, defScope s_scaled_table, [], []⟩
abbrev s_is_table_form : Stmt := topS 38
def d_is_table_form : He.DefD := ⟨("is_table_form", none), "is_table_form", "is_table_form", defArgs s_is_table_form, defBody s_is_table_form, defScope s_is_table_form, [], []⟩
abbrev s_need_table : Stmt := topS 39
def d_need_table : He.DefD := ⟨("need_table", none), "need_table", "need_table", defArgs s_need_table, defBody s_need_table, defScope s_need_table, [], []⟩
abbrev s_need_square : Stmt := topS 40
def d_need_square : He.DefD := ⟨("need_square", none), "need_square", "need_square", defArgs s_need_square, defBody s_need_square, defScope s_need_square, [], []⟩
abbrev s_need_index : Stmt := topS 41
def d_need_index : He.DefD := ⟨("need_index", none), "need_index", "need_index", defArgs s_need_index, defBody s_need_index, defScope s_need_index, [], []⟩
abbrev s_is_way : Stmt := topS 45
def d_is_way : He.DefD := ⟨("is_way", none), "is_way", "is_way", defArgs s_is_way, defBody s_is_way, defScope s_is_way, [], []⟩
abbrev s_power : Stmt := topS 46
def d_power : He.DefD := ⟨("power", none), "power", "power", defArgs s_power, defBody s_power, defScope s_power, [], []⟩
abbrev s_way : Stmt := topS 47
def d_way : He.DefD := ⟨("way", none), "way", "way", defArgs s_way, defBody s_way, defScope s_way, [], []⟩
abbrev s_way_cost : Stmt := topS 48
def d_way_cost : He.DefD := ⟨("way_cost", none), "way_cost", "way_cost", defArgs s_way_cost, defBody s_way_cost, defScope s_way_cost, [], []⟩
abbrev s_least_round : Stmt := topS 49
def d_least_round : He.DefD := ⟨("least_round", none), "least_round", "least_round", defArgs s_least_round, defBody s_least_round, defScope s_least_round, [], []⟩
abbrev s_need_numbers : Stmt := topS 52
def d_need_numbers : He.DefD := ⟨("need_numbers", none), "need_numbers", "need_numbers", defArgs s_need_numbers, defBody s_need_numbers, defScope s_need_numbers, [], []⟩
abbrev s_lifted : Stmt := topS 53
def d_lifted : He.DefD := ⟨("lifted", none), "lifted", "lifted", defArgs s_lifted, defBody s_lifted, defScope s_lifted, [], []⟩
abbrev s_scaled : Stmt := topS 54
def d_scaled : He.DefD := ⟨("scaled", none), "scaled", "scaled", defArgs s_scaled, defBody s_scaled, defScope s_scaled, [], []⟩
abbrev s_turned : Stmt := topS 55
def d_turned : He.DefD := ⟨("turned", none), "turned", "turned", defArgs s_turned, defBody s_turned, defScope s_turned, [], []⟩
abbrev s_law_feed : Stmt := topS 57
def d_law_feed : He.DefD := ⟨("_law_feed", none), "_law_feed", "_law_feed", defArgs s_law_feed, defBody s_law_feed, defScope s_law_feed, [], []⟩
abbrev s_law_draw : Stmt := topS 58
def d_law_draw : He.DefD := ⟨("_law_draw", none), "_law_draw", "_law_draw", defArgs s_law_draw, defBody s_law_draw, defScope s_law_draw, [], []⟩
abbrev s_law_one : Stmt := topS 59
def d_law_one : He.DefD := ⟨("_law_one", none), "_law_one", "_law_one", defArgs s_law_one, defBody s_law_one, defScope s_law_one, [], []⟩
abbrev s_law_built : Stmt := topS 60
def d_law_built : He.DefD := ⟨("_law_built", none), "_law_built", "_law_built", defArgs s_law_built, defBody s_law_built, defScope s_law_built, [], []⟩
abbrev s_law_sized : Stmt := topS 61
def d_law_sized : He.DefD := ⟨("_law_sized", none), "_law_sized", "_law_sized", defArgs s_law_sized, defBody s_law_sized, defScope s_law_sized, [], []⟩
abbrev s_law_numbers : Stmt := topS 62
def d_law_numbers : He.DefD := ⟨("_law_numbers", none), "_law_numbers", "_law_numbers", defArgs s_law_numbers, defBody s_law_numbers, defScope s_law_numbers, [], []⟩
abbrev s_law_few : Stmt := topS 63
def d_law_few : He.DefD := ⟨("_law_few", none), "_law_few", "_law_few", defArgs s_law_few, defBody s_law_few, defScope s_law_few, [], []⟩
abbrev s_law_trimmed : Stmt := topS 64
def d_law_trimmed : He.DefD := ⟨("_law_trimmed", none), "_law_trimmed", "_law_trimmed", defArgs s_law_trimmed, defBody s_law_trimmed, defScope s_law_trimmed, [], []⟩
abbrev s_law_terms : Stmt := topS 65
def d_law_terms : He.DefD := ⟨("_law_terms", none), "_law_terms", "_law_terms", defArgs s_law_terms, defBody s_law_terms, defScope s_law_terms, [], []⟩
abbrev s_law : Stmt := topS 66
def d_law : He.DefD := ⟨("law", none), "law", "law", defArgs s_law, defBody s_law, defScope s_law, [], []⟩
def fn0 : List He.DefD := [d_is_integer, d_is_within, d_is_row_of, d_are_integers, d_need_number, d_columns_of, d_sums_by, d_least_sums, d_tails_ahead, d_first_step, d_power_of, d_way_tails, d_first_way, d_steps_sum, d_returns, d_is_less, d_in_least_terms, d_least_mean, d_width, d_column_of]
def fn1 : List He.DefD := [d_turned_table, d_lifted_table, d_scaled_table, d_is_table_form, d_need_table, d_need_square, d_need_index, d_is_way, d_power, d_way, d_way_cost, d_least_round, d_need_numbers, d_lifted, d_scaled, d_turned, d_law_feed, d_law_draw, d_law_one, d_law_built]
def fn2 : List He.DefD := [d_law_sized, d_law_numbers, d_law_few, d_law_trimmed, d_law_terms, d_law]
def fn : List He.DefD := fn0 ++ fn1 ++ fn2
def fa0 : List He.Fa := [.glo "is_integer", .glo "is_within", .glo "is_row_of", .glo "are_integers", .glo "need_number", .glo "columns_of", .glo "sums_by", .glo "least_sums", .glo "tails_ahead", .glo "first_step", .glo "power_of", .glo "way_tails", .glo "first_way", .glo "steps_sum", .glo "returns", .glo "is_less", .glo "in_least_terms", .glo "least_mean", .glo "width", .glo "column_of"]
def fa1 : List He.Fa := [.glo "turned_table", .glo "lifted_table", .glo "scaled_table", .glo "is_table_form", .glo "need_table", .glo "need_square", .glo "need_index", .glo "is_way", .glo "power", .glo "way", .glo "way_cost", .glo "least_round", .glo "need_numbers", .glo "lifted", .glo "scaled", .glo "turned", .glo "_law_feed", .glo "_law_draw", .glo "_law_one", .glo "_law_built"]
def fa2 : List He.Fa := [.glo "_law_sized", .glo "_law_numbers", .glo "_law_few", .glo "_law_trimmed", .glo "_law_terms", .glo "law", .free "isinstance", .free "int", .free "bool", .free "tuple", .free "len", .free "all", .free "range", .free "zip", .free "min", .free "max", .free "sum", .free "enumerate", .free "abs", .int "MOST_ROWS" 8]
def fa3 : List He.Fa := [.int "MOST_POWER" (10 ^ 18), .int "MOST_STEPS" 60, .int "MOST_TIMES" (10 ^ 9)]
def fa : List He.Fa := fa0 ++ fa1 ++ fa2 ++ fa3
def nm0 : List PySem.Str := ["LeastError", "BadTable", "BadSquare", "BadNumbers", "BadNumber", "BadIndex", "BadWay", "is_integer", "is_within", "is_row_of", "are_integers", "need_number", "columns_of", "sums_by", "least_sums", "tails_ahead", "first_step", "power_of", "way_tails", "first_way"]
def nm1 : List PySem.Str := ["steps_sum", "returns", "is_less", "in_least_terms", "least_mean", "width", "column_of", "turned_table", "lifted_table", "scaled_table", "MOST_ROWS", "is_table_form", "need_table", "need_square", "need_index", "MOST_POWER", "MOST_STEPS", "is_way", "power", "way"]
def nm2 : List PySem.Str := ["way_cost", "least_round", "MOST_TIMES", "need_numbers", "lifted", "scaled", "turned", "_law_feed", "_law_draw", "_law_one", "_law_built", "_law_sized", "_law_numbers", "_law_few", "_law_trimmed", "_law_terms"]
def nms : List PySem.Str := nm0 ++ nm1 ++ nm2
def exG (K : PySem.W.Frag) : Bool := He.eqO (PySem.W.nsIn K mainGlobals "gcd") (some (some (.builtin "math.gcd")))
abbrev R : PySem.W.OpenRow := PySem.W.OpenLaw.row PySem.Challenge.rw_straightleast_k38_whole_rounds_and_power
abbrev hk : PySem.W.Hook := He.hookX 4 fa fn [] [] exG
def ob (s : PySem.W.SharedT) : He.AlX := He.obsX 4 fa fn [] [] exG (HandSHeadRun.getT s)
theorem ob_eq (s : PySem.W.SharedT) : ob s = hk.obs s.abs := He.obsX_eq (HandSHeadRun.getT_eq s)
theorem run (w : World) : HandSHeadRun.RunEqI R (PySem.W.view R.prog [0, 66]) hk ob 6000 nms w := by
  unfold HandSHeadRun.RunEqI
  kernel_rfl
end K38
end
section
set_option Elab.async false
set_option linter.all false
set_option maxRecDepth 100000
set_option maxHeartbeats 4000000
/-! K38C: short words for this program's defs. -/
namespace K38
open PySem PySem.Spec PyProof.Rows L2

/-- what the module's names stand for -/
structure Bl (K : PySem.W.Frag) (mg : Str → Option Value) : Prop where
  isi : mg "isinstance" = none
  int : mg "int" = none
  bool : mg "bool" = none
  tuple : mg "tuple" = none
  len : mg "len" = none
  all : mg "all" = none
  range : mg "range" = none
  zip : mg "zip" = none
  min : mg "min" = none
  max : mg "max" = none
  sum : mg "sum" = none
  enum : mg "enumerate" = none
  abs : mg "abs" = none
  gcd : mg "gcd" = some (.builtin "math.gcd")
  rows : ∃ t, mg "MOST_ROWS" = some (.int 8 t)
  power : ∃ t, mg "MOST_POWER" = some (.int (10 ^ 18) t)
  steps : ∃ t, mg "MOST_STEPS" = some (.int 60 t)
  times : ∃ t, mg "MOST_TIMES" = some (.int (10 ^ 9) t)

abbrev rLen (K : PySem.W.Frag) : List V → Hp → VK → Prop := fun xs H Q => ∃ p ys, xs = [V.ref p] ∧ (SqL K H p ys ∨ SqT K H p ys) ∧ Q (.int ys.length) H
abbrev rTuple (K : PySem.W.Frag) : List V → Hp → VK → Prop := fun xs H Q => ∃ p ys, xs = [V.ref p] ∧ ((SqL K H p ys ∧ ∀ l, H l = none → Q (.ref l) (upd H l (.tup ys))) ∨ (SqT K H p ys ∧ Q (.ref p) H))
abbrev rInt1 : List V → Hp → VK → Prop := fun xs H Q => (∃ i, xs = [.int i] ∧ Q (.int i) H) ∨ ∃ k, xs = [.bl k] ∧ Q (.int (if k then 1 else 0)) H
abbrev rAbs : List V → Hp → VK → Prop := fun xs H Q => ∃ i, xs = [.int i] ∧ Q (.int (if i < 0 then -i else i)) H

section
variable {X : Cx} {a b c e e2 : Expr} {ta tb tc te : TE} {p p1 pos : Pos} {K : PySem.W.Frag} {mg : Str → Option Value}
theorem e_len (T : Bl K mg) (ha : PE X a ta) (hK : X.K = K := by rfl) (hm : X.mg = mg := by rfl) (hg : Gl X "len" := by rfl) (hs : starEach [a] X.env = (false, eval a X.env) :: starEach [] X.env := by rfl) : PE X (.Call (.Name "len" p) [a] [] pos) (tCB (rLen K) (tCons ta tNil)) := by
  subst hK hm
  exact pe_callB call_len_seq hg T.len PySem.boot_len (pa_cons ha pa_nil hs) (by decide) (by decide) hs (by rfl)
theorem e_tuple (T : Bl K mg) (ha : PE X a ta) (hK : X.K = K := by rfl) (hm : X.mg = mg := by rfl) (hg : Gl X "tuple" := by rfl) (hs : starEach [a] X.env = (false, eval a X.env) :: starEach [] X.env := by rfl) : PE X (.Call (.Name "tuple" p) [a] [] pos) (tCB (rTuple K) (tCons ta tNil)) := by
  subst hK hm
  exact pe_callTy call_tuple_of hg T.tuple PyProof.Rows.boot_tuple (pa_cons ha pa_nil hs) (by decide) (by decide) hs (by rfl)
theorem e_min (T : Bl K mg) (ha : PE X a ta) (hK : X.K = K := by rfl) (hm : X.mg = mg := by rfl) (hc : X.calm = true := by rfl) (hg : Gl X "min" := by rfl) (hs : starEach [a] X.env = (false, eval a X.env) :: starEach [] X.env := by rfl) : PE X (.Call (.Name "min" p) [a] [] pos) (tCB (rMin K) (tCons ta tNil)) := by
  subst hK hm
  exact pe_callB (cr_min hc) hg T.min PyProof.Rows.boot_min (pa_cons ha pa_nil hs) (by decide) (by decide) hs (by rfl)
theorem e_max (T : Bl K mg) (ha : PE X a ta) (hK : X.K = K := by rfl) (hm : X.mg = mg := by rfl) (hc : X.calm = true := by rfl) (hg : Gl X "max" := by rfl) (hs : starEach [a] X.env = (false, eval a X.env) :: starEach [] X.env := by rfl) : PE X (.Call (.Name "max" p) [a] [] pos) (tCB (rMax K) (tCons ta tNil)) := by
  subst hK hm
  exact pe_callB (cr_max hc) hg T.max PyProof.Rows.boot_max (pa_cons ha pa_nil hs) (by decide) (by decide) hs (by rfl)
theorem e_sum (T : Bl K mg) (ha : PE X a ta) (hK : X.K = K := by rfl) (hm : X.mg = mg := by rfl) (hc : X.calm = true := by rfl) (hg : Gl X "sum" := by rfl) (hs : starEach [a] X.env = (false, eval a X.env) :: starEach [] X.env := by rfl) : PE X (.Call (.Name "sum" p) [a] [] pos) (tCB (rSum K) (tCons ta tNil)) := by
  subst hK hm
  exact pe_callB (cr_sum hc) hg T.sum PyProof.Rows.boot_sum (pa_cons ha pa_nil hs) (by decide) (by decide) hs (by rfl)
theorem e_all (T : Bl K mg) (ha : PE X a ta) (hK : X.K = K := by rfl) (hm : X.mg = mg := by rfl) (hc : X.calm = true := by rfl) (hg : Gl X "all" := by rfl) (hs : starEach [a] X.env = (false, eval a X.env) :: starEach [] X.env := by rfl) : PE X (.Call (.Name "all" p) [a] [] pos) (tCB (rAll K) (tCons ta tNil)) := by
  subst hK hm
  exact pe_callB (cr_all hc) hg T.all PyProof.Rows.boot_all (pa_cons ha pa_nil hs) (by decide) (by decide) hs (by rfl)
theorem e_int (T : Bl K mg) (ha : PE X a ta) (hK : X.K = K := by rfl) (hm : X.mg = mg := by rfl) (hg : Gl X "int" := by rfl) (hs : starEach [a] X.env = (false, eval a X.env) :: starEach [] X.env := by rfl) : PE X (.Call (.Name "int" p) [a] [] pos) (tCB rInt1 (tCons ta tNil)) := by
  subst hK hm
  exact pe_callTy call_int1 hg T.int PyProof.Rows.boot_int (pa_cons ha pa_nil hs) (by decide) (by decide) hs (by rfl)
theorem e_abs (T : Bl K mg) (ha : PE X a ta) (hK : X.K = K := by rfl) (hm : X.mg = mg := by rfl) (hg : Gl X "abs" := by rfl) (hs : starEach [a] X.env = (false, eval a X.env) :: starEach [] X.env := by rfl) : PE X (.Call (.Name "abs" p) [a] [] pos) (tCB rAbs (tCons ta tNil)) := by
  subst hK hm
  exact pe_callB call_abs hg T.abs PyProof.Rows.boot_abs (pa_cons ha pa_nil hs) (by decide) (by decide) hs (by rfl)
theorem e_isi (T : Bl K mg) {x : Str} {n : String} (ha : PE X a ta) (hb : bootBuiltins x = some (.type n)) (hx0 : mg x = none) (hK : X.K = K := by rfl) (hm : X.mg = mg := by rfl) (hx : x ≠ "__name__" := by decide) (hd : (x == ("__debug__" : Str)) = false := by decide)
    (hg : Gl X "isinstance" := by rfl) (hg2 : Gl X x := by rfl) (hs : starEach [a, .Name x p1] X.env = (false, eval a X.env) :: starEach [.Name x p1] X.env := by rfl) : PE X (.Call (.Name "isinstance" p) [a, .Name x p1] [] pos) (tCB (rIsi K) (tCons ta (tCons (tC (.ty n)) tNil))) := by
  subst hK hm
  exact pe_callB call_isi hg T.isi PyProof.Rows.boot_isinstance (pa_cons ha (pa_cons (pe_bltn (v := .ty n) hg2 hx0 hb rfl hx hd) pa_nil (by rfl)) hs) (by decide) (by decide) hs (by rfl)
theorem e_gcd (T : Bl K mg) (ha : PE X a ta) (hb : PE X b tb) (hm : X.mg = mg := by rfl) (hg : Gl X "gcd" := by rfl) (hs : starEach [a, b] X.env = (false, eval a X.env) :: starEach [b] X.env := by rfl) (hs2 : starEach [b] X.env = (false, eval b X.env) :: starEach [] X.env := by rfl)
    (hpl : (backTo pos (starEach [b] X.env)).any (·.1) = false := by rfl) : PE X (.Call (.Name "gcd" p) [a, b] [] pos) (tCB rGcd (tCons ta (tCons tb tNil))) := by
  subst hm
  exact pe_callBfun cr_gcd hg T.gcd (pa_cons ha (pa_cons hb pa_nil hs2) hs) (by decide) hs hpl
theorem e_ixT (T : Bl K mg) (ha : PE X a ta) (hb : PE X b tb) (hK : X.K = K := by rfl) (hs : PlainIx b := by exact fun _ _ => rfl) : PE X (.Subscript a b pos) (tOp (rIxT K) ta tb) := by
  subst hK
  exact pe_ix ix_tup ha hb hs
theorem e_ixL (T : Bl K mg) (ha : PE X a ta) (hb : PE X b tb) (hK : X.K = K := by rfl) (hs : PlainIx b := by exact fun _ _ => rfl) : PE X (.Subscript a b pos) (tOp (rIxL K) ta tb) := by
  subst hK
  exact pe_ix ix_list ha hb hs
theorem e_slL {p2 : Pos} (T : Bl K mg) (ha : PE X a ta) (hb : PE X b tb) (hK : X.K = K := by rfl) : PE X (.Subscript a (.Slice none (some b) none p2) pos) (tSl (rSlL K) ta tNoPart (tPart tb)) := by
  subst hK
  exact pe_slice sl_list ha po_none (po_some hb)
theorem p_list {tg : Expr} (T : Bl K mg) (ha : PE X a ta) (hK : X.K = K := by rfl) : PI X tg a (iList K ta) := by
  subst hK
  exact pi_list ha
theorem p_tup {tg : Expr} (T : Bl K mg) (ha : PE X a ta) (hK : X.K = K := by rfl) : PI X tg a (iTup K ta) := by
  subst hK
  exact pi_tup ha
theorem p_rng1 {tg : Expr} (T : Bl K mg) (ha : PE X a ta) (hm : X.mg = mg := by rfl) (hg : Gl X "range" := by rfl) (hs : starEach [a] X.env = (false, eval a X.env) :: starEach [] X.env := by rfl) : PI X tg (.Call (.Name "range" p) [a] [] pos) (iRng1 (tCons ta tNil)) := by
  subst hm
  exact pi_range1 hg T.range (pa_cons ha pa_nil hs) hs
theorem p_enum {elts : List Expr} {kk : Nat} {tpos : Pos} (T : Bl K mg) (ha : PE X a ta) (hK : X.K = K := by rfl) (hm : X.mg = mg := by rfl) (hg : Gl X "enumerate" := by rfl) (hs : starEach [a] X.env = (false, eval a X.env) :: starEach [] X.env := by rfl) :
    PI X (.Tuple elts kk tpos) (.Call (.Name "enumerate" p) [a] [] pos) (iEnum K (tCons ta tNil)) := by
  subst hK hm
  exact pi_enum hg T.enum (pa_cons ha pa_nil hs) hs
theorem p_zip {elts : List Expr} {kk : Nat} {tpos : Pos} (T : Bl K mg) (ha : PE X a ta) (hb : PE X b tb) (hK : X.K = K := by rfl) (hm : X.mg = mg := by rfl) (hg : Gl X "zip" := by rfl)
    (hs : starEach [a, b] X.env = (false, eval a X.env) :: starEach [b] X.env := by rfl) (hs2 : starEach [b] X.env = (false, eval b X.env) :: starEach [] X.env := by rfl) (hpl : (backTo pos (starEach [b] X.env)).any (·.1) = false := by rfl) :
    PI X (.Tuple elts kk tpos) (.Call (.Name "zip" p) [a, b] [] pos) (iZipX K (tCons ta (tCons tb tNil))) := by
  subst hK hm
  exact pi_zipX hg T.zip (pa_cons ha (pa_cons hb pa_nil hs2) hs) hs hpl
theorem g_tup {es : List Expr} {k : Nat} {t : TGs} {n : Nat} {tpos : Pos} (T : Bl K mg) (h : PGs X es t) (hn : (assignEach es X.env).length = n := by rfl) (hst : (assignEach es X.env).findIdx? (·.1) = none := by rfl) (hK : X.K = K := by rfl) (hc : X.calm = true := by rfl) : PG X (.Tuple es k tpos) (gTup K n t) := by
  subst hK
  exact pg_tup (n := n) hc h hn hst

/-! ### defs -/
abbrev FnP (K : PySem.W.Frag) (x : Str) (st : Stmt) (f : Addr) (fd : FuncData) : Prop := FunD K x x (defArgs st) (defBody st) (defScope st) [] [] f fd
/-- the def of that name keeps that promise -/
def Df (P : Program) (w : World) (K : PySem.W.Frag) (mg : Str → Option Value) (base : Heap) (x : Str) (ps : List Str) (k : Nat) (sp : Sp) : Prop :=
  ∃ f fd, FnOk P w K mg base CX0 k f fd ps sp ∧ mg x = some (.ref f) ∧ PySem.W.keepIn K (.ref f) = true ∧ Binds K fd ps []
theorem Df.mono {P : Program} {w : World} {K : PySem.W.Frag} {mg : Str → Option Value} {base : Heap} {x : Str} {ps : List Str} {k k' : Nat} {sp : Sp} (d : Df P w K mg base x ps k sp) (h : k ≤ k') : Df P w K mg base x ps k' sp := by
  obtain ⟨f, fd, a, b, c, e⟩ := d
  exact ⟨f, fd, a.mono h, b, c, e⟩
theorem e_df {x : Str} {ps : List Str} {k k' : Nat} {sp : Sp} {e : Expr} {es : List Expr} {t : TA} (d : Df X.prog X.w X.K X.mg X.base x ps k sp) (hr : Room k' X.A) (ha : PA X (e :: es) t) (hk : k ≤ k' := by decide) (hg : Gl X x := by rfl) (hdb : (x == ("__debug__" : Str)) = false := by decide)
    (he : starEach (e :: es) X.env = (false, eval e X.env) :: starEach es X.env := by rfl) (hpl : (backTo pos (starEach es X.env)).any (·.1) = false := by rfl) : PE X (.Call (.Name x p) (e :: es) [] pos) (tCall sp [] E0 t) := by
  obtain ⟨f, fd, F, hm, hkp, hb⟩ := d
  exact pe_call F (hr.mono hk) hg hm hkp hb .nil pass0 ha hdb he hpl
end
theorem df_of {P : Program} {w : World} {K : PySem.W.Frag} {mg : Str → Option Value} {base : Heap} {x : Str} {st : Stmt} {f : Addr} {fd : FuncData} {N ps : List Str} {k : Nat} {sp : Sp} (F : FnP K x st f fd) (g : mg x = some (.ref f)) (S : FnScope N ps (defScope st)) (b : Binds K fd ps [])
    (len : ∀ vs H Q E, sp vs H Q E → vs.length = ps.length)
    (body : ∀ (cdv : Value) (A : Around) (outer : List Env) (s : Shared) (H : Hp) (vs : List V) (Q : VK) (E : XK), Room k (A.deeper (envOfC x (defScope st) s.heap.objs.size f cdv)) → sp vs H Q E →
      ∃ t, PSs (cxOf CX0 P w K mg base N x (defScope st) f cdv A outer s H E).nox (defBody st) t ∧ t { nx := fun _ H' => Q .non H', rt := Q } (start N vs) H) : Df P w K mg base x ps (k + 1) sp :=
  ⟨f, fd, F.ok S len fun cdv A outer s H vs Q E hr h => by
    obtain ⟨t, h1, h2⟩ := body cdv A outer s H vs Q E hr h
    exact ⟨t, h1.nox, h2⟩, g, F.kp, b⟩
/-- a def whose promise is «such arguments, such a result» -/
theorem df_sp {P : Program} {w : World} {K : PySem.W.Frag} {mg : Str → Option Value} {base : Heap} {x : Str} {st : Stmt} {f : Addr} {fd : FuncData} {N ps : List Str} {k : Nat} {α : Type} {pre : α → Prop} {args : α → List Rp} {res : α → Rp}
    (F : FnP K x st f fd) (g : mg x = some (.ref f)) (S : FnScope N ps (defScope st)) (b : Binds K fd ps []) (len : ∀ x, (args x).length = ps.length)
    (body : ∀ (cdv : Value) (A : Around) (outer : List Env) (s : Shared) (E : XK), Room k (A.deeper (envOfC x (defScope st) s.heap.objs.size f cdv)) → ∀ H, ∃ t, PSs (cxOf CX0 P w K mg base N x (defScope st) f cdv A outer s H E).nox (defBody st) t ∧
      ∀ (Hk : Hp) (vs : List V) (Q : VK) (z : α), pre z → Same Hk H → Fits Hk vs (args z) → (∀ v H', Same H H' → (res z).p v (nu Hk H H') → Q v H') → t { nx := fun _ H' => Q .non H', rt := Q } (start N vs) H) : Df P w K mg base x ps (k + 1) (spF pre args res) :=
  df_of F g S b (fun vs H Q E h => by
    obtain ⟨z, Hk, _, _, hf, _⟩ := h
    rw [hf.len, len]) fun cdv A outer s H vs Q E hr h => by
    obtain ⟨z, Hk, hp, hs, hf, q⟩ := h
    obtain ⟨t, h1, h2⟩ := body cdv A outer s E hr H
    exact ⟨t, h1, h2 Hk vs Q z hp hs hf q⟩
end K38
end
section
set_option Elab.async false
set_option linter.all false
set_option maxRecDepth 100000
set_option maxHeartbeats 4000000
/-! K38D1: kinds, forms of tables. -/
namespace K38
open PySem PySem.Spec PyProof.Rows L2
section
variable {P : Program} {w : World} {K : PySem.W.Frag} {mg : Str → Option Value} {base : Heap} {f : Addr} {fd : FuncData}

abbrev spIsInteger : Sp := spF (α := Int) (fun _ => True) (fun i => [kI i]) (fun _ => kB true)
theorem sc_is_integer : FnScope ["thing"] ["thing"] (defScope s_is_integer) := ⟨rfl, rfl, rfl, by decide +kernel, rfl, by decide +kernel, by decide +kernel⟩
theorem ok_is_integer (T : Bl K mg) (F : FnP K "is_integer" s_is_integer f fd) (g : mg "is_integer" = some (.ref f)) : Df P w K mg base "is_integer" ["thing"] 1 spIsInteger := by
  refine df_sp F g sc_is_integer (F.bindsN fun _ _ _ _ _ _ us hl => match us, hl with | [_], _ => rfl) (fun _ => rfl) fun cdv A outer s E hr H => ⟨_, pss_one (ps_ret (pe_and (e_isi T (pv 0) boot_int T.int) (pe_one (pe_not (e_isi T (pv 0) boot_bool T.bool))))), ?_⟩
  intro Hk vs Q z _ e hf q
  obtain ⟨v, rfl, hv⟩ := hf.one
  exact s_ret (ge_andV (ge_cb (ga_two (ge_var hv rfl) ge_c) (gc_isInt (k := true) (by decide +kernel))) fun _ => ge_notV (ge_cb (ga_two (ge_var hv rfl) ge_c) (gc_isInt (k := false) (by decide +kernel)))) e q

abbrev spIsWithin : Sp := spF (α := Int × Int × Int) (fun _ => True) (fun z => [kI z.1, kI z.2.1, kI z.2.2]) (fun z => kB (decide (z.2.1 ≤ z.1) && decide (z.1 ≤ z.2.2)))
theorem sc_is_within : FnScope ["thing", "least", "most"] ["thing", "least", "most"] (defScope s_is_within) := ⟨rfl, rfl, rfl, by decide +kernel, rfl, by decide +kernel, by decide +kernel⟩
theorem ok_is_within (T : Bl K mg) (F : FnP K "is_within" s_is_within f fd) (g : mg "is_within" = some (.ref f)) (d1 : Df P w K mg base "is_integer" ["thing"] 1 spIsInteger) : Df P w K mg base "is_within" ["thing", "least", "most"] 2 spIsWithin := by
  refine df_sp F g sc_is_within (F.bindsN fun _ _ _ _ _ _ us hl => match us, hl with | [_, _, _], _ => rfl) (fun _ => rfl) fun cdv A outer s E hr H => ⟨_, pss_one (ps_ret (pe_and (e_df d1 hr (pa_cons (pv 0) pa_nil)) (pe_one (pe_chain op_le op_le (pv 1) (pv 0) (pv 2))))), ?_⟩
  intro Hk vs Q z _ e hf q
  obtain ⟨v, v1, v2, rfl, hv, hv1, hv2⟩ := hf.three
  exact s_ret (ge_andV (ge_call (z.1) trivial (ga_one (ge_var hv rfl))) fun _ => ge_chainI (p := fun i j => decide (i ≤ j)) (p' := fun i j => decide (i ≤ j)) (ge_var hv1 rfl) (ge_var hv rfl) (ge_var hv2 rfl)) e q

/-- of a tuple -/
abbrev spIsRowOf (K : PySem.W.Frag) : Sp := spF (α := Nat × (Nat → Rp) × Int × Int) (fun _ => True) (fun z => [kT K z.1 z.2.1, kI z.2.2.1, kI z.2.2.2]) (fun z => kB (decide (z.2.2.1 ≤ (z.1 : Int)) && decide ((z.1 : Int) ≤ z.2.2.2)))
theorem sc_is_row_of : FnScope ["thing", "least", "most"] ["thing", "least", "most"] (defScope s_is_row_of) := ⟨rfl, rfl, rfl, by decide +kernel, rfl, by decide +kernel, by decide +kernel⟩
theorem ok_is_row_of (T : Bl K mg) (F : FnP K "is_row_of" s_is_row_of f fd) (g : mg "is_row_of" = some (.ref f)) : Df P w K mg base "is_row_of" ["thing", "least", "most"] 1 (spIsRowOf K) := by
  refine df_sp F g sc_is_row_of (F.bindsN fun _ _ _ _ _ _ us hl => match us, hl with | [_, _, _], _ => rfl) (fun _ => rfl) fun cdv A outer s E hr H => ⟨_, pss_one (ps_ret (pe_and (e_isi T (pv 0) boot_tuple T.tuple) (pe_one (pe_chain op_le op_le (pv 1) (e_len T (pv 0)) (pv 2))))), ?_⟩
  intro Hk vs Q z _ e hf q
  obtain ⟨v, v1, v2, rfl, hv, hv1, hv2⟩ := hf.three
  exact s_ret (ge_andV (ge_cb (ga_two (ge_var hv rfl) ge_c) gc_isTup) fun _ => ge_chainI (p := fun i j => decide (i ≤ j)) (p' := fun i j => decide (i ≤ j)) (ge_var hv1 rfl) (ge_cb (ga_one (ge_var hv rfl)) gc_lenT) (ge_var hv2 rfl)) e q

/-- of so many ints -/
abbrev spAreIntegers (K : PySem.W.Frag) : Sp := spF (α := Nat × (Nat → Int)) (fun z => z.1 ≤ 1000) (fun z => [kTI K z.1 z.2, kI z.1]) (fun z => kB true)
theorem sc_are_integers : FnScope ["thing", "many", "one"] ["thing", "many"] (defScope s_are_integers) := ⟨rfl, rfl, rfl, by decide +kernel, rfl, by decide +kernel, by decide +kernel⟩
theorem ok_are_integers (T : Bl K mg) (F : FnP K "are_integers" s_are_integers f fd) (g : mg "are_integers" = some (.ref f)) (d1 : Df P w K mg base "is_integer" ["thing"] 1 spIsInteger) (d2 : Df P w K mg base "is_row_of" ["thing", "least", "most"] 1 (spIsRowOf K)) :
    Df P w K mg base "are_integers" ["thing", "many"] 2 (spAreIntegers K) := by
  refine df_sp F g sc_are_integers (F.bindsN fun _ _ _ _ _ _ us hl => match us, hl with | [_, _], _ => rfl) (fun _ => rfl) fun cdv A outer s E hr H => ⟨_, pss_one (ps_ret (pe_and (e_df d2 hr (pa_cons (pv 0) (pa_cons (pv 1) (pa_cons (pv 1) pa_nil))))
    (pe_one (e_all T (pe_lc (own := [("one", 2)]) (g := gName 2) (tt := tYes) rfl sc_are_integers.nd (p_tup T (pv 0)) (blkOk_by (own := [("one", 2)]) (N := ["thing", "many", "one"]) (sc := defScope s_are_integers) (by decide +kernel))
      (fun _ _ _ _ _ => pg_name (i := 2) sc_are_integers.nd rfl (Or.inl rfl)) (fun _ _ _ _ _ => pts_nil) (fun _ _ _ _ _ => e_df d1 hr (pa_cons (pv 2) pa_nil))))))), ?_⟩
  intro Hk vs Q z hz e hf q
  obtain ⟨v, v1, rfl, hv, hv1⟩ := hf.two
  exact s_ret (ge_andV ((ge_call (z.1, fun i => kI (z.2 i), (z.1 : Int), (z.1 : Int)) trivial (ga_cons (ge_var hv rfl) (ga_two (ge_var hv1 rfl) (ge_var hv1 rfl)))).bool (j := true) (by simp)) fun _ =>
    ge_cb (ga_one (ge_lc (gi_tup (ge_var hv rfl)) (fun i hi B eB x hx => ge_call (z.2 i) trivial (ga_one (ge_var hx rfl))) (by omega))) gc_all) e q

theorem pow18 : (10 : Int) ^ 18 = 1000000000000000000 := by decide
/-- an int within bounds: nothing comes of it -/
abbrev spNeed3 : Sp := spF (α := Int × Int × Int) (fun z => z.2.1 ≤ z.1 ∧ z.1 ≤ z.2.2) (fun z => [kI z.1, kI z.2.1, kI z.2.2]) (fun _ => kN)
theorem sc_need_number : FnScope ["number", "least", "most"] ["number", "least", "most"] (defScope s_need_number) := ⟨rfl, rfl, rfl, by decide +kernel, rfl, by decide +kernel, by decide +kernel⟩
theorem ok_need_number (T : Bl K mg) (F : FnP K "need_number" s_need_number f fd) (g : mg "need_number" = some (.ref f)) (d1 : Df P w K mg base "is_within" ["thing", "least", "most"] 2 spIsWithin) : Df P w K mg base "need_number" ["number", "least", "most"] 3 spNeed3 := by
  refine df_sp F g sc_need_number (F.bindsN fun _ _ _ _ _ _ us hl => match us, hl with | [_, _, _], _ => rfl) (fun _ => rfl) fun cdv A outer s E hr H => ⟨_, pss_one (ps_if (pt_not (pt_val (e_df d1 hr (pa_cons (pv 0) (pa_cons (pv 1) (pa_cons (pv 2) pa_nil)))))) (pss_one ps_never) pss_nil), ?_⟩
  intro Hk vs Q z hz e hf q
  obtain ⟨v, v1, v2, rfl, hv, hv1, hv2⟩ := hf.three
  exact s_skipN ((gt_not (gt_B (ge_call (z.1, z.2.1, z.2.2) trivial (ga_cons (ge_var hv rfl) (ga_two (ge_var hv1 rfl) (ge_var hv2 rfl)))))).to (by simp [hz])) e fun H1 e1 => q _ H1 e1 rfl

abbrev spTabNeed (K : PySem.W.Frag) : Sp := spF (α := Nat × (Nat → Nat → Int)) (fun z => 1 ≤ z.1 ∧ z.1 ≤ 8) (fun z => [kTab K z.1 z.2]) (fun _ => kN)
abbrev spTabYes (K : PySem.W.Frag) : Sp := spF (α := Nat × (Nat → Nat → Int)) (fun z => 1 ≤ z.1 ∧ z.1 ≤ 8) (fun z => [kTab K z.1 z.2]) (fun _ => kB true)
theorem sc_is_table_form : FnScope ["thing", "row"] ["thing"] (defScope s_is_table_form) := ⟨rfl, rfl, rfl, by decide +kernel, rfl, by decide +kernel, by decide +kernel⟩
theorem ok_is_table_form (T : Bl K mg) (F : FnP K "is_table_form" s_is_table_form f fd) (g : mg "is_table_form" = some (.ref f)) (d1 : Df P w K mg base "is_row_of" ["thing", "least", "most"] 1 (spIsRowOf K)) (d2 : Df P w K mg base "are_integers" ["thing", "many"] 2 (spAreIntegers K)) :
    Df P w K mg base "is_table_form" ["thing"] 3 (spTabYes K) := by
  obtain ⟨t8, h8⟩ := T.rows
  refine df_sp F g sc_is_table_form (F.bindsN fun _ _ _ _ _ _ us hl => match us, hl with | [_], _ => rfl) (fun _ => rfl) fun cdv A outer s E hr H => ⟨_, pss_cons (ps_if (PW.pt (pw_or (pt_not (pt_val (e_df d1 hr (pa_cons (pv 0) (pa_cons pe_int (pa_cons (pe_glob (v := .int 8) (by rfl) h8 ⟨_, rfl⟩) pa_nil))))))
      (pw_or1 (pt_not (pt_val (e_df d1 hr (pa_cons (e_ixT T (pv 0) pe_int) (pa_cons pe_int (pa_cons (pe_glob (v := .int 8) (by rfl) h8 ⟨_, rfl⟩) pa_nil))))))))) (pss_one ps_never) pss_nil)
    (pss_one (ps_ret (e_all T (pe_lc (own := [("row", 1)]) (g := gName 1) (tt := tYes) rfl sc_is_table_form.nd (p_tup T (pv 0)) (blkOk_by (own := [("row", 1)]) (N := ["thing", "row"]) (sc := defScope s_is_table_form) (by decide +kernel))
      (fun _ _ _ _ _ => pg_name (i := 1) sc_is_table_form.nd rfl (Or.inl rfl)) (fun _ _ _ _ _ => pts_nil) (fun _ _ _ _ _ => e_df d2 hr (pa_cons (pv 1) (pa_cons (e_len T (e_ixT T (pv 0) pe_int)) pa_nil))))))), ?_⟩
  intro Hk vs Q z hz e hf q
  obtain ⟨n, t⟩ := z
  have h1 : 1 ≤ n := hz.1
  have h8 : n ≤ 8 := hz.2
  obtain ⟨v, rfl, hv⟩ := hf.one
  refine s_skip (gt_or (k := false) (l := false) ?_ (fun _ => ?_)) e fun H1 e1 => ?_
  · exact (gt_not (gt_B (ge_call (n, fun i => kTI K n (t i), 1, 8) trivial (ga_cons (ge_var hv rfl) (ga_two ge_c ge_c))))).to (by simp; omega)
  · exact (gt_not (gt_B (ge_call (n, fun i => kI (t 0 i), 1, 8) trivial (ga_cons (ge_ixT (i := 0) (ge_var hv rfl) ge_c rfl (by omega)) (ga_two ge_c ge_c))))).to (by simp; omega)
  · exact s_ret (ge_cb (ga_one (ge_lc (gi_tup (ge_var hv rfl)) (fun i hi B eB x hx => ge_call (n, t i) (by show n ≤ 1000; omega) (ga_two (ge_var hx rfl)
      (ge_cb (ga_one (ge_ixT (i := 0) (ge_var ((kTab K n t).mono eB hv) rfl) ge_c rfl (by omega))) gc_lenT))) (by omega))) gc_all) (e.trans e1) fun v' H' e' p' => q v' H' (e1.trans e') p'

theorem sc_need_table : FnScope ["table"] ["table"] (defScope s_need_table) := ⟨rfl, rfl, rfl, by decide +kernel, rfl, by decide +kernel, by decide +kernel⟩
theorem ok_need_table (T : Bl K mg) (F : FnP K "need_table" s_need_table f fd) (g : mg "need_table" = some (.ref f)) (d1 : Df P w K mg base "is_table_form" ["thing"] 3 (spTabYes K)) : Df P w K mg base "need_table" ["table"] 4 (spTabNeed K) := by
  refine df_sp F g sc_need_table (F.bindsN fun _ _ _ _ _ _ us hl => match us, hl with | [_], _ => rfl) (fun _ => rfl) fun cdv A outer s E hr H => ⟨_, pss_one (ps_if (pt_not (pt_val (e_df d1 hr (pa_cons (pv 0) pa_nil)))) (pss_one ps_never) pss_nil), ?_⟩
  intro Hk vs Q z hz e hf q
  obtain ⟨v, rfl, hv⟩ := hf.one
  exact s_skipN (gt_not (k := true) (gt_B (ge_call z hz (ga_one (ge_var hv rfl))))) e fun H1 e1 => q _ H1 e1 rfl

theorem sc_need_square : FnScope ["table"] ["table"] (defScope s_need_square) := ⟨rfl, rfl, rfl, by decide +kernel, rfl, by decide +kernel, by decide +kernel⟩
theorem ok_need_square (T : Bl K mg) (F : FnP K "need_square" s_need_square f fd) (g : mg "need_square" = some (.ref f)) (d1 : Df P w K mg base "need_table" ["table"] 4 (spTabNeed K)) : Df P w K mg base "need_square" ["table"] 5 (spTabNeed K) := by
  refine df_sp F g sc_need_square (F.bindsN fun _ _ _ _ _ _ us hl => match us, hl with | [_], _ => rfl) (fun _ => rfl) fun cdv A outer s E hr H => ⟨_, pss_cons (ps_expr (e_df d1 hr (pa_cons (pv 0) pa_nil)))
    (pss_one (ps_if (pt_cmpR op_ne (e_len T (pv 0)) (e_len T (e_ixT T (pv 0) pe_int)) (nomark _)) (pss_one ps_never) pss_nil)), ?_⟩
  intro Hk vs Q z hz e hf q
  obtain ⟨n, t⟩ := z
  have h1 : 1 ≤ n := hz.1
  obtain ⟨v, rfl, hv⟩ := hf.one
  refine s_drop (ge_call (n, t) hz (ga_one (ge_var hv rfl))) e fun H1 e1 => ?_
  exact s_skipN ((gt_test (ge_neI (ge_cb (ga_one (ge_var hv rfl)) gc_lenT) (ge_cb (ga_one (ge_ixT (i := 0) (ge_var hv rfl) ge_c rfl (by omega))) gc_lenT))).to (by simp)) (e.trans e1) fun H2 e2 => q _ H2 (e1.trans e2) rfl

abbrev spNeed2 : Sp := spF (α := Int × Int) (fun z => 0 ≤ z.1 ∧ z.1 < z.2) (fun z => [kI z.1, kI z.2]) (fun _ => kN)
theorem sc_need_index : FnScope ["index", "count"] ["index", "count"] (defScope s_need_index) := ⟨rfl, rfl, rfl, by decide +kernel, rfl, by decide +kernel, by decide +kernel⟩
theorem ok_need_index (T : Bl K mg) (F : FnP K "need_index" s_need_index f fd) (g : mg "need_index" = some (.ref f)) (d1 : Df P w K mg base "is_within" ["thing", "least", "most"] 2 spIsWithin) : Df P w K mg base "need_index" ["index", "count"] 3 spNeed2 := by
  refine df_sp F g sc_need_index (F.bindsN fun _ _ _ _ _ _ us hl => match us, hl with | [_, _], _ => rfl) (fun _ => rfl) fun cdv A outer s E hr H => ⟨_, pss_one (ps_if (pt_not (pt_val (e_df d1 hr (pa_cons (pv 0) (pa_cons pe_int (pa_cons (pe_op op_sub (pv 1) pe_int) pa_nil)))))) (pss_one ps_never) pss_nil), ?_⟩
  intro Hk vs Q z hz e hf q
  obtain ⟨i, m⟩ := z
  have h0 : 0 ≤ i := hz.1
  have h1 : i < m := hz.2
  obtain ⟨v, v1, rfl, hv, hv1⟩ := hf.two
  refine s_skipN ((gt_not (gt_B (ge_call (i, 0, m - 1) trivial (ga_cons (ge_var hv rfl) (ga_two ge_c (ge_I0 (ge_var hv1 rfl) ge_c)))))).to ?_) e fun H1 e1 => q _ H1 e1 rfl
  show (!(decide ((0 : Int) ≤ i) && decide (i ≤ m - 1))) = false
  rw [decide_eq_true h0, decide_eq_true (show i ≤ m - 1 by omega)] <;> rfl

theorem sc_need_numbers : FnScope ["numbers", "many"] ["numbers", "many"] (defScope s_need_numbers) := ⟨rfl, rfl, rfl, by decide +kernel, rfl, by decide +kernel, by decide +kernel⟩
abbrev spNeedNumbers (K : PySem.W.Frag) : Sp := spF (α := Nat × (Nat → Int)) (fun z => z.1 ≤ 1000) (fun z => [kTI K z.1 z.2, kI z.1]) (fun z => kN)
theorem ok_need_numbers (T : Bl K mg) (F : FnP K "need_numbers" s_need_numbers f fd) (g : mg "need_numbers" = some (.ref f)) (d1 : Df P w K mg base "are_integers" ["thing", "many"] 2 (spAreIntegers K)) : Df P w K mg base "need_numbers" ["numbers", "many"] 3 (spNeedNumbers K) := by
  refine df_sp F g sc_need_numbers (F.bindsN fun _ _ _ _ _ _ us hl => match us, hl with | [_, _], _ => rfl) (fun _ => rfl) fun cdv A outer s E hr H => ⟨_, pss_one (ps_if (pt_not (pt_val (e_df d1 hr (pa_cons (pv 0) (pa_cons (pv 1) pa_nil))))) (pss_one ps_never) pss_nil), ?_⟩
  intro Hk vs Q z hz e hf q
  obtain ⟨v, v1, rfl, hv, hv1⟩ := hf.two
  exact s_skipN (gt_not (k := true) (gt_B (ge_call z hz (ga_two (ge_var hv rfl) (ge_var hv1 rfl))))) e fun H1 e1 => q _ H1 e1 rfl
end
end K38
end
section
set_option Elab.async false
set_option linter.all false
set_option maxRecDepth 100000
set_option maxHeartbeats 4000000
/-! K38D2: columns, least sums over a middle. -/
namespace K38
open PySem PySem.Spec PyProof.Rows L2
def noScope : Scope := { kind := .function, names := [], isGenerator := false, isCoroutine := false }
def noExpr : Expr := .Constant .none 0 ⟨0, 0, 0, 0⟩
def lcS : Expr → Scope
  | .ListComp _ _ sc _ => sc
  | _ => noScope
def eltOf : Expr → Expr
  | .ListComp e _ _ _ => e
  | _ => noExpr
def arg1 : Expr → Expr
  | .Call _ (a :: _) _ _ => a
  | _ => noExpr
def exOf : Stmt → Expr
  | .Return (some e) _ => e
  | .Assign _ e _ => e
  | .Expr e _ => e
  | _ => noExpr
def stAt (s : Stmt) (i : Nat) : Stmt := (defBody s).getD i (.Pass ⟨0, 0, 0, 0⟩)
section
variable {P : Program} {w : World} {K : PySem.W.Frag} {mg : Str → Option Value} {base : Heap} {f : Addr} {fd : FuncData}

abbrev spColumnsOf (K : PySem.W.Frag) : Sp := spF (α := Nat × (Nat → Nat → Int)) (fun z => 1 ≤ z.1 ∧ z.1 ≤ 8) (fun z => [kTab K z.1 z.2]) (fun z => kL K z.1 fun j => kTI K z.1 fun i => z.2 i j)
theorem sc_columns_of : FnScope ["table", "column", "row"] ["table"] (defScope s_columns_of) := ⟨rfl, rfl, rfl, by decide +kernel, rfl, by decide +kernel, by decide +kernel⟩
theorem ok_columns_of (T : Bl K mg) (F : FnP K "columns_of" s_columns_of f fd) (g : mg "columns_of" = some (.ref f)) : Df P w K mg base "columns_of" ["table"] 1 (spColumnsOf K) := by
  have nd := sc_columns_of.nd
  refine df_sp F g sc_columns_of (F.bindsN fun _ _ _ _ _ _ us hl => match us, hl with | [_], _ => rfl) (fun _ => rfl) fun cdv A outer s E hr H => ⟨_, pss_one (ps_ret (pe_lc (own := [("column", 1)]) (g := gName 1) (tt := tYes) rfl nd (p_rng1 T (e_len T (e_ixT T (pv 0) pe_int)))
    (blkOk_by (own := [("column", 1)]) (N := ["table", "column", "row"]) (sc := defScope s_columns_of) (by decide +kernel)) (fun _ _ _ _ _ => pg_name (i := 1) nd rfl (Or.inr rfl)) (fun _ _ _ _ _ => pts_nil)
    (fun _ _ _ _ _ => e_tuple T (pe_lc (own := [("row", 2)]) (g := gName 2) (tt := tYes) rfl nd (p_tup T (pv 0)) (blkOk_by (own := [("row", 2)]) (N := ["table", "column", "row"]) (sc := relS (lcS (exOf (stAt s_columns_of 0))) (defScope s_columns_of)) (by decide +kernel))
      (fun _ _ _ _ _ => pg_name (i := 2) nd rfl (Or.inl rfl)) (fun _ _ _ _ _ => pts_nil) (fun _ _ _ _ _ => e_ixT T (pv 2) (pv 1)))))), ?_⟩
  intro Hk vs Q z hz e hf q
  obtain ⟨n, t⟩ := z
  have h1 : 1 ≤ n := hz.1
  have h8 : n ≤ 8 := hz.2
  obtain ⟨v, rfl, hv⟩ := hf.one
  refine s_ret ?_ e q
  exact ge_lc (gi_rng (ga_one (ge_cb (ga_one (ge_ixT (i := 0) (ge_var hv rfl) ge_c rfl (by omega))) gc_lenT)) rfl (by omega)) (fun j hj B eB x hx => ge_cb (ga_one
    (ge_lc (gi_tup (ge_var ((kTab K n t).mono eB hv) rfl)) (fun i hi B2 eB2 y hy => ge_ixT (i := j) (ge_var hy rfl) (ge_var ((kI (j : Int)).mono eB2 hx) rfl) rfl hj) (by omega))) gc_tuple) (by omega)

/-- of a tuple and a tuple or a list -/
def kS (K : PySem.W.Frag) (b : Bool) (n : Nat) (f : Nat → Int) : Rp := if b then kTI K n f else kLI K n f
abbrev spSumsBy (K : PySem.W.Frag) : Sp := spF (α := Bool × Nat × (Nat → Int) × (Nat → Int)) (fun z => z.2.1 ≤ 1000) (fun z => [kTI K z.2.1 z.2.2.1, kS K z.1 z.2.1 z.2.2.2]) (fun z => kLI K z.2.1 fun i => z.2.2.1 i + z.2.2.2 i)
theorem sc_sums_by : FnScope ["row", "line", "entry", "number"] ["row", "line"] (defScope s_sums_by) := ⟨rfl, rfl, rfl, by decide +kernel, rfl, by decide +kernel, by decide +kernel⟩
theorem ok_sums_by (T : Bl K mg) (F : FnP K "sums_by" s_sums_by f fd) (g : mg "sums_by" = some (.ref f)) : Df P w K mg base "sums_by" ["row", "line"] 1 (spSumsBy K) := by
  have nd := sc_sums_by.nd
  refine df_sp F g sc_sums_by (F.bindsN fun _ _ _ _ _ _ us hl => match us, hl with | [_, _], _ => rfl) (fun _ => rfl) fun cdv A outer s E hr H => ⟨_, pss_one (ps_ret (pe_lc (own := [("entry", 2), ("number", 3)]) (g := gTup K 2 (gCons (gName 2) (gCons (gName 3) gNil))) (tt := tYes) rfl nd
    (p_zip T (pv 0) (pv 1)) (blkOk_by (own := [("entry", 2), ("number", 3)]) (N := ["row", "line", "entry", "number"]) (sc := defScope s_sums_by) (by decide +kernel))
    (fun _ _ _ _ _ => g_tup T (pgs_cons (pg_name (i := 2) nd rfl (Or.inl rfl)) (pgs_cons (pg_name (i := 3) nd rfl (Or.inl rfl)) pgs_nil))) (fun _ _ _ _ _ => pts_nil) (fun _ _ _ _ _ => pe_op op_add (pv 2) (pv 3)))), ?_⟩
  intro Hk vs Q z hz e hf q
  obtain ⟨b, n, r, l⟩ := z
  have h1 : n ≤ 1000 := hz
  obtain ⟨v, v1, rfl, hv, hv1⟩ := hf.two
  refine s_ret ?_ e q
  refine ge_lc2 (r := fun i => kI (r i)) (r2 := fun i => kI (l i)) ?_ rfl (by decide) (fun i hi B eB x y hx hy => ge_I0 (ge_var hx rfl) (ge_var hy rfl)) (by show n ≤ _; omega)
  cases b with
  | true => exact gi_zipTT (ga_two (ge_var hv rfl) (ge_var hv1 rfl))
  | false => exact gi_zipTL (ga_two (ge_var hv rfl) (ge_var hv1 rfl))

/-- least sums over a middle below n -/
def mp (n : Nat) (f g : Nat → Nat → Int) : Nat → Nat → Int := fun i j => minF n fun k => f i k + g k j
abbrev spLeastSums (K : PySem.W.Frag) : Sp := spF (α := Nat × (Nat → Nat → Int) × (Nat → Nat → Int)) (fun z => 1 ≤ z.1 ∧ z.1 ≤ 8) (fun z => [kTab K z.1 z.2.1, kTab K z.1 z.2.2]) (fun z => kTab K z.1 (mp z.1 z.2.1 z.2.2))
abbrev nLS : List Str := ["one", "other", "lines", "row", "line"]
theorem sc_least_sums : FnScope nLS ["one", "other"] (defScope s_least_sums) := ⟨rfl, rfl, rfl, by decide +kernel, rfl, by decide +kernel, by decide +kernel⟩
theorem ok_least_sums (T : Bl K mg) (F : FnP K "least_sums" s_least_sums f fd) (g : mg "least_sums" = some (.ref f)) (d1 : Df P w K mg base "columns_of" ["table"] 1 (spColumnsOf K)) (d2 : Df P w K mg base "sums_by" ["row", "line"] 1 (spSumsBy K)) :
    Df P w K mg base "least_sums" ["one", "other"] 2 (spLeastSums K) := by
  have nd := sc_least_sums.nd
  refine df_sp F g sc_least_sums (F.bindsN fun _ _ _ _ _ _ us hl => match us, hl with | [_, _], _ => rfl) (fun _ => rfl) fun cdv A outer s E hr H => ⟨_, pss_cons (ps_set (i := 2) nd rfl (Or.inr rfl) (e_df d1 hr (pa_cons (pv 1) pa_nil)))
    (pss_one (ps_ret (e_tuple T (pe_lc (own := [("row", 3)]) (g := gName 3) (tt := tYes) rfl nd (p_tup T (pv 0)) (blkOk_by (own := [("row", 3)]) (N := nLS) (sc := defScope s_least_sums) (by decide +kernel))
      (fun _ _ _ _ _ => pg_name (i := 3) nd rfl (Or.inr rfl)) (fun _ _ _ _ _ => pts_nil) (fun _ _ _ _ _ => e_tuple T (pe_lc (own := [("line", 4)]) (g := gName 4) (tt := tYes) rfl nd (p_list T (pv 2))
        (blkOk_by (own := [("line", 4)]) (N := nLS) (sc := relS (lcS (arg1 (exOf (stAt s_least_sums 1)))) (defScope s_least_sums)) (by decide +kernel))
        (fun _ _ _ _ _ => pg_name (i := 4) nd rfl (Or.inl rfl)) (fun _ _ _ _ _ => pts_nil) (fun _ _ _ _ _ => e_min T (e_df d2 hr (pa_cons (pv 3) (pa_cons (pv 4) pa_nil)))))))))), ?_⟩
  intro Hk vs Q z hz e hf q
  obtain ⟨n, t, u⟩ := z
  have h1 : 1 ≤ n := hz.1
  have h8 : n ≤ 8 := hz.2
  obtain ⟨v, v1, rfl, hv, hv1⟩ := hf.two
  refine s_set (ge_call (n, u) hz (ga_one (ge_var hv1 rfl))) e fun l H1 e1 hl => ?_
  have eb : Same Hk (nu Hk H H1) := nu_base e e1
  refine s_ret (Hk := nu Hk H H1) ?_ nu_sub fun v' H' e' p' => q v' H' (e1.trans e') ((kTab K n (mp n t u)).mono (nu_nest e1) p')
  exact ge_cb (ga_one (ge_lc (gi_tup (ge_var ((kTab K n t).mono eb hv) rfl)) (fun i hi B eB x hx => ge_cb (ga_one (ge_lc (gi_list (ge_var ((kL K n fun j => kTI K n fun i => u i j).mono eB hl) rfl)) (fun j hj B2 eB2 y hy =>
    ge_cb (ga_one (ge_call (true, n, t i, fun k => u k j) (by show n ≤ 1000; omega) (ga_two (ge_var ((kTI K n (t i)).mono eB2 hx) rfl) (ge_var hy rfl)))) (gc_min h1)) (by omega))) gc_tuple) (by omega))) gc_tuple
end
end K38
end
section
set_option Elab.async false
set_option linter.all false
set_option maxRecDepth 100000
set_option maxHeartbeats 4000000
/-! K38M: powers of tables, rounds; plain Lean. -/
namespace K38

theorem le_minF {n : Nat} {f : Nat → Int} {m : Int} (h0 : 0 < n) (h : ∀ i < n, m ≤ f i) : m ≤ minF n f := by
  obtain ⟨i, hi, e⟩ := minF_mem (f := f) h0
  rw [e]
  exact h i hi
theorem mp_le {n : Nat} {f g : Nat → Nat → Int} {i j k : Nat} (hk : k < n) : mp n f g i j ≤ f i k + g k j := minF_le (f := fun k => f i k + g k j) k hk
theorem mp_mem {n : Nat} {f g : Nat → Nat → Int} {i j : Nat} (h0 : 0 < n) : ∃ k, k < n ∧ mp n f g i j = f i k + g k j := minF_mem (f := fun k => f i k + g k j) h0
theorem mp_assoc {n : Nat} (h0 : 0 < n) (f g h : Nat → Nat → Int) : mp n (mp n f g) h = mp n f (mp n g h) := by
  funext i j
  apply Int.le_antisymm
  · obtain ⟨l, hl, e1⟩ := mp_mem (f := f) (g := mp n g h) (i := i) (j := j) h0
    obtain ⟨k, hk, e2⟩ := mp_mem (f := g) (g := h) (i := l) (j := j) h0
    have a1 := mp_le (f := mp n f g) (g := h) (i := i) (j := j) hk
    have a2 := mp_le (f := f) (g := g) (i := i) (j := k) hl
    omega
  · obtain ⟨k, hk, e1⟩ := mp_mem (f := mp n f g) (g := h) (i := i) (j := j) h0
    obtain ⟨l, hl, e2⟩ := mp_mem (f := f) (g := g) (i := i) (j := k) h0
    have a1 := mp_le (f := f) (g := mp n g h) (i := i) (j := j) hl
    have a2 := mp_le (f := g) (g := h) (i := l) (j := j) hk
    omega
/-- the power of so many, from 1 on -/
def pw (n : Nat) (t : Nat → Nat → Int) : Nat → Nat → Nat → Int
  | 0 => t
  | 1 => t
  | k + 2 => mp n t (pw n t (k + 1))
theorem pw_succ {n : Nat} {t : Nat → Nat → Int} {k : Nat} (hk : 1 ≤ k) : pw n t (k + 1) = mp n t (pw n t k) := by
  cases k with
  | zero => omega
  | succ k => rfl
theorem pw_add {n : Nat} {t : Nat → Nat → Int} (h0 : 0 < n) : ∀ {a b : Nat}, 1 ≤ a → 1 ≤ b → mp n (pw n t a) (pw n t b) = pw n t (a + b)
  | 0, _, h, _ => by omega
  | 1, b, _, hb => by
    rw [Nat.add_comm 1 b, pw_succ hb]
    rfl
  | a + 2, b, _, hb => by
    have ih := pw_add (t := t) h0 (a := a + 1) (b := b) (by omega) hb
    rw [pw_succ (k := a + 1) (by omega), mp_assoc h0, ih, ← pw_succ (k := a + 1 + b) (by omega)]
    congr 1
    omega
theorem pw_right {n : Nat} {t : Nat → Nat → Int} (h0 : 0 < n) {k : Nat} (hk : 1 ≤ k) : mp n (pw n t k) t = pw n t (k + 1) := pw_add h0 hk (Nat.le_refl 1)
/-- the sum along a way of m steps -/
def ps (t : Nat → Nat → Int) (π : Nat → Nat) : Nat → Int
  | 0 => 0
  | m + 1 => ps t π m + t (π m) (π (m + 1))
theorem ps_add (t : Nat → Nat → Int) (π : Nat → Nat) (a : Nat) : ∀ b, ps t π (a + b) = ps t π a + ps t (fun i => π (a + i)) b
  | 0 => by simp [ps]
  | b + 1 => by
    have ih := ps_add t π a b
    rw [← Nat.add_assoc]
    show ps t π (a + b) + t (π (a + b)) (π (a + b + 1)) = ps t π a + (ps t (fun i => π (a + i)) b + t (π (a + b)) (π (a + (b + 1))))
    rw [ih, ← Nat.add_assoc a b 1]
    omega
theorem ps_congr {t : Nat → Nat → Int} {π ρ : Nat → Nat} : ∀ {m : Nat}, (∀ i ≤ m, π i = ρ i) → ps t π m = ps t ρ m
  | 0, _ => rfl
  | m + 1, h => by
    show ps t π m + t (π m) (π (m + 1)) = ps t ρ m + t (ρ m) (ρ (m + 1))
    rw [ps_congr (m := m) fun i hi => h i (by omega), h m (by omega), h (m + 1) (by omega)]
theorem ps_front (t : Nat → Nat → Int) (π : Nat → Nat) (m : Nat) : ps t π (m + 1) = t (π 0) (π 1) + ps t (fun i => π (i + 1)) m := by
  rw [Nat.add_comm m 1, ps_add t π 1 m]
  show (0 + t (π 0) (π 1)) + ps t (fun i => π (1 + i)) m = _
  rw [ps_congr (π := fun i => π (1 + i)) (ρ := fun i => π (i + 1)) (fun i _ => by show π (1 + i) = π (i + 1); rw [Nat.add_comm])]
  omega
/-- no way costs less than the power tells -/
theorem pw_le {n : Nat} {t : Nat → Nat → Int} : ∀ {m : Nat} (π : Nat → Nat), 1 ≤ m → (∀ i, i ≤ m → π i < n) → pw n t m (π 0) (π m) ≤ ps t π m
  | 0, _, h, _ => by omega
  | 1, π, _, _ => by
    show t (π 0) (π 1) ≤ 0 + t (π 0) (π 1)
    omega
  | m + 2, π, _, h => by
    have ih := pw_le (t := t) (m := m + 1) (fun i => π (i + 1)) (by omega) (fun i hi => h (i + 1) (by omega))
    rw [ps_front, pw_succ (k := m + 1) (by omega)]
    have a := mp_le (f := t) (g := pw n t (m + 1)) (i := π 0) (j := π (m + 2)) (h 1 (by omega))
    have ih2 : pw n t (m + 1) (π 1) (π (m + 2)) ≤ ps t (fun i => π (i + 1)) (m + 1) := ih
    omega
/-- pigeons -/
theorem pigeon : ∀ (n : Nat) (f : Nat → Nat), (∀ i, i ≤ n → f i < n) → ∃ x y, x < y ∧ y ≤ n ∧ f x = f y
  | 0, f, h => by
    have := h 0 (Nat.le_refl 0)
    omega
  | n + 1, f, h => by
    by_cases hx : ∃ x, x ≤ n ∧ f x = f (n + 1)
    · obtain ⟨x, h1, h2⟩ := hx
      exact ⟨x, n + 1, by omega, by omega, h2⟩
    · have hne : ∀ x, x ≤ n → f x ≠ f (n + 1) := fun x h1 h2 => hx ⟨x, h1, h2⟩
      obtain ⟨x, y, h1, h2, h3⟩ := pigeon n (fun i => if f (n + 1) < f i then f i - 1 else f i) (fun i hi => by
        have a := h i (by omega)
        have b := h (n + 1) (by omega)
        have c := hne i hi
        show (if f (n + 1) < f i then f i - 1 else f i) < n
        split <;> omega)
      refine ⟨x, y, h1, by omega, ?_⟩
      have a := hne x (by omega)
      have b := hne y (by omega)
      have h4 : (if f (n + 1) < f x then f x - 1 else f x) = (if f (n + 1) < f y then f y - 1 else f y) := h3
      split at h4 <;> split at h4 <;> omega
/-- ways that come back cost no less than the rounds in them -/
theorem closed_ge {n : Nat} {t : Nat → Nat → Int} {c s : Int} (hs : 0 < s) (h : ∀ k p, 1 ≤ k → k ≤ n → p < n → c * (k : Int) ≤ pw n t k p p * s) :
    ∀ (m : Nat) (π : Nat → Nat), 1 ≤ m → (∀ i, i ≤ m → π i < n) → π m = π 0 → c * (m : Int) ≤ ps t π m * s := by
  intro m
  induction m using Nat.strongRecOn with
  | ind m ih =>
    intro π h1 hπ hc
    by_cases hm : m ≤ n
    · have a := h m (π 0) h1 hm (hπ 0 (by omega))
      have b := pw_le (t := t) π h1 hπ
      rw [hc] at b
      exact Int.le_trans a (Int.mul_le_mul_of_nonneg_right b (by omega))
    · obtain ⟨x, y, hxy, hy, e⟩ := pigeon n π (fun i hi => hπ i (by omega))
      have e1 : m = x + ((y - x) + (m - y)) := by omega
      have s1 : ps t π m = ps t π x + (ps t (fun i => π (x + i)) (y - x) + ps t (fun i => π (y + i)) (m - y)) := by
        rw [show ps t π m = ps t π (x + ((y - x) + (m - y))) by rw [← e1], ps_add, ps_add]
        congr 3
        funext i
        congr 1
        omega
      have i1 := ih (y - x) (by omega) (fun i => π (x + i)) (by omega) (fun i hi => hπ (x + i) (by omega)) (by show π (x + (y - x)) = π (x + 0); rw [show x + (y - x) = y by omega, Nat.add_zero, e])
      have e2 : m - (y - x) = x + (m - y) := by omega
      have i2 := ih (m - (y - x)) (by omega) (fun i => if i ≤ x then π i else π (i + (y - x))) (by omega) (fun i hi => by
        show (if i ≤ x then π i else π (i + (y - x))) < n
        split
        · exact hπ i (by omega)
        · exact hπ _ (by omega)) (by
        show (if m - (y - x) ≤ x then π (m - (y - x)) else π (m - (y - x) + (y - x))) = (if 0 ≤ x then π 0 else π (0 + (y - x)))
        rw [if_pos (Nat.zero_le x)]
        by_cases q : m - (y - x) ≤ x
        · have q2 : m = y := by omega
          rw [if_pos q, ← hc, q2, show y - (y - x) = x by omega, e]
        · rw [if_neg q, show m - (y - x) + (y - x) = m by omega, hc])
      have s2 : ps t (fun i => if i ≤ x then π i else π (i + (y - x))) (m - (y - x)) = ps t π x + ps t (fun i => π (y + i)) (m - y) := by
        rw [e2, ps_add]
        congr 1
        · exact ps_congr fun i hi => if_pos hi
        · refine ps_congr fun i hi => ?_
          show (if x + i ≤ x then π (x + i) else π (x + i + (y - x))) = π (y + i)
          by_cases q : x + i ≤ x
          · have q0 : i = 0 := by omega
            rw [if_pos q, q0, Nat.add_zero, Nat.add_zero, e]
          · rw [if_neg q]
            congr 1
            omega
      rw [s2] at i2
      rw [s1]
      have e3 : (m : Int) = ((y - x : Nat) : Int) + ((m - (y - x) : Nat) : Int) := by omega
      rw [e3, Int.mul_add]
      have r : (ps t π x + (ps t (fun i => π (x + i)) (y - x) + ps t (fun i => π (y + i)) (m - y))) * s = ps t (fun i => π (x + i)) (y - x) * s + (ps t π x + ps t (fun i => π (y + i)) (m - y)) * s := by
        rw [← Int.add_mul]
        congr 1
        omega
      rw [r]
      omega
/-- a power's entry is the cost of a way -/
theorem pw_way {n : Nat} {t : Nat → Nat → Int} (h0 : 0 < n) : ∀ {m : Nat} {i j : Nat}, 1 ≤ m → i < n → j < n → ∃ π : Nat → Nat, π 0 = i ∧ π m = j ∧ (∀ k, k ≤ m → π k < n) ∧ ps t π m = pw n t m i j
  | 0, _, _, h, _, _ => by omega
  | 1, i, j, _, hi, hj => ⟨fun k => if k = 0 then i else j, rfl, rfl, fun k _ => by show (if k = 0 then i else j) < n; split <;> assumption, by
      show 0 + t i j = t i j
      omega⟩
  | m + 2, i, j, _, hi, hj => by
    obtain ⟨l, hl, e⟩ := mp_mem (f := t) (g := pw n t (m + 1)) (i := i) (j := j) h0
    obtain ⟨π, p0, p1, p2, p3⟩ := pw_way (t := t) h0 (m := m + 1) (i := l) (j := j) (by omega) hl hj
    refine ⟨fun k => if k = 0 then i else π (k - 1), rfl, by show (if m + 2 = 0 then i else π (m + 2 - 1)) = j; rw [if_neg (by omega)]; exact p1, fun k hk => ?_, ?_⟩
    · show (if k = 0 then i else π (k - 1)) < n
      split
      · exact hi
      · exact p2 _ (by omega)
    · rw [ps_front, pw_succ (k := m + 1) (by omega), e, ← p3]
      show t i (π 0) + ps t (fun k => if k + 1 = 0 then i else π (k + 1 - 1)) (m + 1) = _
      rw [p0]
      congr 1
theorem power_ge {n : Nat} {t : Nat → Nat → Int} {c s : Int} (h0 : 0 < n) (hs : 0 < s) (h : ∀ k p, 1 ≤ k → k ≤ n → p < n → c * (k : Int) ≤ pw n t k p p * s) {m p : Nat} (hm : 1 ≤ m) (hp : p < n) : c * (m : Int) ≤ pw n t m p p * s := by
  obtain ⟨π, p0, p1, p2, p3⟩ := pw_way (t := t) h0 hm hp hp
  rw [← p3]
  exact closed_ge hs h m π hm p2 (by rw [p1, p0])

/-! ### the least mean of a round, in least terms -/
structure IsLR (n : Nat) (t : Nat → Nat → Int) (c s : Int) : Prop where
  pos : 0 < s
  le : s ≤ n
  cop : Nat.gcd c.natAbs s.natAbs = 1
  low : ∀ k p, 1 ≤ k → k ≤ n → p < n → c * (k : Int) ≤ pw n t k p p * s
  hit : ∃ k p, 1 ≤ k ∧ k ≤ n ∧ p < n ∧ c * (k : Int) = pw n t k p p * s
theorem cross_le {a b s s' k x : Int} (hk : 0 < k) (hs : 0 < s) (h1 : a * k = x * s) (h2 : b * k ≤ x * s') (hs' : 0 < s') : b * s ≤ a * s' := by
  have e1 : (b * k) * s ≤ (x * s') * s := Int.mul_le_mul_of_nonneg_right h2 (by omega)
  have e2 : (x * s') * s = (a * s') * k := by
    rw [Int.mul_assoc, Int.mul_comm s' s, ← Int.mul_assoc, ← h1, Int.mul_assoc, Int.mul_comm k s', ← Int.mul_assoc]
  have e3 : (b * k) * s = (b * s) * k := by
    rw [Int.mul_assoc, Int.mul_comm k s, ← Int.mul_assoc]
  rw [e2, e3] at e1
  exact Int.le_of_mul_le_mul_right e1 hk
theorem cop_eq {c s c' s' : Int} (hs : 0 < s) (hs' : 0 < s') (h : Nat.gcd c.natAbs s.natAbs = 1) (h' : Nat.gcd c'.natAbs s'.natAbs = 1) (e : c * s' = c' * s) : c = c' ∧ s = s' := by
  have d1 : s.natAbs ∣ s'.natAbs := by
    have a : s.natAbs ∣ c.natAbs * s'.natAbs := by
      rw [← Int.natAbs_mul, e, Int.natAbs_mul]
      exact Nat.dvd_mul_left _ _
    exact Nat.Coprime.dvd_of_dvd_mul_left (Nat.Coprime.symm h) a
  have d2 : s'.natAbs ∣ s.natAbs := by
    have a : s'.natAbs ∣ c'.natAbs * s.natAbs := by
      rw [← Int.natAbs_mul, ← e, Int.natAbs_mul]
      exact Nat.dvd_mul_left _ _
    exact Nat.Coprime.dvd_of_dvd_mul_left (Nat.Coprime.symm h') a
  have d3 := Nat.dvd_antisymm d1 d2
  have es : s = s' := by omega
  subst es
  exact ⟨Int.eq_of_mul_eq_mul_right (by omega) e, rfl⟩
theorem IsLR.uniq {n : Nat} {t : Nat → Nat → Int} {c s c' s' : Int} (a : IsLR n t c s) (b : IsLR n t c' s') : c = c' ∧ s = s' := by
  obtain ⟨k, p, k1, k2, p1, e⟩ := a.hit
  obtain ⟨k', p', k1', k2', p1', e'⟩ := b.hit
  have x1 := cross_le (by omega) a.pos e (b.low k p k1 k2 p1) b.pos
  have x2 := cross_le (by omega) b.pos e' (a.low k' p' k1' k2' p1') a.pos
  exact cop_eq a.pos b.pos a.cop b.cop (by omega)
/-- tables whose diagonals of powers are alike -/
theorem IsLR.of_diag {n : Nat} {t u : Nat → Nat → Int} {c s : Int} (a : IsLR n t c s) (h : ∀ k p, 1 ≤ k → k ≤ n → p < n → pw n u k p p = pw n t k p p) : IsLR n u c s := by
  refine ⟨a.pos, a.le, a.cop, fun k p h1 h2 h3 => by rw [h k p h1 h2 h3]; exact a.low k p h1 h2 h3, ?_⟩
  obtain ⟨k, p, k1, k2, p1, e⟩ := a.hit
  exact ⟨k, p, k1, k2, p1, by rw [h k p k1 k2 p1]; exact e⟩
theorem minF_add {n : Nat} {f : Nat → Int} (h0 : 0 < n) (a : Int) : minF n (fun k => f k + a) = minF n f + a := by
  obtain ⟨i, hi, e⟩ := minF_mem (f := f) h0
  refine (minF_eq ⟨i, hi, ?_⟩ fun j hj => ?_).symm
  · rw [e]
  · have := minF_le (f := f) j hj
    show minF n f + a ≤ f j + a
    omega
theorem pw_lift {n : Nat} {t : Nat → Nat → Int} (h0 : 0 < n) (r : Nat → Int) : ∀ {k i j : Nat}, 1 ≤ k → i < n → j < n → pw n (fun i j => t i j + r i + (0 - r j)) k i j = pw n t k i j + r i - r j
  | 0, _, _, h, _, _ => by omega
  | 1, i, j, _, _, _ => by
    show t i j + r i + (0 - r j) = t i j + r i - r j
    omega
  | k + 2, i, j, _, hi, hj => by
    rw [pw_succ (k := k + 1) (by omega), pw_succ (k := k + 1) (by omega)]
    show minF n (fun l => (t i l + r i + (0 - r l)) + pw n _ (k + 1) l j) = minF n (fun l => t i l + pw n t (k + 1) l j) + r i - r j
    rw [minF_congr h0 (g := fun l => (t i l + pw n t (k + 1) l j) + (r i - r j)) fun l hl => by
      rw [pw_lift h0 r (k := k + 1) (by omega) hl hj]
      omega]
    rw [minF_add (f := fun l => t i l + pw n t (k + 1) l j) h0]
    omega
theorem pw_more {n : Nat} {t : Nat → Nat → Int} (h0 : 0 < n) (a : Int) : ∀ {k i j : Nat}, 1 ≤ k → i < n → j < n → pw n (fun i j => t i j + a + 0) k i j = pw n t k i j + k * a
  | 0, _, _, h, _, _ => by omega
  | 1, i, j, _, _, _ => by
    show t i j + a + 0 = t i j + ((1 : Nat) : Int) * a
    omega
  | k + 2, i, j, _, hi, hj => by
    rw [pw_succ (k := k + 1) (by omega), pw_succ (k := k + 1) (by omega)]
    show minF n (fun l => (t i l + a + 0) + pw n _ (k + 1) l j) = minF n (fun l => t i l + pw n t (k + 1) l j) + ((k + 2 : Nat) : Int) * a
    have e : ((k + 2 : Nat) : Int) * a = ((k + 1 : Nat) : Int) * a + a := by
      rw [show ((k + 2 : Nat) : Int) = ((k + 1 : Nat) : Int) + 1 by omega, Int.add_mul]
      omega
    rw [minF_congr h0 (g := fun l => (t i l + pw n t (k + 1) l j) + (((k + 1 : Nat) : Int) * a + a)) fun l hl => by
      rw [pw_more h0 a (k := k + 1) (by omega) hl hj]
      omega]
    rw [minF_add (f := fun l => t i l + pw n t (k + 1) l j) h0, e]
theorem minF_mul {n : Nat} {f : Nat → Int} (h0 : 0 < n) {a : Int} (ha : 0 ≤ a) : minF n (fun k => f k * a) = minF n f * a := by
  obtain ⟨i, hi, e⟩ := minF_mem (f := f) h0
  refine (minF_eq ⟨i, hi, ?_⟩ fun j hj => ?_).symm
  · rw [e]
  · exact Int.mul_le_mul_of_nonneg_right (minF_le (f := f) j hj) ha
theorem pw_scale {n : Nat} {t : Nat → Nat → Int} (h0 : 0 < n) {a : Int} (ha : 0 ≤ a) : ∀ {k i j : Nat}, 1 ≤ k → i < n → j < n → pw n (fun i j => t i j * a) k i j = pw n t k i j * a
  | 0, _, _, h, _, _ => by omega
  | 1, i, j, _, _, _ => rfl
  | k + 2, i, j, _, hi, hj => by
    rw [pw_succ (k := k + 1) (by omega), pw_succ (k := k + 1) (by omega)]
    show minF n (fun l => t i l * a + pw n _ (k + 1) l j) = minF n (fun l => t i l + pw n t (k + 1) l j) * a
    rw [minF_congr h0 (g := fun l => (t i l + pw n t (k + 1) l j) * a) fun l hl => by
      rw [pw_scale h0 ha (k := k + 1) (by omega) hl hj, Int.add_mul]]
    exact minF_mul (f := fun l => t i l + pw n t (k + 1) l j) h0 ha
theorem pw_turn {n : Nat} {t : Nat → Nat → Int} (h0 : 0 < n) : ∀ {k i j : Nat}, 1 ≤ k → i < n → j < n → pw n (fun i j => t j i) k i j = pw n t k j i
  | 0, _, _, h, _, _ => by omega
  | 1, i, j, _, _, _ => rfl
  | k + 2, i, j, _, hi, hj => by
    rw [pw_succ (k := k + 1) (by omega), ← pw_right h0 (t := t) (k := k + 1) (by omega)]
    show minF n (fun l => t l i + pw n (fun i j => t j i) (k + 1) l j) = minF n (fun l => pw n t (k + 1) j l + t l i)
    exact minF_congr h0 fun l hl => by
      rw [pw_turn h0 (k := k + 1) (by omega) hl hj]
      omega
theorem gcd_div {a : Int} {s : Int} (hs : 0 < s) : ∃ g : Int, g = ((Nat.gcd a.natAbs s.natAbs : Nat) : Int) ∧ 0 < g ∧ g ≤ s ∧ a = (a / g) * g ∧ s = (s / g) * g ∧ 0 < s / g ∧ s / g ≤ s ∧ Nat.gcd (a / g).natAbs (s / g).natAbs = 1 := by
  have hg : 0 < Nat.gcd a.natAbs s.natAbs := Nat.gcd_pos_of_pos_right _ (by omega)
  have da : ((Nat.gcd a.natAbs s.natAbs : Nat) : Int) ∣ a := Int.ofNat_dvd_left.mpr (Nat.gcd_dvd_left _ _)
  have ds : ((Nat.gcd a.natAbs s.natAbs : Nat) : Int) ∣ s := Int.ofNat_dvd_left.mpr (Nat.gcd_dvd_right _ _)
  have hl : Nat.gcd a.natAbs s.natAbs ≤ s.natAbs := Nat.le_of_dvd (by omega) (Nat.gcd_dvd_right _ _)
  refine ⟨_, rfl, by omega, by omega, (Int.ediv_mul_cancel da).symm, (Int.ediv_mul_cancel ds).symm, Int.ediv_pos_of_pos_of_dvd hs (by omega) ds, Int.ediv_le_self _ (by omega), ?_⟩
  rw [Int.natAbs_ediv_of_dvd da, Int.natAbs_ediv_of_dvd ds, Int.natAbs_natCast]
  rw [Nat.gcd_div (Nat.gcd_dvd_left _ _) (Nat.gcd_dvd_right _ _)]
  exact Nat.div_self hg
/-- a sum and steps with the least mean, then in least terms -/
theorem IsLR.of_best {n : Nat} {t : Nat → Nat → Int} {b s : Int} (hs : 0 < s) (hl : s ≤ n) (low : ∀ k p, 1 ≤ k → k ≤ n → p < n → b * (k : Int) ≤ pw n t k p p * s) (hit : ∃ k p, 1 ≤ k ∧ k ≤ n ∧ p < n ∧ b * (k : Int) = pw n t k p p * s) :
    IsLR n t (b / ((Nat.gcd b.natAbs s.natAbs : Nat) : Int)) (s / ((Nat.gcd b.natAbs s.natAbs : Nat) : Int)) := by
  obtain ⟨g, eg, g0, gs, ea, es, p, q, c⟩ := gcd_div (a := b) hs
  rw [← eg]
  have re1 : ∀ k : Int, b * k = (b / g * k) * g := fun k => by
    rw [Int.mul_assoc, Int.mul_comm k g, ← Int.mul_assoc, ← ea]
  have re2 : ∀ x : Int, x * s = (x * (s / g)) * g := fun x => by
    rw [Int.mul_assoc, ← es]
  refine ⟨p, by omega, c, fun k r h1 h2 h3 => ?_, ?_⟩
  · have z := low k r h1 h2 h3
    rw [re1, re2] at z
    exact Int.le_of_mul_le_mul_right z g0
  · obtain ⟨k, r, h1, h2, h3, z⟩ := hit
    rw [re1, re2] at z
    exact ⟨k, r, h1, h2, h3, Int.eq_of_mul_eq_mul_right (by omega) z⟩
end K38
end
section
set_option Elab.async false
set_option linter.all false
set_option maxRecDepth 100000
set_option maxHeartbeats 4000000
/-! K38D3: tails, powers, ways. -/
namespace K38
open PySem PySem.Spec PyProof.Rows L2
section
variable {P : Program} {w : World} {K : PySem.W.Frag} {mg : Str → Option Value} {base : Heap} {f : Addr} {fd : FuncData}

abbrev spTailsAhead (K : PySem.W.Frag) : Sp := spF (α := Nat × (Nat → Nat → Int) × (Nat → Int)) (fun z => 1 ≤ z.1 ∧ z.1 ≤ 8) (fun z => [kTab K z.1 z.2.1, kLI K z.1 z.2.2]) (fun z => kLI K z.1 fun i => minF z.1 fun j => z.2.1 i j + z.2.2 j)
theorem sc_tails_ahead : FnScope ["table", "tails", "row"] ["table", "tails"] (defScope s_tails_ahead) := ⟨rfl, rfl, rfl, by decide +kernel, rfl, by decide +kernel, by decide +kernel⟩
theorem ok_tails_ahead (T : Bl K mg) (F : FnP K "tails_ahead" s_tails_ahead f fd) (g : mg "tails_ahead" = some (.ref f)) (d2 : Df P w K mg base "sums_by" ["row", "line"] 1 (spSumsBy K)) : Df P w K mg base "tails_ahead" ["table", "tails"] 2 (spTailsAhead K) := by
  have nd := sc_tails_ahead.nd
  refine df_sp F g sc_tails_ahead (F.bindsN fun _ _ _ _ _ _ us hl => match us, hl with | [_, _], _ => rfl) (fun _ => rfl) fun cdv A outer s E hr H => ⟨_, pss_one (ps_ret (pe_lc (own := [("row", 2)]) (g := gName 2) (tt := tYes) rfl nd (p_tup T (pv 0))
    (blkOk_by (own := [("row", 2)]) (N := ["table", "tails", "row"]) (sc := defScope s_tails_ahead) (by decide +kernel)) (fun _ _ _ _ _ => pg_name (i := 2) nd rfl (Or.inl rfl)) (fun _ _ _ _ _ => pts_nil)
    (fun _ _ _ _ _ => e_min T (e_df d2 hr (pa_cons (pv 2) (pa_cons (pv 1) pa_nil)))))), ?_⟩
  intro Hk vs Q z hz e hf q
  obtain ⟨n, t, u⟩ := z
  have h1 : 1 ≤ n := hz.1
  have h8 : n ≤ 8 := hz.2
  obtain ⟨v, v1, rfl, hv, hv1⟩ := hf.two
  refine s_ret ?_ e q
  exact ge_lc (gi_tup (ge_var hv rfl)) (fun i hi B eB x hx => ge_cb (ga_one (ge_call (false, n, t i, u) (by show n ≤ 1000; omega) (ga_two (ge_var hx rfl) (ge_var ((kLI K n u).mono eB hv1) rfl)))) (gc_min h1)) (by omega)

theorem first_of {p : Nat → Prop} : ∀ {n : Nat}, (∃ j, j < n ∧ p j) → ∃ j, j < n ∧ p j ∧ ∀ m, m < j → ¬ p m
  | 0, ⟨j, h, _⟩ => by omega
  | n + 1, ⟨j, h, hp⟩ => by
    by_cases c : ∃ j, j < n ∧ p j
    · obtain ⟨i, h1, h2, h3⟩ := first_of c
      exact ⟨i, by omega, h2, h3⟩
    · have e : j = n := by
        apply Classical.byContradiction
        intro e
        exact c ⟨j, by omega, hp⟩
      exact ⟨j, h, hp, fun m hm hpm => c ⟨m, by omega, hpm⟩⟩
/-- xs.index(c), c is there -/
theorem ge_index {σ : L2.St} {H : Hp} {to te : TE} {n : Nat} {u : Nat → Int} {c : Int} (ho : GE to σ H (kLI K n u)) (hc : GE te σ H (kI c)) (h : ∃ j, j < n ∧ u j = c) :
    GE (tBM K "list" (rIndex K) to (tCons te tNil)) σ H (kEx (fun j : Nat => j < n ∧ u j = c) fun j => kI (j : Int)) := fun H1 e Q q => ho H1 e _ fun x H2 e2 px => by
  obtain ⟨a, xs, rfl, hS, hl, hp⟩ := px
  refine ⟨.inl ⟨rfl, xs, sameL nu_sub hS⟩, hc H2 (e.trans e2) _ fun y H3 e3 py => ?_⟩
  obtain ⟨j, h1, h2, h3⟩ := first_of h
  have it : ∀ m : Nat, m < n → xs[m]? = some (.int (u m)) := fun m hm => by
    have q1 : xs[m]? = some xs[m] := List.getElem?_eq_getElem (by omega)
    rw [q1]
    exact congrArg some (hp m _ q1)
  cases py
  refine ⟨a, xs, .int c, j, .int (u j), rfl, rfl, sameL (nu_sub.trans e3) hS, rfl, ?_, it j h1, ?_, fun m z' hm hz => ?_, q _ H3 (e2.trans e3) ⟨j, ⟨h1, h2⟩, rfl⟩⟩
  · rw [List.all_eq_true]
    intro x hx
    obtain ⟨m, hm⟩ := List.mem_iff_getElem?.mp hx
    have e4 : x = .int (u m) := hp m x hm
    rw [e4]
    rfl
  · show (u j == c) = true
    rw [h2]
    exact beq_self_eq_true c
  · have e4 : z' = .int (u m) := hp m z' hz
    rw [e4]
    show (u m == c) = false
    exact beq_eq_false_iff_ne.mpr (h3 m hm)
abbrev spFirstStep (K : PySem.W.Frag) : Sp := spF (α := Nat × (Nat → Int) × (Nat → Int) × Int) (fun z => z.1 ≤ 1000 ∧ ∃ j, j < z.1 ∧ z.2.1 j + z.2.2.1 j = z.2.2.2) (fun z => [kTI K z.1 z.2.1, kLI K z.1 z.2.2.1, kI z.2.2.2])
  (fun z => kEx (fun j : Nat => j < z.1 ∧ z.2.1 j + z.2.2.1 j = z.2.2.2) fun j => kI (j : Int))
theorem sc_first_step : FnScope ["row", "tails", "cost"] ["row", "tails", "cost"] (defScope s_first_step) := ⟨rfl, rfl, rfl, by decide +kernel, rfl, by decide +kernel, by decide +kernel⟩
theorem ok_first_step (T : Bl K mg) (F : FnP K "first_step" s_first_step f fd) (g : mg "first_step" = some (.ref f)) (d2 : Df P w K mg base "sums_by" ["row", "line"] 1 (spSumsBy K)) : Df P w K mg base "first_step" ["row", "tails", "cost"] 2 (spFirstStep K) := by
  refine df_sp F g sc_first_step (F.bindsN fun _ _ _ _ _ _ us hl => match us, hl with | [_, _, _], _ => rfl) (fun _ => rfl) fun cdv A outer s E hr H => ⟨_, pss_one (ps_ret (pe_bm PySem.F.plainAttrs_list PySem.F.slot_list_index PySem.F.type_list_index mt_index
    (e_df d2 hr (pa_cons (pv 0) (pa_cons (pv 1) pa_nil))) (pa_cons (pv 2) pa_nil))), ?_⟩
  intro Hk vs Q z hz e hf q
  obtain ⟨n, r, l, c⟩ := z
  obtain ⟨h1, h2⟩ := hz
  obtain ⟨v, v1, v2, rfl, hv, hv1, hv2⟩ := hf.three
  refine s_ret ?_ e q
  exact ge_index (ge_call (false, n, r, l) h1 (ga_two (ge_var hv rfl) (ge_var hv1 rfl))) (ge_var hv2 rfl) h2

/-- the product of so many -/
abbrev spPowerOf (K : PySem.W.Frag) : Sp := spF (α := Nat × (Nat → Nat → Int) × Nat) (fun z => 1 ≤ z.1 ∧ z.1 ≤ 8 ∧ 1 ≤ z.2.2) (fun z => [kTab K z.1 z.2.1, kI z.2.2]) (fun z => kTab K z.1 (pw z.1 z.2.1 z.2.2))
theorem sc_power_of : FnScope ["table", "count", "found", "square", "left"] ["table", "count"] (defScope s_power_of) := ⟨rfl, rfl, rfl, by decide +kernel, rfl, by decide +kernel, by decide +kernel⟩
/-- what has been found: nothing yet, or a power -/
def kF (K : PySem.W.Frag) (n : Nat) (t : Nat → Nat → Int) (a : Nat) : Rp := if a = 0 then kN else kTab K n (pw n t a)
theorem ref_ne_non {K : PySem.W.Frag} {n : Nat} {r : Nat → Rp} {v : V} {H : Hp} (h : (kT K n r).p v H) : v ≠ .non := by
  obtain ⟨a, xs, rfl, _⟩ := h
  intro e
  cases e
theorem ge_isN {σ : L2.St} {H : Hp} {te : TE} {r : Rp} {k : Bool} (h : GE te σ H r) (hk : ∀ v H, r.p v H → decide (v = .non) = k) : GE (tOp (fun x y H Q => y = .non ∧ Q (.bl (decide (x = .non))) H) te (tC .non)) σ H (kB k) := fun H1 e Q q =>
  h H1 e _ fun x H2 e2 px => ⟨rfl, q _ H2 e2 (by rw [hk x _ px]; rfl)⟩
theorem ok_power_of (T : Bl K mg) (F : FnP K "power_of" s_power_of f fd) (g : mg "power_of" = some (.ref f)) (d1 : Df P w K mg base "least_sums" ["one", "other"] 2 (spLeastSums K)) : Df P w K mg base "power_of" ["table", "count"] 3 (spPowerOf K) := by
  have nd := sc_power_of.nd
  refine df_sp F g sc_power_of (F.bindsN fun _ _ _ _ _ _ us hl => match us, hl with | [_, _], _ => rfl) (fun _ => rfl) fun cdv A outer s E hr H => ⟨_, pss_cons (ps_set (i := 2) nd rfl (Or.inl rfl) pe_non) (pss_cons (ps_set (i := 3) nd rfl (Or.inl rfl) (pv 0)) (pss_cons (ps_set (i := 4) nd rfl (Or.inl rfl) (pv 1))
    (pss_cons (ps_while PassesOwn.never (pt_cmpR op_gt (pv 4) pe_int (nomark _))
      (pss_cons (ps_if (pt_cmpR op_eq (pe_op op_mod (pv 4) pe_int) pe_int (nomark _)) (pss_one (ps_set (i := 2) nd rfl (Or.inl rfl) (pe_ifExp (pt_cmpR op_isN (pv 2) pe_non (nomark _)) (pv 3) (e_df d1 hr (pa_cons (pv 2) (pa_cons (pv 3) pa_nil)))))) pss_nil)
      (pss_cons (ps_set (i := 4) nd rfl (Or.inl rfl) (pe_op op_fdiv (pv 4) pe_int))
      (pss_one (ps_if (pt_cmpR op_gt (pv 4) pe_int (nomark _)) (pss_one (ps_set (i := 3) nd rfl (Or.inl rfl) (e_df d1 hr (pa_cons (pv 3) (pa_cons (pv 3) pa_nil))))) pss_nil)))))
    (pss_one (ps_ret (pv 2)))))), ?_⟩
  intro Hk vs Q z hz e hf q
  obtain ⟨n, t, c⟩ := z
  obtain ⟨h1, h8, hc⟩ := hz
  have h1 : 1 ≤ n := h1
  have h8 : n ≤ 8 := h8
  have hc : 1 ≤ c := hc
  obtain ⟨v, v1, rfl, hv, hv1⟩ := hf.two
  cases hv1
  refine z_set (Hk := Hk) (H0 := H) (Same.refl H) ge_c fun f0 H1 e1 b1 hf0 => ?_
  refine z_set (Hk := Hk) b1 (ge_var (r := kTab K n t) (z_start e hv |> Rp.up e1) rfl) fun q0 H2 e2 b2 hq0 => ?_
  refine z_set (Hk := Hk) b2 (ge_var (r := kI (c : Int)) rfl rfl) fun l0 H3 e3 b3 hl0 => ?_
  cases hl0
  cases hf0
  refine ⟨fun m σ' H' => ∃ (x y : V) (a b : Nat), σ' = [some v, some (.int (c : Int)), some x, some y, some (.int (m : Int))] ∧ Same H H' ∧ (kF K n t a).p x (nu Hk H H') ∧ (kTab K n (pw n t b)).p y (nu Hk H H') ∧ 1 ≤ b ∧ a + m * b = c,
    ⟨c, .non, q0, 0, 1, rfl, b3, rfl, Rp.up e3 hq0, Nat.le_refl 1, by omega⟩, ?_⟩
  rintro m σ' H' ⟨x, y, a, b, rfl, bH, hx, hy, hb, hs⟩
  refine z_test (Hk := Hk) bH (gt_test (k := decide ((0 : Int) < (m : Int))) (ge_I0 (g := fun i j => .bl (decide (j < i))) (i := (m : Int)) (j := 0) (ge_var rfl rfl) ge_c)) fun H4 e4 b4 => ?_
  by_cases hm : 0 < m
  · rw [decide_eq_true (show (0 : Int) < (m : Int) by omega), if_pos rfl]
    refine ⟨_, fun σ'' H'' h => h, ?_⟩
    refine z_cut (M := fun σ5 H5 => ∃ (x2 : V) (a2 : Nat), σ5 = [some v, some (.int (c : Int)), some x2, some y, some (.int (m : Int))] ∧ Same H H5 ∧ Same H4 H5 ∧ (kF K n t a2).p x2 (nu Hk H H5) ∧ a2 + (m / 2) * (b + b) = c) ?_ (fun hM => ?_)
    · rintro σ5 H5 ⟨x2, a2, rfl, b5, e5, hx2, hs2⟩
      refine z_set (Hk := Hk) b5 (ge_I (C := CDiv) (g := fun i j => .int (i / j)) (i := (m : Int)) (j := 2) (ge_var rfl rfl) ge_c ⟨by decide, by decide⟩) fun l1 H6 e6 b6 hl1 => ?_
      have el : l1 = .int ((m / 2 : Nat) : Int) := by
        rw [show l1 = .int ((m : Int) / 2) from hl1]
        congr 1
      subst el
      have hy6 := Rp.up ((e4.trans e5).trans e6) hy
      refine z_if (Hk := Hk) b6 (gt_test (k := decide ((0 : Int) < ((m / 2 : Nat) : Int))) (ge_I0 (g := fun i j => .bl (decide (j < i))) (i := ((m / 2 : Nat) : Int)) (j := 0) (ge_var rfl rfl) ge_c)) (fun c1 H7 e7 b7 => ?_) (fun c1 H7 e7 b7 => ?_)
      · refine z_set1 (Hk := Hk) b7 (ge_call (n, pw n t b, pw n t b) ⟨h1, h8⟩ (ga_two (ge_var (Rp.up e7 hy6) rfl) (ge_var (Rp.up e7 hy6) rfl))) fun y2 H8 e8 b8 hy2 => ?_
        refine ⟨m / 2, by omega, x2, y2, a2, b + b, rfl, b8, Rp.up ((e6.trans e7).trans e8) hx2, ?_, by omega, hs2⟩
        rw [← pw_add (by omega) hb hb]
        exact hy2
      · have z0 : m / 2 = 0 := by
          have := of_decide_eq_false c1
          omega
        refine ⟨m / 2, by omega, x2, y, a2, b, rfl, b7, Rp.up (e6.trans e7) hx2, Rp.up e7 hy6, hb, ?_⟩
        rw [z0] at hs2 ⊢
        omega
    · refine z_if (Hk := Hk) b4 (gt_test (k := decide ((m : Int) % 2 = 1)) (ge_eqI (ge_I (C := fun _ j => 0 < j) (g := fun i j => .int (i % j)) (i := (m : Int)) (j := 2) (ge_var rfl rfl) ge_c (by decide)) ge_c)) (fun c1 H5 e5 b5 => ?_) (fun c1 H5 e5 b5 => ?_)
      · have ho : m % 2 = 1 := by
          have := of_decide_eq_true c1
          omega
        have em : m * b = (m / 2) * (b + b) + b := by
          have e0 : m = 2 * (m / 2) + 1 := by omega
          rw [show m * b = (2 * (m / 2) + 1) * b by rw [← e0], Nat.add_mul, Nat.one_mul, Nat.mul_comm 2, Nat.mul_assoc, Nat.two_mul]
        by_cases ha : a = 0
        · subst ha
          refine z_set1 (Hk := Hk) (r := kTab K n (pw n t b)) b5 (ge_if (k := true) (gt_test (ge_isN (ge_var (r := kN) (Rp.up (e4.trans e5) hx) rfl) fun v H h => by rw [show v = .non from h]; rfl)) (fun _ => ge_var (Rp.up (e4.trans e5) hy) rfl) (fun c2 => by cases c2)) fun x2 H6 e6 b6 hx2 => ?_
          refine hM _ _ ⟨x2, b, rfl, b6, e5.trans e6, ?_, by omega⟩
          unfold kF
          rw [if_neg (by omega)]
          exact hx2
        · have hx5 : (kTab K n (pw n t a)).p x (nu Hk H H5) := by
            have h5 := Rp.up (e4.trans e5) hx
            unfold kF at h5
            rw [if_neg ha] at h5
            exact h5
          refine z_set1 (Hk := Hk) (r := kTab K n (mp n (pw n t a) (pw n t b))) b5 (ge_if (k := false) (gt_test (ge_isN (ge_var hx5 rfl) fun v H h => decide_eq_false (ref_ne_non h))) (fun c2 => by cases c2) (fun _ => ge_call (n, pw n t a, pw n t b) ⟨h1, h8⟩ (ga_two (ge_var hx5 rfl) (ge_var (Rp.up (e4.trans e5) hy) rfl)))) fun x2 H6 e6 b6 hx2 => ?_
          refine hM _ _ ⟨x2, a + b, rfl, b6, e5.trans e6, ?_, by omega⟩
          unfold kF
          rw [if_neg (by omega), ← pw_add (by omega) (show 1 ≤ a by omega) hb]
          exact hx2
      · have ho : m % 2 = 0 := by
          have := of_decide_eq_false c1
          omega
        have em : m * b = (m / 2) * (b + b) := by
          have e0 : m = 2 * (m / 2) := by omega
          rw [show m * b = (2 * (m / 2)) * b by rw [← e0], Nat.mul_comm 2, Nat.mul_assoc, Nat.two_mul]
        exact hM _ _ ⟨x, a, rfl, b5, e5, Rp.up (e4.trans e5) hx, by omega⟩
  · rw [decide_eq_false (show ¬ (0 : Int) < (m : Int) by omega), if_neg Bool.false_ne_true]
    have m0 : m = 0 := by omega
    subst m0
    have ha : a = c := by omega
    subst ha
    refine z_ret (Hk := Hk) b4 (ge_var (r := kTab K n (pw n t a)) ?_ rfl) q
    have h5 := Rp.up e4 hx
    unfold kF at h5
    rw [if_neg (by omega)] at h5
    exact h5
end
end K38
end
section
set_option Elab.async false
set_option linter.all false
set_option maxRecDepth 100000
set_option maxHeartbeats 4000000
/-! K38E: what is known while some lists change. -/
namespace K38
open PySem PySem.Spec PyProof.Rows L2

/-- M: the addresses of lists that change; all else that stood stands -/
structure Chg (M : Addr → Prop) (H H' : Hp) : Prop where
  keep : ∀ a o, ¬ M a → H a = some o → H' a = some o
  dom : ∀ a, H a ≠ none → H' a ≠ none
def Live (M : Addr → Prop) (H : Hp) : Prop := ∀ a, M a → H a ≠ none
def noM : Addr → Prop := fun _ => False
def ins (M : Addr → Prop) (l : Addr) : Addr → Prop := fun a => M a ∨ a = l
open Classical in
noncomputable def kn (Hk H0 : Hp) (M : Addr → Prop) (H : Hp) : Hp := fun a => if M a then none else nu Hk H0 H a
section
variable {M : Addr → Prop} {Hk H0 H H1 H2 : Hp} {l : Addr} {o : HO}
theorem Chg.refl : Chg M H H := ⟨fun _ _ _ h => h, fun _ h => h⟩
theorem Chg.trans (a : Chg M H H1) (b : Chg M H1 H2) : Chg M H H2 := ⟨fun x o n h => b.keep x o n (a.keep x o n h), fun x h => b.dom x (a.dom x h)⟩
theorem Chg.of (e : Same H H1) : Chg M H H1 := ⟨fun x o _ h => e x o h, fun x h => by
  cases q : H x with
  | none => exact absurd q h
  | some u => exact ne_none (e x u q)⟩
theorem upd_dom {a : Addr} (h : H a ≠ none) : upd H l o a ≠ none := by
  by_cases c : a = l
  · subst c
    rw [upd_same]
    intro z
    cases z
  · rw [upd_ne c]
    exact h
theorem Chg.upd (h : M l) : Chg M H (upd H l o) := ⟨fun x u n e => by
  rw [upd_ne (fun z => n (by rw [z]; exact h))]
  exact e, fun x e => upd_dom e⟩
theorem Chg.mono {M' : Addr → Prop} (h : ∀ a, M a → M' a) (c : Chg M H H1) : Chg M' H H1 := ⟨fun x o n e => c.keep x o (fun z => n (h x z)) e, c.dom⟩
theorem Chg.same (c : Chg M H H1) (h : ∀ a, M a → H a = none) : Same H H1 := fun a o e => c.keep a o (fun z => by
  rw [h a z] at e
  cases e) e
theorem kn_of {a : Addr} (h : kn Hk H0 M H a = some o) : ¬ M a ∧ nu Hk H0 H a = some o := by
  unfold kn at h
  by_cases c : M a
  · rw [if_pos c] at h
    cases h
  · rw [if_neg c] at h
    exact ⟨c, h⟩
theorem kn_in {a : Addr} (c : ¬ M a) : kn Hk H0 M H a = nu Hk H0 H a := by
  unfold kn
  rw [if_neg c]
theorem kn_out : Same (kn Hk H0 M H) (nu Hk H0 H) := fun a o h => (kn_of h).2
theorem kn_sub : Same (kn Hk H0 M H) H := fun a o h => (nu_of (kn_of h).2).2
theorem kn_fwd (c : Chg M H H1) : Same (kn Hk H0 M H) (kn Hk H0 M H1) := fun a o h => by
  obtain ⟨n, h1⟩ := kn_of h
  obtain ⟨d, h2⟩ := nu_of h1
  rw [kn_in n, nu_in d]
  exact c.keep a o n h2
theorem kn_none (h : kn Hk H0 M H l = none) : M l ∨ (Hk l = none ∧ H0 l ≠ none) ∨ H l = none := by
  by_cases c : M l
  · exact .inl c
  · rw [kn_in c] at h
    by_cases d : Hk l = none ∧ H0 l ≠ none
    · exact .inr (.inl d)
    · refine .inr (.inr ?_)
      unfold nu at h
      rw [if_neg d] at h
      exact h
/-- where one stands: since H0 only M has changed, and all of M stands -/
structure At (M : Addr → Prop) (H0 H : Hp) : Prop where
  chg : Chg M H0 H
  live : Live M H
theorem At.same (A : At M H0 H) (e : Same H H1) : At M H0 H1 := ⟨A.chg.trans (.of e), fun a h => (Chg.of (M := M) e).dom a (A.live a h)⟩
theorem At.step (A : At M H0 H) (c : Chg M H H1) : At M H0 H1 := ⟨A.chg.trans c, fun a h => c.dom a (A.live a h)⟩
theorem At.upd (A : At M H0 H) (h : M l) : At M H0 (L2.upd H l o) := A.step (.upd h)
theorem At.start : At noM H H := ⟨.refl, fun _ h => h.elim⟩
theorem kn_step (A : At M H0 H) (e : Same H H1) : Same (nu (kn Hk H0 M H) H H1) (kn Hk H0 M H1) := fun a o h => by
  obtain ⟨c, h1⟩ := nu_of h
  have nm : ¬ M a := fun z => by
    rcases c with c | c
    · cases q : kn Hk H0 M H a with
      | none => exact c q
      | some u => exact (kn_of q).1 z
    · exact A.live a z c
  rw [kn_in nm, nu_in ?_]
  · exact h1
  · rcases c with c | c
    · cases q : kn Hk H0 M H a with
      | none => exact absurd q c
      | some u => exact (nu_of (kn_of q).2).1
    · refine .inr ?_
      cases q : H0 a with
      | none => rfl
      | some u => exact absurd c (A.chg.dom a (ne_none q))
theorem kn_start (e : Same Hk H) : Same Hk (kn Hk H noM H) := fun a o h => by
  rw [kn_in (fun z => z)]
  exact nu_base e (Same.refl H) a o h
/-- a list that is new begins to change -/
theorem kn_new (hl : H l = none) : Same (kn Hk H0 M H) (kn Hk H0 (ins M l) (upd H l o)) := fun a u h => by
  obtain ⟨n, h1⟩ := kn_of h
  obtain ⟨d, h2⟩ := nu_of h1
  have ne : a ≠ l := ne_of_none h2 hl
  rw [kn_in (fun z => z.elim n ne), nu_in d, upd_ne ne]
  exact h2
theorem At.new (A : At M H0 H) (hl : H l = none) : At (ins M l) H0 (L2.upd H l o) := by
  refine ⟨⟨fun a u n e => ?_, fun a e => upd_dom (A.chg.dom a e)⟩, fun a h => ?_⟩
  · rw [upd_ne (fun z => n (.inr z))]
    exact A.chg.keep a u (fun z => n (.inl z)) e
  · rcases h with h | h
    · exact upd_dom (A.live a h)
    · rw [h, upd_same]
      intro z
      cases z
/-- .. and is done -/
theorem kn_done (h0 : H0 l = none) (ho : H l = some o) (hl : ¬ M l) : kn Hk H0 M H l = some o := by
  rw [kn_in hl, nu_in (.inr h0)]
  exact ho
theorem kn_less {M' : Addr → Prop} (h : ∀ a, M' a → M a) : Same (kn Hk H0 M H) (kn Hk H0 M' H) := fun a u e => by
  obtain ⟨n, h1⟩ := kn_of e
  rw [kn_in (fun z => n (h a z))]
  exact h1
theorem At.less {M' : Addr → Prop} (A : At M H0 H) (h : ∀ a, M' a → M a) (h0 : ∀ a, M a → M' a ∨ H0 a = none) : At M' H0 H := by
  refine ⟨⟨fun a u n e => A.chg.keep a u (fun z => ?_) e, A.chg.dom⟩, fun a z => A.live a (h a z)⟩
  rcases h0 a z with c | c
  · exact n c
  · rw [c] at e
    cases e
end

/-- at l a list of n items of those kinds, which B knows -/
def Lst (l : Addr) (n : Nat) (r : Nat → Rp) (B H : Hp) : Prop := ∃ xs : List V, H l = some (.lst xs) ∧ xs.length = n ∧ ∀ (i : Nat) x, xs[i]? = some x → (r i).p x B
section
variable {K : PySem.W.Frag} {M : Addr → Prop} {Hk H0 H H1 H2 : Hp} {l : Addr} {σ : L2.St} {te : TE} {tt : TT} {ta : TA} {r : Rp} {rs : List Rp} {D : Ends} {ts tu tb : TS} {n : Nat} {ρ ρ2 : Nat → Rp}
theorem Lst.mono {B B' : Hp} (h : Lst l n ρ B H) (e : Same B B') (e1 : ∀ o, H l = some o → H1 l = some o) : Lst l n ρ B' H1 := by
  obtain ⟨xs, a, b, c⟩ := h
  exact ⟨xs, e1 _ a, b, fun i x hx => (ρ i).mono e (c i x hx)⟩
theorem Lst.snoc {B : Hp} {xs : List V} {y : V} (hl : xs.length = n) (hp : ∀ (i : Nat) x, xs[i]? = some x → (ρ i).p x B) (hy : (ρ n).p y B) : Lst l (n + 1) ρ B (upd H l (.lst (xs ++ [y]))) := by
  refine ⟨xs ++ [y], upd_same, by simp [hl], fun m x hx => ?_⟩
  by_cases hm : m < xs.length
  · rw [List.getElem?_append_left hm] at hx
    exact hp m x hx
  · rw [List.getElem?_append_right (by omega)] at hx
    have e1 : m = n := by
      have := (List.getElem?_eq_some_iff.mp hx).1
      simp at this
      omega
    subst e1
    have e2 : y = x := by
      rw [hl, Nat.sub_self] at hx
      simpa using hx
    subst e2
    exact hy
/-- a list that is done, as a value -/
theorem Lst.out (h : Lst l n ρ (kn Hk H0 M H) H) (h0 : H0 l = none) : (kL K n ρ).p (.ref l) (nu Hk H0 H) := by
  obtain ⟨xs, a, b, c⟩ := h
  refine ⟨l, xs, rfl, .inl (.inl ?_), b, fun i x hx => (ρ i).mono kn_out (c i x hx)⟩
  rw [nu_in (.inr h0)]
  exact a
theorem Lst.out2 {M' : Addr → Prop} (h : Lst l n ρ (kn Hk H0 M H) H) (h0 : H0 l = none) (hM : ∀ a, M' a → M a) (hl : ¬ M' l) : (kL K n ρ).p (.ref l) (kn Hk H0 M' H) := by
  obtain ⟨xs, a, b, c⟩ := h
  exact ⟨l, xs, rfl, .inl (.inl (kn_done h0 a hl)), b, fun i x hx => (ρ i).mono (kn_less hM) (c i x hx)⟩

/-! ### statements -/
theorem y_set {i : Nat} (A : At M H0 H) (h : GE te σ (kn Hk H0 M H) r) (k : ∀ v H1, Same H H1 → At M H0 H1 → r.p v (kn Hk H0 M H1) → ts D (σ.set i (some v)) H1) : tSeq (tAsg te (gName i)) ts D σ H :=
  s_set h kn_sub fun v H1 e p => k v H1 e (A.same e) (r.mono (kn_step A e) p)
theorem y_set1 {i : Nat} (A : At M H0 H) (h : GE te σ (kn Hk H0 M H) r) (k : ∀ v H1, Same H H1 → At M H0 H1 → r.p v (kn Hk H0 M H1) → D.nx (σ.set i (some v)) H1) : tAsg te (gName i) D σ H :=
  s_set1 h kn_sub fun v H1 e p => k v H1 e (A.same e) (r.mono (kn_step A e) p)
theorem y_ret (A : At M H0 H) (h : GE te σ (kn Hk H0 M H) r) (k : ∀ v H1, Same H H1 → At M H0 H1 → r.p v (kn Hk H0 M H1) → D.rt v H1) : tRet te D σ H :=
  s_ret h kn_sub fun v H1 e p => k v H1 e (A.same e) (r.mono (kn_step A e) p)
theorem y_if {k : Bool} (A : At M H0 H) (h : GT tt σ (kn Hk H0 M H) k) (h1 : k = true → ∀ H1, Same H H1 → At M H0 H1 → ts D σ H1) (h2 : k = false → ∀ H1, Same H H1 → At M H0 H1 → tu D σ H1) : tIfS tt ts tu D σ H :=
  s_if h kn_sub (fun c H1 e => h1 c H1 e (A.same e)) fun c H1 e => h2 c H1 e (A.same e)
theorem y_skip {tn : TS} (A : At M H0 H) (h : GT tt σ (kn Hk H0 M H) false) (k : ∀ H1, Same H H1 → At M H0 H1 → ts D σ H1) : tSeq (tIfS tt tn tNext) ts D σ H := s_skip h kn_sub fun H1 e => k H1 e (A.same e)
/-- x = [a, b, ..]: a list that will change -/
theorem y_lst {i : Nat} (A : At M H0 H) (h : GA ta σ (kn Hk H0 M H) rs) (hz : rs.length ≤ 1000)
    (k : ∀ l H2, H l = none → H0 l = none → At (ins M l) H0 H2 → Same (kn Hk H0 M H) (kn Hk H0 (ins M l) H2) → (∀ a o, H a = some o → H2 a = some o) → Lst l rs.length (ixR rs) (kn Hk H0 (ins M l) H2) H2 → ts D (σ.set i (some (.ref l))) H2) :
    tSeq (tAsg (tLst ta) (gName i)) ts D σ H := h H kn_sub _ fun vs H1 e pv => by
  refine ⟨Nat.le_of_lt (small1000 (by rw [pv.len]; exact hz)), fun l hl => ?_⟩
  have A1 := A.same e
  have hH : H l = none := e.free hl
  refine k l _ hH ?_ (A1.new hl) ((kn_fwd (.of e)).trans (kn_new hl)) (fun a o ha => Same.new hl a o (e a o ha)) ⟨vs, upd_same, pv.len, fun m x hx => (ixR rs m).mono (kn_new hl) ((ixR rs m).mono (kn_step A e) (pv.at m x hx))⟩
  cases q : H0 l with
  | none => rfl
  | some u => exact absurd hH (A.chg.dom l (ne_none q))
/-- xs.append(e) -/
theorem y_app {i : Nat} (A : At M H0 H) (hM : M l) (hL : Lst l n ρ (kn Hk H0 M H) H) (hσ : σ[i]? = some (some (V.ref l))) (h : GE te σ (kn Hk H0 M H) (ρ n)) (hz : n < 100000)
    (k : ∀ H2, At M H0 H2 → Same (kn Hk H0 M H) (kn Hk H0 M H2) → (∀ a o, a ≠ l → H a = some o → H2 a = some o) → Lst l (n + 1) ρ (kn Hk H0 M H2) H2 → D.nx σ H2) : tDrop (tBM K "list" rAppend (tVar i) (tCons te tNil)) D σ H := by
  obtain ⟨xs, hx, hl, hp⟩ := hL
  refine s_app hx hσ h kn_sub (by omega) fun v H1 e p => ?_
  have c : Chg M H (upd H1 l (.lst (xs ++ [v]))) := (Chg.of e).trans (.upd hM)
  have k1 : Same (kn Hk H0 M H) (kn Hk H0 M (upd H1 l (.lst (xs ++ [v])))) := kn_fwd c
  exact k _ (A.step c) k1 (fun a o ne ha => by rw [upd_ne ne]; exact e a o ha) (Lst.snoc hl (fun m x hx => (ρ m).mono k1 (hp m x hx)) ((ρ n).mono (kn_fwd (.upd hM)) ((ρ n).mono (kn_step A e) p)))
/-- a for over values of kinds -/
theorem y_for {wi : TI} {j : Nat} (A : At M H0 H) (hi : GI wi σ (kn Hk H0 M H) n ρ) (h : ∀ H2, Same H H2 → At M H0 H2 → ∃ Pv : Nat → L2.St → Hp → Prop, Pv 0 σ H2 ∧ (∀ i σ' H', i ≤ n → Pv i σ' H' → Same (kn Hk H0 M H2) H') ∧
    (∀ i x σ' H', i < n → Pv i σ' H' → (ρ i).p x (kn Hk H0 M H2) → tb { D with nx := Pv (i + 1), ct := Pv (i + 1), bk := D.nx } (σ'.set j (some x)) H') ∧ ∀ σ' H', Pv n σ' H' → D.nx σ' H') : tFor wi (gName j) tb D σ H :=
  hi H kn_sub _ fun J H2 e2 w => by
    obtain ⟨Pv, h0, hG, hs, hd⟩ := h H2 e2 (A.same e2)
    have kb : Same (nu (kn Hk H0 M H) H H2) (kn Hk H0 M H2) := kn_step A e2
    exact for_it w Pv h0 (fun i σ' H' hi p => kb.trans (hG i σ' H' hi p)) (fun i x σ' Hc H' hlt p y => by
      obtain ⟨rfl, hx⟩ := y
      exact hs i x σ' H' hlt p ((ρ i).mono kb hx)) hd
theorem y_for2 {wi : TI} {j k m : Nat} (A : At M H0 H) (hi : GI2 wi σ (kn Hk H0 M H) n ρ ρ2) (hm : m = 2) (h : ∀ H2, Same H H2 → At M H0 H2 → ∃ Pv : Nat → L2.St → Hp → Prop, Pv 0 σ H2 ∧ (∀ i σ' H', i ≤ n → Pv i σ' H' → Same (kn Hk H0 M H2) H') ∧
    (∀ i x y σ' H' H3, i < n → Pv i σ' H' → Same H' H3 → (ρ i).p x (kn Hk H0 M H2) → (ρ2 i).p y (kn Hk H0 M H2) → tb { D with nx := Pv (i + 1), ct := Pv (i + 1), bk := D.nx } ((σ'.set j (some x)).set k (some y)) H3) ∧ ∀ σ' H', Pv n σ' H' → D.nx σ' H') :
    tFor wi (gTup K m (gCons (gName j) (gCons (gName k) gNil))) tb D σ H :=
  hi H kn_sub _ fun J H2 e2 w => by
    obtain ⟨Pv, h0, hG, hs, hd⟩ := h H2 e2 (A.same e2)
    have kb : Same (nu (kn Hk H0 M H) H H2) (kn Hk H0 M H2) := kn_step A e2
    exact for_it w Pv h0 (fun i σ' H' hi p => kb.trans (hG i σ' H' hi p)) (fun i v σ' Hc H' hlt p y => by
      obtain ⟨T, x, y, rfl, hT, rfl, hx, hy⟩ := y
      subst hm
      exact ⟨T, [x, y], rfl, .inl (.inl upd_same), rfl, x, [y], rfl, y, [], rfl, rfl, hs i x y σ' Hc _ hlt p (Same.new hT) ((ρ i).mono kb hx) ((ρ2 i).mono kb hy)⟩) hd
end
end K38
end
section
set_option Elab.async false
set_option linter.all false
set_option maxRecDepth 100000
set_option maxHeartbeats 4000000
/-! K38D4: ways, rounds. -/
namespace K38
open PySem PySem.Spec PyProof.Rows L2
section
variable {P : Program} {w : World} {K : PySem.W.Frag} {mg : Str → Option Value} {base : Heap} {f : Addr} {fd : FuncData}

abbrev spWayTails (K : PySem.W.Frag) : Sp := spF (α := Nat × (Nat → Nat → Int) × Nat × Nat) (fun z => 1 ≤ z.1 ∧ z.1 ≤ 8 ∧ z.2.2.1 < z.1 ∧ 1 ≤ z.2.2.2 ∧ z.2.2.2 ≤ 1000) (fun z => [kTab K z.1 z.2.1, kI z.2.2.1, kI z.2.2.2])
  (fun z => kL K (z.2.2.2 + 1) fun k => if k = 0 then kAny else kLI K z.1 fun i => pw z.1 z.2.1 k i z.2.2.1)
abbrev nWT : List Str := ["table", "goal", "count", "tails", "found", "turn", "row", "place"]
theorem sc_way_tails : FnScope nWT ["table", "goal", "count"] (defScope s_way_tails) := ⟨rfl, rfl, rfl, by decide +kernel, rfl, by decide +kernel, by decide +kernel⟩
theorem Lst.conv {l : Addr} {n : Nat} {ρ ρ' : Nat → Rp} {B H : Hp} (h : Lst l n ρ B H) (c : ∀ i, i < n → ∀ x, (ρ i).p x B → (ρ' i).p x B) : Lst l n ρ' B H := by
  obtain ⟨xs, a, b, d⟩ := h
  exact ⟨xs, a, b, fun i x hx => c i (by rw [← b]; exact (List.getElem?_eq_some_iff.mp hx).1) x (d i x hx)⟩
theorem ok_way_tails (T : Bl K mg) (F : FnP K "way_tails" s_way_tails f fd) (g : mg "way_tails" = some (.ref f)) (d1 : Df P w K mg base "tails_ahead" ["table", "tails"] 2 (spTailsAhead K)) : Df P w K mg base "way_tails" ["table", "goal", "count"] 3 (spWayTails K) := by
  have nd := sc_way_tails.nd
  refine df_sp F g sc_way_tails (F.bindsN fun _ _ _ _ _ _ us hl => match us, hl with | [_, _, _], _ => rfl) (fun _ => rfl) fun cdv A outer s E hr H => ⟨_, pss_cons (ps_setLc (i := 3) (own := [("row", 6)]) (g := gName 6) (tt := tYes) rfl nd rfl rfl (sw_true rfl rfl rfl (by decide +kernel)) (p_tup T (pv 0))
      (blkOk_by (own := [("row", 6)]) (N := nWT) (sc := defScope s_way_tails) (by decide +kernel)) (fun _ _ _ _ _ => pg_name (i := 6) nd rfl (Or.inl rfl)) (fun _ _ _ _ _ => pts_nil) (fun _ _ _ _ _ => e_ixT T (pv 6) (pv 1)))
    (pss_cons (ps_set (i := 4) nd rfl (Or.inl rfl) (pe_lst (pa_cons (pe_lc (own := [("place", 7)]) (g := gName 7) (tt := tYes) rfl nd (p_rng1 T (e_len T (pv 0)))
        (blkOk_by (own := [("place", 7)]) (N := nWT) (sc := defScope s_way_tails) (by decide +kernel)) (fun _ _ _ _ _ => pg_name (i := 7) nd rfl (Or.inl rfl)) (fun _ _ _ _ _ => pts_nil) (fun _ _ _ _ _ => pe_ifExp (pt_cmpR op_eq (pv 7) (pv 1) (nomark _)) pe_int pe_non))
      (pa_cons (pv 3) pa_nil))))
    (pss_cons (ps_for PassesOwn.never rfl (p_rng1 T (pe_op op_sub (pv 2) pe_int)) (pg_name (i := 5) nd rfl (Or.inl rfl))
      (pss_cons (ps_set (i := 3) nd rfl (Or.inl rfl) (e_df d1 hr (pa_cons (pv 0) (pa_cons (pv 3) pa_nil))))
      (pss_one (ps_expr (pe_bm PySem.F.plainAttrs_list PySem.F.slot_list_append PySem.F.type_list_append mt_append (pv 4) (pa_cons (pv 3) pa_nil))))))
    (pss_one (ps_ret (pv 4))))), ?_⟩
  intro Hk vs Q z hz e hf q
  obtain ⟨n, t, gl, c⟩ := z
  obtain ⟨h1, h8, hg, hc, hcm⟩ := hz
  have h1 : 1 ≤ n := h1
  have h8 : n ≤ 8 := h8
  have hg : gl < n := hg
  have hc : 1 ≤ c := hc
  have hcm : c ≤ 1000 := hcm
  obtain ⟨v, v1, v2, rfl, hv, hv1, hv2⟩ := hf.three
  cases hv1
  cases hv2
  have A0 : At noM H H := At.start
  have hv0 := (kTab K n t).mono (kn_start e) hv
  refine y_set (Hk := Hk) A0 (r := kLI K n fun i => pw n t 1 i gl) ?_ fun l1 H1 e1 A1 hl1 => ?_
  · exact ge_lc (gi_tup (ge_var hv0 rfl)) (fun i hi B eB x hx => ge_ixT (i := gl) (ge_var hx rfl) (ge_var (r := kI (gl : Int)) rfl rfl) rfl hg) (by omega)
  have hv1 := (kTab K n t).mono (kn_fwd (.of e1)) hv0
  refine y_lst (Hk := Hk) A1 (rs := [kAny, kLI K n fun i => pw n t 1 i gl]) ?_ (by show 2 ≤ 1000; decide) fun l H2 hl hl0 A2 k2 s2 hL => ?_
  · exact ga_two ((ge_lc (K := K) (q := fun _ => kAny) (gi_rng (ga_one (ge_cb (ga_one (ge_var hv1 rfl)) gc_lenT)) rfl (by omega)) (fun i hi B eB x hx => ge_if (gt_test (ge_eqI (ge_var hx rfl) (ge_var (r := kI (gl : Int)) rfl rfl))) (fun _ => ge_c.conv fun _ _ _ _ => trivial) (fun _ => ge_c.conv fun _ _ _ _ => trivial)) (by omega)).conv fun _ _ _ _ => trivial) (ge_var hl1 rfl)
  have hM : ins noM l l := .inr rfl
  refine y_for (Hk := Hk) (n := c - 1) A2 (gi_rng (ga_one (ge_I0 (g := fun i j => .int (i - j)) (ge_var (r := kI (c : Int)) rfl rfl) ge_c)) (by omega) (by omega)) fun H3 e3 A3 => ?_
  refine ⟨fun i σ' H' => ∃ (tv : V) (x5 : Option V), σ' = [some v, some (.int (gl : Int)), some (.int (c : Int)), some tv, some (.ref l), x5, none, none] ∧ At (ins noM l) H H' ∧ Same (kn Hk H (ins noM l) H3) (kn Hk H (ins noM l) H') ∧
      (kLI K n fun k => pw n t (i + 1) k gl).p tv (kn Hk H (ins noM l) H') ∧ Lst l (i + 2) (fun k => if k = 0 then kAny else kLI K n fun i => pw n t k i gl) (kn Hk H (ins noM l) H') H',
    ⟨l1, none, rfl, A3, Same.refl _, (kLI K n _).mono (k2.trans (kn_fwd (.of e3))) hl1, (hL.mono (kn_fwd (.of e3)) fun o h => e3 _ _ h).conv fun i hi x hx => ?_⟩, fun i σ' H' _ p => ?_, fun i x σ' H' hi p hx => ?_, fun σ' H' p => ?_⟩
  · cases i with
    | zero => trivial
    | succ i =>
      cases i with
      | zero => exact hx
      | succ i => exact absurd hi (by show ¬ i + 1 + 1 < 2; omega)
  · obtain ⟨tv, x5, rfl, A', k', _⟩ := p
    exact k'.trans kn_sub
  · obtain ⟨tv, x5, rfl, A', k', htv, hL'⟩ := p
    have hv' := (kTab K n t).mono ((((kn_fwd (.of e1)).trans k2).trans (kn_fwd (.of e3))).trans k') hv0
    refine y_set (Hk := Hk) A' (ge_call (n, t, fun k => pw n t (i + 1) k gl) ⟨h1, h8⟩ (ga_two (ge_var hv' rfl) (ge_var htv rfl))) fun tv2 H4 e4 A4 htv2 => ?_
    have htv3 : (kLI K n fun k => pw n t (i + 2) k gl).p tv2 (kn Hk H (ins noM l) H4) := htv2
    refine y_app (Hk := Hk) A4 hM (hL'.mono (kn_fwd (.of e4)) fun o h => e4 _ _ h) rfl (ge_var (r := (if i + 2 = 0 then kAny else kLI K n fun k => pw n t (i + 2) k gl)) (by rw [if_neg (by omega)]; exact htv3) rfl) (by omega) fun H5 A5 k5 s5 hL5 => ?_
    exact ⟨tv2, _, rfl, A5, (k'.trans (kn_fwd (.of e4))).trans k5, (kLI K n _).mono k5 htv3, hL5⟩
  · obtain ⟨tv, x5, rfl, A', k', htv, hL'⟩ := p
    have ec : c - 1 + 2 = c + 1 := by omega
    rw [ec] at hL'
    exact ⟨.ref l, rfl, q _ H' (A'.chg.same fun a z => by rcases z with z | z; exact z.elim; rw [z]; exact hl0) (hL'.out hl0)⟩
end
end K38
end
section
set_option Elab.async false
set_option linter.all false
set_option maxRecDepth 100000
set_option maxHeartbeats 4000000
/-! K38D5: the way itself, its sum. -/
namespace K38
open PySem PySem.Spec PyProof.Rows L2
section
variable {K : PySem.W.Frag} {M : Addr → Prop} {Hk H0 H H1 H2 : Hp} {l : Addr} {σ : L2.St} {ta tb te : TE} {r : Rp} {D : Ends} {n m : Nat} {ρ ρ2 : Nat → Rp}
/-- xs.append(e), what e is being known by what holds of it -/
theorem y_appE {i : Nat} (A : At M H0 H) (hM : M l) (hL : Lst l n ρ (kn Hk H0 M H) H) (hσ : σ[i]? = some (some (V.ref l))) (h : GE te σ (kn Hk H0 M H) r) (hz : n < 100000)
    (k : ∀ v H2, At M H0 H2 → Same (kn Hk H0 M H) (kn Hk H0 M H2) → (∀ a o, a ≠ l → H a = some o → H2 a = some o) → r.p v (kn Hk H0 M H2) →
      (∀ ρ' : Nat → Rp, (∀ i, i < n → ∀ x B, (ρ i).p x B → (ρ' i).p x B) → (ρ' n).p v (kn Hk H0 M H2) → Lst l (n + 1) ρ' (kn Hk H0 M H2) H2) → D.nx σ H2) : tDrop (tBM K "list" rAppend (tVar i) (tCons te tNil)) D σ H := by
  obtain ⟨xs, hx, hl, hp⟩ := hL
  refine s_app hx hσ h kn_sub (by omega) fun v H1 e p => ?_
  have c : Chg M H (upd H1 l (.lst (xs ++ [v]))) := (Chg.of e).trans (.upd hM)
  have k1 : Same (kn Hk H0 M H) (kn Hk H0 M (upd H1 l (.lst (xs ++ [v])))) := kn_fwd c
  exact k v _ (A.step c) k1 (fun a o ne ha => by rw [upd_ne ne]; exact e a o ha) (r.mono (kn_fwd (.upd hM)) (r.mono (kn_step A e) p)) fun ρ' hc hv =>
    Lst.snoc hl (fun m x hx => hc m (by rw [← hl]; exact (List.getElem?_eq_some_iff.mp hx).1) x _ ((ρ m).mono k1 (hp m x hx))) hv
/-- t + u -/
theorem ge_cat (hn : 1 ≤ n) (hm : 1 ≤ m) (hz : n + m ≤ 1000) (ha : GE ta σ H (kT K n ρ)) (hb : GE tb σ H (kT K m ρ2)) : GE (tOp (rCatA K) ta tb) σ H (kT K (n + m) fun i => if i < n then ρ i else ρ2 (i - n)) := ge_op ha hb fun x y Hx H1 e hx hy Q q => by
  obtain ⟨a, xs, rfl, hS, hl, hp⟩ := hx
  obtain ⟨b, ys, rfl, hS2, hl2, hp2⟩ := hy
  have nx : xs ≠ [] := fun z => by
    rw [z] at hl
    simp at hl
    omega
  have ny : ys ≠ [] := fun z => by
    rw [z] at hl2
    simp at hl2
    omega
  refine ⟨a, b, xs, ys, rfl, rfl, sameT e hS, sameT e hS2, Nat.le_of_lt (small1000 (by omega)), fun z => absurd z nx, fun _ z => absurd z ny, fun _ _ p hp1 => q _ _ (Same.new hp1) ⟨p, xs ++ ys, rfl, .inl (.inl (nu_new (Same.refl H1) hp1)), by simp [hl, hl2], fun i x hx => ?_⟩⟩
  by_cases c : i < n
  · rw [List.getElem?_append_left (by omega)] at hx
    show (if i < n then ρ i else ρ2 (i - n)).p x _
    rw [if_pos c]
    exact (ρ i).mono (nu_base e (Same.new hp1)) (hp i x hx)
  · rw [List.getElem?_append_right (by omega), hl] at hx
    show (if i < n then ρ i else ρ2 (i - n)).p x _
    rw [if_neg c]
    exact (ρ2 (i - n)).mono (nu_base e (Same.new hp1)) (hp2 (i - n) x hx)
/-- t[1:] -/
theorem cutV1 (xs : List V) : cutV xs (some 1) none = xs.drop 1 := by
  unfold cutV
  rw [show HT.sIx xs.length 0 (some 1) = min 1 xs.length from HT.sIx_nat xs.length 0 1, HT.sIx_none]
  cases xs with
  | nil => rfl
  | cons x r =>
    rw [show min 1 (x :: r).length = 1 by
      rw [List.length_cons]
      omega]
    show List.take ((x :: r).length - 1) r = r
    rw [List.length_cons, Nat.add_sub_cancel]
    exact List.take_length
theorem ge_tail (ha : GE te σ H (kT K (m + 1) ρ)) : GE (tSl (rSlA K) te (tPart (tC (.int 1))) tNoPart) σ H (kT K m fun i => ρ (i + 1)) := fun H1 e Q q => ha H1 e _ fun x H2 e2 px => by
  obtain ⟨a, xs, rfl, hS, hl, hp⟩ := px
  refine ⟨1, rfl, a, xs, rfl, sameT nu_sub hS, fun hw => ?_, fun _ p hp1 => q _ _ (e2.trans (Same.new hp1)) ⟨p, cutV xs (some 1) none, rfl, .inl (.inl (nu_new e2 hp1)), ?_, fun i x hx => ?_⟩⟩
  · have h1 := hw.1
    rw [show HT.sIx xs.length 0 (some 1) = min 1 xs.length from HT.sIx_nat xs.length 0 1, hl] at h1
    omega
  · rw [cutV1, List.length_drop, hl]
    omega
  · rw [cutV1, List.getElem?_drop, Nat.add_comm 1 i] at hx
    exact (ρ (i + 1)).mono (nu_fwd (Same.new hp1)) (hp (i + 1) x hx)
theorem walk_zipT2 {a b : Addr} {xs ys : List V} (h1 : n ≤ xs.length) (h2 : ys.length = n) : Walk (RZ.ItzT K a b) n (fun H => SqT K H a xs ∧ SqT K H b ys) (YPair (fun i => xs[i]?) (fun i => ys[i]?)) := by
  refine ⟨fun i _ hi q => ?_, fun _ q => ⟨xs, ys, q.1, q.2, .inr (Nat.le_of_eq h2)⟩, fun i H v H' _ q y => ?_⟩
  · have e1 : i < xs.length := by omega
    have e2 : i < ys.length := by omega
    exact ⟨xs, ys, xs[i], ys[i], q.1, q.2, by simp [e1], by simp [e2]⟩
  · obtain ⟨T, x, z, h1, h2, h3, h4, h5⟩ := y
    exact ⟨T, x, z, h1, h2, h3, h4 xs q.1, h5 ys q.2⟩
theorem gi_zipTT2 {ta : TA} (hnm : n ≤ m) (h : GA ta σ H [kT K m ρ, kT K n ρ2]) : GI2 (iZipX K ta) σ H n ρ ρ2 := fun H1 e R k => h H1 e _ fun vs H2 e2 p => by
  obtain ⟨v, w, rfl, ⟨a, xs, rfl, hS, hl, hp⟩, ⟨b, ys, rfl, hS2, hl2, hp2⟩⟩ := p.two
  refine ⟨a, b, xs, ys, rfl, .inr ⟨sameT nu_sub hS, sameT nu_sub hS2, k _ H2 e2 ?_⟩⟩
  refine (walk_zipT2 (by omega) hl2).mono (fun _ g => ⟨sameT g hS, sameT g hS2⟩) fun i H v H' hi g y => ?_
  obtain ⟨T, x, y, h1, h2, h3, h4, h5⟩ := y
  exact ⟨T, x, y, h1, h2, h3, hp i x h4, hp2 i y h5⟩
theorem atI_end {xs : List V} {i : Nat} {v : V} (hl : xs.length = i + 1) (h : xs[i]? = some v) : atI xs (-1) = some v := by
  unfold atI ixN
  rw [if_neg (by omega), if_pos (by omega), hl, show ((-1 : Int) + ((i + 1 : Nat) : Int)).toNat = i by omega]
  exact h
end
theorem sumF_succ (m : Nat) (u : Nat → Int) : sumF (m + 1) u = sumF m u + u m := by
  unfold sumF
  rw [List.range_succ, List.map_append, List.sum_append]
  simp
theorem sumF_ps (t : Nat → Nat → Int) (π : Nat → Nat) : ∀ m, sumF m (fun i => t (π i) (π (i + 1))) = ps t π m
  | 0 => rfl
  | m + 1 => by
    rw [sumF_succ, sumF_ps t π m]
    rfl
section
variable {P : Program} {w : World} {K : PySem.W.Frag} {mg : Str → Option Value} {base : Heap} {f : Addr} {fd : FuncData}

/-- a tuple of m + 1 places below n, from one place to another -/
def kWay (K : PySem.W.Frag) (n m a b : Nat) : Rp := kEx (fun π : Nat → Nat => π 0 = a ∧ π m = b ∧ ∀ i, i ≤ m → π i < n) fun π => kTI K (m + 1) fun i => (π i : Int)
abbrev spFirstWay (K : PySem.W.Frag) : Sp := spF (α := Nat × (Nat → Nat → Int) × Nat × Nat × Nat) (fun z => 1 ≤ z.1 ∧ z.1 ≤ 8 ∧ z.2.2.1 < z.1 ∧ z.2.2.2.1 < z.1 ∧ 1 ≤ z.2.2.2.2 ∧ z.2.2.2.2 ≤ 60) (fun z => [kTab K z.1 z.2.1, kI z.2.2.1, kI z.2.2.2.1, kI z.2.2.2.2])
  (fun z => kWay K z.1 z.2.2.2.2 z.2.2.1 z.2.2.2.1)
abbrev nFW : List Str := ["table", "place", "goal", "count", "tails", "found", "left", "here"]
theorem sc_first_way : FnScope nFW ["table", "place", "goal", "count"] (defScope s_first_way) := ⟨rfl, rfl, rfl, by decide +kernel, rfl, by decide +kernel, by decide +kernel⟩
theorem ok_first_way (T : Bl K mg) (F : FnP K "first_way" s_first_way f fd) (g : mg "first_way" = some (.ref f)) (d1 : Df P w K mg base "way_tails" ["table", "goal", "count"] 3 (spWayTails K)) (d2 : Df P w K mg base "first_step" ["row", "tails", "cost"] 2 (spFirstStep K)) :
    Df P w K mg base "first_way" ["table", "place", "goal", "count"] 4 (spFirstWay K) := by
  have nd := sc_first_way.nd
  refine df_sp F g sc_first_way (F.bindsN fun _ _ _ _ _ _ us hl => match us, hl with | [_, _, _, _], _ => rfl) (fun _ => rfl) fun cdv A outer s E hr H => ⟨_, pss_cons (ps_set (i := 4) nd rfl (Or.inl rfl) (e_df d1 hr (pa_cons (pv 0) (pa_cons (pv 2) (pa_cons (pv 3) pa_nil)))))
    (pss_cons (ps_set (i := 5) nd rfl (Or.inl rfl) (pe_lst (pa_cons (pv 1) pa_nil)))
    (pss_cons (ps_for PassesOwn.never rfl (pi_range3 rfl T.range (pa_cons (pv 3) (pa_cons pe_int (pa_cons (pe_un un_neg pe_int) pa_nil)))) (pg_name (i := 6) nd rfl (Or.inl rfl))
      (pss_cons (ps_set (i := 7) nd rfl (Or.inl rfl) (e_ixL T (pv 5) (pe_un un_neg pe_int)))
      (pss_one (ps_expr (pe_bm PySem.F.plainAttrs_list PySem.F.slot_list_append PySem.F.type_list_append mt_append (pv 5) (pa_cons (e_df d2 hr (pa_cons (e_ixT T (pv 0) (pv 7)) (pa_cons (e_ixL T (pv 4) (pe_op op_sub (pv 6) pe_int)) (pa_cons (e_ixL T (e_ixL T (pv 4) (pv 6)) (pv 7)) pa_nil)))) pa_nil))))))
    (pss_one (ps_ret (pe_op op_catA (e_tuple T (pv 5)) (pe_tup (pa_cons (pv 2) pa_nil))))))), ?_⟩
  intro Hk vs Q z hz e hf q
  obtain ⟨n, t, pl, gl, c⟩ := z
  obtain ⟨h1, h8, hp, hg, hc, hcm⟩ := hz
  have h1 : 1 ≤ n := h1
  have h8 : n ≤ 8 := h8
  have hp : pl < n := hp
  have hg : gl < n := hg
  have hc : 1 ≤ c := hc
  have hcm : c ≤ 60 := hcm
  obtain ⟨v, v1, v2, v3, rfl, hv, hv1, hv2, hv3⟩ := hf.four
  cases hv1
  cases hv2
  cases hv3
  have A0 : At noM H H := At.start
  have hv0 := (kTab K n t).mono (kn_start e) hv
  refine y_set (Hk := Hk) A0 (ge_call (n, t, gl, c) ⟨h1, h8, hg, hc, by show c ≤ 1000; omega⟩ (ga_cons (ge_var hv0 rfl) (ga_two (ge_var (r := kI (gl : Int)) rfl rfl) (ge_var (r := kI (c : Int)) rfl rfl)))) fun tl H1 e1 A1 htl => ?_
  have hv1 := (kTab K n t).mono (kn_fwd (.of e1)) hv0
  refine y_lst (Hk := Hk) A1 (rs := [kI (pl : Int)]) (ga_one (ge_var rfl rfl)) (by show 1 ≤ 1000; decide) fun l H2 hl hl0 A2 k2 s2 hL => ?_
  have hM : ins noM l l := .inr rfl
  refine y_for (Hk := Hk) (n := c - 1) A2 (gi_rng3 (lo := (c : Int)) (hi := 1) (ga_cons (ge_var (r := kI (c : Int)) rfl rfl) (ga_two ge_c (ge_neg ge_c))) (by omega) (by omega)) fun H3 e3 A3 => ?_
  refine ⟨fun i σ' H' => ∃ (π : Nat → Nat) (x6 x7 : Option V), σ' = [some v, some (.int (pl : Int)), some (.int (gl : Int)), some (.int (c : Int)), some tl, some (.ref l), x6, x7] ∧ At (ins noM l) H H' ∧ Same (kn Hk H (ins noM l) H3) (kn Hk H (ins noM l) H') ∧
      π 0 = pl ∧ (∀ k, k ≤ i → π k < n) ∧ Lst l (i + 1) (fun k => kI (π k : Int)) (kn Hk H (ins noM l) H') H',
    ⟨fun _ => pl, none, none, rfl, A3, Same.refl _, rfl, fun _ _ => hp, (hL.mono (kn_fwd (.of e3)) fun o h => e3 _ _ h).conv fun i hi x hx => ?_⟩, fun i σ' H' _ p => ?_, fun i x σ' H' hi p hx => ?_, fun σ' H' p => ?_⟩
  · cases i with
    | zero => exact hx
    | succ i => exact absurd hi (by show ¬ i + 1 < 1; omega)
  · obtain ⟨π, x6, x7, rfl, A', k', _⟩ := p
    exact k'.trans kn_sub
  · obtain ⟨π, x6, x7, rfl, A', k', p0, pn, hL'⟩ := p
    have hv' := (kTab K n t).mono (((k2.trans (kn_fwd (.of e3))).trans k')) hv1
    have htl' := (kL K (c + 1) _).mono ((k2.trans (kn_fwd (.of e3))).trans k') htl
    cases hx
    obtain ⟨xs, hxs, hxl, hxp⟩ := id hL'
    have hi1 : xs[i]? = some (.int (π i : Int)) := by
      have q1 : xs[i]? = some xs[i] := List.getElem?_eq_getElem (by omega)
      rw [q1]
      exact congrArg some (hxp i _ q1)
    refine ⟨.ref l, rfl, 1, rfl, l, xs, -1, .int (π i : Int), rfl, rfl, .inl (.inl hxs), atI_end hxl hi1, ?_⟩
    have e0 : (c : Int) - (i : Int) - 1 = ((c - i - 1 : Nat) : Int) := by omega
    have e00 : (c : Int) - (i : Int) = ((c - i : Nat) : Int) := by omega
    have step : pw n t (c - i) (π i) gl = minF n fun k => t (π i) k + pw n t (c - i - 1) k gl := by
      rw [show c - i = (c - i - 1) + 1 by omega, pw_succ (by omega)]
      rfl
    obtain ⟨j, hj, ej⟩ := minF_mem (n := n) (f := fun k => t (π i) k + pw n t (c - i - 1) k gl) (by omega)
    refine y_appE (Hk := Hk) A' hM hL' rfl (r := kEx (fun j : Nat => j < n ∧ t (π i) j + pw n t (c - i - 1) j gl = pw n t (c - i) (π i) gl) fun j => kI (j : Int)) ?_ (by omega) fun v' H5 A5 k5 s5 hv5 mk => ?_
    · refine ge_call (n, t (π i), (fun k => pw n t (c - i - 1) k gl), pw n t (c - i) (π i) gl) ⟨by show n ≤ 1000; omega, j, hj, by rw [step, ej]⟩ (ga_cons (ge_ixT (i := π i) (ge_var hv' rfl) (ge_var (r := kI (π i : Int)) rfl rfl) rfl (pn i (Nat.le_refl i))) (ga_two ?_ ?_))
      · have q1 := ge_ixL (K := K) (i := c - i - 1) (ge_var (i := 4) (σ := [some v, some (.int (pl : Int)), some (.int (gl : Int)), some (.int (c : Int)), some tl, some (.ref l), some (.int ((c : Int) - (i : Int))), some (.int (π i : Int))]) htl' rfl)
          (ge_I0 (g := fun i j => .int (i - j)) (i := (c : Int) - (i : Int)) (j := 1) (ge_var (i := 6) rfl rfl) ge_c) e0 (by omega)
        exact q1.conv fun v H1 _ p => by
          have p2 : (if c - i - 1 = 0 then kAny else kLI K n fun k => pw n t (c - i - 1) k gl).p v H1 := p
          rw [if_neg (by omega)] at p2
          exact p2
      · have q1 := ge_ixL (K := K) (i := c - i) (ge_var (i := 4) (σ := [some v, some (.int (pl : Int)), some (.int (gl : Int)), some (.int (c : Int)), some tl, some (.ref l), some (.int ((c : Int) - (i : Int))), some (.int (π i : Int))]) htl' rfl)
          (ge_var (i := 6) (r := kI ((c : Int) - (i : Int))) rfl rfl) e00 (by omega)
        have q2 := q1.conv (r' := kLI K n fun k => pw n t (c - i) k gl) fun v H1 _ p => by
          have p2 : (if c - i = 0 then kAny else kLI K n fun k => pw n t (c - i) k gl).p v H1 := p
          rw [if_neg (by omega)] at p2
          exact p2
        exact ge_ixL (i := π i) q2 (ge_var (i := 7) (r := kI (π i : Int)) rfl rfl) rfl (pn i (Nat.le_refl i))
    · obtain ⟨j', ⟨hj', _⟩, hvj⟩ := hv5
      refine ⟨fun k => if k ≤ i then π k else j', _, _, rfl, A5, k'.trans k5, (if_pos (Nat.zero_le i)).trans p0, fun k hk => ?_, mk (fun k => kI (((if k ≤ i then π k else j' : Nat)) : Int)) (fun k hk x B hxk => ?_) ?_⟩
      · show (if k ≤ i then π k else j') < n
        split
        · exact pn k (by assumption)
        · exact hj'
      · show x = V.int _
        rw [if_pos (show k ≤ i by omega)]
        exact hxk
      · show v' = V.int _
        rw [if_neg (show ¬ i + 1 ≤ i by omega)]
        exact hvj
  · obtain ⟨π, x6, x7, rfl, A', k', p0, pn, hL'⟩ := p
    have ec : c - 1 + 1 = c := by omega
    rw [ec] at hL'
    have sm : Same H H' := A'.chg.same fun a z => by rcases z with z | z; exact z.elim; rw [z]; exact hl0
    have hfd := hL'.out (K := K) hl0
    refine z_ret (Hk := Hk) (H0 := H) sm ((ge_cat (n := c) (m := 1) hc (by decide) (by omega) (ge_cb (ga_one (ge_var hfd rfl)) gc_tuple) (ge_tup (rs := [kI (gl : Int)]) (ga_one (ge_var rfl rfl)) (by show 1 ≤ 1000; decide))).conv (r' := kWay K n c pl gl) fun v' H1 _ p' => ?_) q
    refine ⟨fun k => if k < c then π k else gl, ⟨(if_pos (show 0 < c by omega)).trans p0, if_neg (Nat.lt_irrefl c), fun k hk => ?_⟩, ?_⟩
    · show (if k < c then π k else gl) < n
      split
      · exact pn k (by omega)
      · exact hg
    · refine kT_mono (fun i hi x H2 px => ?_) p'
      show x = V.int (((if i < c then π i else gl : Nat)) : Int)
      have px2 : (if i < c then kI (π i : Int) else ixR [kI (gl : Int)] (i - c)).p x H2 := px
      by_cases hic : i < c
      · rw [if_pos hic] at px2
        rw [if_pos hic]
        exact px2
      · rw [if_neg hic, show i - c = 0 by omega] at px2
        rw [if_neg hic]
        exact px2

abbrev spStepsSum (K : PySem.W.Frag) : Sp := spF (α := Nat × (Nat → Nat → Int) × Nat × (Nat → Nat)) (fun z => 1 ≤ z.1 ∧ z.1 ≤ 8 ∧ z.2.2.1 ≤ 1000 ∧ ∀ i, i ≤ z.2.2.1 → z.2.2.2 i < z.1) (fun z => [kTab K z.1 z.2.1, kTI K (z.2.2.1 + 1) fun i => (z.2.2.2 i : Int)])
  (fun z => kI (ps z.2.1 z.2.2.2 z.2.2.1))
abbrev nSS : List Str := ["table", "way", "here", "there"]
theorem sc_steps_sum : FnScope nSS ["table", "way"] (defScope s_steps_sum) := ⟨rfl, rfl, rfl, by decide +kernel, rfl, by decide +kernel, by decide +kernel⟩
theorem ok_steps_sum (T : Bl K mg) (F : FnP K "steps_sum" s_steps_sum f fd) (g : mg "steps_sum" = some (.ref f)) : Df P w K mg base "steps_sum" ["table", "way"] 1 (spStepsSum K) := by
  have nd := sc_steps_sum.nd
  refine df_sp F g sc_steps_sum (F.bindsN fun _ _ _ _ _ _ us hl => match us, hl with | [_, _], _ => rfl) (fun _ => rfl) fun cdv A outer s E hr H => ⟨_, pss_one (ps_ret (e_sum T (pe_lc (own := [("here", 2), ("there", 3)]) (g := gTup K 2 (gCons (gName 2) (gCons (gName 3) gNil))) (tt := tYes) rfl nd
    (p_zip T (pv 1) (pe_slice sl_tupA (pv 1) (po_some pe_int) po_none)) (blkOk_by (own := [("here", 2), ("there", 3)]) (N := nSS) (sc := defScope s_steps_sum) (by decide +kernel))
    (fun _ _ _ _ _ => g_tup T (pgs_cons (pg_name (i := 2) nd rfl (Or.inl rfl)) (pgs_cons (pg_name (i := 3) nd rfl (Or.inl rfl)) pgs_nil))) (fun _ _ _ _ _ => pts_nil) (fun _ _ _ _ _ => e_ixT T (e_ixT T (pv 0) (pv 2)) (pv 3))))), ?_⟩
  intro Hk vs Q z hz e hf q
  obtain ⟨n, t, m, π⟩ := z
  obtain ⟨h1, h8, hm, hπ⟩ := hz
  have hm : m ≤ 1000 := hm
  have hπ : ∀ i, i ≤ m → π i < n := hπ
  obtain ⟨v, v1, rfl, hv, hv1⟩ := hf.two
  refine s_ret ?_ e q
  refine (ge_cb (ga_one (ge_lc2 (n := m) (r := fun i => kI (π i : Int)) (r2 := fun i => kI (π (i + 1) : Int)) (q := fun i => kI (t (π i) (π (i + 1)))) (gi_zipTT2 (m := m + 1) (by omega) (ga_two (ge_var hv1 rfl) (ge_tail (m := m) (ge_var hv1 rfl)))) rfl (by decide) (fun i hi B eB x y hx hy =>
    ge_ixT (i := π (i + 1)) (ge_ixT (i := π i) (ge_var ((kTab K n t).mono eB hv) rfl) (ge_var hx rfl) rfl (hπ i (by omega))) (ge_var hy rfl) rfl (hπ (i + 1) (by omega))) (by omega))) gc_sum).int (sumF_ps t π m)
end
end K38
end
section
set_option Elab.async false
set_option linter.all false
set_option maxRecDepth 100000
set_option maxHeartbeats 4000000
/-! K38D6: returns, the least mean. -/
namespace K38
open PySem PySem.Spec PyProof.Rows L2
section
variable {P : Program} {w : World} {K : PySem.W.Frag} {mg : Str → Option Value} {base : Heap} {f : Addr} {fd : FuncData}

/-- the least diagonal entry of the power -/
def rt (n : Nat) (t : Nat → Nat → Int) (k : Nat) : Int := minF n fun p => pw n t k p p
abbrev spReturns (K : PySem.W.Frag) : Sp := spF (α := Nat × (Nat → Nat → Int)) (fun z => 1 ≤ z.1 ∧ z.1 ≤ 8) (fun z => [kTab K z.1 z.2]) (fun z => kLI K z.1 fun k => rt z.1 z.2 (k + 1))
abbrev nRT : List Str := ["table", "found", "here", "steps", "place"]
theorem sc_returns : FnScope nRT ["table"] (defScope s_returns) := ⟨rfl, rfl, rfl, by decide +kernel, rfl, by decide +kernel, by decide +kernel⟩
theorem ok_returns (T : Bl K mg) (F : FnP K "returns" s_returns f fd) (g : mg "returns" = some (.ref f)) (d1 : Df P w K mg base "least_sums" ["one", "other"] 2 (spLeastSums K)) : Df P w K mg base "returns" ["table"] 3 (spReturns K) := by
  have nd := sc_returns.nd
  refine df_sp F g sc_returns (F.bindsN fun _ _ _ _ _ _ us hl => match us, hl with | [_], _ => rfl) (fun _ => rfl) fun cdv A outer s E hr H => ⟨_, pss_cons (ps_asg (pe_tup (pa_cons (pe_lst pa_nil) (pa_cons (pv 0) pa_nil))) (g_tup T (pgs_cons (pg_name (i := 1) nd rfl (Or.inl rfl)) (pgs_cons (pg_name (i := 2) nd rfl (Or.inr rfl)) pgs_nil))))
    (pss_cons (ps_for PassesOwn.never rfl (p_rng1 T (e_len T (pv 0))) (pg_name (i := 3) nd rfl (Or.inl rfl))
      (pss_cons (ps_expr (pe_bm PySem.F.plainAttrs_list PySem.F.slot_list_append PySem.F.type_list_append mt_append (pv 1) (pa_cons (e_min T (pe_lc (own := [("place", 4)]) (g := gName 4) (tt := tYes) rfl nd (p_rng1 T (e_len T (pv 0)))
          (blkOk_by (own := [("place", 4)]) (N := nRT) (sc := defScope s_returns) (by decide +kernel)) (fun _ _ _ _ _ => pg_name (i := 4) nd rfl (Or.inl rfl)) (fun _ _ _ _ _ => pts_nil) (fun _ _ _ _ _ => e_ixT T (e_ixT T (pv 2) (pv 4)) (pv 4)))) pa_nil)))
      (pss_one (ps_set (i := 2) nd rfl (Or.inr rfl) (e_df d1 hr (pa_cons (pv 2) (pa_cons (pv 0) pa_nil)))))))
    (pss_one (ps_ret (pv 1)))), ?_⟩
  intro Hk vs Q z hz e hf q
  obtain ⟨n, t⟩ := z
  obtain ⟨h1, h8⟩ := hz
  have h1 : 1 ≤ n := h1
  have h8 : n ≤ 8 := h8
  obtain ⟨v, rfl, hv⟩ := hf.one
  have A0 : At noM H H := At.start
  have hv0 := (kTab K n t).mono (kn_start e) hv
  refine ⟨Nat.zero_le _, fun l hl => ?_⟩
  refine ⟨v, rfl, by show 2 ≤ sizeLine; decide, fun p hp => ?_⟩
  refine ⟨p, [.ref l, v], rfl, .inl (.inl upd_same), rfl, .ref l, [v], rfl, v, [], rfl, rfl, ?_⟩
  have A1 : At (ins noM l) H (upd H l (.lst [])) := A0.new hl
  have A2 : At (ins noM l) H (upd (upd H l (.lst [])) p (.tup [.ref l, v])) := A1.same (Same.new hp)
  have hL : Lst l 0 (fun k => kI (rt n t (k + 1))) (kn Hk H (ins noM l) (upd (upd H l (.lst [])) p (.tup [.ref l, v]))) (upd (upd H l (.lst [])) p (.tup [.ref l, v])) :=
    ⟨[], Same.new hp _ _ upd_same, rfl, fun i x hx => by simp at hx⟩
  have hv2 := (kTab K n t).mono ((kn_new (Hk := Hk) (H0 := H) (M := noM) (o := .lst []) hl).trans (kn_fwd (.of (Same.new (o := .tup [.ref l, v]) hp)))) hv0
  have hM : ins noM l l := .inr rfl
  refine y_for (Hk := Hk) (n := n) A2 (gi_rng (ga_one (ge_cb (ga_one (ge_var hv2 rfl)) gc_lenT)) rfl (by omega)) fun H3 e3 A3 => ?_
  refine ⟨fun i σ' H' => ∃ (x : V) (x3 : Option V), σ' = [some v, some (.ref l), some x, x3, none] ∧ At (ins noM l) H H' ∧ Same (kn Hk H (ins noM l) H3) (kn Hk H (ins noM l) H') ∧
      (kTab K n (pw n t (i + 1))).p x (kn Hk H (ins noM l) H') ∧ Lst l i (fun k => kI (rt n t (k + 1))) (kn Hk H (ins noM l) H') H',
    ⟨v, none, rfl, A3, Same.refl _, (kTab K n t).mono (kn_fwd (.of e3)) hv2, hL.mono (kn_fwd (.of e3)) fun o h => e3 _ _ h⟩, fun i σ' H' _ p => ?_, fun i x σ' H' hi p hx => ?_, fun σ' H' p => ?_⟩
  · obtain ⟨x, x3, rfl, A', k', _⟩ := p
    exact k'.trans kn_sub
  · obtain ⟨y, x3, rfl, A', k', hy, hL'⟩ := p
    have hv' := (kTab K n t).mono ((kn_fwd (.of e3)).trans k') hv2
    refine y_app (Hk := Hk) A' hM hL' rfl (ge_cb (ga_one (ge_lc (gi_rng (ga_one (ge_cb (ga_one (ge_var hv' rfl)) gc_lenT)) rfl (by omega)) (fun j hj B eB x hx => ge_ixT (i := j) (ge_ixT (i := j) (ge_var ((kTab K n _).mono eB hy) rfl) (ge_var hx rfl) rfl hj) (ge_var hx rfl) rfl hj) (by omega))) (gc_min h1)) (by omega) fun H5 A5 k5 s5 hL5 => ?_
    dsimp only
    refine y_set1 (Hk := Hk) (r := kTab K n (mp n (pw n t (i + 1)) t)) A5 ?_ fun y2 H6 e6 A6 hy2 => ?_
    · exact ge_call (n, pw n t (i + 1), t) ⟨h1, h8⟩ (ga_two (ge_var ((kTab K n _).mono k5 hy) rfl) (ge_var ((kTab K n t).mono k5 hv') rfl))
    refine ⟨y2, _, rfl, A6, (k'.trans k5).trans (kn_fwd (.of e6)), ?_, hL5.mono (kn_fwd (.of e6)) fun o h => e6 _ _ h⟩
    rw [← pw_right (by omega) (by omega)]
    exact hy2
  · obtain ⟨y, x3, rfl, A', k', hy, hL'⟩ := p
    exact ⟨.ref l, rfl, q _ H' (A'.chg.same fun a z => by rcases z with z | z; exact z.elim; rw [z]; exact hl) (hL'.out hl)⟩

/-- the steps below 2 ^ 64 -/
abbrev spIsLess : Sp := spF (α := Int × Int × Int × Int) (fun z => (-(2 ^ 64) < z.2.1 ∧ z.2.1 < 2 ^ 64) ∧ (-(2 ^ 64) < z.2.2.2 ∧ z.2.2.2 < 2 ^ 64)) (fun z => [kI z.1, kI z.2.1, kI z.2.2.1, kI z.2.2.2]) (fun z => kB (decide (z.1 * z.2.2.2 < z.2.2.1 * z.2.1)))
theorem sc_is_less : FnScope ["one", "steps", "other", "more"] ["one", "steps", "other", "more"] (defScope s_is_less) := ⟨rfl, rfl, rfl, by decide +kernel, rfl, by decide +kernel, by decide +kernel⟩
theorem ok_is_less (T : Bl K mg) (F : FnP K "is_less" s_is_less f fd) (g : mg "is_less" = some (.ref f)) : Df P w K mg base "is_less" ["one", "steps", "other", "more"] 1 spIsLess := by
  refine df_sp F g sc_is_less (F.bindsN fun _ _ _ _ _ _ us hl => match us, hl with | [_, _, _, _], _ => rfl) (fun _ => rfl) fun cdv A outer s E hr H => ⟨_, pss_one (ps_ret (pe_cmpR op_lt (pe_op op_mul (pv 0) (pv 3)) (pe_op op_mul (pv 2) (pv 1)) (nomark _))), ?_⟩
  intro Hk vs Q z hz e hf q
  obtain ⟨v, v1, v2, v3, rfl, hv, hv1, hv2, hv3⟩ := hf.four
  exact s_ret (ge_I0 (ge_I (ge_var hv rfl) (ge_var hv3 rfl) (.inr hz.2)) (ge_I (ge_var hv2 rfl) (ge_var hv1 rfl) (.inr hz.1))) e q

abbrev spInTerms (K : PySem.W.Frag) : Sp := spF (α := Int × Int) (fun z => 0 < z.2 ∧ z.2 ≤ 1000) (fun z => [kI z.1, kI z.2]) (fun z => kP K (kI (z.1 / ((Nat.gcd z.1.natAbs z.2.natAbs : Nat) : Int))) (kI (z.2 / ((Nat.gcd z.1.natAbs z.2.natAbs : Nat) : Int))))
theorem sc_in_least_terms : FnScope ["cost", "steps", "common"] ["cost", "steps"] (defScope s_in_least_terms) := ⟨rfl, rfl, rfl, by decide +kernel, rfl, by decide +kernel, by decide +kernel⟩
theorem ok_in_least_terms (T : Bl K mg) (F : FnP K "in_least_terms" s_in_least_terms f fd) (g : mg "in_least_terms" = some (.ref f)) : Df P w K mg base "in_least_terms" ["cost", "steps"] 1 (spInTerms K) := by
  have nd := sc_in_least_terms.nd
  refine df_sp F g sc_in_least_terms (F.bindsN fun _ _ _ _ _ _ us hl => match us, hl with | [_, _], _ => rfl) (fun _ => rfl) fun cdv A outer s E hr H => ⟨_, pss_cons (ps_set (i := 2) nd rfl (Or.inl rfl) (e_gcd T (pv 0) (pv 1)))
    (pss_one (ps_ret (pe_tup (pa_cons (pe_op op_fdiv (pv 0) (pv 2)) (pa_cons (pe_op op_fdiv (pv 1) (pv 2)) pa_nil))))), ?_⟩
  intro Hk vs Q z hz e hf q
  obtain ⟨c, s⟩ := z
  obtain ⟨h0, h1⟩ := hz
  have h0 : 0 < s := h0
  have h1 : s ≤ 1000 := h1
  obtain ⟨v, v1, rfl, hv, hv1⟩ := hf.two
  cases hv
  cases hv1
  obtain ⟨g', eg, g0, gs, _⟩ := gcd_div (a := c) h0
  have hdv : CDiv 0 ((Nat.gcd c.natAbs s.natAbs : Nat) : Int) := by
    rw [← eg]
    exact ⟨g0, by omega⟩
  refine z_set (Hk := Hk) (H0 := H) (Same.refl H) (ge_cb (ga_two (ge_var (r := kI c) rfl rfl) (ge_var (r := kI s) rfl rfl)) gc_gcd) fun g1 H1 e1 b1 hg1 => ?_
  exact z_ret (Hk := Hk) b1 (ge_pair (ge_I (ge_var (r := kI c) rfl rfl) (ge_var hg1 rfl) hdv) (ge_I (ge_var (r := kI s) rfl rfl) (ge_var hg1 rfl) hdv)) q

/-- (sum, steps) in least terms of the least mean of a round -/
def kLR (K : PySem.W.Frag) (n : Nat) (t : Nat → Nat → Int) : Rp := kEx (fun z : Int × Int => IsLR n t z.1 z.2) fun z => kP K (kI z.1) (kI z.2)
abbrev spLeastMean (K : PySem.W.Frag) : Sp := spF (α := Nat × (Nat → Nat → Int)) (fun z => 1 ≤ z.1 ∧ z.1 ≤ 8) (fun z => [kTab K z.1 z.2]) (fun z => kLR K z.1 z.2)
abbrev nLM : List Str := ["table", "best", "most", "at", "cost"]
theorem sc_least_mean : FnScope nLM ["table"] (defScope s_least_mean) := ⟨rfl, rfl, rfl, by decide +kernel, rfl, by decide +kernel, by decide +kernel⟩
/-- the best of the first i -/
structure Best (n : Nat) (t : Nat → Nat → Int) (i : Nat) (b : Int) (m : Nat) : Prop where
  m1 : 1 ≤ m
  mi : m ≤ i
  eq : b = rt n t m
  low : ∀ k, 1 ≤ k → k ≤ i → b * (k : Int) ≤ rt n t k * (m : Int)
theorem ok_least_mean (T : Bl K mg) (F : FnP K "least_mean" s_least_mean f fd) (g : mg "least_mean" = some (.ref f)) (d1 : Df P w K mg base "returns" ["table"] 3 (spReturns K)) (d2 : Df P w K mg base "is_less" ["one", "steps", "other", "more"] 1 spIsLess)
    (d3 : Df P w K mg base "in_least_terms" ["cost", "steps"] 1 (spInTerms K)) : Df P w K mg base "least_mean" ["table"] 4 (spLeastMean K) := by
  have nd := sc_least_mean.nd
  refine df_sp F g sc_least_mean (F.bindsN fun _ _ _ _ _ _ us hl => match us, hl with | [_], _ => rfl) (fun _ => rfl) fun cdv A outer s E hr H => ⟨_, pss_cons (ps_asg (pe_tup (pa_cons pe_non (pa_cons pe_int pa_nil))) (g_tup T (pgs_cons (pg_name (i := 1) nd rfl (Or.inl rfl)) (pgs_cons (pg_name (i := 2) nd rfl (Or.inl rfl)) pgs_nil))))
    (pss_cons (ps_for PassesOwn.never rfl (p_enum T (e_df d1 hr (pa_cons (pv 0) pa_nil))) (g_tup T (pgs_cons (pg_name (i := 3) nd rfl (Or.inl rfl)) (pgs_cons (pg_name (i := 4) nd rfl (Or.inl rfl)) pgs_nil)))
      (pss_one (ps_if (PW.pt (pw_or (pt_cmpR op_isN (pv 1) pe_non (nomark _)) (pw_or1 (pt_val (e_df d2 hr (pa_cons (pv 4) (pa_cons (pe_op op_add (pv 3) pe_int) (pa_cons (pv 1) (pa_cons (pv 2) pa_nil)))))))))
        (pss_one (ps_par (i := 1) (j := 2) rfl nd rfl rfl (by decide) rfl rfl (pa_cons (pv 4) (pa_cons (pe_op op_add (pv 3) pe_int) pa_nil)) (by rfl))) pss_nil)))
    (pss_one (ps_ret (e_df d3 hr (pa_cons (pv 1) (pa_cons (pv 2) pa_nil)))))), ?_⟩
  intro Hk vs Q z hz e hf q
  obtain ⟨n, t⟩ := z
  obtain ⟨h1, h8⟩ := hz
  have h1 : 1 ≤ n := h1
  have h8 : n ≤ 8 := h8
  obtain ⟨v, rfl, hv⟩ := hf.one
  have A0 : At noM H H := At.start
  have hv0 := (kTab K n t).mono (kn_start e) hv
  refine ⟨by show 2 ≤ sizeLine; decide, fun p hp => ?_⟩
  refine ⟨p, [.non, .int 1], rfl, .inl (.inl upd_same), rfl, .non, [.int 1], rfl, .int 1, [], rfl, rfl, ?_⟩
  have A1 : At noM H (upd H p (.tup [.non, .int 1])) := A0.same (Same.new hp)
  have hv1 := (kTab K n t).mono (kn_fwd (Hk := Hk) (H0 := H) (.of (Same.new (o := .tup [.non, .int 1]) hp))) hv0
  dsimp only
  refine y_for2 (Hk := Hk) (n := n) (ρ := fun i => kI (i : Int)) (ρ2 := fun k => kI (rt n t (k + 1))) A1 ?_ rfl fun H3 e3 A3 => ?_
  · exact gi_enum (ga_one (ge_call (n, t) ⟨h1, h8⟩ (ga_one (ge_var hv1 rfl))))
  refine ⟨fun i σ' H' => ∃ (bv : V) (m : Nat) (x3 x4 : Option V), σ' = [some v, some bv, some (.int (m : Int)), x3, x4] ∧ At noM H H' ∧ Same (kn Hk H noM H3) (kn Hk H noM H') ∧ ((i = 0 ∧ bv = .non) ∨ ∃ b : Int, bv = .int b ∧ Best n t i b m),
    ⟨.non, 1, none, none, rfl, A3, Same.refl _, .inl ⟨rfl, rfl⟩⟩, fun i σ' H' _ p => ?_, fun i x y σ' H' H4 hi p e4 hx hy => ?_, fun σ' H' p => ?_⟩
  · obtain ⟨bv, m, x3, x4, rfl, A', k', _⟩ := p
    exact k'.trans kn_sub
  · obtain ⟨bv, m, x3, x4, rfl, A', k', hb⟩ := p
    cases hx
    cases hy
    have A4 := A'.same e4
    have k4 := k'.trans (kn_fwd (Hk := Hk) (H0 := H) (M := noM) (.of e4))
    have ei : (i : Int) + 1 = ((i + 1 : Nat) : Int) := by omega
    -- the two ways behind the test
    rcases hb with ⟨rfl, rfl⟩ | ⟨b, rfl, hb⟩
    · refine y_if (Hk := Hk) A4 (gt_or (k := true) (l := true) (gt_test (ge_isN (ge_var (r := kN) rfl rfl) fun v H h => by rw [show v = .non from h]; rfl)) (fun c => by cases c)) (fun _ H5 e5 A5 => ?_) (fun c => by cases c)
      refine ⟨_, rfl, _, rfl, 0, 1, rfl, rfl, _, _, rfl, .int (rt n t 1), 1, _, _, rfl, A5, k4.trans (kn_fwd (.of e5)), .inr ⟨_, rfl, ?_⟩⟩
      refine ⟨Nat.le_refl 1, Nat.le_refl 1, rfl, fun k k1 k2 => ?_⟩
      have ek : k = 1 := by omega
      subst ek
      exact Int.le_refl _
    · have hm64 : -(2 ^ 64) < (m : Int) ∧ (m : Int) < 2 ^ 64 := by
        have := hb.mi
        omega
      refine y_if (Hk := Hk) A4 (gt_or (k := false) (l := decide (rt n t (i + 1) * (m : Int) < b * ((i : Int) + 1))) (gt_test (ge_isN (ge_var (r := kI b) rfl rfl) fun v H h => by rw [show v = .int b from h]; rfl))
        (fun _ => gt_B (ge_call (rt n t (i + 1), (i : Int) + 1, b, (m : Int)) ⟨by show -(2 ^ 64) < (i : Int) + 1 ∧ (i : Int) + 1 < 2 ^ 64; omega, hm64⟩ (ga_cons (ge_var rfl rfl) (ga_cons (ge_I0 (ge_var (r := kI (i : Int)) rfl rfl) ge_c) (ga_two (ge_var rfl rfl) (ge_var rfl rfl))))))) (fun c H5 e5 A5 => ?_) (fun c H5 e5 A5 => ?_)
      · have c1 : rt n t (i + 1) * (m : Int) < b * ((i : Int) + 1) := of_decide_eq_true (by simpa using c)
        refine ⟨_, rfl, _, rfl, (i : Int), 1, rfl, rfl, _, _, rfl, .int (rt n t (i + 1)), i + 1, _, _, rfl, A5, k4.trans (kn_fwd (.of e5)), .inr ⟨_, rfl, ?_⟩⟩
        refine ⟨by omega, Nat.le_refl _, rfl, fun k k1 k2 => ?_⟩
        by_cases ck : k = i + 1
        · subst ck
          exact Int.le_refl _
        · have l1 := hb.low k k1 (by omega)
          have m0 : (0 : Int) < (m : Int) := by
            have := hb.m1
            omega
          have l2 : (rt n t (i + 1) * (k : Int)) * (m : Int) ≤ (rt n t k * ((i + 1 : Nat) : Int)) * (m : Int) := by
            have a1 : (rt n t (i + 1) * (k : Int)) * (m : Int) = (rt n t (i + 1) * (m : Int)) * (k : Int) := by
              rw [Int.mul_assoc, Int.mul_comm (k : Int), ← Int.mul_assoc]
            have a2 : (rt n t k * ((i + 1 : Nat) : Int)) * (m : Int) = (rt n t k * (m : Int)) * ((i + 1 : Nat) : Int) := by
              rw [Int.mul_assoc, Int.mul_comm ((i + 1 : Nat) : Int), ← Int.mul_assoc]
            have a3 : (rt n t (i + 1) * (m : Int)) * (k : Int) ≤ (b * ((i : Int) + 1)) * (k : Int) := Int.mul_le_mul_of_nonneg_right (by omega) (by omega)
            have a4 : (b * ((i : Int) + 1)) * (k : Int) = (b * (k : Int)) * ((i + 1 : Nat) : Int) := by
              rw [ei, Int.mul_assoc, Int.mul_comm ((i + 1 : Nat) : Int), ← Int.mul_assoc]
            have a5 : (b * (k : Int)) * ((i + 1 : Nat) : Int) ≤ (rt n t k * (m : Int)) * ((i + 1 : Nat) : Int) := Int.mul_le_mul_of_nonneg_right l1 (by omega)
            omega
          exact Int.le_of_mul_le_mul_right l2 m0
      · have c1 : ¬ rt n t (i + 1) * (m : Int) < b * ((i : Int) + 1) := of_decide_eq_false (by simpa using c)
        refine ⟨.int b, m, _, _, rfl, A5, k4.trans (kn_fwd (.of e5)), .inr ⟨b, rfl, hb.m1, by have := hb.mi; omega, hb.eq, fun k k1 k2 => ?_⟩⟩
        by_cases ck : k = i + 1
        · subst ck
          rw [← ei]
          omega
        · exact hb.low k k1 (by omega)
  · obtain ⟨bv, m, x3, x4, rfl, A', k', hb⟩ := p
    have sm : Same H H' := A'.chg.same fun a z => z.elim
    rcases hb with ⟨z, _⟩ | ⟨b, rfl, hb⟩
    · omega
    · have hm0 : (0 : Int) < (m : Int) := by
        have := hb.m1
        omega
      have hmn := hb.mi
      dsimp only
      suffices lr : IsLR n t (b / ((Nat.gcd b.natAbs (m : Int).natAbs : Nat) : Int)) ((m : Int) / ((Nat.gcd b.natAbs (m : Int).natAbs : Nat) : Int)) by
        refine z_ret (Hk := Hk) (H0 := H) (r := kLR K n t) sm ?_ q
        exact GE.conv (ge_call (b, (m : Int)) ⟨hm0, by show (m : Int) ≤ 1000; omega⟩ (ga_two (ge_var (r := kI b) rfl rfl) (ge_var (r := kI (m : Int)) rfl rfl))) fun v' H1 _ p' => ⟨(_, _), lr, p'⟩
      refine IsLR.of_best hm0 (by omega) (fun k p k1 k2 p1 => ?_) ?_
      · have l1 := hb.low k k1 k2
        have l2 : rt n t k ≤ pw n t k p p := minF_le (f := fun p => pw n t k p p) p p1
        exact Int.le_trans l1 (Int.mul_le_mul_of_nonneg_right l2 (by omega))
      · obtain ⟨p, hp1, ep⟩ := minF_mem (n := n) (f := fun p => pw n t m p p) (by omega)
        refine ⟨m, p, hb.m1, hmn, hp1, ?_⟩
        rw [hb.eq]
        show rt n t m * (m : Int) = pw n t m p p * (m : Int)
        rw [show rt n t m = pw n t m p p from ep]
end
end K38
end
section
set_option Elab.async false
set_option linter.all false
set_option maxRecDepth 100000
set_option maxHeartbeats 4000000
/-! K38D7: tables of tables; the functions that the law calls. -/
namespace K38
open PySem PySem.Spec PyProof.Rows L2
section
variable {P : Program} {w : World} {K : PySem.W.Frag} {mg : Str → Option Value} {base : Heap} {f : Addr} {fd : FuncData}

abbrev spWidth (K : PySem.W.Frag) : Sp := spF (α := Nat × (Nat → Nat → Int)) (fun z => 1 ≤ z.1 ∧ z.1 ≤ 8) (fun z => [kTab K z.1 z.2]) (fun z => kI z.1)
theorem sc_width : FnScope ["table"] ["table"] (defScope s_width) := ⟨rfl, rfl, rfl, by decide +kernel, rfl, by decide +kernel, by decide +kernel⟩
theorem ok_width (T : Bl K mg) (F : FnP K "width" s_width f fd) (g : mg "width" = some (.ref f)) : Df P w K mg base "width" ["table"] 1 (spWidth K) := by
  refine df_sp F g sc_width (F.bindsN fun _ _ _ _ _ _ us hl => match us, hl with | [_], _ => rfl) (fun _ => rfl) fun cdv A outer s E hr H => ⟨_, pss_one (ps_ret (e_len T (e_ixT T (pv 0) pe_int))), ?_⟩
  intro Hk vs Q z hz e hf q
  obtain ⟨n, t⟩ := z
  have h1 : 1 ≤ n := hz.1
  obtain ⟨v, rfl, hv⟩ := hf.one
  refine s_ret ?_ e q
  exact ge_cb (ga_one (ge_ixT (i := 0) (ge_var hv rfl) ge_c rfl (by omega))) gc_lenT

abbrev spColumnOf (K : PySem.W.Frag) : Sp := spF (α := Nat × (Nat → Nat → Int) × Nat) (fun z => 1 ≤ z.1 ∧ z.1 ≤ 8 ∧ z.2.2 < z.1) (fun z => [kTab K z.1 z.2.1, kI z.2.2]) (fun z => kTI K z.1 fun i => z.2.1 i z.2.2)
theorem sc_column_of : FnScope ["table", "column", "row"] ["table", "column"] (defScope s_column_of) := ⟨rfl, rfl, rfl, by decide +kernel, rfl, by decide +kernel, by decide +kernel⟩
theorem ok_column_of (T : Bl K mg) (F : FnP K "column_of" s_column_of f fd) (g : mg "column_of" = some (.ref f)) : Df P w K mg base "column_of" ["table", "column"] 1 (spColumnOf K) := by
  have nd := sc_column_of.nd
  refine df_sp F g sc_column_of (F.bindsN fun _ _ _ _ _ _ us hl => match us, hl with | [_, _], _ => rfl) (fun _ => rfl) fun cdv A outer s E hr H => ⟨_, pss_one (ps_ret (e_tuple T (pe_lc (own := [("row", 2)]) (g := gName 2) (tt := tYes) rfl nd (p_tup T (pv 0))
    (blkOk_by (own := [("row", 2)]) (N := ["table", "column", "row"]) (sc := defScope s_column_of) (by decide +kernel)) (fun _ _ _ _ _ => pg_name (i := 2) nd rfl (Or.inl rfl)) (fun _ _ _ _ _ => pts_nil) (fun _ _ _ _ _ => e_ixT T (pv 2) (pv 1))))), ?_⟩
  intro Hk vs Q z hz e hf q
  obtain ⟨n, t, c⟩ := z
  obtain ⟨h1, h8, hc⟩ := hz
  have h8 : n ≤ 8 := h8
  have hc : c < n := hc
  obtain ⟨v, v1, rfl, hv, hv1⟩ := hf.two
  refine s_ret ?_ e q
  exact ge_cb (ga_one (ge_lc (gi_tup (ge_var hv rfl)) (fun i hi B eB x hx => ge_ixT (i := c) (ge_var hx rfl) (ge_var ((kI (c : Int)).mono eB hv1) rfl) rfl hc) (by omega))) gc_tuple

abbrev spTurned (K : PySem.W.Frag) : Sp := spF (α := Nat × (Nat → Nat → Int)) (fun z => 1 ≤ z.1 ∧ z.1 ≤ 8) (fun z => [kTab K z.1 z.2]) (fun z => kTab K z.1 fun i j => z.2 j i)
theorem sc_turned_table : FnScope ["table", "column"] ["table"] (defScope s_turned_table) := ⟨rfl, rfl, rfl, by decide +kernel, rfl, by decide +kernel, by decide +kernel⟩
theorem ok_turned_table (T : Bl K mg) (F : FnP K "turned_table" s_turned_table f fd) (g : mg "turned_table" = some (.ref f)) (d1 : Df P w K mg base "width" ["table"] 1 (spWidth K)) (d2 : Df P w K mg base "column_of" ["table", "column"] 1 (spColumnOf K)) :
    Df P w K mg base "turned_table" ["table"] 2 (spTurned K) := by
  have nd := sc_turned_table.nd
  refine df_sp F g sc_turned_table (F.bindsN fun _ _ _ _ _ _ us hl => match us, hl with | [_], _ => rfl) (fun _ => rfl) fun cdv A outer s E hr H => ⟨_, pss_one (ps_ret (e_tuple T (pe_lc (own := [("column", 1)]) (g := gName 1) (tt := tYes) rfl nd (p_rng1 T (e_df d1 hr (pa_cons (pv 0) pa_nil)))
    (blkOk_by (own := [("column", 1)]) (N := ["table", "column"]) (sc := defScope s_turned_table) (by decide +kernel)) (fun _ _ _ _ _ => pg_name (i := 1) nd rfl (Or.inl rfl)) (fun _ _ _ _ _ => pts_nil) (fun _ _ _ _ _ => e_df d2 hr (pa_cons (pv 0) (pa_cons (pv 1) pa_nil)))))), ?_⟩
  intro Hk vs Q z hz e hf q
  obtain ⟨n, t⟩ := z
  obtain ⟨h1, h8⟩ := hz
  have h1 : 1 ≤ n := h1
  have h8 : n ≤ 8 := h8
  obtain ⟨v, rfl, hv⟩ := hf.one
  refine s_ret ?_ e q
  exact ge_cb (ga_one (ge_lc (gi_rng (ga_one (ge_call (n, t) ⟨h1, h8⟩ (ga_one (ge_var hv rfl)))) rfl (by omega)) (fun j hj B eB x hx => ge_call (n, t, j) ⟨h1, h8, hj⟩ (ga_two (ge_var ((kTab K n t).mono eB hv) rfl) (ge_var hx rfl))) (by omega))) gc_tuple

abbrev spScaled (K : PySem.W.Frag) : Sp := spF (α := Nat × (Nat → Nat → Int) × Int) (fun z => 1 ≤ z.1 ∧ z.1 ≤ 8 ∧ 0 ≤ z.2.2 ∧ z.2.2 ≤ 10 ^ 9) (fun z => [kTab K z.1 z.2.1, kI z.2.2]) (fun z => kTab K z.1 fun i j => z.2.1 i j * z.2.2)
abbrev nSC : List Str := ["table", "times", "entry", "row"]
theorem sc_scaled_table : FnScope nSC ["table", "times"] (defScope s_scaled_table) := ⟨rfl, rfl, rfl, by decide +kernel, rfl, by decide +kernel, by decide +kernel⟩
theorem ok_scaled_table (T : Bl K mg) (F : FnP K "scaled_table" s_scaled_table f fd) (g : mg "scaled_table" = some (.ref f)) : Df P w K mg base "scaled_table" ["table", "times"] 1 (spScaled K) := by
  have nd := sc_scaled_table.nd
  refine df_sp F g sc_scaled_table (F.bindsN fun _ _ _ _ _ _ us hl => match us, hl with | [_, _], _ => rfl) (fun _ => rfl) fun cdv A outer s E hr H => ⟨_, pss_one (ps_ret (e_tuple T (pe_lc (own := [("row", 3)]) (g := gName 3) (tt := tYes) rfl nd (p_tup T (pv 0))
    (blkOk_by (own := [("row", 3)]) (N := nSC) (sc := defScope s_scaled_table) (by decide +kernel)) (fun _ _ _ _ _ => pg_name (i := 3) nd rfl (Or.inl rfl)) (fun _ _ _ _ _ => pts_nil)
    (fun _ _ _ _ _ => e_tuple T (pe_lc (own := [("entry", 2)]) (g := gName 2) (tt := tYes) rfl nd (p_tup T (pv 3)) (blkOk_by (own := [("entry", 2)]) (N := nSC) (sc := relS (lcS (arg1 (exOf (stAt s_scaled_table 0)))) (defScope s_scaled_table)) (by decide +kernel))
      (fun _ _ _ _ _ => pg_name (i := 2) nd rfl (Or.inl rfl)) (fun _ _ _ _ _ => pts_nil) (fun _ _ _ _ _ => pe_op op_mul (pv 2) (pv 1))))))), ?_⟩
  intro Hk vs Q z hz e hf q
  obtain ⟨n, t, a⟩ := z
  obtain ⟨h1, h8, ha, ha9⟩ := hz
  have h8 : n ≤ 8 := h8
  have ha : 0 ≤ a := ha
  have ha9 : a ≤ 10 ^ 9 := ha9
  obtain ⟨v, v1, rfl, hv, hv1⟩ := hf.two
  refine s_ret ?_ e q
  exact ge_cb (ga_one (ge_lc (gi_tup (ge_var hv rfl)) (fun i hi B eB x hx => ge_cb (ga_one (ge_lc (gi_tup (ge_var hx rfl)) (fun j hj B2 eB2 y hy => ge_I (ge_var hy rfl) (ge_var ((kI a).mono (eB.trans eB2) hv1) rfl) (.inr (by omega))) (by omega))) gc_tuple) (by omega))) gc_tuple

abbrev spLifted (K : PySem.W.Frag) : Sp := spF (α := Nat × (Nat → Nat → Int) × (Nat → Int) × (Nat → Int)) (fun z => 1 ≤ z.1 ∧ z.1 ≤ 8) (fun z => [kTab K z.1 z.2.1, kTI K z.1 z.2.2.1, kTI K z.1 z.2.2.2]) (fun z => kTab K z.1 fun i j => z.2.1 i j + z.2.2.1 i + z.2.2.2 j)
abbrev nLT : List Str := ["table", "rows", "columns", "found", "row", "more", "entry", "above"]
theorem sc_lifted_table : FnScope nLT ["table", "rows", "columns"] (defScope s_lifted_table) := ⟨rfl, rfl, rfl, by decide +kernel, rfl, by decide +kernel, by decide +kernel⟩
theorem ok_lifted_table (T : Bl K mg) (F : FnP K "lifted_table" s_lifted_table f fd) (g : mg "lifted_table" = some (.ref f)) : Df P w K mg base "lifted_table" ["table", "rows", "columns"] 1 (spLifted K) := by
  have nd := sc_lifted_table.nd
  refine df_sp F g sc_lifted_table (F.bindsN fun _ _ _ _ _ _ us hl => match us, hl with | [_, _, _], _ => rfl) (fun _ => rfl) fun cdv A outer s E hr H => ⟨_, pss_cons (ps_set (i := 3) nd rfl (Or.inl rfl) (pe_lst pa_nil))
    (pss_cons (ps_for PassesOwn.never rfl (p_zip T (pv 0) (pv 1)) (g_tup T (pgs_cons (pg_name (i := 4) nd rfl (Or.inl rfl)) (pgs_cons (pg_name (i := 5) nd rfl (Or.inr rfl)) pgs_nil)))
      (pss_one (ps_expr (pe_bm PySem.F.plainAttrs_list PySem.F.slot_list_append PySem.F.type_list_append mt_append (pv 3) (pa_cons (e_tuple T (pe_lc (own := [("entry", 6), ("above", 7)]) (g := gTup K 2 (gCons (gName 6) (gCons (gName 7) gNil))) (tt := tYes) rfl nd
        (p_zip T (pv 4) (pv 2)) (blkOk_by (own := [("entry", 6), ("above", 7)]) (N := nLT) (sc := defScope s_lifted_table) (by decide +kernel))
        (fun _ _ _ _ _ => g_tup T (pgs_cons (pg_name (i := 6) nd rfl (Or.inl rfl)) (pgs_cons (pg_name (i := 7) nd rfl (Or.inl rfl)) pgs_nil))) (fun _ _ _ _ _ => pts_nil) (fun _ _ _ _ _ => pe_op op_add (pe_op op_add (pv 6) (pv 5)) (pv 7)))) pa_nil)))))
    (pss_one (ps_ret (e_tuple T (pv 3))))), ?_⟩
  intro Hk vs Q z hz e hf q
  obtain ⟨n, t, r, c⟩ := z
  obtain ⟨h1, h8⟩ := hz
  have h1 : 1 ≤ n := h1
  have h8 : n ≤ 8 := h8
  obtain ⟨v, v1, v2, rfl, hv, hv1, hv2⟩ := hf.three
  have A0 : At noM H H := At.start
  have ks := kn_start (Hk := Hk) e
  refine y_lst (Hk := Hk) A0 (rs := []) ga_nil (Nat.zero_le _) fun l H2 hl hl0 A2 k2 s2 hL => ?_
  have hM : ins noM l l := .inr rfl
  have hv' := (kTab K n t).mono (ks.trans k2) hv
  have hv1' := (kTI K n r).mono (ks.trans k2) hv1
  have hv2' := (kTI K n c).mono (ks.trans k2) hv2
  refine y_for2 (Hk := Hk) (n := n) (ρ := fun i => kTI K n (t i)) (ρ2 := fun i => kI (r i)) A2 (gi_zipTT (ga_two (ge_var hv' rfl) (ge_var hv1' rfl))) rfl fun H3 e3 A3 => ?_
  refine ⟨fun i σ' H' => ∃ (x4 x5 : Option V), σ' = [some v, some v1, some v2, some (.ref l), x4, x5, none, none] ∧ At (ins noM l) H H' ∧ Same (kn Hk H (ins noM l) H3) (kn Hk H (ins noM l) H') ∧
      Lst l i (fun i => kTI K n fun j => t i j + r i + c j) (kn Hk H (ins noM l) H') H',
    ⟨none, none, rfl, A3, Same.refl _, (hL.mono (kn_fwd (.of e3)) fun o h => e3 _ _ h).conv fun i hi => absurd hi (Nat.not_lt_zero i)⟩, fun i σ' H' _ p => ?_, fun i x y σ' H' H4 hi p e4 hx hy => ?_, fun σ' H' p => ?_⟩
  · obtain ⟨x4, x5, rfl, A', k', _⟩ := p
    exact k'.trans kn_sub
  · obtain ⟨x4, x5, rfl, A', k', hL'⟩ := p
    have A4 := A'.same e4
    have k4 := k'.trans (kn_fwd (Hk := Hk) (H0 := H) (M := ins noM l) (.of e4))
    have hc4 := (kTI K n c).mono ((kn_fwd (.of e3)).trans k4) hv2'
    refine y_app (Hk := Hk) A4 hM (hL'.mono (kn_fwd (.of e4)) fun o h => e4 _ _ h) rfl (ge_cb (ga_one (ge_lc2 (r := fun j => kI (t i j)) (r2 := fun j => kI (c j)) (gi_zipTT (ga_two (ge_var ((kTI K n (t i)).mono k4 hx) rfl) (ge_var hc4 rfl))) rfl (by decide)
      (fun j hj B eB a b ha hb => ge_I0 (ge_I0 (ge_var ha rfl) (ge_var ((kI (r i)).mono (k4.trans eB) hy) rfl)) (ge_var hb rfl)) (by omega))) gc_tuple) (by omega) fun H5 A5 k5 s5 hL5 => ?_
    exact ⟨_, _, rfl, A5, k4.trans k5, hL5⟩
  · obtain ⟨x4, x5, rfl, A', k', hL'⟩ := p
    have sm : Same H H' := A'.chg.same fun a z => by rcases z with z | z; exact z.elim; rw [z]; exact hl0
    exact z_ret (Hk := Hk) (H0 := H) sm (ge_cb (ga_one (ge_var (hL'.out (K := K) hl0) rfl)) gc_tuple) q

/-! ### what the law calls -/
theorem sc_power : FnScope ["table", "count"] ["table", "count"] (defScope s_power) := ⟨rfl, rfl, rfl, by decide +kernel, rfl, by decide +kernel, by decide +kernel⟩
abbrev spPower (K : PySem.W.Frag) : Sp := spF (α := Nat × (Nat → Nat → Int) × Nat) (fun z => 1 ≤ z.1 ∧ z.1 ≤ 8 ∧ 1 ≤ z.2.2 ∧ z.2.2 ≤ 1000) (fun z => [kTab K z.1 z.2.1, kI z.2.2]) (fun z => kTab K z.1 (pw z.1 z.2.1 z.2.2))
theorem ok_power (T : Bl K mg) (F : FnP K "power" s_power f fd) (g : mg "power" = some (.ref f)) (d1 : Df P w K mg base "need_square" ["table"] 5 (spTabNeed K)) (d2 : Df P w K mg base "need_number" ["number", "least", "most"] 3 spNeed3) (d3 : Df P w K mg base "power_of" ["table", "count"] 3 (spPowerOf K)) :
    Df P w K mg base "power" ["table", "count"] 6 (spPower K) := by
  obtain ⟨tp, hp⟩ := T.power
  refine df_sp F g sc_power (F.bindsN fun _ _ _ _ _ _ us hl => match us, hl with | [_, _], _ => rfl) (fun _ => rfl) fun cdv A outer s E hr H => ⟨_, pss_cons (ps_expr (e_df d1 hr (pa_cons (pv 0) pa_nil))) (pss_cons (ps_expr (e_df d2 hr (pa_cons (pv 1) (pa_cons pe_int (pa_cons (pe_glob (v := .int (10 ^ 18)) (by rfl) hp ⟨_, rfl⟩) pa_nil)))))
    (pss_one (ps_ret (e_df d3 hr (pa_cons (pv 0) (pa_cons (pv 1) pa_nil)))))), ?_⟩
  intro Hk vs Q z hz e hf q
  obtain ⟨n, t, c⟩ := z
  obtain ⟨h1, h8, hc, hcm⟩ := hz
  have h1 : 1 ≤ n := h1
  have h8 : n ≤ 8 := h8
  have hc : 1 ≤ c := hc
  have hcm : c ≤ 1000 := hcm
  obtain ⟨v, v1, rfl, hv, hv1⟩ := hf.two
  have hv0 := z_start e hv
  cases hv1
  refine z_drop (Hk := Hk) (H0 := H) (Same.refl H) (ge_call (n, t) ⟨h1, h8⟩ (ga_one (ge_var hv0 rfl))) fun H1 e1 b1 => ?_
  refine z_drop (Hk := Hk) b1 (ge_call ((c : Int), 1, 10 ^ 18) ⟨by show (1 : Int) ≤ (c : Int); omega, by show (c : Int) ≤ 10 ^ 18; omega⟩ (ga_cons (ge_var (r := kI (c : Int)) rfl rfl) (ga_two ge_c ge_c))) fun H2 e2 b2 => ?_
  refine z_ret (Hk := Hk) b2 ?_ q
  exact ge_call (n, t, c) ⟨h1, h8, hc⟩ (ga_two (ge_var (Rp.up (e1.trans e2) hv0) rfl) (ge_var (r := kI (c : Int)) rfl rfl))

theorem sc_way : FnScope ["table", "place", "other", "count"] ["table", "place", "other", "count"] (defScope s_way) := ⟨rfl, rfl, rfl, by decide +kernel, rfl, by decide +kernel, by decide +kernel⟩
theorem ok_way (T : Bl K mg) (F : FnP K "way" s_way f fd) (g : mg "way" = some (.ref f)) (d1 : Df P w K mg base "need_square" ["table"] 5 (spTabNeed K)) (d2 : Df P w K mg base "need_index" ["index", "count"] 3 spNeed2) (d3 : Df P w K mg base "need_number" ["number", "least", "most"] 3 spNeed3)
    (d4 : Df P w K mg base "first_way" ["table", "place", "goal", "count"] 4 (spFirstWay K)) : Df P w K mg base "way" ["table", "place", "other", "count"] 6 (spFirstWay K) := by
  obtain ⟨tp, hp⟩ := T.steps
  refine df_sp F g sc_way (F.bindsN fun _ _ _ _ _ _ us hl => match us, hl with | [_, _, _, _], _ => rfl) (fun _ => rfl) fun cdv A outer s E hr H => ⟨_, pss_cons (ps_expr (e_df d1 hr (pa_cons (pv 0) pa_nil))) (pss_cons (ps_expr (e_df d2 hr (pa_cons (pv 1) (pa_cons (e_len T (pv 0)) pa_nil))))
    (pss_cons (ps_expr (e_df d2 hr (pa_cons (pv 2) (pa_cons (e_len T (pv 0)) pa_nil)))) (pss_cons (ps_expr (e_df d3 hr (pa_cons (pv 3) (pa_cons pe_int (pa_cons (pe_glob (v := .int 60) (by rfl) hp ⟨_, rfl⟩) pa_nil)))))
    (pss_one (ps_ret (e_df d4 hr (pa_cons (pv 0) (pa_cons (pv 1) (pa_cons (pv 2) (pa_cons (pv 3) pa_nil)))))))))), ?_⟩
  intro Hk vs Q z hz e hf q
  obtain ⟨n, t, pl, gl, c⟩ := z
  have hz0 := hz
  obtain ⟨h1, h8, hpl, hgl, hc, hcm⟩ := hz
  have h1 : 1 ≤ n := h1
  have h8 : n ≤ 8 := h8
  have hpl : pl < n := hpl
  have hgl : gl < n := hgl
  have hc : 1 ≤ c := hc
  have hcm : c ≤ 60 := hcm
  obtain ⟨v, v1, v2, v3, rfl, hv, hv1, hv2, hv3⟩ := hf.four
  have hv0 := z_start e hv
  cases hv1
  cases hv2
  cases hv3
  refine z_drop (Hk := Hk) (H0 := H) (Same.refl H) (ge_call (n, t) ⟨h1, h8⟩ (ga_one (ge_var hv0 rfl))) fun H1 e1 b1 => ?_
  refine z_drop (Hk := Hk) b1 (ge_call ((pl : Int), (n : Int)) ⟨by show (0 : Int) ≤ (pl : Int); omega, by show (pl : Int) < (n : Int); omega⟩ (ga_two (ge_var (r := kI (pl : Int)) rfl rfl) (ge_cb (ga_one (ge_var (Rp.up e1 hv0) rfl)) gc_lenT))) fun H2 e2 b2 => ?_
  refine z_drop (Hk := Hk) b2 (ge_call ((gl : Int), (n : Int)) ⟨by show (0 : Int) ≤ (gl : Int); omega, by show (gl : Int) < (n : Int); omega⟩ (ga_two (ge_var (r := kI (gl : Int)) rfl rfl) (ge_cb (ga_one (ge_var (Rp.up (e1.trans e2) hv0) rfl)) gc_lenT))) fun H3 e3 b3 => ?_
  refine z_drop (Hk := Hk) b3 (ge_call ((c : Int), 1, 60) ⟨by show (1 : Int) ≤ (c : Int); omega, by show (c : Int) ≤ 60; omega⟩ (ga_cons (ge_var (r := kI (c : Int)) rfl rfl) (ga_two ge_c ge_c))) fun H4 e4 b4 => ?_
  refine z_ret (Hk := Hk) b4 ?_ q
  exact ge_call (n, t, pl, gl, c) hz0 (ga_cons (ge_var (Rp.up (((e1.trans e2).trans e3).trans e4) hv0) rfl) (ga_cons (ge_var (r := kI (pl : Int)) rfl rfl) (ga_two (ge_var (r := kI (gl : Int)) rfl rfl) (ge_var (r := kI (c : Int)) rfl rfl))))

abbrev spIsWay (K : PySem.W.Frag) : Sp := spF (α := Nat × (Nat → Nat → Int) × Nat × (Nat → Nat)) (fun z => 1 ≤ z.1 ∧ z.1 ≤ 8 ∧ 1 ≤ z.2.2.1 ∧ z.2.2.1 ≤ 60 ∧ ∀ i, i ≤ z.2.2.1 → z.2.2.2 i < z.1) (fun z => [kTab K z.1 z.2.1, kTI K (z.2.2.1 + 1) fun i => (z.2.2.2 i : Int)]) (fun _ => kB true)
theorem sc_is_way : FnScope ["table", "thing", "place"] ["table", "thing"] (defScope s_is_way) := ⟨rfl, rfl, rfl, by decide +kernel, rfl, by decide +kernel, by decide +kernel⟩
theorem ok_is_way (T : Bl K mg) (F : FnP K "is_way" s_is_way f fd) (g : mg "is_way" = some (.ref f)) (d1 : Df P w K mg base "is_integer" ["thing"] 1 spIsInteger) : Df P w K mg base "is_way" ["table", "thing"] 2 (spIsWay K) := by
  have nd := sc_is_way.nd
  obtain ⟨tp, hp⟩ := T.steps
  refine df_sp F g sc_is_way (F.bindsN fun _ _ _ _ _ _ us hl => match us, hl with | [_, _], _ => rfl) (fun _ => rfl) fun cdv A outer s E hr H => ⟨_, pss_cons (ps_if (PW.pt (pw_or (pt_not (pt_val (e_isi T (pv 1) boot_tuple T.tuple))) (pw_or1 (pt_not (pt_chain op_le op_le pe_int (e_len T (pv 1)) (pe_op op_add (pe_glob (v := .int 60) (by rfl) hp ⟨_, rfl⟩) pe_int)))))) (pss_one ps_never) pss_nil)
    (pss_one (ps_ret (e_all T (pe_lc (own := [("place", 2)]) (g := gName 2) (tt := tYes) rfl nd (p_tup T (pv 1)) (blkOk_by (own := [("place", 2)]) (N := ["table", "thing", "place"]) (sc := defScope s_is_way) (by decide +kernel))
      (fun _ _ _ _ _ => pg_name (i := 2) nd rfl (Or.inl rfl)) (fun _ _ _ _ _ => pts_nil) (fun _ _ _ _ _ => pe_and (e_df d1 hr (pa_cons (pv 2) pa_nil)) (pe_one (pe_chain op_le op_lt pe_int (pv 2) (e_len T (pv 0))))))))), ?_⟩
  intro Hk vs Q z hz e hf q
  obtain ⟨n, t, m, π⟩ := z
  obtain ⟨h1, h8, hm, hm6, hπ⟩ := hz
  have h1 : 1 ≤ n := h1
  have h8 : n ≤ 8 := h8
  have hm : 1 ≤ m := hm
  have hm6 : m ≤ 60 := hm6
  have hπ : ∀ i, i ≤ m → π i < n := hπ
  obtain ⟨v, v1, rfl, hv, hv1⟩ := hf.two
  have hv0 := z_start e hv
  have hv10 := z_start e hv1
  refine z_skip (Hk := Hk) (H0 := H) (Same.refl H) (gt_or (k := false) (l := false) ?_ (fun _ => ?_)) fun H1 e1 b1 => ?_
  · exact gt_not (k := true) (gt_B (ge_cb (ga_two (ge_var hv10 rfl) ge_c) gc_isTup))
  · exact (gt_not (gt_test (ge_chainI (p := fun i j => decide (i ≤ j)) (p' := fun i j => decide (i ≤ j)) ge_c (ge_cb (ga_one (ge_var hv10 rfl)) gc_lenT) (ge_I0 (g := fun i j => .int (i + j)) ge_c ge_c)))).to (by
      show (!(decide ((2 : Int) ≤ ((m + 1 : Nat) : Int)) && decide (((m + 1 : Nat) : Int) ≤ 60 + 1))) = false
      rw [decide_eq_true (show (2 : Int) ≤ ((m + 1 : Nat) : Int) by omega), decide_eq_true (show ((m + 1 : Nat) : Int) ≤ 60 + 1 by omega)] <;> rfl)
  · refine z_ret (Hk := Hk) b1 ?_ q
    exact ge_cb (ga_one (ge_lc (n := m + 1) (gi_tup (ge_var (Rp.up e1 hv10) rfl)) (fun i hi B eB x hx => ((ge_andV (ge_call (π i : Int) trivial (ga_one (ge_var hx rfl))) fun _ => ge_chainI (p := fun i j => decide (i ≤ j)) (p' := fun i j => decide (i < j)) ge_c (ge_var hx rfl) (ge_cb (ga_one (ge_var ((kTab K n t).mono eB (Rp.up e1 hv0)) rfl)) gc_lenT)).bool (j := true) (by
      have hp := hπ i (by omega)
      show (true && (decide ((0 : Int) ≤ (π i : Int)) && decide ((π i : Int) < (n : Int)))) = true
      rw [decide_eq_true (show (0 : Int) ≤ (π i : Int) by omega), decide_eq_true (show (π i : Int) < (n : Int) by omega)] <;> rfl))) (by omega))) gc_all

abbrev spWayCost (K : PySem.W.Frag) : Sp := spF (α := Nat × (Nat → Nat → Int) × Nat × (Nat → Nat)) (fun z => 1 ≤ z.1 ∧ z.1 ≤ 8 ∧ 1 ≤ z.2.2.1 ∧ z.2.2.1 ≤ 60 ∧ ∀ i, i ≤ z.2.2.1 → z.2.2.2 i < z.1) (fun z => [kTab K z.1 z.2.1, kTI K (z.2.2.1 + 1) fun i => (z.2.2.2 i : Int)]) (fun z => kI (ps z.2.1 z.2.2.2 z.2.2.1))
theorem sc_way_cost : FnScope ["table", "way"] ["table", "way"] (defScope s_way_cost) := ⟨rfl, rfl, rfl, by decide +kernel, rfl, by decide +kernel, by decide +kernel⟩
theorem ok_way_cost (T : Bl K mg) (F : FnP K "way_cost" s_way_cost f fd) (g : mg "way_cost" = some (.ref f)) (d1 : Df P w K mg base "need_square" ["table"] 5 (spTabNeed K)) (d2 : Df P w K mg base "is_way" ["table", "thing"] 2 (spIsWay K)) (d3 : Df P w K mg base "steps_sum" ["table", "way"] 1 (spStepsSum K)) :
    Df P w K mg base "way_cost" ["table", "way"] 6 (spWayCost K) := by
  refine df_sp F g sc_way_cost (F.bindsN fun _ _ _ _ _ _ us hl => match us, hl with | [_, _], _ => rfl) (fun _ => rfl) fun cdv A outer s E hr H => ⟨_, pss_cons (ps_expr (e_df d1 hr (pa_cons (pv 0) pa_nil))) (pss_cons (ps_if (pt_not (pt_val (e_df d2 hr (pa_cons (pv 0) (pa_cons (pv 1) pa_nil))))) (pss_one ps_never) pss_nil)
    (pss_one (ps_ret (e_df d3 hr (pa_cons (pv 0) (pa_cons (pv 1) pa_nil)))))), ?_⟩
  intro Hk vs Q z hz e hf q
  obtain ⟨n, t, m, π⟩ := z
  have hz0 := hz
  obtain ⟨h1, h8, hm, hm6, hπ⟩ := hz
  have hm6 : m ≤ 60 := hm6
  obtain ⟨v, v1, rfl, hv, hv1⟩ := hf.two
  have hv0 := z_start e hv
  have hv10 := z_start e hv1
  refine z_drop (Hk := Hk) (H0 := H) (Same.refl H) (ge_call (n, t) ⟨h1, h8⟩ (ga_one (ge_var hv0 rfl))) fun H1 e1 b1 => ?_
  refine z_skip (Hk := Hk) b1 (gt_not (k := true) (gt_B (ge_call (n, t, m, π) hz0 (ga_two (ge_var (Rp.up e1 hv0) rfl) (ge_var (Rp.up e1 hv10) rfl))))) fun H2 e2 b2 => ?_
  refine z_ret (Hk := Hk) b2 ?_ q
  exact ge_call (n, t, m, π) ⟨h1, h8, by show m ≤ 1000; omega, hπ⟩ (ga_two (ge_var (Rp.up (e1.trans e2) hv0) rfl) (ge_var (Rp.up (e1.trans e2) hv10) rfl))

theorem sc_least_round : FnScope ["table"] ["table"] (defScope s_least_round) := ⟨rfl, rfl, rfl, by decide +kernel, rfl, by decide +kernel, by decide +kernel⟩
theorem ok_least_round (T : Bl K mg) (F : FnP K "least_round" s_least_round f fd) (g : mg "least_round" = some (.ref f)) (d1 : Df P w K mg base "need_square" ["table"] 5 (spTabNeed K)) (d2 : Df P w K mg base "least_mean" ["table"] 4 (spLeastMean K)) : Df P w K mg base "least_round" ["table"] 6 (spLeastMean K) := by
  refine df_sp F g sc_least_round (F.bindsN fun _ _ _ _ _ _ us hl => match us, hl with | [_], _ => rfl) (fun _ => rfl) fun cdv A outer s E hr H => ⟨_, pss_cons (ps_expr (e_df d1 hr (pa_cons (pv 0) pa_nil))) (pss_one (ps_ret (e_df d2 hr (pa_cons (pv 0) pa_nil)))), ?_⟩
  intro Hk vs Q z hz e hf q
  obtain ⟨v, rfl, hv⟩ := hf.one
  have hv0 := z_start e hv
  refine z_drop (Hk := Hk) (H0 := H) (Same.refl H) (ge_call z hz (ga_one (ge_var hv0 rfl))) fun H1 e1 b1 => ?_
  refine z_ret (Hk := Hk) b1 ?_ q
  exact ge_call z hz (ga_one (ge_var (Rp.up e1 hv0) rfl))

theorem sc_lifted : FnScope ["table", "rows", "columns"] ["table", "rows", "columns"] (defScope s_lifted) := ⟨rfl, rfl, rfl, by decide +kernel, rfl, by decide +kernel, by decide +kernel⟩
theorem ok_lifted (T : Bl K mg) (F : FnP K "lifted" s_lifted f fd) (g : mg "lifted" = some (.ref f)) (d1 : Df P w K mg base "need_table" ["table"] 4 (spTabNeed K)) (d2 : Df P w K mg base "need_numbers" ["numbers", "many"] 3 (spNeedNumbers K)) (d3 : Df P w K mg base "width" ["table"] 1 (spWidth K))
    (d4 : Df P w K mg base "lifted_table" ["table", "rows", "columns"] 1 (spLifted K)) : Df P w K mg base "lifted" ["table", "rows", "columns"] 5 (spLifted K) := by
  refine df_sp F g sc_lifted (F.bindsN fun _ _ _ _ _ _ us hl => match us, hl with | [_, _, _], _ => rfl) (fun _ => rfl) fun cdv A outer s E hr H => ⟨_, pss_cons (ps_expr (e_df d1 hr (pa_cons (pv 0) pa_nil))) (pss_cons (ps_expr (e_df d2 hr (pa_cons (pv 1) (pa_cons (e_len T (pv 0)) pa_nil))))
    (pss_cons (ps_expr (e_df d2 hr (pa_cons (pv 2) (pa_cons (e_df d3 hr (pa_cons (pv 0) pa_nil)) pa_nil)))) (pss_one (ps_ret (e_df d4 hr (pa_cons (pv 0) (pa_cons (pv 1) (pa_cons (pv 2) pa_nil)))))))), ?_⟩
  intro Hk vs Q z hz e hf q
  obtain ⟨n, t, r, c⟩ := z
  obtain ⟨h1, h8⟩ := hz
  have h1 : 1 ≤ n := h1
  have h8 : n ≤ 8 := h8
  obtain ⟨v, v1, v2, rfl, hv, hv1, hv2⟩ := hf.three
  have hv0 := z_start e hv
  have hv10 := z_start e hv1
  have hv20 := z_start e hv2
  refine z_drop (Hk := Hk) (H0 := H) (Same.refl H) (ge_call (n, t) ⟨h1, h8⟩ (ga_one (ge_var hv0 rfl))) fun H1 e1 b1 => ?_
  refine z_drop (Hk := Hk) b1 (ge_call (n, r) (by show n ≤ 1000; omega) (ga_two (ge_var (Rp.up e1 hv10) rfl) (ge_cb (ga_one (ge_var (Rp.up e1 hv0) rfl)) gc_lenT))) fun H2 e2 b2 => ?_
  refine z_drop (Hk := Hk) b2 (ge_call (n, c) (by show n ≤ 1000; omega) (ga_two (ge_var (Rp.up (e1.trans e2) hv20) rfl) (ge_call (n, t) ⟨h1, h8⟩ (ga_one (ge_var (Rp.up (e1.trans e2) hv0) rfl))))) fun H3 e3 b3 => ?_
  refine z_ret (Hk := Hk) b3 ?_ q
  exact ge_call (n, t, r, c) ⟨h1, h8⟩ (ga_cons (ge_var (Rp.up ((e1.trans e2).trans e3) hv0) rfl) (ga_two (ge_var (Rp.up ((e1.trans e2).trans e3) hv10) rfl) (ge_var (Rp.up ((e1.trans e2).trans e3) hv20) rfl)))

theorem sc_scaled : FnScope ["table", "times"] ["table", "times"] (defScope s_scaled) := ⟨rfl, rfl, rfl, by decide +kernel, rfl, by decide +kernel, by decide +kernel⟩
theorem ok_scaled (T : Bl K mg) (F : FnP K "scaled" s_scaled f fd) (g : mg "scaled" = some (.ref f)) (d1 : Df P w K mg base "need_table" ["table"] 4 (spTabNeed K)) (d2 : Df P w K mg base "need_number" ["number", "least", "most"] 3 spNeed3) (d3 : Df P w K mg base "scaled_table" ["table", "times"] 1 (spScaled K)) :
    Df P w K mg base "scaled" ["table", "times"] 5 (spScaled K) := by
  obtain ⟨tp, hp⟩ := T.times
  refine df_sp F g sc_scaled (F.bindsN fun _ _ _ _ _ _ us hl => match us, hl with | [_, _], _ => rfl) (fun _ => rfl) fun cdv A outer s E hr H => ⟨_, pss_cons (ps_expr (e_df d1 hr (pa_cons (pv 0) pa_nil))) (pss_cons (ps_expr (e_df d2 hr (pa_cons (pv 1) (pa_cons pe_int (pa_cons (pe_glob (v := .int (10 ^ 9)) (by rfl) hp ⟨_, rfl⟩) pa_nil)))))
    (pss_one (ps_ret (e_df d3 hr (pa_cons (pv 0) (pa_cons (pv 1) pa_nil)))))), ?_⟩
  intro Hk vs Q z hz e hf q
  obtain ⟨n, t, a⟩ := z
  have hz0 := hz
  obtain ⟨h1, h8, ha, ha9⟩ := hz
  obtain ⟨v, v1, rfl, hv, hv1⟩ := hf.two
  have hv0 := z_start e hv
  have hv10 := z_start e hv1
  refine z_drop (Hk := Hk) (H0 := H) (Same.refl H) (ge_call (n, t) ⟨h1, h8⟩ (ga_one (ge_var hv0 rfl))) fun H1 e1 b1 => ?_
  refine z_drop (Hk := Hk) b1 (ge_call (a, 0, 10 ^ 9) ⟨ha, ha9⟩ (ga_cons (ge_var (Rp.up e1 hv10) rfl) (ga_two ge_c ge_c))) fun H2 e2 b2 => ?_
  refine z_ret (Hk := Hk) b2 ?_ q
  exact ge_call (n, t, a) hz0 (ga_two (ge_var (Rp.up (e1.trans e2) hv0) rfl) (ge_var (Rp.up (e1.trans e2) hv10) rfl))

theorem sc_turned : FnScope ["table"] ["table"] (defScope s_turned) := ⟨rfl, rfl, rfl, by decide +kernel, rfl, by decide +kernel, by decide +kernel⟩
theorem ok_turned (T : Bl K mg) (F : FnP K "turned" s_turned f fd) (g : mg "turned" = some (.ref f)) (d1 : Df P w K mg base "need_table" ["table"] 4 (spTabNeed K)) (d2 : Df P w K mg base "turned_table" ["table"] 2 (spTurned K)) : Df P w K mg base "turned" ["table"] 5 (spTurned K) := by
  refine df_sp F g sc_turned (F.bindsN fun _ _ _ _ _ _ us hl => match us, hl with | [_], _ => rfl) (fun _ => rfl) fun cdv A outer s E hr H => ⟨_, pss_cons (ps_expr (e_df d1 hr (pa_cons (pv 0) pa_nil))) (pss_one (ps_ret (e_df d2 hr (pa_cons (pv 0) pa_nil)))), ?_⟩
  intro Hk vs Q z hz e hf q
  obtain ⟨v, rfl, hv⟩ := hf.one
  have hv0 := z_start e hv
  refine z_drop (Hk := Hk) (H0 := H) (Same.refl H) (ge_call z hz (ga_one (ge_var hv0 rfl))) fun H1 e1 b1 => ?_
  refine z_ret (Hk := Hk) b1 ?_ q
  exact ge_call z hz (ga_one (ge_var (Rp.up e1 hv0) rfl))
end
end K38
end
section
set_option Elab.async false
set_option linter.all false
set_option maxRecDepth 100000
set_option maxHeartbeats 4000000
/-! K38F: draws out of a feed, a list that changes. -/
namespace K38
open PySem PySem.Spec PyProof.Rows L2

/-- a feed at p, at most c times stirred -/
def FeedAt (p : Addr) (c : Nat) (H : Hp) : Prop := ∃ f0 f1 f2 : Int, H p = some (.lst [.int f0, .int f1, .int f2]) ∧ f1.natAbs < 2 ^ 140 ∧ 0 ≤ f2 ∧ f2 ≤ (c : Int)
theorem FeedAt.mono {p : Addr} {c c' : Nat} {H H' : Hp} (h : FeedAt p c H) (hc : c ≤ c') (e : ∀ o, H p = some o → H' p = some o) : FeedAt p c' H' := by
  obtain ⟨a, b, d, h1, h2, h3, h4⟩ := h
  exact ⟨a, b, d, e _ h1, h2, h3, by omega⟩
theorem FeedAt.ne {p : Addr} {c : Nat} {H : Hp} (h : FeedAt p c H) : H p ≠ none := by
  obtain ⟨a, b, d, h1, _⟩ := h
  exact ne_none h1
abbrev is (p : Addr) : Addr → Prop := fun a => a = p
/-- a def that draws: the feed, then such arguments; so many draws at most; such a result -/
def spD {α : Type} (pre : α → Prop) (args : α → List Rp) (cost : α → Nat) (res : α → Rp) : Sp := fun vs H Q _ => ∃ p ws x Hk c, vs = V.ref p :: ws ∧ pre x ∧ Same Hk H ∧ Hk p = none ∧ FeedAt p c H ∧ c + cost x ≤ 1000000 ∧ Fits Hk ws (args x) ∧
  ∀ v H', Chg (is p) H H' → FeedAt p (c + cost x) H' → (res x).p v (kn Hk H (is p) H') → Q v H'
section
variable {K : PySem.W.Frag} {M : Addr → Prop} {Hk H0 H H1 H2 : Hp} {p : Addr} {c k k1 k2 : Nat} {σ : L2.St} {te ta tb : TE} {tt : TT} {r a b d : Rp} {rs : List Rp} {D : Ends} {ts tu : TS} {n : Nat} {ρ q : Nat → Rp}
/-- an expression that draws at most k times -/
def GD (M : Addr → Prop) (Hk H0 H : Hp) (p : Addr) (c k : Nat) (te : TE) (σ : L2.St) (r : Rp) : Prop := ∀ H1, Chg M H H1 → FeedAt p c H1 → ∀ Q : VK, (∀ v H2, Chg (is p) H1 H2 → FeedAt p (c + k) H2 → r.p v (kn Hk H0 M H2) → Q v H2) → te σ H1 Q
def GDT (M : Addr → Prop) (H : Hp) (p : Addr) (c k : Nat) (tt : TT) (σ : L2.St) : Prop := ∀ H1, Chg M H H1 → FeedAt p c H1 → ∀ Q : Bool → Hp → Prop, (∀ b H2, Chg (is p) H1 H2 → FeedAt p (c + k) H2 → Q b H2) → tt σ H1 Q
theorem is_sub (hM : M p) : ∀ a, is p a → M a := fun a h => by rw [show a = p from h]; exact hM
theorem gd_of (A : At M H0 H) (hM : M p) (h : GE te σ (kn Hk H0 M H) r) : GD M Hk H0 H p c 0 te σ r := fun H1 ch hf Q k =>
  h H1 ((kn_fwd ch).trans kn_sub) Q fun v H2 e2 pv => k v H2 (.of e2) (hf.mono (by omega) fun o h => e2 _ _ h) (r.mono ((nu_mono (kn_fwd ch)).trans (kn_step (A.step ch) e2)) pv)
theorem GD.weak (h : GD M Hk H0 H p c k te σ r) (hk : k ≤ k1) : GD M Hk H0 H p c k1 te σ r := fun H1 ch hf Q q => h H1 ch hf Q fun v H2 c2 f2 pv => q v H2 c2 (f2.mono (by omega) fun o h => h) pv
theorem GD.conv (h : GD M Hk H0 H p c k te σ r) (hc : ∀ v B, r.p v B → a.p v B) : GD M Hk H0 H p c k te σ a := fun H1 ch hf Q q => h H1 ch hf Q fun v H2 c2 f2 pv => q v H2 c2 f2 (hc v _ pv)
theorem gd_op {o : R2} (A : At M H0 H) (hM : M p) (ha : GD M Hk H0 H p c k1 ta σ a) (hb : GD M Hk H0 H p (c + k1) k2 tb σ b) (hr : GR o a b d) : GD M Hk H0 H p c (k1 + k2) (tOp o ta tb) σ d := fun H1 ch hf Q q =>
  ha H1 ch hf _ fun x H2 c2 f2 px => hb H2 (ch.trans (c2.mono (is_sub hM))) f2 _ fun y H3 c3 f3 py => by
    have A3 : At M H0 H3 := A.step (ch.trans ((c2.trans c3).mono (is_sub hM)))
    exact hr x y (kn Hk H0 M H3) H3 kn_sub (a.mono (kn_fwd (c3.mono (is_sub hM))) px) py Q fun v H4 e4 pv => q v H4 ((c2.trans c3).trans (.of e4)) (f3.mono (by omega) fun o h => e4 _ _ h) (d.mono (kn_step A3 e4) pv)
theorem gd_call {α : Type} {pre : α → Prop} {args : α → List Rp} {cost : α → Nat} {res : α → Rp} {E : XK} {i : Nat} {ta : TA} (A : At M H0 H) (hM : M p) (hσ : σ[i]? = some (some (V.ref p))) (x : α) (hp : pre x) (h : GA ta σ (kn Hk H0 M H) (args x)) (hc : c + cost x ≤ 1000000) :
    GD M Hk H0 H p c (cost x) (tCall (spD pre args cost res) [] E (tCons (tVar i) ta)) σ (res x) := fun H1 ch hf Q q =>
  ⟨.ref p, hσ, h H1 ((kn_fwd ch).trans kn_sub) _ fun vs H2 e2 pv => by
    have A1 := A.step ch
    have A2 := A1.same e2
    refine ⟨p, vs, x, kn Hk H0 M H2, c, by rw [List.append_nil], hp, kn_sub, ?_, hf.mono (Nat.le_refl c) fun o h => e2 _ _ h, hc, pv.mono ((nu_mono (kn_fwd ch)).trans (kn_step A1 e2)), fun v H3 c3 f3 pv3 => q v H3 ((Chg.of e2).trans c3) f3 ((res x).mono (fun a o ha => ?_) pv3)⟩
    · unfold kn
      rw [if_pos hM]
    · obtain ⟨n1, h1⟩ := kn_of ha
      obtain ⟨d1, h3⟩ := nu_of h1
      have key : ¬ M a ∧ (Hk a ≠ none ∨ H0 a = none) := by
        rcases d1 with d1 | d1
        · cases z : kn Hk H0 M H2 a with
          | none => exact absurd z d1
          | some u => exact ⟨(kn_of z).1, (nu_of (kn_of z).2).1⟩
        · refine ⟨fun z => A2.live a z d1, .inr ?_⟩
          cases z : H0 a with
          | none => rfl
          | some u => exact absurd d1 (A2.chg.dom a (ne_none z))
      rw [kn_in key.1, nu_in key.2]
      exact h3⟩
theorem gdt_test (h : GD M Hk H0 H p c k te σ (kEx (fun _ : Bool => True) kB)) : GDT M H p c k (tTest te) σ := fun H1 ch hf Q q => h H1 ch hf _ fun v H2 c2 f2 pv => by
  obtain ⟨b, _, rfl⟩ := pv
  exact ⟨b, rfl, q b H2 c2 f2⟩
theorem gd_if {k3 : Nat} (hM : M p) (h : GDT M H p c k1 tt σ) (ha : GD M Hk H0 H p (c + k1) k2 ta σ r) (hb : GD M Hk H0 H p (c + k1) k3 tb σ r) (hk : k1 + k2 ≤ k) (hk3 : k1 + k3 ≤ k) : GD M Hk H0 H p c k (tIf tt ta tb) σ r := fun H1 ch hf Q q =>
  h H1 ch hf _ fun b H2 c2 f2 => by
    cases b with
    | true => exact ha H2 (ch.trans (c2.mono (is_sub hM))) f2 Q fun v H3 c3 f3 pv => q v H3 (c2.trans c3) (f3.mono (by omega) fun o h => h) pv
    | false => exact hb H2 (ch.trans (c2.mono (is_sub hM))) f2 Q fun v H3 c3 f3 pv => q v H3 (c2.trans c3) (f3.mono (by omega) fun o h => h) pv
/-- a comparison with an int: some truth -/
theorem gr_any {P P' : Int → Prop} {g : Int → Int → Bool} : GR (rI0 fun i j => .bl (g i j)) (kEx P kI) (kEx P' kI) (kEx (fun _ : Bool => True) kB) := fun x y Hx H1 e hx hy Q q => by
  obtain ⟨i, _, rfl⟩ := hx
  obtain ⟨j, _, rfl⟩ := hy
  exact ⟨i, j, rfl, rfl, q _ H1 (Same.refl H1) ⟨_, trivial, rfl⟩⟩
/-- sums and the like of ints of which something holds -/
theorem gr_ex {P P' R : Int → Prop} {g : Int → Int → Int} (h : ∀ i j, P i → P' j → R (g i j)) : GR (rI0 fun i j => .int (g i j)) (kEx P kI) (kEx P' kI) (kEx R kI) := fun x y Hx H1 e hx hy Q q => by
  obtain ⟨i, hi, rfl⟩ := hx
  obtain ⟨j, hj, rfl⟩ := hy
  exact ⟨i, j, rfl, rfl, q _ H1 (Same.refl H1) ⟨_, h i j hi hj, rfl⟩⟩
theorem gr_exC {C : Int → Int → Prop} {P P' R : Int → Prop} {g : Int → Int → Int} (h : ∀ i j, P i → P' j → C i j ∧ R (g i j)) : GR (rI C fun i j => .int (g i j)) (kEx P kI) (kEx P' kI) (kEx R kI) := fun x y Hx H1 e hx hy Q q => by
  obtain ⟨i, hi, rfl⟩ := hx
  obtain ⟨j, hj, rfl⟩ := hy
  exact ⟨i, j, rfl, rfl, (h i j hi hj).1, q _ H1 (Same.refl H1) ⟨_, (h i j hi hj).2, rfl⟩⟩
theorem ge_ex {P : Int → Prop} {i : Int} (h : GE te σ H (kI i)) (hp : P i) : GE te σ H (kEx P kI) := h.conv fun v B _ pv => ⟨i, hp, pv⟩
/-- [e for x in ..], e draws -/
theorem gd_lc {wi : TI} {j : Nat} (A : At M H0 H) (hM : M p) (hi : GI wi σ (kn Hk H0 M H) n ρ)
    (he : ∀ i, i < n → ∀ M' H', M' p → At M' H0 H' → Same (kn Hk H0 M H) (kn Hk H0 M' H') → ∀ x, (ρ i).p x (kn Hk H0 M' H') → GD M' Hk H0 H' p (c + i * k) k te (σ.set j (some x)) (q i)) (hn : n ≤ 1000000) : GD M Hk H0 H p c (n * k) (tLc wi (gName j) tYes te [j]) σ (kL K n q) := fun H1 ch hf Q kk =>
  hi H1 ((kn_fwd ch).trans kn_sub) _ fun J H2 e2 w D hD => by
    have A1 := A.step ch
    have A2 := A1.same e2
    have hMD : ins M D p := .inl hM
    have nD : D ≠ p := fun z => by
      subst z
      exact (hf.mono (Nat.le_refl c) fun o h => e2 _ _ h).ne hD
    have kb : Same (kn Hk H0 M H) (kn Hk H0 (ins M D) (upd H2 D (.lst []))) := ((kn_fwd ch).trans (kn_fwd (.of e2))).trans (kn_new hD)
    have kw : ∀ {Hc : Hp}, Chg (ins M D) (upd H2 D (.lst [])) Hc → Same (nu (kn Hk H0 M H) H1 H2) (kn Hk H0 (ins M D) Hc) := fun cc =>
      (((nu_mono (kn_fwd ch)).trans (kn_step A1 e2)).trans (kn_new hD)).trans (kn_fwd cc)
    refine lc_it w (fun i Hc => Chg (fun a => a = p ∨ a = D) (upd H2 D (.lst [])) Hc ∧ FeedAt p (c + i * k) Hc ∧ Lst D i q (kn Hk H0 (ins M D) Hc) Hc) ⟨.refl, hf.mono (by omega) fun o h => by rw [upd_ne nD.symm]; exact e2 _ _ h, [], upd_same, rfl, fun m x hx => by simp at hx⟩
      (fun i Hc _ pv => (kw (pv.1.mono fun a h => h.elim (fun z => .inl (by rw [z]; exact hM)) .inr)).trans kn_sub) (fun i x Hc H' hlt pv y => ?_) fun Hc pv => ?_
    · obtain ⟨rfl, hx⟩ := y
      obtain ⟨cc, fc, hL⟩ := pv
      have cM : Chg (ins M D) (upd H2 D (.lst [])) H' := cc.mono fun a h => h.elim (fun z => .inl (by rw [z]; exact hM)) .inr
      have A' : At (ins M D) H0 H' := (A2.new hD).step cM
      have ew : wipe ((wipe σ [j]).set j (some x)) [j] = wipe σ [j] := by
        show (((σ.set j none).set j (some x)).set j none) = σ.set j none
        rw [List.set_set, List.set_set]
      refine ⟨ew, ?_⟩
      show te ((σ.set j none).set j (some x)) H' _
      rw [List.set_set]
      refine he i hlt (ins M D) H' hMD A' (kb.trans (kn_fwd cM)) x ((ρ i).mono (kw cM) hx) H' .refl fc _ fun y H4 c4 f4 py => ?_
      obtain ⟨acc, h1, h2, h3⟩ := hL
      have h4 : H4 D = some (.lst acc) := c4.keep D _ nD h1
      have c5 : Chg (ins M D) H' (upd H4 D (.lst (acc ++ [y]))) := (c4.mono (is_sub hMD)).trans (.upd (.inr rfl))
      refine ⟨acc, h4, by rw [h2]; exact Nat.lt_of_lt_of_le (show i < 1000000 by omega) (by decide), (cc.trans (c4.mono fun a h => .inl h)).trans (.upd (.inr rfl)), ?_, ?_⟩
      · have e6 : c + i * k + k = c + (i + 1) * k := by rw [Nat.add_mul, Nat.one_mul]; omega
        rw [← e6]
        exact f4.mono (Nat.le_refl _) fun o h => by rw [upd_ne nD.symm]; exact h
      · exact Lst.snoc h2 (fun m x hx => (q m).mono (kn_fwd c5) (h3 m x hx)) ((q i).mono (kn_fwd (.upd (.inr rfl))) py)
    · obtain ⟨cc, fc, hL⟩ := pv
      have cM : Chg (ins M D) (upd H2 D (.lst [])) Hc := cc.mono fun a h => h.elim (fun z => .inl (by rw [z]; exact hM)) .inr
      have h0 : H0 D = none := by
        cases z : H0 D with
        | none => rfl
        | some u => exact absurd hD (A2.chg.dom D (ne_none z))
      have nM : ¬ M D := fun z => A2.live D z hD
      refine kk _ Hc ⟨fun a o na ha => cc.keep a o (fun z => z.elim na fun z2 => ?_) (Same.new hD a o (e2 a o ha)), fun a ha => cc.dom a (upd_dom ((Chg.of (M := M) e2).dom a ha))⟩ fc (hL.out2 h0 (fun a h => .inl h) nM)
      rw [z2] at ha
      rw [e2 _ _ ha] at hD
      cases hD

/-! ### statements that draw -/
theorem d_set {i : Nat} (A : At M H0 H) (hM : M p) (hf : FeedAt p c H) (h : GD M Hk H0 H p c k te σ r) (kk : ∀ v H1, Chg (is p) H H1 → At M H0 H1 → FeedAt p (c + k) H1 → r.p v (kn Hk H0 M H1) → ts D (σ.set i (some v)) H1) : tSeq (tAsg te (gName i)) ts D σ H :=
  h H .refl hf _ fun v H1 c1 f1 pv => kk v H1 c1 (A.step (c1.mono (is_sub hM))) f1 pv
theorem d_ret (A : At M H0 H) (hM : M p) (hf : FeedAt p c H) (h : GD M Hk H0 H p c k te σ r) (kk : ∀ v H1, Chg (is p) H H1 → At M H0 H1 → FeedAt p (c + k) H1 → r.p v (kn Hk H0 M H1) → D.rt v H1) : tRet te D σ H :=
  h H .refl hf _ fun v H1 c1 f1 pv => kk v H1 c1 (A.step (c1.mono (is_sub hM))) f1 pv
theorem d_app {i : Nat} {l : Addr} (A : At M H0 H) (hM : M p) (hl : M l) (nl : l ≠ p) (hL : Lst l n ρ (kn Hk H0 M H) H) (hσ : σ[i]? = some (some (V.ref l))) (hf : FeedAt p c H) (h : GD M Hk H0 H p c k te σ r) (hz : n < 100000)
    (kk : ∀ v H2, At M H0 H2 → Chg M H H2 → (∀ a o, a ≠ l → a ≠ p → H a = some o → H2 a = some o) → FeedAt p (c + k) H2 → r.p v (kn Hk H0 M H2) →
      (∀ ρ' : Nat → Rp, (∀ i, i < n → ∀ x B, (ρ i).p x B → (ρ' i).p x B) → (ρ' n).p v (kn Hk H0 M H2) → Lst l (n + 1) ρ' (kn Hk H0 M H2) H2) → D.nx σ H2) : tDrop (tBM K "list" rAppend (tVar i) (tCons te tNil)) D σ H := by
  obtain ⟨xs, hx, hlen, hp⟩ := hL
  refine ⟨.ref l, hσ, Or.inl ⟨rfl, xs, .inl (.inl hx)⟩, h H .refl hf _ fun v H1 c1 f1 pv => ?_⟩
  have h1 : H1 l = some (.lst xs) := c1.keep l _ nl hx
  refine ⟨l, xs, v, rfl, rfl, h1, Nat.lt_of_lt_of_le (show xs.length < 100000 by omega) (by decide), ?_⟩
  have ch : Chg M H (upd H1 l (.lst (xs ++ [v]))) := (c1.mono (is_sub hM)).trans (.upd hl)
  refine kk v _ (A.step ch) ch (fun a o n1 n2 ha => by rw [upd_ne n1]; exact c1.keep a o n2 ha) (f1.mono (Nat.le_refl _) fun o h => by rw [upd_ne nl.symm]; exact h) (r.mono (kn_fwd (.upd hl)) pv) fun ρ' hc hv =>
    Lst.snoc hlen (fun m x hx => hc m (by rw [← hlen]; exact (List.getElem?_eq_some_iff.mp hx).1) x _ ((ρ m).mono (kn_fwd ch) (hp m x hx))) hv
end
end K38
end
section
set_option Elab.async false
set_option linter.all false
set_option maxRecDepth 100000
set_option maxHeartbeats 4000000
set_option exponentiation.threshold 2000
/-! K38G1: the feed, a draw, one of some things. -/
namespace K38
open PySem PySem.Spec PyProof.Rows L2
theorem emod_abs {x M : Int} {N : Nat} (h0 : 0 < M) (h : M ≤ (N : Int)) : (x % M).natAbs < N := by
  have a := Int.emod_nonneg x (show M ≠ 0 by omega)
  have b := Int.emod_lt_of_pos x h0
  omega
/-- some int; an int within 0 and below m -/
abbrev kZ : Rp := kEx (fun _ : Int => True) kI
abbrev kB0 (m : Int) : Rp := kEx (fun r : Int => 0 ≤ r ∧ r < m) kI
section
variable {K : PySem.W.Frag} {σ : L2.St} {H : Hp} {te ta tb : TE} {n : Nat}
theorem any_ints : ∀ {xs : List V}, (∀ (i : Nat) x, xs[i]? = some x → ∃ j : Int, x = .int j) → ∃ ns : List Int, xs = ns.map V.int
  | [], _ => ⟨[], rfl⟩
  | x :: r, h => by
    obtain ⟨j, rfl⟩ := h 0 x rfl
    obtain ⟨ns, e⟩ := any_ints (xs := r) fun i y hy => h (i + 1) y (by simpa using hy)
    exact ⟨j :: ns, by rw [e]; rfl⟩
theorem gc_sumZ : GC (rSum K) [kL K n fun _ => kZ] kZ := fun vs H H1 e hf Q q => by
  obtain ⟨v, rfl, a, xs, rfl, hS, hl, hp⟩ := hf.one
  obtain ⟨ns, rfl⟩ := any_ints fun i x hx => by
    obtain ⟨j, _, h⟩ := hp i x hx
    exact ⟨j, h⟩
  exact ⟨a, ns, rfl, sameL e hS, q _ H1 (Same.refl H1) ⟨_, trivial, rfl⟩⟩
theorem cutV_to (xs : List V) (a : Nat) : cutV xs none (some (a : Int)) = xs.take (min a xs.length) := by
  unfold cutV
  rw [HT.sIx_none, HT.sIx_nat]
  simp
/-- xs[:a] -/
theorem ge_cut {ρ : Nat → Rp} {ti : TE} {a : Nat} {z : Int} (h : GE te σ H (kL K n ρ)) (hi : GE ti σ H (kI z)) (hz : z = (a : Int)) : GE (tSl (rSlL K) te tNoPart (tPart ti)) σ H (kL K (min a n) ρ) := fun H1 e Q q => h H1 e _ fun x H2 e2 px => by
  obtain ⟨l, xs, rfl, hS, hl, hp⟩ := px
  refine hi H2 (e.trans e2) _ fun y H3 e3 py => ?_
  cases py
  subst hz
  refine ⟨(a : Int), rfl, l, xs, rfl, sameL (nu_sub.trans e3) hS, fun p hp1 => q _ _ ((e2.trans e3).trans (Same.new hp1)) ⟨p, cutV xs none (some (a : Int)), rfl, .inl (.inl (nu_new (e2.trans e3) hp1)), ?_, fun i x hx => ?_⟩⟩
  · rw [cutV_to, List.length_take, hl]
    omega
  · rw [cutV_to, List.getElem?_take] at hx
    split at hx
    · exact (ρ i).mono (nu_fwd (e3.trans (Same.new hp1))) (hp i x hx)
    · cases hx
theorem ge_pow {b : Int} {x : Nat} (hb : b.natAbs < 2 ^ 64) (hx : x ≤ 1000000) : GE (tOp (rI CPow fun i j => .int (i ^ j.toNat)) (tC (.int b)) (tC (.int (x : Int)))) σ H (kI (b ^ x)) := (ge_I (ge_c (v := .int b)) (ge_c (v := .int (x : Int))) ⟨by omega, by omega, hb⟩ : GE _ σ H (kI (b ^ (x : Int).toNat)))
/-- x % (b ** e + d) -/
theorem ge_modpow {tx : TE} {b d : Int} {x N : Nat} (h : GE tx σ H kZ) (hb : b.natAbs < 2 ^ 64) (hx : x ≤ 1000000) (h0 : 0 < b ^ x + d) (hN : b ^ x + d ≤ (N : Int)) :
    GE (tOp (rI (fun _ j => 0 < j) fun i j => .int (i % j)) tx (tOp (rI0 fun i j => .int (i + j)) (tOp (rI CPow fun i j => .int (i ^ j.toNat)) (tC (.int b)) (tC (.int (x : Int)))) (tC (.int d)))) σ H (kEx (fun r : Int => 0 ≤ r ∧ r.natAbs < N) kI) :=
  ge_op h (ge_I0 (g := fun i j => .int (i + j)) (ge_pow hb hx) ge_c) fun u v Hx H1 e hu hv Q q => by
    obtain ⟨i, _, rfl⟩ := hu
    cases hv
    exact ⟨i, b ^ x + d, rfl, rfl, h0, q _ H1 (Same.refl H1) ⟨i % (b ^ x + d), ⟨Int.emod_nonneg _ (by omega), emod_abs h0 hN⟩, rfl⟩⟩
theorem s_retLst {Hk : Hp} {ta : TA} {rs : List Rp} {D : Ends} (h : GA ta σ Hk rs) (e : Same Hk H) (hz : rs.length ≤ 1000) (k : ∀ vs H1 p, Same H H1 → H1 p = none → Fits (nu Hk H H1) vs rs → D.rt (.ref p) (upd H1 p (.lst vs))) : tRet (tLst ta) D σ H :=
  h H e _ fun vs H1 e1 pv => ⟨Nat.le_of_lt (small1000 (by rw [pv.len]; exact hz)), fun p hp => k vs H1 p e1 hp pv⟩
theorem gc_max2 {P : Int → Prop} {i : Int} : GC (fun xs H Q => ∃ i j, xs = [.int i, .int j] ∧ Q (.int (if j > i then j else i)) H) [kI i, kEx P kI] kZ := fun vs H H1 e hf Q q => by
  obtain ⟨v, w, rfl, hv, hw⟩ := hf.two
  cases hv
  obtain ⟨j, _, rfl⟩ := hw
  exact ⟨i, j, rfl, q _ H1 (Same.refl H1) ⟨_, trivial, rfl⟩⟩
theorem gc_intX {P : Int → Prop} : GC rInt1 [kEx P kI] (kEx P kI) := fun vs H H1 e hf Q q => by
  obtain ⟨v, rfl, i, hi, rfl⟩ := hf.one
  exact .inl ⟨i, rfl, q _ H1 (Same.refl H1) ⟨i, hi, rfl⟩⟩
end
section
variable {P : Program} {w : World} {K : PySem.W.Frag} {mg : Str → Option Value} {base : Heap} {f : Addr} {fd : FuncData}

def spFeed (K : PySem.W.Frag) : Sp := fun vs H Q _ => ∃ (a : Addr) (ns : List Int) (k : Nat), vs = [V.ref a, .int (k : Int)] ∧ SqL K H a (ns.map V.int) ∧ k ≤ 3 ∧ ∀ p H', Same H H' → H p = none → FeedAt p 0 H' → Q (.ref p) H'
abbrev nFD : List Str := ["_law_script", "_law_k", "_law_cell"]
theorem sc_feed : FnScope nFD ["_law_script", "_law_k"] (defScope s_law_feed) := ⟨rfl, rfl, rfl, by decide +kernel, rfl, by decide +kernel, by decide +kernel⟩
theorem ok_feed (T : Bl K mg) (F : FnP K "_law_feed" s_law_feed f fd) (g : mg "_law_feed" = some (.ref f)) : Df P w K mg base "_law_feed" ["_law_script", "_law_k"] 1 (spFeed K) := by
  have nd := sc_feed.nd
  refine df_of F g sc_feed (F.bindsN fun _ _ _ _ _ _ us hl => match us, hl with | [_, _], _ => rfl) (fun vs H Q E h => by
    obtain ⟨a, ns, k, rfl, _⟩ := h
    rfl) fun cdv A outer s H vs Q E hr h => ?_
  obtain ⟨a, ns, k, rfl, hS, hk, q⟩ := h
  refine ⟨_, pss_cons (ps_set (i := 2) nd rfl (Or.inl rfl) (pe_op op_add (pe_op op_mul pe_int (pv 1)) (e_sum T (pe_slice sl_list (pv 0) po_none (po_some pe_int)))))
    (pss_cons (ps_if (pt_cmpR op_lt (pv 1) (e_len T (pv 0)) (nomark _)) (pss_one (ps_set (i := 2) nd rfl (Or.inl rfl) (e_ixL T (pv 0) (pv 1)))) pss_nil)
    (pss_one (ps_ret (pe_lst (pa_cons (pe_callB (call_max2 rfl) (by rfl) T.max PyProof.Rows.boot_max (pa_cons pe_int (pa_cons (pe_op op_sub (pv 2) (pe_op op_pow pe_int pe_int)) pa_nil)))
      (pa_cons (pe_op op_mod (e_int T (pe_op op_add (pe_op op_mul (pv 2) pe_int) (pe_op op_mul pe_int (pv 1)))) (pe_op op_add (pe_op op_pow pe_int pe_int) pe_int)) (pa_cons pe_int pa_nil))))))), ?_⟩
  have hs : (kL K ns.length fun _ => kZ).p (.ref a) H := ⟨a, _, rfl, hS, by simp, fun i x hx => by
    rw [List.getElem?_map] at hx
    cases q : ns[i]? with
    | none => rw [q] at hx; cases hx
    | some j => rw [q] at hx; exact ⟨j, trivial, (Option.some.inj hx).symm⟩⟩
  have hs0 := z_start (Same.refl H) hs
  refine z_set (Hk := H) (H0 := H) (r := kZ) (Same.refl H) ?_ fun c1 H1 e1 b1 hc1 => ?_
  · exact ge_op (ge_I (i := 977) (j := (k : Int)) ge_c (ge_var rfl rfl) (.inl ⟨by decide, by decide⟩)) (ge_cb (ga_one (ge_cut (a := 1) (ge_var hs0 rfl) ge_c rfl)) gc_sumZ) (fun x y Hx H1 e hx hy Q q => by
      cases hx
      obtain ⟨j, _, rfl⟩ := hy
      exact ⟨_, j, rfl, rfl, q _ H1 (Same.refl H1) ⟨_, trivial, rfl⟩⟩)
  refine z_cut (M := fun σ' H' => ∃ c2, σ' = [some (.ref a), some (.int (k : Int)), some c2] ∧ Same H H' ∧ kZ.p c2 (nu H H H')) ?_ (fun hM => ?_)
  · rintro σ' H' ⟨c2, rfl, b2, j, _, rfl⟩
    refine s_retLst (Hk := H') (rs := [kZ, kEx (fun r : Int => 0 ≤ r ∧ r.natAbs < 2 ^ 140) kI, kI 0]) (ga_cons ?_ (ga_two ?_ ge_c)) (Same.refl H') (by show 3 ≤ 1000; decide) fun vs H3 p e3 hp pv => ?_
    · refine ge_cb (ga_two ge_c (ge_op (a := kZ) (b := kZ) (c := kZ) (ge_var (i := 2) ⟨j, trivial, rfl⟩ rfl) (ge_ex (i := (10 : Int) ^ 18) ?_ trivial) (gr_ex (g := fun i j => i - j) fun _ _ _ _ => trivial))) gc_max2
      exact ge_pow (b := 10) (x := 18) (by decide) (by decide)
    · refine ge_modpow (b := 10) (d := 23) (x := 39) (N := 2 ^ 140) ?_ (by decide) (by decide) (by decide +kernel) (by decide +kernel)
      refine ge_cb (ga_one (ge_ex (ge_I0 (g := fun i j => .int (i + j)) (ge_I (C := CMul) (g := fun i j => .int (i * j)) (i := j) (j := 19) (ge_var (i := 2) rfl rfl) ge_c (.inr ⟨by decide, by decide⟩)) (ge_I (C := CMul) (g := fun i j => .int (i * j)) (i := 7) (j := (k : Int)) ge_c (ge_var (i := 1) rfl rfl) (.inl ⟨by decide, by decide⟩))) trivial)) gc_intX
    · obtain ⟨x, y, z, rfl, ⟨f0, _, rfl⟩, ⟨f1, ⟨h0, h1⟩, rfl⟩, hz⟩ := pv.three
      cases hz
      exact q p _ ((b2.trans e3).trans (Same.new hp)) ((b2.trans e3).free hp) ⟨f0, f1, 0, upd_same, h1, by decide, by decide⟩
  · refine z_if (Hk := H) (H0 := H) (k := decide ((k : Int) < (ns.length : Int))) b1 (gt_test (ge_I0 (g := fun i j => .bl (decide (i < j))) (ge_var rfl rfl) (ge_cb (ga_one (ge_var (Rp.up e1 hs0) rfl)) gc_lenL))) (fun c H2 e2 b2 => ?_) (fun c H2 e2 b2 => ?_)
    · have hlt : k < ns.length := by
        have := of_decide_eq_true c
        omega
      refine z_set1 (Hk := H) b2 (ge_ixL (i := k) (ge_var (Rp.up (e1.trans e2) hs0) rfl) (ge_var (r := kI (k : Int)) rfl rfl) rfl hlt) fun c2 H3 e3 b3 hc2 => ?_
      exact hM _ _ ⟨c2, rfl, b3, hc2⟩
    · exact hM _ _ ⟨c1, rfl, b2, Rp.up e2 hc1⟩

abbrev spDraw : Sp := spD (α := Int) (fun m => 0 < m ∧ m < 2 ^ 60) (fun m => [kI m]) (fun _ => 1) (fun m => kB0 m)
abbrev nDR : List Str := ["_law_feed_here", "_law_many", "_law_rest", "_law_got", "_law_stir"]
theorem sc_draw : FnScope nDR ["_law_feed_here", "_law_many"] (defScope s_law_draw) := ⟨rfl, rfl, rfl, by decide +kernel, rfl, by decide +kernel, by decide +kernel⟩
/-- xs[z] = e, xs at p -/
theorem d_setL {H Hk : Hp} {σ : L2.St} {te : TE} {r : Rp} {D : Ends} {ts : TS} {p : Addr} {xs : List V} {i : Nat} {z : Int} {j : Nat} (h : GE te σ Hk r) (e : Same Hk H) (hσ : σ[i]? = some (some (V.ref p))) (hp : H p = some (.lst xs)) (hj : ixN xs.length z = some j)
    (k : ∀ v H1, Same H H1 → r.p v (nu Hk H H1) → ts D σ (upd H1 p (.lst (xs.set j v)))) : tSeq (tAsg te (gSub (tVar i) (tC (.int z)) rSetL)) ts D σ H :=
  h H e _ fun v H1 e1 pv => ⟨.ref p, hσ, p, xs, z, j, rfl, rfl, e1 _ _ hp, hj, k v H1 e1 pv⟩
theorem feed_ix {K : PySem.W.Frag} {H : Hp} {p : Addr} {a b c : Int} (h : H p = some (.lst [.int a, .int b, .int c])) : (kL K 3 (ixR [kI a, kI b, kI c])).p (.ref p) H := ⟨p, _, rfl, .inl (.inl h), rfl, fun i x hx => (show Fits H [.int a, .int b, .int c] [kI a, kI b, kI c] from ⟨rfl, rfl, rfl, trivial⟩).at i x hx⟩
theorem chg_setL {H H1 : Hp} {p : Addr} {o : HO} (e : Same H H1) : Chg (is p) H (upd H1 p o) := (Chg.of e).trans (.upd rfl)
theorem ok_draw (T : Bl K mg) (F : FnP K "_law_draw" s_law_draw f fd) (g : mg "_law_draw" = some (.ref f)) : Df P w K mg base "_law_draw" ["_law_feed_here", "_law_many"] 1 spDraw := by
  have nd := sc_draw.nd
  refine df_of F g sc_draw (F.bindsN fun _ _ _ _ _ _ us hl => match us, hl with | [_, _], _ => rfl) (fun vs H Q E h => by
    obtain ⟨p, ws, x, Hk, c, rfl, _, _, _, _, _, hf, _⟩ := h
    obtain ⟨v, rfl, _⟩ := hf.one
    rfl) fun cdv A outer s H vs Q E hr h => ?_
  refine ⟨_, pss_cons (ps_if (pt_cmpR op_gt (e_ixL T (pv 0) pe_int) pe_int (nomark _)) (pss_cons (ps_set (i := 2) nd rfl (Or.inl rfl) (pe_op op_fdivW (e_ixL T (pv 0) pe_int) (pv 1)))
      (pss_cons (ps_set (i := 3) nd rfl (Or.inl rfl) (pe_op op_sub (e_ixL T (pv 0) pe_int) (pe_op op_mul (pv 2) (pv 1)))) (pss_cons (ps_asg (pv 2) (pg_sub (pv 0) pe_int set_list)) (pss_one (ps_ret (pv 3)))))) pss_nil)
    (pss_cons (ps_asg (pe_op op_add (e_ixL T (pv 0) pe_int) pe_int) (pg_sub (pv 0) pe_int set_list))
    (pss_cons (ps_set (i := 4) nd rfl (Or.inl rfl) (pe_op op_add (e_ixL T (pv 0) pe_int) (pe_op op_mul pe_int (e_ixL T (pv 0) pe_int))))
    (pss_cons (ps_set (i := 4) nd rfl (Or.inl rfl) (pe_op op_mod (e_int T (pe_op op_add (pe_op op_mulW (pe_op op_mulW (pv 4) (pv 4)) (pv 4)) (pe_op op_mul pe_int (e_ixL T (pv 0) pe_int)))) (pe_op op_add (pe_op op_pow pe_int pe_int) pe_int)))
    (pss_cons (ps_set (i := 4) nd rfl (Or.inl rfl) (pe_op op_mod (e_int T (pe_op op_add (pe_op op_mulW (pv 4) (pv 4)) pe_int)) (pe_op op_add (pe_op op_pow pe_int pe_int) pe_int)))
    (pss_one (ps_ret (pe_op op_mod (e_int T (pe_op op_fdiv (pv 4) (pe_op op_pow pe_int pe_int))) (pv 1)))))))), ?_⟩
  obtain ⟨p, ws, m, Hk, c, rfl, ⟨m0, m1⟩, hs, hkp, ⟨f0, f1, f2, hp, h1, h20, h2⟩, hc, hf, q⟩ := h
  obtain ⟨v, rfl, hv⟩ := hf.one
  cases hv
  have m0 : 0 < m := m0
  have m1 : m < 2 ^ 60 := m1
  have hc : c + 1 ≤ 1000000 := hc
  have i0 : ∀ {σ : L2.St} {H' : Hp} {a b d : Int}, σ[0]? = some (some (V.ref p)) → H' p = some (.lst [.int a, .int b, .int d]) → GE (tOp (rIxL K) (tVar 0) (tC (.int 0))) σ H' (kI a) := fun hσ h => ge_ixL (i := 0) (n := 3) (ge_var (feed_ix (K := K) h) hσ) ge_c rfl (by decide)
  have i1 : ∀ {σ : L2.St} {H' : Hp} {a b d : Int}, σ[0]? = some (some (V.ref p)) → H' p = some (.lst [.int a, .int b, .int d]) → GE (tOp (rIxL K) (tVar 0) (tC (.int 1))) σ H' (kI b) := fun hσ h => ge_ixL (i := 1) (n := 3) (ge_var (feed_ix (K := K) h) hσ) ge_c rfl (by decide)
  have i2 : ∀ {σ : L2.St} {H' : Hp} {a b d : Int}, σ[0]? = some (some (V.ref p)) → H' p = some (.lst [.int a, .int b, .int d]) → GE (tOp (rIxL K) (tVar 0) (tC (.int 2))) σ H' (kI d) := fun hσ h => ge_ixL (i := 2) (n := 3) (ge_var (feed_ix (K := K) h) hσ) ge_c rfl (by decide)
  refine s_if (Hk := H) (k := decide ((0 : Int) < f0)) (gt_test (ge_I0 (g := fun i j => .bl (decide (j < i))) (i0 rfl hp) ge_c)) (Same.refl H) (fun cc H1 e1 => ?_) (fun cc H1 e1 => ?_)
  · have hp1 := e1 _ _ hp
    refine s_set (Hk := H1) (ge_I (C := CDivW) (g := fun i j => .int (i / j)) (i0 rfl hp1) (ge_var (r := kI m) rfl rfl) (wide_div m0 (b := 60) (by omega) (by decide) (by decide))) (Same.refl H1) fun r1 H2 e2 hr1 => ?_
    have hp2 := e2 _ _ hp1
    cases hr1
    refine s_set (Hk := H2) (ge_I0 (g := fun i j => .int (i - j)) (i0 rfl hp2) (ge_I (C := CMul) (g := fun i j => .int (i * j)) (ge_var (r := kI (f0 / m)) rfl rfl) (ge_var (r := kI m) rfl rfl) (.inr ⟨by omega, by omega⟩))) (Same.refl H2) fun r2 H3 e3 hr2 => ?_
    have hp3 := e3 _ _ hp2
    cases hr2
    refine d_setL (Hk := H3) (ge_var (r := kI (f0 / m)) rfl rfl) (Same.refl H3) rfl hp3 (j := 0) rfl fun r3 H4 e4 hr3 => ?_
    cases hr3
    have e14 := ((e1.trans e2).trans e3).trans e4
    refine ⟨_, rfl, q _ _ (chg_setL e14) ⟨f0 / m, f1, f2, upd_same, h1, h20, by omega⟩ ⟨_, ?_, rfl⟩⟩
    have hm := Int.emod_nonneg f0 (show m ≠ 0 by omega)
    have hm2 := Int.emod_lt_of_pos f0 m0
    rw [Int.emod_def, Int.mul_comm] at hm hm2
    exact ⟨hm, hm2⟩
  · show tSeq _ _ _ _ _
    have hp1 := e1 _ _ hp
    refine d_setL (Hk := H1) (ge_I0 (g := fun i j => .int (i + j)) (i2 rfl hp1) ge_c) (Same.refl H1) rfl hp1 (j := 2) rfl fun r1 H2 e2 hr1 => ?_
    cases hr1
    have hp2 : (upd H2 p (.lst [.int f0, .int f1, .int (f2 + 1)])) p = some (.lst [.int f0, .int f1, .int (f2 + 1)]) := upd_same
    have b1 : (f1 + 6700417 * (f2 + 1)).natAbs < 2 ^ 141 := by omega
    refine s_set (Hk := upd H2 p (.lst [.int f0, .int f1, .int (f2 + 1)])) (ge_I0 (g := fun i j => .int (i + j)) (i1 rfl hp2) (ge_I (C := CMul) (g := fun i j => .int (i * j)) ge_c (i2 rfl hp2) (.inl ⟨by decide, by decide⟩))) (Same.refl _) fun s1 H3 e3 hs1 => ?_
    cases hs1
    have hp3 := e3 _ _ hp2
    generalize f1 + 6700417 * (f2 + 1) = st at b1
    have b2 : (st * st).natAbs < 2 ^ 282 := wide_lt (a := 141) (b := 141) b1 b1
    refine s_set (Hk := H3) (r := kEx (fun r : Int => 0 ≤ r ∧ r.natAbs < 2 ^ 143) kI) ?_ (Same.refl _) fun s2 H4 e4 hs2 => ?_
    · refine ge_modpow (b := 10) (d := 57) (x := 43) (N := 2 ^ 143) ?_ (by decide) (by decide) (by decide +kernel) (by decide +kernel)
      refine ge_cb (ga_one (ge_ex (ge_I0 (g := fun i j => .int (i + j)) (i := st * st * st) ?_ (ge_I (C := CMul) (g := fun i j => .int (i * j)) ge_c (i2 rfl hp3) (.inl ⟨by decide, by decide⟩))) trivial)) gc_intX
      exact ge_I (C := CMulW) (g := fun i j => .int (i * j)) (ge_I (C := CMulW) (g := fun i j => .int (i * j)) (ge_var (r := kI st) rfl rfl) (ge_var (r := kI st) rfl rfl) (wide_mul b1 b1 (by decide) (by decide) (by decide))) (ge_var (r := kI st) rfl rfl) (wide_mul b2 b1 (by decide) (by decide) (by decide))
    obtain ⟨st2, ⟨_, b3⟩, rfl⟩ := hs2
    have hp4 := e4 _ _ hp3
    refine s_set (Hk := H4) (r := kEx (fun r : Int => 0 ≤ r ∧ r.natAbs < 2 ^ 128) kI) ?_ (Same.refl _) fun s3 H5 e5 hs3 => ?_
    · refine ge_modpow (b := 10) (d := 133) (x := 38) (N := 2 ^ 128) ?_ (by decide) (by decide) (by decide +kernel) (by decide +kernel)
      exact ge_cb (ga_one (ge_ex (ge_I0 (g := fun i j => .int (i + j)) (ge_I (C := CMulW) (g := fun i j => .int (i * j)) (ge_var (r := kI st2) rfl rfl) (ge_var (r := kI st2) rfl rfl) (wide_mul b3 b3 (by decide) (by decide) (by decide))) ge_c) trivial)) gc_intX
    obtain ⟨st3, _, rfl⟩ := hs3
    have hp5 := e5 _ _ hp4
    refine s_ret (Hk := H5) (r := kB0 m) ?_ (Same.refl _) fun v' H6 e6 pv => ?_
    · refine GE.conv (ge_I (C := fun _ j => 0 < j) (g := fun i j => .int (i % j)) (ge_cb (ga_one (ge_I (C := CDiv) (g := fun i j => .int (i / j)) (ge_var (r := kI st3) rfl rfl) (ge_pow (b := 10) (x := 9) (by decide) (by decide)) ⟨by decide +kernel, by decide +kernel⟩)) gc_int) (ge_var (r := kI m) rfl rfl) m0) fun v' B _ pv => ⟨_, ⟨Int.emod_nonneg _ (by omega), Int.emod_lt_of_pos _ m0⟩, pv⟩
    · obtain ⟨r, hr, rfl⟩ := pv
      have e36 := ((e3.trans e4).trans e5).trans e6
      exact q _ _ ((chg_setL (e1.trans e2)).trans (.of e36)) ⟨f0, f1, f2 + 1, e36 _ _ hp2, h1, by omega, by show f2 + 1 ≤ ((c + 1 : Nat) : Int); omega⟩ ⟨r, hr, rfl⟩
end
end K38
end
section
set_option Elab.async false
set_option linter.all false
set_option maxRecDepth 100000
set_option maxHeartbeats 4000000
set_option exponentiation.threshold 2000
/-! K38G2: the law's pure helpers. -/
namespace K38
open PySem PySem.Spec PyProof.Rows L2
section
variable {P : Program} {w : World} {K : PySem.W.Frag} {mg : Str → Option Value} {base : Heap} {f : Addr} {fd : FuncData}

/-- some table of n by n ints -/
abbrev kSome (K : PySem.W.Frag) (n : Nat) : Rp := kEx (fun _ : Nat → Nat → Int => True) fun t => kTab K n t
abbrev kZL (K : PySem.W.Frag) (n : Nat) : Rp := kL K n fun _ => kZ
/-- tuples of n unknown ints, n of them, are some table -/
theorem some_row {K : PySem.W.Frag} {n : Nat} {v : V} {H : Hp} (h : (kT K n fun _ => kZ).p v H) : ∃ r : Nat → Int, (kTI K n r).p v H := by
  obtain ⟨a, xs, rfl, hS, hl, hp⟩ := h
  obtain ⟨ns, rfl⟩ := any_ints fun i x hx => by
    obtain ⟨j, _, h⟩ := hp i x hx
    exact ⟨j, h⟩
  refine ⟨fun i => ns.getD i 0, a, _, rfl, hS, hl, fun i x hx => ?_⟩
  rw [List.getElem?_map] at hx
  cases q : ns[i]? with
  | none => rw [q] at hx; cases hx
  | some j =>
    rw [q] at hx
    show x = .int (ns.getD i 0)
    rw [List.getD_eq_getElem?_getD, q]
    exact (Option.some.inj hx).symm
theorem some_tab {K : PySem.W.Frag} {n : Nat} {v : V} {H : Hp} (h : (kT K n fun _ => kT K n fun _ => kZ).p v H) : (kSome K n).p v H := by
  obtain ⟨a, xs, rfl, hS, hl, hp⟩ := h
  have ex : ∀ i : Nat, ∃ r : Nat → Int, ∀ x, xs[i]? = some x → (kTI K n r).p x H := fun i => by
    cases q : xs[i]? with
    | none => exact ⟨fun _ => 0, fun x hx => by cases hx⟩
    | some x =>
      obtain ⟨r, hr⟩ := some_row (hp i x q)
      exact ⟨r, fun y hy => by cases hy; exact hr⟩
  exact ⟨fun i => Classical.choose (ex i), trivial, a, xs, rfl, hS, hl, fun i x hx => Classical.choose_spec (ex i) x hx⟩

abbrev spBuilt (K : PySem.W.Frag) : Sp := spF (α := Nat) (fun n => 1 ≤ n ∧ n ≤ 8) (fun n => [kZL K n, kZL K (n - 1), kL K (n - 1) fun _ => kZL K (n - 1)]) (fun n => kSome K n)
abbrev nBU : List Str := ["_law_left", "_law_top", "_law_gains", "_law_rows", "_law_at", "_law_first", "_law_row", "_law_to", "_law_more", "_law_below", "_law_line"]
theorem sc_built : FnScope nBU ["_law_left", "_law_top", "_law_gains"] (defScope s_law_built) := ⟨rfl, rfl, rfl, by decide +kernel, rfl, by decide +kernel, by decide +kernel⟩
theorem ok_built (T : Bl K mg) (F : FnP K "_law_built" s_law_built f fd) (g : mg "_law_built" = some (.ref f)) : Df P w K mg base "_law_built" ["_law_left", "_law_top", "_law_gains"] 1 (spBuilt K) := by
  have nd := sc_built.nd
  refine df_sp F g sc_built (F.bindsN fun _ _ _ _ _ _ us hl => match us, hl with | [_, _, _], _ => rfl) (fun _ => rfl) fun cdv A outer s E hr H => ⟨_, pss_cons (ps_set (i := 3) nd rfl (Or.inl rfl) (pe_lst pa_nil))
    (pss_cons (ps_for PassesOwn.never rfl (p_enum T (pv 0)) (g_tup T (pgs_cons (pg_name (i := 4) nd rfl (Or.inl rfl)) (pgs_cons (pg_name (i := 5) nd rfl (Or.inl rfl)) pgs_nil)))
      (pss_cons (ps_set (i := 6) nd rfl (Or.inl rfl) (pe_lst (pa_cons (pv 5) pa_nil)))
      (pss_cons (ps_for PassesOwn.never rfl (p_enum T (pv 1)) (g_tup T (pgs_cons (pg_name (i := 7) nd rfl (Or.inr rfl)) (pgs_cons (pg_name (i := 8) nd rfl (Or.inl rfl)) pgs_nil)))
        (pss_cons (ps_set (i := 9) nd rfl (Or.inl rfl) (e_sum T (pe_lc (own := [("_law_line", 10)]) (g := gName 10) (tt := tYes) rfl nd (p_list T (pe_slice sl_list (pv 2) po_none (po_some (pv 4))))
          (blkOk_by (own := [("_law_line", 10)]) (N := nBU) (sc := defScope s_law_built) (by decide +kernel)) (fun _ _ _ _ _ => pg_name (i := 10) nd rfl (Or.inl rfl)) (fun _ _ _ _ _ => pts_nil)
          (fun _ _ _ _ _ => e_sum T (e_slL T (pv 10) (pe_op op_add (pv 7) pe_int))))))
        (pss_one (ps_expr (pe_bm PySem.F.plainAttrs_list PySem.F.slot_list_append PySem.F.type_list_append mt_append (pv 6) (pa_cons (pe_op op_sub (pe_op op_add (pv 5) (pv 8)) (pv 9)) pa_nil))))))
      (pss_one (ps_expr (pe_bm PySem.F.plainAttrs_list PySem.F.slot_list_append PySem.F.type_list_append mt_append (pv 3) (pa_cons (e_tuple T (pv 6)) pa_nil)))))))
    (pss_one (ps_ret (e_tuple T (pv 3))))), ?_⟩
  intro Hk vs Q n hz e hf q
  obtain ⟨h1, h8⟩ := hz
  have h1 : 1 ≤ n := h1
  have h8 : n ≤ 8 := h8
  obtain ⟨v, v1, v2, rfl, hv, hv1, hv2⟩ := hf.three
  have A0 : At noM H H := At.start
  have ks := kn_start (Hk := Hk) e
  refine y_lst (Hk := Hk) A0 (rs := []) ga_nil (Nat.zero_le _) fun l H2 hl hl0 A2 k2 s2 hL => ?_
  have hM : ins noM l l := .inr rfl
  have hv' := (kZL K n).mono (ks.trans k2) hv
  refine y_for2 (Hk := Hk) (n := n) (ρ := fun i => kI (i : Int)) (ρ2 := fun _ => kZ) A2 (gi_enum (ga_one (ge_var hv' rfl))) rfl fun H3 e3 A3 => ?_
  refine ⟨fun i σ' H' => ∃ (x4 x5 x6 x7 x8 x9 : Option V), σ' = [some v, some v1, some v2, some (.ref l), x4, x5, x6, x7, x8, x9, none] ∧ At (ins noM l) H H' ∧ Same (kn Hk H (ins noM l) H3) (kn Hk H (ins noM l) H') ∧
      Lst l i (fun _ => kT K n fun _ => kZ) (kn Hk H (ins noM l) H') H',
    ⟨none, none, none, none, none, none, rfl, A3, Same.refl _, (hL.mono (kn_fwd (.of e3)) fun o h => e3 _ _ h).conv fun i hi => absurd hi (Nat.not_lt_zero i)⟩, fun i σ' H' _ p => ?_, fun i x y σ' H' H4 hi p e4 hx hy => ?_, fun σ' H' p => ?_⟩
  · obtain ⟨x4, x5, x6, x7, x8, x9, rfl, A', k', _⟩ := p
    exact k'.trans kn_sub
  · obtain ⟨x4, x5, x6, x7, x8, x9, rfl, A', k', hL'⟩ := p
    obtain ⟨first, _, rfl⟩ := hy
    cases hx
    have A4 := A'.same e4
    have k4 := k'.trans (kn_fwd (Hk := Hk) (H0 := H) (M := ins noM l) (.of e4))
    have kk4 := ((ks.trans k2).trans (kn_fwd (.of e3))).trans k4
    refine y_lst (Hk := Hk) A4 (rs := [kZ]) (ga_one (ge_var (i := 5) ⟨first, trivial, rfl⟩ rfl)) (by show 1 ≤ 1000; decide) fun l2 H5 hl2 hl20 A5 k5 s5 hL2 => ?_
    have n2 : l2 ≠ l := fun z => by
      subst z
      exact A4.live l2 (.inr rfl) hl2
    have hM2 : ins (ins noM l) l2 l2 := .inr rfl
    have hv1' := (kZL K (n - 1)).mono (kk4.trans k5) hv1
    have hLl : Lst l i (fun _ => kT K n fun _ => kZ) (kn Hk H (ins (ins noM l) l2) H5) H5 := hL'.mono ((kn_fwd (.of e4)).trans k5) fun o h => s5 _ _ (e4 _ _ h)
    refine y_for2 (Hk := Hk) (n := n - 1) (ρ := fun i => kI (i : Int)) (ρ2 := fun _ => kZ) A5 (gi_enum (ga_one (ge_var hv1' rfl))) rfl fun H6 e6 A6 => ?_
    refine ⟨fun m σ' H' => ∃ (x7 x8 x9 : Option V), σ' = [some v, some v1, some v2, some (.ref l), some (.int (i : Int)), some (.int first), some (.ref l2), x7, x8, x9, none] ∧ At (ins (ins noM l) l2) H H' ∧ Same (kn Hk H (ins (ins noM l) l2) H6) (kn Hk H (ins (ins noM l) l2) H') ∧
        Lst l i (fun _ => kT K n fun _ => kZ) (kn Hk H (ins (ins noM l) l2) H') H' ∧ Lst l2 (m + 1) (fun _ => kZ) (kn Hk H (ins (ins noM l) l2) H') H',
      ⟨_, _, _, rfl, A6, Same.refl _, hLl.mono (kn_fwd (.of e6)) fun o h => e6 _ _ h, (hL2.mono (kn_fwd (.of e6)) fun o h => e6 _ _ h).conv fun j hj x hx => ?_⟩, fun m σ' H' _ p => ?_, fun m x y σ' H' H7 hm p e7 hx hy => ?_, fun σ' H' p => ?_⟩
    · cases j with
      | zero => exact hx
      | succ j => exact absurd hj (by show ¬ j + 1 < 1; omega)
    · obtain ⟨x7, x8, x9, rfl, A', k', _⟩ := p
      exact k'.trans kn_sub
    · obtain ⟨x7, x8, x9, rfl, A', k', hLa, hLb⟩ := p
      obtain ⟨more, _, rfl⟩ := hy
      cases hx
      have A7 := A'.same e7
      have k7 := k'.trans (kn_fwd (Hk := Hk) (H0 := H) (M := ins (ins noM l) l2) (.of e7))
      have hv2' := (kL K (n - 1) fun _ => kZL K (n - 1)).mono (((kk4.trans k5).trans (kn_fwd (.of e6))).trans k7) hv2
      refine y_set (Hk := Hk) (r := kZ) A7 ?_ fun b H8 e8 A8 hb => ?_
      · exact ge_cb (ga_one (ge_lc (q := fun _ => kZ) (gi_list (ge_cut (a := i) (ge_var hv2' rfl) (ge_var (r := kI (i : Int)) rfl rfl) rfl)) (fun j hj B eB z hz => ge_cb (ga_one (ge_cut (a := m + 1) (ge_var hz rfl) (ge_I0 (g := fun i j => .int (i + j)) (ge_var (r := kI (m : Int)) rfl rfl) ge_c) (by omega))) gc_sumZ) (by omega))) gc_sumZ
      obtain ⟨below, _, rfl⟩ := hb
      refine y_app (Hk := Hk) A8 hM2 ((hLb.mono (kn_fwd (.of e7)) fun o h => e7 _ _ h).mono (kn_fwd (.of e8)) fun o h => e8 _ _ h) rfl (ge_ex (ge_I0 (g := fun i j => .int (i - j)) (ge_I0 (g := fun i j => .int (i + j)) (ge_var (i := 5) (r := kI first) rfl rfl) (ge_var (i := 8) (r := kI more) rfl rfl)) (ge_var (i := 9) (r := kI below) rfl rfl)) trivial) (by omega) fun H9 A9 k9 s9 hL9 => ?_
      exact ⟨_, _, _, rfl, A9, (k7.trans (kn_fwd (.of e8))).trans k9, (((hLa.mono (kn_fwd (.of e7)) fun o h => e7 _ _ h).mono (kn_fwd (.of e8)) fun o h => e8 _ _ h).mono k9 fun o h => s9 _ _ n2.symm h), hL9⟩
    · obtain ⟨x7, x8, x9, rfl, A', k', hLa, hLb⟩ := p
      have en : n - 1 + 1 = n := by omega
      rw [en] at hLb
      have sub : ∀ a, ins noM l a → ins (ins noM l) l2 a := fun a h => .inl h
      have A9 : At (ins noM l) H H' := A'.less sub fun a h => h.elim .inl fun z => .inr (by rw [z]; exact hl20)
      have hrow : (kZL K n).p (.ref l2) (kn Hk H (ins noM l) H') := hLb.out2 hl20 sub fun z => z.elim (fun z => z) n2
      refine y_app (Hk := Hk) A9 hM (hLa.mono (kn_less sub) fun o h => h) rfl (ge_cb (ga_one (ge_var (i := 6) hrow rfl)) gc_tuple) (by omega) fun H10 A10 k10 s10 hL10 => ?_
      exact ⟨_, _, _, _, _, _, rfl, A10, (((k4.trans k5).trans (kn_fwd (.of e6))).trans (k'.trans (kn_less sub))).trans k10, hL10⟩
  · obtain ⟨x4, x5, x6, x7, x8, x9, rfl, A', k', hL'⟩ := p
    have sm : Same H H' := A'.chg.same fun a z => by rcases z with z | z; exact z.elim; rw [z]; exact hl0
    exact z_ret (Hk := Hk) (H0 := H) sm (ge_cb (ga_one (ge_var (hL'.out (K := K) hl0) rfl)) gc_tuple) fun v' H1 e1 p' => q v' H1 e1 (some_tab p')
end
end K38
end
section
set_option Elab.async false
set_option linter.all false
set_option maxRecDepth 100000
set_option maxHeartbeats 4000000
set_option exponentiation.threshold 2000
/-! K38G3: trimmed, least terms in the law. -/
namespace K38
open PySem PySem.Spec PyProof.Rows L2
def elseOf : Expr → Expr
  | .IfExp _ _ b _ => b
  | _ => noExpr
section
variable {P : Program} {w : World} {K : PySem.W.Frag} {mg : Str → Option Value} {base : Heap} {f : Addr} {fd : FuncData}
theorem gc_maxZ {n : Nat} (h0 : 0 < n) : GC (rMax K) [kL K n fun _ => kZ] kZ := fun vs H H1 e hf Q q => by
  obtain ⟨v, rfl, a, xs, rfl, hS, hl, hp⟩ := hf.one
  obtain ⟨ns, rfl⟩ := any_ints fun i x hx => by
    obtain ⟨j, _, h⟩ := hp i x hx
    exact ⟨j, h⟩
  exact ⟨a, ns, rfl, sameL e hS, by rw [List.length_map] at hl; omega, fun m _ _ => q _ H1 (Same.refl H1) ⟨m, trivial, rfl⟩⟩
abbrev spTrimmed (K : PySem.W.Frag) : Sp := spF (α := Nat × (Nat → Nat → Int)) (fun z => 1 ≤ z.1 ∧ z.1 ≤ 8) (fun z => [kTab K z.1 z.2]) (fun z => kSome K z.1)
abbrev nTR : List Str := ["_law_table", "_law_most", "_law_row", "_law_entry"]
theorem sc_trimmed : FnScope nTR ["_law_table"] (defScope s_law_trimmed) := ⟨rfl, rfl, rfl, by decide +kernel, rfl, by decide +kernel, by decide +kernel⟩
theorem ok_trimmed (T : Bl K mg) (F : FnP K "_law_trimmed" s_law_trimmed f fd) (g : mg "_law_trimmed" = some (.ref f)) : Df P w K mg base "_law_trimmed" ["_law_table"] 1 (spTrimmed K) := by
  have nd := sc_trimmed.nd
  refine df_sp F g sc_trimmed (F.bindsN fun _ _ _ _ _ _ us hl => match us, hl with | [_], _ => rfl) (fun _ => rfl) fun cdv A outer s E hr H => ⟨_, pss_cons (ps_set (i := 1) nd rfl (Or.inl rfl) (e_max T (pe_lc (own := [("_law_row", 2)]) (g := gName 2) (tt := tYes) rfl nd (p_tup T (pv 0))
      (blkOk_by (own := [("_law_row", 2)]) (N := nTR) (sc := defScope s_law_trimmed) (by decide +kernel)) (fun _ _ _ _ _ => pg_name (i := 2) nd rfl (Or.inl rfl)) (fun _ _ _ _ _ => pts_nil)
      (fun _ _ _ _ _ => e_max T (pe_lc (own := [("_law_entry", 3)]) (g := gName 3) (tt := tYes) rfl nd (p_tup T (pv 2)) (blkOk_by (own := [("_law_entry", 3)]) (N := nTR) (sc := relS (lcS (arg1 (exOf (stAt s_law_trimmed 0)))) (defScope s_law_trimmed)) (by decide +kernel))
        (fun _ _ _ _ _ => pg_name (i := 3) nd rfl (Or.inl rfl)) (fun _ _ _ _ _ => pts_nil) (fun _ _ _ _ _ => e_abs T (pv 3)))))))
    (pss_one (ps_ret (pe_ifExp (pt_cmpR op_lt (pv 1) (pe_op op_pow pe_int pe_int) (nomark _)) (pv 0) (e_tuple T (pe_lc (own := [("_law_row", 2)]) (g := gName 2) (tt := tYes) rfl nd (p_tup T (pv 0))
      (blkOk_by (own := [("_law_row", 2)]) (N := nTR) (sc := defScope s_law_trimmed) (by decide +kernel)) (fun _ _ _ _ _ => pg_name (i := 2) nd rfl (Or.inl rfl)) (fun _ _ _ _ _ => pts_nil)
      (fun _ _ _ _ _ => e_tuple T (pe_lc (own := [("_law_entry", 3)]) (g := gName 3) (tt := tYes) rfl nd (p_tup T (pv 2)) (blkOk_by (own := [("_law_entry", 3)]) (N := nTR) (sc := relS (lcS (arg1 (elseOf (exOf (stAt s_law_trimmed 1))))) (defScope s_law_trimmed)) (by decide +kernel))
        (fun _ _ _ _ _ => pg_name (i := 3) nd rfl (Or.inl rfl)) (fun _ _ _ _ _ => pts_nil) (fun _ _ _ _ _ => e_int T (pe_op op_fdiv (pv 3) (pe_op op_pow pe_int pe_int)))))))))), ?_⟩
  intro Hk vs Q z hz e hf q
  obtain ⟨n, t⟩ := z
  obtain ⟨h1, h8⟩ := hz
  have h1 : 1 ≤ n := h1
  have h8 : n ≤ 8 := h8
  obtain ⟨v, rfl, hv⟩ := hf.one
  have hv0 := z_start e hv
  refine z_set (Hk := Hk) (H0 := H) (r := kZ) (Same.refl H) ?_ fun m1 H1 e1 b1 hm => ?_
  · exact ge_cb (ga_one (ge_lc (q := fun _ => kZ) (gi_tup (ge_var hv0 rfl)) (fun i hi B eB x hx => ge_cb (ga_one (ge_lc (gi_tup (ge_var hx rfl)) (fun j hj B2 eB2 y hy => ge_cb (ga_one (ge_var hy rfl)) gc_abs) (by omega))) (gc_max h1)) (by omega))) (gc_maxZ h1)
  obtain ⟨m, _, rfl⟩ := hm
  have hv1 := Rp.up e1 hv0
  refine z_ret (Hk := Hk) (r := kSome K n) b1 ?_ q
  refine ge_if (k := decide (m < (10 : Int) ^ 11)) (gt_test (ge_I0 (g := fun i j => .bl (decide (i < j))) (ge_var (r := kI m) rfl rfl) (ge_pow (b := 10) (x := 11) (by decide) (by decide)))) (fun _ => ge_var ⟨t, trivial, hv1⟩ rfl) fun _ => ?_
  exact GE.conv (ge_cb (ga_one (ge_lc (q := fun i => kTI K n fun j => t i j / (10 : Int) ^ 8) (gi_tup (ge_var hv1 rfl)) (fun i hi B eB x hx => ge_cb (ga_one (ge_lc (gi_tup (ge_var hx rfl)) (fun j hj B2 eB2 y hy => ge_cb (ga_one (ge_I (C := CDiv) (g := fun i j => .int (i / j)) (ge_var hy rfl) (ge_pow (b := 10) (x := 8) (by decide) (by decide)) ⟨by decide +kernel, by decide +kernel⟩)) gc_int) (by omega))) gc_tuple) (by omega))) gc_tuple)
    fun v' B _ p' => ⟨_, trivial, p'⟩

abbrev spTerms (K : PySem.W.Frag) : Sp := spF (α := Int × Int) (fun z => 0 < z.2 ∧ z.2 ≤ 100) (fun z => [kI z.1, kI z.2]) (fun z => kP K (kI (z.1 / ((Nat.gcd z.1.natAbs z.2.natAbs : Nat) : Int))) (kI (z.2 / ((Nat.gcd z.1.natAbs z.2.natAbs : Nat) : Int))))
abbrev nTM : List Str := ["_law_cost", "_law_steps", "_law_one_here", "_law_other", "_law_turn"]
theorem sc_terms : FnScope nTM ["_law_cost", "_law_steps"] (defScope s_law_terms) := ⟨rfl, rfl, rfl, by decide +kernel, rfl, by decide +kernel, by decide +kernel⟩
theorem ok_terms (T : Bl K mg) (F : FnP K "_law_terms" s_law_terms f fd) (g : mg "_law_terms" = some (.ref f)) : Df P w K mg base "_law_terms" ["_law_cost", "_law_steps"] 1 (spTerms K) := by
  have nd := sc_terms.nd
  refine df_sp F g sc_terms (F.bindsN fun _ _ _ _ _ _ us hl => match us, hl with | [_, _], _ => rfl) (fun _ => rfl) fun cdv A outer s E hr H => ⟨_, pss_cons (ps_par (i := 2) (j := 3) rfl nd rfl rfl (by decide) rfl rfl (pa_cons (e_abs T (pv 0)) (pa_cons (pv 1) pa_nil)) (by rfl))
    (pss_cons (ps_for PassesOwn.never rfl (p_rng1 T pe_int) (pg_name (i := 4) nd rfl (Or.inl rfl))
      (pss_one (ps_asg (pe_ifExp (pt_cmpR op_gt (pv 2) pe_int (nomark _)) (pe_tup (pa_cons (pe_op op_mod (e_int T (pv 3)) (pv 2)) (pa_cons (pv 2) pa_nil))) (pe_tup (pa_cons (pv 2) (pa_cons (pv 3) pa_nil)))) (g_tup T (pgs_cons (pg_name (i := 2) nd rfl (Or.inl rfl)) (pgs_cons (pg_name (i := 3) nd rfl (Or.inl rfl)) pgs_nil))))))
    (pss_one (ps_ret (pe_tup (pa_cons (pe_op op_fdiv (pv 0) (pv 3)) (pa_cons (pe_op op_fdiv (pv 1) (pv 3)) pa_nil)))))), ?_⟩
  intro Hk vs Q z hz e hf q
  obtain ⟨c, s⟩ := z
  obtain ⟨h0, h1⟩ := hz
  have h0 : 0 < s := h0
  have h1 : s ≤ 100 := h1
  obtain ⟨v, v1, rfl, hv, hv1⟩ := hf.two
  cases hv
  cases hv1
  have A0 : At noM H H := At.start
  show tPar 2 3 _ _ _ _
  unfold tPar
  refine (ga_two (ge_cb (ga_one (ge_var (σ := [some (.int c), some (.int s), none, none, none]) (i := 0) (r := kI c) rfl rfl)) gc_abs) (ge_var (i := 1) (r := kI s) rfl rfl) : GA _ _ (kn Hk H noM H) _) H kn_sub _ fun vs H1 e1 pv => ?_
  obtain ⟨x, y, rfl, hx, hy⟩ := pv.two
  cases hx
  cases hy
  refine ⟨_, _, rfl, ?_⟩
  have A1 := A0.same e1
  dsimp only
  refine y_for (Hk := Hk) (n := 200) A1 (gi_rng (ga_one ge_c) rfl (by decide)) fun H2 e2 A2 => ?_
  refine ⟨fun i σ' H' => ∃ (a b : Nat) (x4 : Option V), σ' = [some (.int c), some (.int s), some (.int (a : Int)), some (.int (b : Int)), x4] ∧ At noM H H' ∧ Same (kn Hk H noM H2) (kn Hk H noM H') ∧ 0 < b ∧ Nat.gcd a b = Nat.gcd c.natAbs s.natAbs ∧ (i = 0 → (b : Int) = s) ∧ (1 ≤ i → a = 0 ∨ a + i ≤ 101),
    ⟨c.natAbs, s.natAbs, none, ?_, A2, Same.refl _, by omega, rfl, fun _ => by omega, fun h => by omega⟩, fun i σ' H' _ p => ?_, fun i x σ' H' hi p hx => ?_, fun σ' H' p => ?_⟩
  · rw [show ((s.natAbs : Nat) : Int) = s by omega]
    rfl
  · obtain ⟨a, b, x4, rfl, A', k', _⟩ := p
    exact k'.trans kn_sub
  · obtain ⟨a, b, x4, rfl, A', k', hb, hgcd, hi0, hi1⟩ := p
    by_cases ha : 0 < a
    · refine (ge_if (k := true) (r := kP K (kI (((b % a : Nat)) : Int)) (kI (a : Int))) ((gt_test (ge_I0 (g := fun i j => .bl (decide (j < i))) (ge_var (i := 2) (r := kI (a : Int)) rfl rfl) ge_c)).to (decide_eq_true (show (0 : Int) < (a : Int) by omega))) (fun _ => ge_pair ((ge_I (C := fun _ j => 0 < j) (g := fun i j => .int (i % j)) (ge_cb (ga_one (ge_var (i := 3) (r := kI (b : Int)) rfl rfl)) gc_int) (ge_var (i := 2) (r := kI (a : Int)) rfl rfl) (by omega)).int (by omega)) (ge_var (i := 2) (r := kI (a : Int)) rfl rfl)) (fun z => by cases z) : GE _ _ (kn Hk H noM H') _) H' kn_sub _ fun u H3 e3 pu => ?_
      obtain ⟨p, x, y, rfl, hS, hx, hy⟩ := kP_open pu
      cases hx
      cases hy
      refine ⟨p, _, rfl, sameT nu_sub hS, rfl, _, _, rfl, _, _, rfl, rfl, ?_⟩
      have hlt := Nat.mod_lt b ha
      refine ⟨b % a, a, _, rfl, A'.same e3, k'.trans (kn_fwd (.of e3)), ha, ?_, fun h => by omega, fun _ => ?_⟩
      · exact (Nat.gcd_rec a b).symm.trans hgcd
      · by_cases hi00 : i = 0
        · have hbs := hi0 hi00
          have : b % a ≤ b := Nat.mod_le b a
          right
          omega
        · rcases hi1 (by omega) with h | h
          · omega
          · right
            omega
    · have ha0 : a = 0 := by omega
      subst ha0
      refine (ge_if (k := false) (r := kP K (kI 0) (kI (b : Int))) (gt_test (ge_I0 (g := fun i j => .bl (decide (j < i))) (i := 0) (j := 0) (ge_var (i := 2) (r := kI 0) rfl rfl) ge_c)) (fun z => by cases z) (fun _ => ge_pair (ge_var (i := 2) (r := kI 0) rfl rfl) (ge_var (i := 3) (r := kI (b : Int)) rfl rfl)) : GE _ _ (kn Hk H noM H') _) H' kn_sub _ fun u H3 e3 pu => ?_
      obtain ⟨p, x, y, rfl, hS, hx, hy⟩ := kP_open pu
      cases hx
      cases hy
      refine ⟨p, _, rfl, sameT nu_sub hS, rfl, _, _, rfl, _, _, rfl, rfl, ?_⟩
      exact ⟨0, b, _, rfl, A'.same e3, k'.trans (kn_fwd (.of e3)), hb, hgcd, fun h => by omega, fun _ => .inl rfl⟩
  · obtain ⟨a, b, x4, rfl, A', k', hb, hgcd, hi0, hi1⟩ := p
    have sm : Same H H' := A'.chg.same fun a z => z.elim
    have ha : a = 0 := by
      rcases hi1 (by decide) with h | h
      · exact h
      · omega
    subst ha
    rw [Nat.gcd_zero_left] at hgcd
    subst hgcd
    obtain ⟨g', eg, g0, gs, _⟩ := gcd_div (a := c) h0
    have hdv : ∀ x : Int, CDiv x ((Nat.gcd c.natAbs s.natAbs : Nat) : Int) := fun x => by
      rw [← eg]
      exact ⟨g0, by omega⟩
    dsimp only
    exact z_ret (Hk := Hk) (H0 := H) sm (ge_pair (ge_I (ge_var (i := 0) (r := kI c) rfl rfl) (ge_var (i := 3) rfl rfl) (hdv c)) (ge_I (ge_var (i := 1) (r := kI s) rfl rfl) (ge_var (i := 3) rfl rfl) (hdv s))) q
end
end K38
end
section
set_option Elab.async false
set_option linter.all false
set_option maxRecDepth 100000
set_option maxHeartbeats 4000000
set_option exponentiation.threshold 2000
/-! K38G4: one of some things. -/
namespace K38
open PySem PySem.Spec PyProof.Rows L2
section
variable {P : Program} {w : World} {K : PySem.W.Frag} {mg : Str → Option Value} {base : Heap} {f : Addr} {fd : FuncData}

theorem gr_ixLB {n : Nat} {u : Nat → Int} : GR (rIxL K) (kLI K n u) (kB0 (n : Int)) (kEx (fun i : Nat => i < n) fun i => kI (u i)) := fun x y H0 H1 e0 hx hy Q q => by
  obtain ⟨p, xs, rfl, hS, hl, hp⟩ := hx
  obtain ⟨z, ⟨z0, z1⟩, rfl⟩ := hy
  obtain ⟨i, rfl⟩ : ∃ i : Nat, z = (i : Int) := ⟨z.toNat, by omega⟩
  have hi : i < n := by omega
  have e : xs[i]? = some xs[i] := List.getElem?_eq_getElem (by omega)
  have v := hp i _ e
  exact ⟨p, xs, _, _, rfl, rfl, sameL e0 hS, atI_nat e, q _ H1 (Same.refl H1) ⟨i, hi, v⟩⟩

abbrev spOne (K : PySem.W.Frag) : Sp := spD (α := Nat × (Nat → Int)) (fun z => 1 ≤ z.1 ∧ z.1 ≤ 100) (fun z => [kLI K z.1 z.2]) (fun _ => 1) (fun z => kEx (fun i : Nat => i < z.1) fun i => kI (z.2 i))
theorem len_D {α : Type} {pre : α → Prop} {args : α → List Rp} {cost : α → Nat} {res : α → Rp} {ps : List Str} (h : ∀ x, (args x).length + 1 = ps.length) : ∀ vs H Q E, spD pre args cost res vs H Q E → vs.length = ps.length := fun vs H Q E h1 => by
  obtain ⟨p, ws, x, Hk, c, rfl, _, _, _, _, _, hf, _⟩ := h1
  rw [← h x, ← hf.len]
  rfl
abbrev nON : List Str := ["_law_feed_here", "_law_things"]
theorem sc_one : FnScope nON ["_law_feed_here", "_law_things"] (defScope s_law_one) := ⟨rfl, rfl, rfl, by decide +kernel, rfl, by decide +kernel, by decide +kernel⟩
theorem is_at {Hk H : Hp} {p : Addr} {c : Nat} (hf : FeedAt p c H) : At (is p) H H := ⟨.refl, fun a h => by rw [show a = p from h]; exact hf.ne⟩
theorem kn_is {Hk H : Hp} {p : Addr} (e : Same Hk H) (hp : Hk p = none) : Same Hk (kn Hk H (is p) H) := fun a o h => by
  rw [kn_in (fun z => by rw [show a = p from z] at h; rw [hp] at h; cases h)]
  exact nu_base e (Same.refl H) a o h
theorem ok_one (T : Bl K mg) (F : FnP K "_law_one" s_law_one f fd) (g : mg "_law_one" = some (.ref f)) (dD : Df P w K mg base "_law_draw" ["_law_feed_here", "_law_many"] 1 spDraw) : Df P w K mg base "_law_one" ["_law_feed_here", "_law_things"] 2 (spOne K) := by
  have nd := sc_one.nd
  refine df_of F g sc_one (F.bindsN fun _ _ _ _ _ _ us hl => match us, hl with | [_, _], _ => rfl) (len_D fun _ => rfl) fun cdv A outer s H vs Q E hr h => ?_
  refine ⟨_, pss_one (ps_ret (e_ixL T (pv 1) (e_df dD hr (pa_cons (pv 0) (pa_cons (e_len T (pv 1)) pa_nil))))), ?_⟩
  obtain ⟨p, ws, ⟨n, u⟩, Hk, c, rfl, ⟨n1, n2⟩, hs, hkp, hf, hc, hw, q⟩ := h
  have n1 : 1 ≤ n := n1
  have n2 : n ≤ 100 := n2
  have hc : c + 1 ≤ 1000000 := hc
  obtain ⟨v, rfl, hv⟩ := hw.one
  have A0 : At (is p) H H := is_at (Hk := Hk) hf
  have hv' := (kLI K n u).mono (kn_is hs hkp) hv
  refine d_ret (Hk := Hk) A0 rfl hf (gd_op A0 rfl (gd_of A0 rfl (ge_var hv' rfl)) (gd_call A0 rfl rfl (n : Int) ⟨by omega, by omega⟩ (ga_one (ge_cb (ga_one (ge_var hv' rfl)) gc_lenL)) hc) gr_ixLB) fun v' H1 c1 A1 f1 pv => ?_
  exact q v' H1 c1 f1 pv
end
end K38
end
section
set_option Elab.async false
set_option linter.all false
set_option maxRecDepth 100000
set_option maxHeartbeats 4000000
set_option exponentiation.threshold 2000
/-! K38G5: a straight table, drawn. -/
namespace K38
open PySem PySem.Spec PyProof.Rows L2
section
variable {K : PySem.W.Frag} {M : Addr → Prop} {Hk H0 H H1 H2 : Hp} {p : Addr} {c k k1 k2 : Nat} {σ : L2.St} {te ta tb : TE} {tt : TT} {r a b d : Rp} {rs : List Rp} {D : Ends} {ts tu : TS} {n : Nat} {ρ q : Nat → Rp}
/-- x, y = e, e2 where both draw -/
theorem d_pair {i j m : Nat} (A : At M H0 H) (hM : M p) (hf : FeedAt p c H) (ha : GD M Hk H0 H p c k1 ta σ a) (hb : GD M Hk H0 H p (c + k1) k2 tb σ b) (hm : m = 2)
    (kk : ∀ x y H1, Chg (is p) H H1 → At M H0 H1 → FeedAt p (c + k1 + k2) H1 → a.p x (kn Hk H0 M H1) → b.p y (kn Hk H0 M H1) → ts D ((σ.set i (some x)).set j (some y)) H1) :
    tSeq (tAsg (tTup (tCons ta (tCons tb tNil))) (gTup K m (gCons (gName i) (gCons (gName j) gNil)))) ts D σ H :=
  ha H .refl hf _ fun x H1 c1 f1 px => hb H1 (c1.mono (is_sub hM)) f1 _ fun y H2 c2 f2 py => ⟨by show 2 ≤ _; decide, fun T hT => by
    subst hm
    have e3 : Same H2 (upd H2 T (.tup [x, y])) := Same.new hT
    have c3 : Chg (is p) H1 (upd H2 T (.tup [x, y])) := c2.trans (.of e3)
    exact ⟨T, [x, y], rfl, .inl (.inl upd_same), rfl, x, [y], rfl, y, [], rfl, rfl, kk x y _ (c1.trans c3) (A.step ((c1.trans c3).mono (is_sub hM))) (f2.mono (Nat.le_refl _) fun o h => e3 _ _ h) (a.mono (kn_fwd (c3.mono (is_sub hM))) px) (b.mono (kn_fwd (.of e3)) py)⟩⟩
/-- x, y = e, [] where e draws -/
theorem d_pairL {i j m : Nat} (A : At M H0 H) (hM : M p) (hf : FeedAt p c H) (ha : GD M Hk H0 H p c k1 ta σ a) (hm : m = 2)
    (kk : ∀ x l H1, l ≠ p → H0 l = none → At (ins M l) H0 H1 → FeedAt p (c + k1) H1 → Same (kn Hk H0 M H) (kn Hk H0 (ins M l) H1) → a.p x (kn Hk H0 (ins M l) H1) → (∀ ρ, Lst l 0 ρ (kn Hk H0 (ins M l) H1) H1) → ts D ((σ.set i (some x)).set j (some (.ref l))) H1) :
    tSeq (tAsg (tTup (tCons ta (tCons (tLst tNil) tNil))) (gTup K m (gCons (gName i) (gCons (gName j) gNil)))) ts D σ H :=
  ha H .refl hf _ fun x H1 c1 f1 px => ⟨by decide, fun l hl => ⟨by show 2 ≤ _; decide, fun T hT => by
    subst hm
    have A1 := A.step (c1.mono (is_sub hM))
    have e3 : Same (upd H1 l (.lst [])) (upd (upd H1 l (.lst [])) T (.tup [x, .ref l])) := Same.new hT
    have A3 := (A1.new (o := .lst []) hl).same e3
    have nl : l ≠ p := fun z => f1.ne (by rw [← z]; exact hl)
    have k3 : Same (kn Hk H0 M H1) (kn Hk H0 (ins M l) (upd (upd H1 l (.lst [])) T (.tup [x, .ref l]))) := (kn_new hl).trans (kn_fwd (.of e3))
    have h0 : H0 l = none := by
      cases z : H0 l with
      | none => rfl
      | some u => exact absurd hl (A1.chg.dom l (ne_none z))
    exact ⟨T, [x, .ref l], rfl, .inl (.inl upd_same), rfl, x, [.ref l], rfl, .ref l, [], rfl, rfl, kk x l _ nl h0 A3 (f1.mono (Nat.le_refl _) fun o h => e3 _ _ (by rw [upd_ne nl.symm]; exact h)) ((kn_fwd (c1.mono (is_sub hM))).trans k3) (a.mono k3 px)
      fun ρ => ⟨[], e3 _ _ upd_same, rfl, fun i x hx => by simp at hx⟩⟩⟩⟩
theorem gd_draw {E : XK} {i : Nat} {ta : TA} {m : Int} (A : At M H0 H) (hM : M p) (hσ : σ[i]? = some (some (V.ref p))) (h : GA ta σ (kn Hk H0 M H) [kI m]) (hp : 0 < m ∧ m < 2 ^ 60) (hc : c + 1 ≤ 1000000) : GD M Hk H0 H p c 1 (tCall spDraw [] E (tCons (tVar i) ta)) σ (kB0 m) :=
  gd_call (pre := fun m : Int => 0 < m ∧ m < 2 ^ 60) (args := fun m => [kI m]) (cost := fun _ => 1) (res := fun m => kB0 m) A hM hσ m hp h hc
theorem gd_one {E : XK} {i : Nat} {ta : TA} {u : Nat → Int} (A : At M H0 H) (hM : M p) (hσ : σ[i]? = some (some (V.ref p))) (h : GA ta σ (kn Hk H0 M H) [kLI K n u]) (hp : 1 ≤ n ∧ n ≤ 100) (hc : c + 1 ≤ 1000000) : GD M Hk H0 H p c 1 (tCall (spOne K) [] E (tCons (tVar i) ta)) σ (kEx (fun i : Nat => i < n) fun i => kI (u i)) :=
  gd_call (pre := fun z : Nat × (Nat → Int) => 1 ≤ z.1 ∧ z.1 ≤ 100) (args := fun z => [kLI K z.1 z.2]) (cost := fun _ => 1) (res := fun z => kEx (fun i : Nat => i < z.1) fun i => kI (z.2 i)) A hM hσ (n, u) hp h hc
/-- displays of ints, as a function -/
theorem ints_conv {ns : List Int} {v : V} {B : Hp} (h : (kL K (ns.map kI).length (ixR (ns.map kI))).p v B) : (kLI K ns.length fun i => ns.getD i 0).p v B := by
  obtain ⟨l, xs, rfl, hS, hl, hp⟩ := h
  refine ⟨l, xs, rfl, hS, by rw [hl, List.length_map], fun i x hx => ?_⟩
  have h1 := hp i x hx
  have : ∀ (ns : List Int) (i : Nat), i < ns.length → (ixR (ns.map kI) i).p x B → (kI (ns.getD i 0)).p x B := fun ns => by
    induction ns with
    | nil => intro i h; simp at h
    | cons m r ih =>
      intro i h hh
      cases i with
      | zero => exact hh
      | succ i => exact ih i (by simpa using h) hh
  refine this ns i ?_ h1
  have := (List.getElem?_eq_some_iff.mp hx).1
  rw [hl, List.length_map] at this
  exact this
end
section
variable {P : Program} {w : World} {K : PySem.W.Frag} {mg : Str → Option Value} {base : Heap} {f : Addr} {fd : FuncData}
abbrev spSized (K : PySem.W.Frag) : Sp := spD (α := Nat) (fun n => 1 ≤ n ∧ n ≤ 8) (fun n => [kI (n : Int), kI (n : Int)]) (fun _ => 200) (fun n => kSome K n)
abbrev nSZ : List Str := ["_law_feed_here", "_law_rows", "_law_columns", "_law_size", "_law_steep", "_law_left", "_law_top", "_law_gains", "_law_at", "_law_turn"]
theorem sc_sized : FnScope nSZ ["_law_feed_here", "_law_rows", "_law_columns"] (defScope s_law_sized) := ⟨rfl, rfl, rfl, by decide +kernel, rfl, by decide +kernel, by decide +kernel⟩
theorem ok_sized (T : Bl K mg) (F : FnP K "_law_sized" s_law_sized f fd) (g : mg "_law_sized" = some (.ref f)) (dD : Df P w K mg base "_law_draw" ["_law_feed_here", "_law_many"] 1 spDraw) (dO : Df P w K mg base "_law_one" ["_law_feed_here", "_law_things"] 2 (spOne K))
    (dB : Df P w K mg base "_law_built" ["_law_left", "_law_top", "_law_gains"] 1 (spBuilt K)) : Df P w K mg base "_law_sized" ["_law_feed_here", "_law_rows", "_law_columns"] 3 (spSized K) := by
  have nd := sc_sized.nd
  refine df_of F g sc_sized (F.bindsN fun _ _ _ _ _ _ us hl => match us, hl with | [_, _, _], _ => rfl) (len_D fun _ => rfl) fun cdv A outer s H vs Q E hr h => ?_
  refine ⟨_, pss_cons (ps_asg (pe_tup (pa_cons (e_df dO hr (pa_cons (pv 0) (pa_cons (pe_lst (pa_cons pe_int (pa_cons pe_int (pa_cons pe_int (pa_cons (pe_op op_pow pe_int pe_int) (pa_cons (pe_op op_pow pe_int pe_int) pa_nil)))))) pa_nil)))
        (pa_cons (e_df dO hr (pa_cons (pv 0) (pa_cons (pe_lst (pa_cons pe_int (pa_cons pe_int (pa_cons pe_int (pa_cons pe_int (pa_cons (pe_op op_pow pe_int pe_int) pa_nil)))))) pa_nil))) pa_nil))) (g_tup T (pgs_cons (pg_name (i := 3) nd rfl (Or.inr rfl)) (pgs_cons (pg_name (i := 4) nd rfl (Or.inr rfl)) pgs_nil))))
    (pss_cons (ps_setLc (i := 5) (own := [("_law_turn", 9)]) (g := gName 9) (tt := tYes) rfl nd rfl rfl (sw_true rfl rfl rfl (by decide +kernel)) (p_rng1 T (pv 1)) (blkOk_by (own := [("_law_turn", 9)]) (N := nSZ) (sc := defScope s_law_sized) (by decide +kernel)) (fun _ _ _ _ _ => pg_name (i := 9) nd rfl (Or.inl rfl)) (fun _ _ _ _ _ => pts_nil)
      (fun _ _ _ _ _ => pe_op op_sub (e_df dD hr (pa_cons (pv 0) (pa_cons (pe_op op_add (pe_op op_mul pe_int (pv 3)) pe_int) pa_nil))) (pv 3)))
    (pss_cons (ps_setLc (i := 6) (own := [("_law_turn", 9)]) (g := gName 9) (tt := tYes) rfl nd rfl rfl (sw_true rfl rfl rfl (by decide +kernel)) (p_rng1 T (pe_op op_sub (pv 2) pe_int)) (blkOk_by (own := [("_law_turn", 9)]) (N := nSZ) (sc := defScope s_law_sized) (by decide +kernel)) (fun _ _ _ _ _ => pg_name (i := 9) nd rfl (Or.inl rfl)) (fun _ _ _ _ _ => pts_nil)
      (fun _ _ _ _ _ => pe_op op_sub (e_df dD hr (pa_cons (pv 0) (pa_cons (pe_op op_add (pe_op op_mul pe_int (pv 3)) pe_int) pa_nil))) (pv 3)))
    (pss_cons (ps_set (i := 7) nd rfl (Or.inl rfl) (pe_lst pa_nil))
    (pss_cons (ps_for PassesOwn.never rfl (p_rng1 T (pe_op op_sub (pv 1) pe_int)) (pg_name (i := 8) nd rfl (Or.inl rfl))
      (pss_one (ps_expr (pe_bm PySem.F.plainAttrs_list PySem.F.slot_list_append PySem.F.type_list_append mt_append (pv 7) (pa_cons (pe_lc (own := [("_law_turn", 9)]) (g := gName 9) (tt := tYes) rfl nd (p_rng1 T (pe_op op_sub (pv 2) pe_int)) (blkOk_by (own := [("_law_turn", 9)]) (N := nSZ) (sc := defScope s_law_sized) (by decide +kernel)) (fun _ _ _ _ _ => pg_name (i := 9) nd rfl (Or.inl rfl)) (fun _ _ _ _ _ => pts_nil)
        (fun _ _ _ _ _ => pe_ifExp (pt_cmpR op_gt (e_df dD hr (pa_cons (pv 0) (pa_cons pe_int pa_nil))) pe_int (nomark _)) (e_df dD hr (pa_cons (pv 0) (pa_cons (pe_op op_add (pv 4) pe_int) pa_nil))) pe_int)) pa_nil)))))
    (pss_one (ps_ret (e_df dB hr (pa_cons (pv 5) (pa_cons (pv 6) (pa_cons (pv 7) pa_nil)))))))))), ?_⟩
  obtain ⟨p, ws, n, Hk, c, rfl, ⟨n1, n8⟩, hs, hkp, hf, hc, hw, q⟩ := h
  have n1 : 1 ≤ n := n1
  have n8 : n ≤ 8 := n8
  have hc : c + 200 ≤ 1000000 := hc
  obtain ⟨v, v2, rfl, hv, hv2⟩ := hw.two
  cases hv
  cases hv2
  have A0 : At (is p) H H := is_at (Hk := Hk) hf
  refine d_pair (Hk := Hk) (k1 := 1) (k2 := 1) (a := kEx (fun i : Nat => i < 5) fun i => kI ([3, 3, 10, (10 : Int) ^ 6, (10 : Int) ^ 15].getD i 0)) (b := kEx (fun i : Nat => i < 5) fun i => kI ([1, 2, 3, 8, (10 : Int) ^ 9].getD i 0)) A0 rfl hf ?_ ?_ rfl fun x y H1 c1 A1 f1 hx hy => ?_
  · refine gd_one A0 rfl rfl (ga_one (GE.conv (ge_lst (K := K) (rs := [3, 3, 10, (10 : Int) ^ 6, (10 : Int) ^ 15].map kI) (ga_cons ge_c (ga_cons ge_c (ga_cons ge_c (ga_two (ge_pow (b := 10) (x := 6) (by decide) (by decide)) (ge_pow (b := 10) (x := 15) (by decide) (by decide)))))) (by decide)) fun v B _ hv => ints_conv hv)) ⟨by decide, by decide⟩ (by omega)
  · refine gd_one A0 rfl rfl (ga_one (GE.conv (ge_lst (K := K) (rs := [1, 2, 3, 8, (10 : Int) ^ 9].map kI) (ga_cons ge_c (ga_cons ge_c (ga_cons ge_c (ga_two ge_c (ge_pow (b := 10) (x := 9) (by decide) (by decide)))))) (by decide)) fun v B _ hv => ints_conv hv)) ⟨by decide, by decide⟩ (by omega)
  obtain ⟨ix, hix, rfl⟩ := hx
  obtain ⟨iy, hiy, rfl⟩ := hy
  have hS : 0 ≤ [3, 3, 10, (10 : Int) ^ 6, (10 : Int) ^ 15].getD ix 0 ∧ [3, 3, 10, (10 : Int) ^ 6, (10 : Int) ^ 15].getD ix 0 ≤ 10 ^ 15 := by
    have : ∀ i : Fin 5, 0 ≤ [3, 3, 10, (10 : Int) ^ 6, (10 : Int) ^ 15].getD i 0 ∧ [3, 3, 10, (10 : Int) ^ 6, (10 : Int) ^ 15].getD i 0 ≤ 10 ^ 15 := by decide +kernel
    exact this ⟨ix, hix⟩
  have hT : 0 ≤ [1, 2, 3, 8, (10 : Int) ^ 9].getD iy 0 ∧ [1, 2, 3, 8, (10 : Int) ^ 9].getD iy 0 ≤ 10 ^ 15 := by
    have : ∀ i : Fin 5, 0 ≤ [1, 2, 3, 8, (10 : Int) ^ 9].getD i 0 ∧ [1, 2, 3, 8, (10 : Int) ^ 9].getD i 0 ≤ 10 ^ 15 := by decide +kernel
    exact this ⟨iy, hiy⟩
  generalize [3, 3, 10, (10 : Int) ^ 6, (10 : Int) ^ 15].getD ix 0 = S at hS ⊢
  generalize [1, 2, 3, 8, (10 : Int) ^ 9].getD iy 0 = Z at hT ⊢
  have elt : ∀ {M' : Addr → Prop} {H' : Hp} {c' : Nat} {σ' : L2.St}, M' p → At M' H H' → c' + 1 ≤ 1000000 → σ'[0]? = some (some (.ref p)) → σ'[3]? = some (some (.int S)) →
      GD M' Hk H H' p c' 1 (tOp (rI0 fun i j => .int (i - j)) (tCall spDraw [] E0 (tCons (tVar 0) (tCons (tOp (rI0 fun i j => .int (i + j)) (tOp (rI CMul fun i j => .int (i * j)) (tC (.int 2)) (tVar 3)) (tC (.int 1))) tNil))) (tVar 3)) σ' kZ := fun hM A' hc' h0 h3 =>
    gd_op A' hM (gd_draw (m := 2 * S + 1) A' hM h0 (ga_one (ge_I0 (g := fun i j => .int (i + j)) (ge_I (C := CMul) (g := fun i j => .int (i * j)) (i := 2) (j := S) ge_c (ge_var (r := kI S) rfl h3) (.inl ⟨by decide, by decide⟩)) ge_c)) ⟨by omega, by omega⟩ hc') (gd_of A' hM (ge_ex (P := fun _ => True) (ge_var (r := kI S) rfl h3) trivial)) (gr_ex (g := fun i j => i - j) fun _ _ _ _ => trivial)
  refine d_set (Hk := Hk) A1 rfl f1 (gd_lc (K := K) (n := n) (k := 1) (q := fun _ => kZ) A1 rfl (gi_rng (ga_one (ge_var (r := kI (n : Int)) rfl rfl)) rfl (by omega)) (fun i hi M' H' hM A' k' x hx => elt hM A' (by omega) rfl rfl) (by omega)) fun vl H2 c2 A2 f2 hvl => ?_
  refine d_set (Hk := Hk) A2 rfl f2 (gd_lc (K := K) (n := n - 1) (k := 1) (q := fun _ => kZ) A2 rfl (gi_rng (ga_one (ge_I0 (g := fun i j => .int (i - j)) (ge_var (i := 2) (r := kI (n : Int)) rfl rfl) ge_c)) (by omega) (by omega)) (fun i hi M' H' hM A' k' x hx => elt hM A' (by omega) rfl rfl) (by omega)) fun vt H3 c3 A3 f3 hvt => ?_
  have hvl3 := (kL K n fun _ => kZ).mono (kn_fwd (Hk := Hk) (H0 := H) c3) hvl
  refine y_lst (Hk := Hk) A3 (rs := []) ga_nil (Nat.zero_le _) fun l H4 hl hl0 A4 k4 s4 hL => ?_
  have hM : ins (is p) l p := .inl rfl
  have hMl : ins (is p) l l := .inr rfl
  have nl : l ≠ p := fun z => f3.ne (by rw [← z]; exact hl)
  have f4 := f3.mono (Nat.le_refl _) fun o h => s4 _ _ h
  refine y_for (Hk := Hk) (n := n - 1) A4 (gi_rng (ga_one (ge_I0 (g := fun i j => .int (i - j)) (ge_var (i := 1) (r := kI (n : Int)) rfl rfl) ge_c)) (by omega) (by omega)) fun H5 e5 A5 => ?_
  refine ⟨fun i σ' H' => ∃ x8, σ' = [some (.ref p), some (.int (n : Int)), some (.int (n : Int)), some (.int S), some (.int Z), some vl, some vt, some (.ref l), x8, none] ∧ At (ins (is p) l) H H' ∧ Same (kn Hk H (ins (is p) l) H5) (kn Hk H (ins (is p) l) H') ∧
      FeedAt p (c + 1 + 1 + n * 1 + (n - 1) * 1 + i * ((n - 1) * 2)) H' ∧ Lst l i (fun _ => kZL K (n - 1)) (kn Hk H (ins (is p) l) H') H',
    ⟨none, rfl, A5, Same.refl _, f4.mono (by omega) fun o h => e5 _ _ h, (hL.mono (kn_fwd (.of e5)) fun o h => e5 _ _ h).conv fun i hi => absurd hi (Nat.not_lt_zero i)⟩, fun i σ' H' _ p => ?_, fun i x σ' H' hi p hx => ?_, fun σ' H' p => ?_⟩
  · obtain ⟨x8, rfl, A', k', _⟩ := p
    exact k'.trans kn_sub
  · obtain ⟨x8, rfl, A', k', f', hL'⟩ := p
    cases hx
    have hb : i * ((n - 1) * 2) ≤ 7 * (7 * 2) := Nat.mul_le_mul (by omega) (by omega)
    refine d_app (Hk := Hk) (k := (n - 1) * 2) (r := kZL K (n - 1)) A' hM hMl nl hL' rfl f' (gd_lc (K := K) (n := n - 1) (k := 2) (q := fun _ => kZ) A' hM (gi_rng (ga_one (ge_I0 (g := fun i j => .int (i - j)) (ge_var (i := 2) (r := kI (n : Int)) rfl rfl) ge_c)) (by omega) (by omega)) (fun j hj M' H' hM A' k' x hx => ?_) (by omega)) (by omega) fun v H6 A6 c6 s6 f6 hv hL6 => ?_
    · refine gd_if (k1 := 1) (k2 := 1) (k3 := 0) hM (gdt_test (gd_op (Hk := Hk) A' hM (gd_draw (m := 3) A' hM rfl (ga_one ge_c) ⟨by decide, by decide⟩ (by omega)) (gd_of A' hM (ge_ex (P := fun _ => True) ge_c trivial)) (gr_any (g := fun i j => decide (j < i))))) (GD.conv (gd_draw (m := Z + 1) A' hM rfl (ga_one (ge_I0 (g := fun i j => .int (i + j)) (ge_var (i := 4) (r := kI Z) rfl rfl) ge_c)) ⟨by omega, by omega⟩ (by omega)) fun v B h => ?_) (gd_of A' hM (ge_ex ge_c trivial)) (by decide) (by decide)
      obtain ⟨j, _, h⟩ := h
      exact ⟨j, trivial, h⟩
    · have e6 : c + 1 + 1 + n * 1 + (n - 1) * 1 + i * ((n - 1) * 2) + (n - 1) * 2 = c + 1 + 1 + n * 1 + (n - 1) * 1 + (i + 1) * ((n - 1) * 2) := by rw [Nat.add_mul i 1, Nat.one_mul]; omega
      rw [e6] at f6
      exact ⟨_, rfl, A6, k'.trans (kn_fwd c6), f6, hL6 _ (fun i _ x B h => h) hv⟩
  · obtain ⟨x8, rfl, A', k', f', hL'⟩ := p
    have A9 : At (is p) H H' := A'.less (fun a h => .inl h) fun a h => h.elim .inl fun z => .inr (by rw [z]; exact hl0)
    have kk := ((k4.trans (kn_fwd (Hk := Hk) (H0 := H) (M := ins (is p) l) (.of e5))).trans k').trans (kn_less (M' := is p) fun a h => .inl h)
    have hg : (kL K (n - 1) fun _ => kZL K (n - 1)).p (.ref l) (kn Hk H (is p) H') := hL'.out2 hl0 (fun a h => .inl h) nl
    dsimp only
    refine y_ret (Hk := Hk) (r := kSome K n) A9 ?_ fun v H1 e1 A1 pv => ?_
    · exact ge_call n ⟨n1, n8⟩ (ga_cons (ge_var ((kZL K n).mono kk hvl3) rfl) (ga_two (ge_var ((kZL K (n - 1)).mono kk hvt) rfl) (ge_var hg rfl)))
    · have hb : (n - 1) * ((n - 1) * 2) ≤ 7 * (7 * 2) := Nat.mul_le_mul (by omega) (by omega)
      exact q v H1 A1.chg (f'.mono (show _ ≤ c + 200 by omega) fun o h => e1 _ _ h) pv
end
end K38
end
section
set_option Elab.async false
set_option linter.all false
set_option maxRecDepth 100000
set_option maxHeartbeats 4000000
set_option exponentiation.threshold 2000
/-! K38G6: a table of any numbers, drawn; a few places. -/
namespace K38
open PySem PySem.Spec PyProof.Rows L2
section
variable {K : PySem.W.Frag} {M : Addr → Prop} {Hk H0 H H1 H2 : Hp} {p : Addr} {c k k1 k2 : Nat} {σ : L2.St} {te ta tb : TE} {tt : TT} {r a b d : Rp} {rs : List Rp} {D : Ends} {ts tu : TS} {n : Nat} {ρ q : Nat → Rp}
theorem gd_cb1 {o : List V → Hp → VK → Prop} (A : At M H0 H) (hM : M p) (h : GD M Hk H0 H p c k te σ r) (hr : GC o [r] a) : GD M Hk H0 H p c k (tCB o (tCons te tNil)) σ a := fun H1 ch hf Q q =>
  h H1 ch hf _ fun v H2 c2 f2 pv => by
    have A2 := A.step (ch.trans (c2.mono (is_sub hM)))
    exact hr [v] (kn Hk H0 M H2) H2 kn_sub ⟨pv, trivial⟩ Q fun y H3 e3 py => q y H3 (c2.trans (.of e3)) (f2.mono (Nat.le_refl _) fun o h => e3 _ _ h) (a.mono (kn_step A2 e3) py)
theorem gd_callEx {α β : Type} {pre : α → Prop} {args : α → List Rp} {res : α → Rp} {E : XK} {Pb : β → Prop} {rb : β → Rp} (A : At M H0 H) (hM : M p) (h : GD M Hk H0 H p c k te σ (kEx Pb rb)) (x : β → α) (hx : ∀ b, Pb b → pre (x b) ∧ args (x b) = [rb b] ∧ res (x b) = a) : GD M Hk H0 H p c k (tCall (spF pre args res) [] E (tCons te tNil)) σ a := fun H1 ch hf Q q =>
  h H1 ch hf _ fun v H2 c2 f2 pv => by
    have A2 := A.step (ch.trans (c2.mono (is_sub hM)))
    obtain ⟨b, hb, pv⟩ := pv
    obtain ⟨h1, h2, h3⟩ := hx b hb
    refine ⟨x b, kn Hk H0 M H2, h1, kn_sub, ?_, fun y H3 e3 py => q y H3 (c2.trans (.of e3)) (f2.mono (Nat.le_refl _) fun o h => e3 _ _ h) (a.mono (kn_step A2 e3) (by rw [← h3]; exact py))⟩
    rw [h2]
    exact ⟨pv, trivial⟩
theorem gr_eqAny {P P' : Int → Prop} : GR rEq (kEx P kI) (kEx P' kI) (kEx (fun _ : Bool => True) kB) := fun x y Hx H1 e hx hy Q q => by
  obtain ⟨i, _, rfl⟩ := hx
  obtain ⟨j, _, rfl⟩ := hy
  refine ge_eqI (σ := []) (H := H1) (i := i) (j := j) ge_c ge_c H1 (Same.refl H1) Q fun v H2 e2 pv => q v H2 e2 ⟨_, trivial, pv⟩
end
section
variable {P : Program} {w : World} {K : PySem.W.Frag} {mg : Str → Option Value} {base : Heap} {f : Addr} {fd : FuncData}
abbrev spNums (K : PySem.W.Frag) : Sp := spD (α := Nat × Nat × (Nat → Int)) (fun z => (1 ≤ z.1 ∧ z.1 ≤ 8) ∧ (1 ≤ z.2.1 ∧ z.2.1 ≤ 100) ∧ ∀ i, i < z.2.1 → 0 ≤ z.2.2 i ∧ z.2.2 i ≤ 10 ^ 15) (fun z => [kI (z.1 : Int), kI (z.1 : Int), kLI K z.2.1 z.2.2]) (fun _ => 200) (fun z => kSome K z.1)
abbrev nNU : List Str := ["_law_feed_here", "_law_rows", "_law_columns", "_law_sizes", "_law_size", "_law_got", "_law_at", "_law_to"]
theorem sc_numbers : FnScope nNU ["_law_feed_here", "_law_rows", "_law_columns", "_law_sizes"] (defScope s_law_numbers) := ⟨rfl, rfl, rfl, by decide +kernel, rfl, by decide +kernel, by decide +kernel⟩
theorem ok_numbers (T : Bl K mg) (F : FnP K "_law_numbers" s_law_numbers f fd) (g : mg "_law_numbers" = some (.ref f)) (dD : Df P w K mg base "_law_draw" ["_law_feed_here", "_law_many"] 1 spDraw) (dO : Df P w K mg base "_law_one" ["_law_feed_here", "_law_things"] 2 (spOne K)) : Df P w K mg base "_law_numbers" ["_law_feed_here", "_law_rows", "_law_columns", "_law_sizes"] 3 (spNums K) := by
  have nd := sc_numbers.nd
  refine df_of F g sc_numbers (F.bindsN fun _ _ _ _ _ _ us hl => match us, hl with | [_, _, _, _], _ => rfl) (len_D fun _ => rfl) fun cdv A outer s H vs Q E hr h => ?_
  refine ⟨_, pss_cons (ps_asg (pe_tup (pa_cons (e_df dO hr (pa_cons (pv 0) (pa_cons (pv 3) pa_nil))) (pa_cons (pe_lst pa_nil) pa_nil))) (g_tup T (pgs_cons (pg_name (i := 4) nd rfl (Or.inr rfl)) (pgs_cons (pg_name (i := 5) nd rfl (Or.inl rfl)) pgs_nil))))
    (pss_cons (ps_for PassesOwn.never rfl (p_rng1 T (pv 1)) (pg_name (i := 6) nd rfl (Or.inl rfl))
      (pss_one (ps_expr (pe_bm PySem.F.plainAttrs_list PySem.F.slot_list_append PySem.F.type_list_append mt_append (pv 5) (pa_cons (e_tuple T (pe_lc (own := [("_law_to", 7)]) (g := gName 7) (tt := tYes) rfl nd (p_rng1 T (pv 2)) (blkOk_by (own := [("_law_to", 7)]) (N := nNU) (sc := defScope s_law_numbers) (by decide +kernel)) (fun _ _ _ _ _ => pg_name (i := 7) nd rfl (Or.inl rfl)) (fun _ _ _ _ _ => pts_nil)
        (fun _ _ _ _ _ => pe_op op_mul (pe_op op_sub pe_int (pe_op op_mul pe_int (e_df dD hr (pa_cons (pv 0) (pa_cons pe_int pa_nil))))) (e_df dD hr (pa_cons (pv 0) (pa_cons (pe_op op_add (pv 4) pe_int) pa_nil)))))) pa_nil)))))
    (pss_one (ps_ret (e_tuple T (pv 5))))), ?_⟩
  obtain ⟨p, ws, ⟨n, m, u⟩, Hk, c, rfl, ⟨⟨n1, n8⟩, ⟨m1, m2⟩, hu⟩, hs, hkp, hf, hc, hw, q⟩ := h
  have n1 : 1 ≤ n := n1
  have n8 : n ≤ 8 := n8
  have m1 : 1 ≤ m := m1
  have m2 : m ≤ 100 := m2
  have hu : ∀ i, i < m → 0 ≤ u i ∧ u i ≤ 10 ^ 15 := hu
  have hc : c + 200 ≤ 1000000 := hc
  obtain ⟨v, v2, v3, rfl, hv, hv2, hv3⟩ := hw.three
  cases hv
  cases hv2
  have A0 : At (is p) H H := is_at (Hk := Hk) hf
  refine d_pairL (Hk := Hk) (k1 := 1) (a := kEx (fun i : Nat => i < m) fun i => kI (u i)) A0 rfl hf (gd_one A0 rfl rfl (ga_one (ge_var ((kLI K m u).mono (kn_is hs hkp) hv3) rfl)) ⟨m1, m2⟩ (by omega)) rfl fun x l H1 nl hl0 A1 f1 k1 hx hL => ?_
  obtain ⟨ix, hix, rfl⟩ := hx
  have hS := hu ix hix
  generalize u ix = S at hS
  have hM : ins (is p) l p := .inl rfl
  have hMl : ins (is p) l l := .inr rfl
  refine y_for (Hk := Hk) (n := n) A1 (gi_rng (ga_one (ge_var (i := 1) (r := kI (n : Int)) rfl rfl)) rfl (by omega)) fun H5 e5 A5 => ?_
  refine ⟨fun i σ' H' => ∃ x6, σ' = [some (.ref p), some (.int (n : Int)), some (.int (n : Int)), some v3, some (.int S), some (.ref l), x6, none] ∧ At (ins (is p) l) H H' ∧ Same (kn Hk H (ins (is p) l) H5) (kn Hk H (ins (is p) l) H') ∧
      FeedAt p (c + 1 + i * (n * 2)) H' ∧ Lst l i (fun _ => kT K n fun _ => kZ) (kn Hk H (ins (is p) l) H') H',
    ⟨none, rfl, A5, Same.refl _, f1.mono (by omega) fun o h => e5 _ _ h, (hL _).mono (kn_fwd (.of e5)) fun o h => e5 _ _ h⟩, fun i σ' H' _ p => ?_, fun i x σ' H' hi p hx => ?_, fun σ' H' p => ?_⟩
  · obtain ⟨x6, rfl, A', k', _⟩ := p
    exact k'.trans kn_sub
  · obtain ⟨x6, rfl, A', k', f', hL'⟩ := p
    cases hx
    have hb : i * (n * 2) ≤ 7 * (8 * 2) := Nat.mul_le_mul (by omega) (by omega)
    refine d_app (Hk := Hk) (k := n * 2) (r := kT K n fun _ => kZ) A' hM hMl nl hL' rfl f' (gd_cb1 A' hM (gd_lc (K := K) (n := n) (k := 2) (q := fun _ => kZ) A' hM (gi_rng (ga_one (ge_var (i := 2) (r := kI (n : Int)) rfl rfl)) rfl (by omega)) (fun j hj M' H' hM A' k' x hx => ?_) (by omega)) gc_tuple) (by omega) fun v H6 A6 c6 s6 f6 hv hL6 => ?_
    · refine GD.weak (k := 0 + (0 + 1) + 1) (gd_op (Hk := Hk) (a := kEx (fun i : Int => -1 ≤ i ∧ i ≤ 1) kI) (b := kB0 (S + 1)) A' hM (gd_op (Hk := Hk) (a := kI 1) (b := kEx (fun i : Int => 0 ≤ i ∧ i ≤ 2) kI) A' hM (gd_of A' hM ge_c) (gd_op (Hk := Hk) (a := kI 2) (b := kB0 2) A' hM (gd_of A' hM ge_c) (gd_draw A' hM rfl (ga_one ge_c) ⟨by decide, by decide⟩ (by omega)) ?_) ?_) (gd_draw A' hM rfl (ga_one (ge_I0 (g := fun i j => .int (i + j)) (ge_var (i := 4) (r := kI S) rfl rfl) ge_c)) ⟨by omega, by omega⟩ (by omega)) (gr_exC (C := CMul) (g := fun i j => i * j) fun i j hi hj => ⟨.inl ⟨by omega, by omega⟩, trivial⟩)) (by decide)
      · exact fun x y Hx H1 e hx hy Q q => by
          cases hx
          obtain ⟨i, ⟨i0, i1⟩, rfl⟩ := hy
          exact ⟨2, i, rfl, rfl, .inl ⟨by decide, by decide⟩, q _ H1 (Same.refl H1) ⟨2 * i, ⟨by omega, by omega⟩, rfl⟩⟩
      · exact fun x y Hx H1 e hx hy Q q => by
          cases hx
          obtain ⟨i, ⟨i0, i1⟩, rfl⟩ := hy
          exact ⟨1, i, rfl, rfl, q _ H1 (Same.refl H1) ⟨1 - i, ⟨by omega, by omega⟩, rfl⟩⟩
    · have e6 : c + 1 + i * (n * 2) + n * 2 = c + 1 + (i + 1) * (n * 2) := by rw [Nat.add_mul i 1, Nat.one_mul]; omega
      rw [e6] at f6
      exact ⟨_, rfl, A6, k'.trans (kn_fwd c6), f6, hL6 _ (fun i _ x B h => h) hv⟩
  · obtain ⟨x6, rfl, A', k', f', hL'⟩ := p
    have A9 : At (is p) H H' := A'.less (fun a h => .inl h) fun a h => h.elim .inl fun z => .inr (by rw [z]; exact hl0)
    have hg : (kL K n fun _ => kT K n fun _ => kZ).p (.ref l) (kn Hk H (is p) H') := hL'.out2 hl0 (fun a h => .inl h) nl
    have hb : n * (n * 2) ≤ 8 * (8 * 2) := Nat.mul_le_mul (by omega) (by omega)
    dsimp only
    refine y_ret (Hk := Hk) (r := kT K n fun _ => kT K n fun _ => kZ) A9 ?_ fun v H1 e1 A1 pv => ?_
    · exact ge_cb (ga_one (ge_var hg rfl)) gc_tuple
    · exact q v H1 A1.chg (f'.mono (show _ ≤ c + 200 by omega) fun o h => e1 _ _ h) (some_tab pv)

abbrev spFew (K : PySem.W.Frag) : Sp := spD (α := Nat) (fun n => 1 ≤ n ∧ n ≤ 8) (fun n => [kI (n : Int)]) (fun _ => 400) (fun n => kSome K n)
abbrev nFEW : List Str := ["_law_feed_here", "_law_places"]
theorem sc_few : FnScope nFEW ["_law_feed_here", "_law_places"] (defScope s_law_few) := ⟨rfl, rfl, rfl, by decide +kernel, rfl, by decide +kernel, by decide +kernel⟩
theorem ok_few (T : Bl K mg) (F : FnP K "_law_few" s_law_few f fd) (g : mg "_law_few" = some (.ref f)) (dD : Df P w K mg base "_law_draw" ["_law_feed_here", "_law_many"] 1 spDraw) (dS : Df P w K mg base "_law_sized" ["_law_feed_here", "_law_rows", "_law_columns"] 3 (spSized K))
    (dT : Df P w K mg base "_law_trimmed" ["_law_table"] 1 (spTrimmed K)) (dN : Df P w K mg base "_law_numbers" ["_law_feed_here", "_law_rows", "_law_columns", "_law_sizes"] 3 (spNums K)) : Df P w K mg base "_law_few" ["_law_feed_here", "_law_places"] 4 (spFew K) := by
  have nd := sc_few.nd
  refine df_of F g sc_few (F.bindsN fun _ _ _ _ _ _ us hl => match us, hl with | [_, _], _ => rfl) (len_D fun _ => rfl) fun cdv A outer s H vs Q E hr h => ?_
  refine ⟨_, pss_cons (ps_if (pt_cmpR op_eq (e_df dD hr (pa_cons (pv 0) (pa_cons pe_int pa_nil))) pe_int (nomark _)) (pss_one (ps_ret (e_df dT hr (pa_cons (e_df dS hr (pa_cons (pv 0) (pa_cons (pv 1) (pa_cons (pv 1) pa_nil)))) pa_nil)))) pss_nil)
    (pss_one (ps_ret (e_df dN hr (pa_cons (pv 0) (pa_cons (pv 1) (pa_cons (pv 1) (pa_cons (pe_lst (pa_cons pe_int (pa_cons pe_int (pa_cons pe_int (pa_cons pe_int (pa_cons (pe_op op_pow pe_int pe_int) pa_nil)))))) pa_nil))))))), ?_⟩
  obtain ⟨p, ws, n, Hk, c, rfl, ⟨n1, n8⟩, hs, hkp, hf, hc, hw, q⟩ := h
  have n1 : 1 ≤ n := n1
  have n8 : n ≤ 8 := n8
  have hc : c + 400 ≤ 1000000 := hc
  obtain ⟨v, rfl, hv⟩ := hw.one
  cases hv
  have A0 : At (is p) H H := is_at (Hk := Hk) hf
  refine gdt_test (Hk := Hk) (H0 := H) (M := is p) (p := p) (c := c) (k := 1) (gd_op (Hk := Hk) (k1 := 1) (k2 := 0) A0 rfl (gd_draw (m := 3) A0 rfl rfl (ga_one ge_c) ⟨by decide, by decide⟩ (by omega)) (gd_of A0 rfl (ge_ex (P := fun _ => True) ge_c trivial)) gr_eqAny) H .refl hf _ fun b H1 c1 f1 => ?_
  have A1 := A0.step c1
  cases b with
  | true =>
    refine d_ret (Hk := Hk) (k := 200) (r := kSome K n) A1 rfl f1 (gd_callEx A1 rfl (gd_call (pre := fun n : Nat => 1 ≤ n ∧ n ≤ 8) (args := fun n : Nat => [kI (n : Int), kI (n : Int)]) (cost := fun _ => 200) (res := fun n => kSome K n) A1 rfl rfl n ⟨n1, n8⟩ (ga_two (ge_var (i := 1) rfl rfl) (ge_var (i := 1) rfl rfl)) (by show c + 1 + 200 ≤ _; omega)) (fun t => (n, t)) fun t _ => ⟨⟨n1, n8⟩, rfl, rfl⟩) fun v H2 c2 A2 f2 pv => ?_
    exact q v H2 A2.chg (f2.mono (show _ ≤ c + 400 by omega) fun o h => h) pv
  | false =>
    rw [if_neg Bool.false_ne_true]
    unfold tNext
    dsimp only
    refine d_ret (Hk := Hk) (k := 200) (r := kSome K n) A1 rfl f1 (gd_call (pre := fun z : Nat × Nat × (Nat → Int) => (1 ≤ z.1 ∧ z.1 ≤ 8) ∧ (1 ≤ z.2.1 ∧ z.2.1 ≤ 100) ∧ ∀ i, i < z.2.1 → 0 ≤ z.2.2 i ∧ z.2.2 i ≤ 10 ^ 15) (args := fun z => [kI (z.1 : Int), kI (z.1 : Int), kLI K z.2.1 z.2.2]) (cost := fun _ => 200) (res := fun z => kSome K z.1) A1 rfl rfl (n, 5, fun i => [1, 2, 4, 100, (10 : Int) ^ 10].getD i 0) ⟨⟨n1, n8⟩, ⟨show 1 ≤ 5 by decide, show 5 ≤ 100 by decide⟩, fun i hi => ?_⟩ (ga_cons (ge_var (i := 1) rfl rfl) (ga_two (ge_var (i := 1) rfl rfl) (GE.conv (ge_lst (K := K) (rs := [1, 2, 4, 100, (10 : Int) ^ 10].map kI) (ga_cons ge_c (ga_cons ge_c (ga_cons ge_c (ga_two ge_c (ge_pow (b := 10) (x := 10) (by decide) (by decide)))))) (by decide)) fun v B _ hv => ints_conv hv))) (by show c + 1 + 200 ≤ _; omega)) fun v H2 c2 A2 f2 pv => ?_
    · have : ∀ i : Fin 5, 0 ≤ [1, 2, 4, 100, (10 : Int) ^ 10].getD i 0 ∧ [1, 2, 4, 100, (10 : Int) ^ 10].getD i 0 ≤ 10 ^ 15 := by decide +kernel
      exact this ⟨i, hi⟩
    · exact q v H2 A2.chg (f2.mono (show _ ≤ c + 400 by omega) fun o h => h) pv
end
end K38
end
section
set_option Elab.async false
set_option linter.all false
set_option maxRecDepth 100000
set_option maxHeartbeats 4000000
/-! K38H: a tuple times one or more; tuples compared. -/
namespace K38
open PySem PySem.Spec PyProof.Rows L2
theorem tuple_mul1 (l : Addr) (items : Array Value) (n : Nat) (sl : Array (Option Value)) (dd : Option Addr) (u : Tok) :
    Meets (Builtin.«tuple.__mul__» ⟨[.ref l, .int 1 u], []⟩) (fun _ R s => s.heap.get? l = some { cls := .type "tuple", dict := dd, data := .seq items n, slots := sl } ∧ R (.ok (.ret (.ref l))) s) :=
  .of_wp fun prog w A R s h => by
    obtain ⟨hp, g, d, tk, os⟩ := s
    obtain ⟨hl, h⟩ := h
    have f1 := AutoSeq1.idx_int
    have c0 : (decide ((1 : Int) < -(2 ^ 63)) || decide ((1 : Int) ≥ 2 ^ 63)) = false := by decide
    have c1 : (items.isEmpty || (1 : Int) == 1) = true := by simp
    wp_walk using wpAny_loadPart' hl
    exact ⟨_, rfl, h⟩
def rRepT1 (K : PySem.W.Frag) : R2 := fun x y H Q => ∃ l k xs, x = .ref l ∧ y = .int k ∧ SqT K H l xs ∧ xs ≠ [] ∧ 1 ≤ k ∧ k ≤ 1000 ∧ xs.length ≤ 1000 ∧ (k = 1 → Q (.ref l) H) ∧ (2 ≤ k → ∀ p, H p = none → Q (.ref p) (upd H p (.tup (List.replicate k.toNat xs).flatten)))
section
variable {X : Cx}
theorem op_repT1 : OpR X (binaryOp .Mult) (rRepT1 X.K) := by
  intro pins s σ H x y v u Q I rx ry h
  obtain ⟨l, k, xs, rfl, rfl, hT, hne, h1, h2, hz, q1, q2⟩ := h
  by_cases hk : k = 1
  · subst hk
    cases rx
    obtain ⟨t, rfl⟩ := ry
    obtain ⟨its, r, ⟨⟨cls, dd, data, sl⟩, ho, hc, n, hd⟩, hs⟩ := I.tuple hT
    simp only at hc hd
    subst hc hd
    exact wpAny_binaryOp_repeat_ref (T := "tuple") (U := "int") (by decide) ⟨_, ho, rfl⟩ (fun s' => typeIs_int s' 1 t) noFill_tuple_mul F.fills_int_mul F.slot_int_rmul repeat_tuple F.slot_int_index.lookup
      (call_meets F.slot_int_rmul (typeIs_int s 1 t) F.entry_int_rmul (F.args_int_rmul_2 _ _) (int_rmul_tuple 1 t l its.toArray n dd sl)
        ⟨ho, rfl, ⟨_, ho, rfl⟩, call_meets F.slot_tuple_mul ⟨_, ho, rfl⟩ F.entry_tuple_mul (F.args_tuple_mul_2 _ _) (tuple_mul1 l its.toArray n sl dd t) ⟨ho, ⟨.ref l, H, I, rfl, q1 rfl⟩⟩⟩)
  · exact op_repT pins s σ H _ _ v u Q I rx ry ⟨l, k, xs, rfl, rfl, hT, hne, by omega, h2, hz, q2 (by omega)⟩
end
section
variable {K : PySem.W.Frag} {σ : L2.St} {H : Hp} {te ta tb : TE} {n : Nat}
theorem flat_one {α : Type} (x : α) : ∀ m : Nat, (List.replicate m [x]).flatten = List.replicate m x
  | 0 => rfl
  | m + 1 => by
    rw [List.replicate_succ, List.flatten_cons, flat_one x m]
    rfl
/-- (i,) * n -/
theorem ge_rep {i z : Int} (ha : GE ta σ H (kTI K 1 fun _ => i)) (hb : GE tb σ H (kI z)) (hz : z = (n : Int)) (h1 : 1 ≤ n) (h2 : n ≤ 1000) : GE (tOp (rRepT1 K) ta tb) σ H (kTI K n fun _ => i) := ge_op ha hb fun x y H0 H1 e0 hx hy Q q => by
  obtain ⟨p, xs, rfl, hS, hl, hp⟩ := hx
  cases hy
  subst hz
  match xs, hl with
  | [x], _ =>
    have hx0 := hp 0 x rfl
    cases hx0
    refine ⟨p, _, _, rfl, rfl, sameT e0 hS, by simp, by omega, by omega, by simp, fun hk => ?_, fun hk l hl => ?_⟩
    · have : n = 1 := by omega
      subst this
      exact q _ H1 (Same.refl H1) ⟨p, _, rfl, sameT (nu_base e0 (Same.refl H1)) hS, rfl, hp⟩
    · refine q _ _ (Same.new hl) ⟨l, _, rfl, .inl (.inl (nu_new (Same.refl H1) hl)), ?_, fun j y hy => ?_⟩
      · rw [flat_one, List.length_replicate, Int.toNat_natCast]
      · rw [flat_one, List.getElem?_replicate] at hy
        split at hy
        · exact (Option.some.inj hy).symm
        · cases hy
/-- a != b, of pairs of ints -/
theorem ge_nePair {a b c d : Int} (ha : GE ta σ H (kP K (kI a) (kI b))) (hb : GE tb σ H (kP K (kI c) (kI d))) : GE (tOp (rNeD K) ta tb) σ H (kB (!(decide (a = c) && decide (b = d)))) := ge_op ha hb fun x y H0 H1 e0 hx hy Q q => by
  obtain ⟨p, x1, x2, rfl, hS, h1, h2⟩ := kP_open hx
  obtain ⟨p', y1, y2, rfl, hS', h3, h4⟩ := kP_open hy
  cases h1
  cases h2
  cases h3
  cases h4
  refine ⟨.tuple [.int a, .int b], .tuple [.int c, .int d], .tup (sameT e0 hS) (.cons (.int _) (.cons (.int _) .nil)), .tup (sameT e0 hS') (.cons (.int _) (.cons (.int _) .nil)), by rfl, by rfl, q _ H1 (Same.refl H1) ?_⟩
  show V.bl _ = V.bl _
  simp [PyData.eqv, PyData.eqvAll]
  rfl
/-- xs != [], xs having nothing -/
theorem ge_neNil {ρ ρ' : Nat → Rp} (ha : GE ta σ H (kL K 0 ρ)) (hb : GE tb σ H (kL K 0 ρ')) : GE (tOp (rNeD K) ta tb) σ H (kB false) := ge_op ha hb fun x y H0 H1 e0 hx hy Q q => by
  obtain ⟨p, xs, rfl, hS, hl, hp⟩ := hx
  obtain ⟨p', xs', rfl, hS', hl', hp'⟩ := hy
  have e1 := List.eq_nil_of_length_eq_zero hl
  have e2 := List.eq_nil_of_length_eq_zero hl'
  subst e1 e2
  exact ⟨.list [], .list [], .lst (sameL e0 hS) .nil, .lst (sameL e0 hS') .nil, by rfl, by rfl, q _ H1 (Same.refl H1) rfl⟩
end
end K38
end
section
set_option Elab.async false
set_option linter.all false
set_option maxRecDepth 100000
set_option maxHeartbeats 4000000
/-! K38K: what the law's own body needs. -/
namespace K38
open PySem PySem.Spec PyProof.Rows L2
/-- a list that stands in the heap -/
def kM (n : Nat) (r : Nat → Rp) : Rp :=
  ⟨fun v H => ∃ a xs, v = .ref a ∧ H a = some (.lst xs) ∧ xs.length = n ∧ ∀ (i : Nat) x, xs[i]? = some x → (r i).p x H,
   fun e ⟨a, xs, h1, h2, h3, h4⟩ => ⟨a, xs, h1, e _ _ h2, h3, fun i x h => (r i).mono e (h4 i x h)⟩⟩
section
variable {K : PySem.W.Frag} {M : Addr → Prop} {Hk H0 H H1 H2 : Hp} {l p : Addr} {c k k1 k2 : Nat} {σ : L2.St} {te ta tb : TE} {tt : TT} {r a b : Rp} {D : Ends} {ts tu : TS} {n m : Nat} {ρ ρ' q : Nat → Rp}
theorem made_endM {Hc : Hp} {D : Addr} (e2 : Same H1 H2) (hD : H2 D = none) (h : Made H H1 H2 D q n Hc) : (kM n q).p (.ref D) (nu H H1 Hc) := by
  obtain ⟨s, acc, hc, hl, hp⟩ := h
  refine ⟨D, acc, rfl, ?_, hl, fun m x hx => (q m).mono rmv_sub (hp m x hx)⟩
  rw [nu_in (.inr (e2.free hD))]
  exact hc
theorem ge_lcM {wi : TI} {j : Nat} (hi : GI wi σ H n ρ) (he : ∀ i, i < n → ∀ B, Same H B → ∀ x, (ρ i).p x B → GE te (σ.set j (some x)) B (q i)) (hn : n ≤ 1000000) : GE (tLc wi (gName j) tYes te [j]) σ H (kM n q) := fun H1 e Q k =>
  hi H1 e _ fun J H2 e2 w D hD => lc_it w (Made H H1 H2 D q) (made_start hD) (fun i H' _ p => nu_sub.trans p.1) (fun i x Hc H' hlt p y => by
    obtain ⟨rfl, hx⟩ := y
    have ew : wipe ((wipe σ [j]).set j (some x)) [j] = wipe σ [j] := by
      show (((σ.set j none).set j (some x)).set j none) = σ.set j none
      rw [List.set_set, List.set_set]
    refine ⟨ew, ?_⟩
    show te ((σ.set j none).set j (some x)) H' _
    rw [List.set_set]
    exact he i hlt (nu H H1 H2) (nu_base e e2) x hx H' (nu_sub.trans p.1) _ fun y H4 e4 py => made_next e e2 hD p (Same.refl _) e4 py (by omega)) fun H' p => k _ H' (e2.trans p.1) (made_endM e2 hD p)
/-- [e for x in .. if ..], where nothing passes -/
theorem ge_lcNo {wi : TI} {j : Nat} (hi : GI wi σ H n ρ) (he : ∀ i, i < n → ∀ B, Same H B → ∀ x, (ρ i).p x B → GT tt (σ.set j (some x)) B false) : GE (tLc wi (gName j) tt te [j]) σ H (kL K 0 fun _ => kAny) := fun H1 e Q k =>
  hi H1 e _ fun J H2 e2 w D hD => lc_it w (fun _ Hc => Same H2 Hc ∧ Hc D = some (.lst [])) ⟨Same.new hD, upd_same⟩ (fun i H' _ p => nu_sub.trans p.1) (fun i x Hc H' hlt p y => by
    obtain ⟨rfl, hx⟩ := y
    have ew : wipe ((wipe σ [j]).set j (some x)) [j] = wipe σ [j] := by
      show (((σ.set j none).set j (some x)).set j none) = σ.set j none
      rw [List.set_set, List.set_set]
    refine ⟨ew, ?_⟩
    show tt ((σ.set j none).set j (some x)) H' _
    rw [List.set_set]
    refine he i hlt (nu H H1 H2) (nu_base e e2) x hx H' (nu_sub.trans p.1) _ fun H4 e4 => ?_
    rw [if_neg Bool.false_ne_true]
    exact ⟨p.1.trans e4, e4 _ _ p.2⟩) fun H' p => k _ H' (e2.trans p.1) ⟨D, [], rfl, .inl (.inl (by rw [nu_in (.inr (e2.free hD))]; exact p.2)), rfl, fun i x hx => by simp at hx⟩
/-- xs.extend(e) -/
theorem y_ext {i : Nat} (A : At M H0 H) (hM : M l) (hL : Lst l n ρ (kn Hk H0 M H) H) (hσ : σ[i]? = some (some (V.ref l))) (h : GE te σ (kn Hk H0 M H) (kM m ρ')) (hρ : ∀ j, j < m → ∀ x B, (ρ' j).p x B → (ρ (n + j)).p x B) (hz : n + m ≤ 100000)
    (k : ∀ H2, At M H0 H2 → Same (kn Hk H0 M H) (kn Hk H0 M H2) → (∀ a o, a ≠ l → H a = some o → H2 a = some o) → Lst l (n + m) ρ (kn Hk H0 M H2) H2 → D.nx σ H2) : tDrop (tBM K "list" rExtend (tVar i) (tCons te tNil)) D σ H := by
  obtain ⟨xs, hx, hl, hp⟩ := hL
  refine ⟨.ref l, hσ, Or.inl ⟨rfl, xs, .inl (.inl hx)⟩, h H kn_sub _ fun v H1 e1 pv => ?_⟩
  obtain ⟨b, zs, rfl, hb, hl2, hp2⟩ := pv
  have c : Chg M H (upd H1 l (.lst (xs ++ zs))) := (Chg.of e1).trans (.upd hM)
  refine ⟨l, b, xs, zs, rfl, rfl, e1 _ _ hx, (nu_of hb).2, ?_, k _ (A.step c) (kn_fwd c) (fun a o ne ha => by rw [upd_ne ne]; exact e1 a o ha) ⟨xs ++ zs, upd_same, by rw [List.length_append, hl, hl2], fun j x hx => ?_⟩⟩
  · rw [hl, hl2]
    exact Nat.le_trans hz (by decide)
  · by_cases hj : j < xs.length
    · rw [List.getElem?_append_left hj] at hx
      exact (ρ j).mono (kn_fwd c) (hp j x hx)
    · rw [List.getElem?_append_right (by omega)] at hx
      have hlt := (List.getElem?_eq_some_iff.mp hx).1
      have h1 := hρ (j - xs.length) (by omega) x _ (hp2 _ x hx)
      rw [show n + (j - xs.length) = j by omega] at h1
      exact (ρ j).mono ((kn_step A e1).trans (kn_fwd (.upd hM))) h1
/-- x, y = e, a pair of ints -/
theorem y_tup {i j : Nat} {R : Int × Int → Prop} (A : At M H0 H) (h : GE te σ (kn Hk H0 M H) (kEx R fun z => kP K (kI z.1) (kI z.2))) (hm : m = 2)
    (kk : ∀ z H1, R z → Same H H1 → At M H0 H1 → ts D ((σ.set i (some (.int z.1))).set j (some (.int z.2))) H1) : tSeq (tAsg te (gTup K m (gCons (gName i) (gCons (gName j) gNil)))) ts D σ H :=
  h H kn_sub _ fun v H1 e1 pv => by
    obtain ⟨z, hz, pv⟩ := pv
    obtain ⟨T, x, y, rfl, hS, hx, hy⟩ := kP_open pv
    cases hx
    cases hy
    subst hm
    exact ⟨T, _, rfl, sameT nu_sub hS, rfl, _, _, rfl, _, _, rfl, rfl, kk z H1 hz e1 (A.same e1)⟩
/-- x, y = e, e2, both draw, no tuple is made -/
theorem d_par {i j : Nat} (A : At M H0 H) (hM : M p) (hf : FeedAt p c H) (ha : GD M Hk H0 H p c k1 ta σ a) (hb : GD M Hk H0 H p (c + k1) k2 tb σ b)
    (kk : ∀ x y H1, Chg (is p) H H1 → At M H0 H1 → FeedAt p (c + k1 + k2) H1 → a.p x (kn Hk H0 M H1) → b.p y (kn Hk H0 M H1) → ts D ((σ.set i (some x)).set j (some y)) H1) : tSeq (tPar i j (tCons ta (tCons tb tNil))) ts D σ H := by
  show tPar i j _ _ _ _
  unfold tPar
  exact ha H .refl hf _ fun x H1 c1 f1 px => hb H1 (c1.mono (is_sub hM)) f1 _ fun y H2 c2 f2 py =>
    ⟨x, y, rfl, kk x y _ (c1.trans c2) (A.step ((c1.trans c2).mono (is_sub hM))) f2 (a.mono (kn_fwd (c2.mono (is_sub hM))) px) py⟩
/-- a feed that is new -/
theorem At.take (A : At M H0 H) (e : Same H H1) (hp : H p = none) (hn : H1 p ≠ none) : At (ins M p) H0 H1 := by
  refine ⟨(A.same e).chg.mono fun a h => .inl h, fun a h => ?_⟩
  rcases h with h | h
  · exact (A.same e).live a h
  · rw [h]
    exact hn
theorem kn_take (A : At M H0 H) (e : Same H H1) (hp : H p = none) : Same (kn Hk H0 M H) (kn Hk H0 (ins M p) H1) := fun a u h => by
  obtain ⟨n, h1⟩ := kn_of h
  obtain ⟨d, h2⟩ := nu_of h1
  have ne : a ≠ p := ne_of_none h2 hp
  rw [kn_in (fun z => z.elim n ne), nu_in d]
  exact e _ _ h2
theorem At.free (A : At M H0 H) (hp : H p = none) : H0 p = none := by
  cases q : H0 p with
  | none => rfl
  | some u => exact absurd hp (A.chg.dom p (ne_none q))
theorem gc_I2 {g : Int → Int → Int} {i j : Int} : GC (fun xs H Q => ∃ i j, xs = [.int i, .int j] ∧ Q (.int (g i j)) H) [kI i, kI j] (kI (g i j)) := fun vs H H1 e hf Q q => by
  obtain ⟨v, w, rfl, hv, hw⟩ := hf.two
  cases hv
  cases hw
  exact ⟨i, j, rfl, q _ H1 (Same.refl H1) rfl⟩
end
end K38
end
section
set_option Elab.async false
set_option linter.all false
set_option maxRecDepth 100000
set_option maxHeartbeats 4000000
/-! K38N: what the law asks, of least rounds. -/
namespace K38
open PySem PySem.Spec
variable {n : Nat} {t : Nat → Nat → Int} {c s : Int}
theorem IsLR.n0 (a : IsLR n t c s) : 0 < n := by
  have := a.pos
  have := a.le
  omega
theorem lr_lift (a : IsLR n t c s) (r : Nat → Int) : IsLR n (fun i j => t i j + r i + (0 - r j)) c s := a.of_diag fun k p hk _ hp => by
  rw [pw_lift a.n0 r hk hp hp]
  omega
theorem lr_turn (a : IsLR n t c s) : IsLR n (fun i j => t j i) c s := a.of_diag fun k p hk _ hp => pw_turn a.n0 hk hp hp
theorem lr_more (a : IsLR n t c s) (x : Int) : IsLR n (fun i j => t i j + x + 0) ((c + x * s) / ((Nat.gcd (c + x * s).natAbs s.natAbs : Nat) : Int)) (s / ((Nat.gcd (c + x * s).natAbs s.natAbs : Nat) : Int)) := by
  have e : ∀ k : Int, (c + x * s) * k = c * k + k * x * s := fun k => by rw [Int.add_mul, Int.mul_comm k x, Int.mul_assoc x s k, Int.mul_assoc x k s, Int.mul_comm s k]
  refine IsLR.of_best a.pos a.le (fun k p hk hn hp => ?_) ?_
  · rw [pw_more a.n0 x hk hp hp, e, Int.add_mul]
    exact Int.add_le_add_right (a.low k p hk hn hp) _
  · obtain ⟨k, p, hk, hn, hp, h⟩ := a.hit
    refine ⟨k, p, hk, hn, hp, ?_⟩
    rw [pw_more a.n0 x hk hp hp, e, Int.add_mul, h]
theorem lr_scale (a : IsLR n t c s) {x : Int} (hx : 0 ≤ x) : IsLR n (fun i j => t i j * x) ((c * x) / ((Nat.gcd (c * x).natAbs s.natAbs : Nat) : Int)) (s / ((Nat.gcd (c * x).natAbs s.natAbs : Nat) : Int)) := by
  have e1 : ∀ k : Int, c * x * k = c * k * x := fun k => by rw [Int.mul_assoc, Int.mul_comm x k, Int.mul_assoc]
  have e2 : ∀ y : Int, y * x * s = y * s * x := fun y => by rw [Int.mul_assoc, Int.mul_comm x s, Int.mul_assoc]
  refine IsLR.of_best a.pos a.le (fun k p hk hn hp => ?_) ?_
  · rw [pw_scale a.n0 hx hk hp hp, e1, e2]
    exact Int.mul_le_mul_of_nonneg_right (a.low k p hk hn hp) hx
  · obtain ⟨k, p, hk, hn, hp, h⟩ := a.hit
    refine ⟨k, p, hk, hn, hp, ?_⟩
    rw [pw_scale a.n0 hx hk hp hp, e1, e2, h]
/-- the means that the law gathers -/
def mF (n : Nat) (t : Nat → Nat → Int) (c s : Int) (i : Nat) : Int := pw n t (i / n + 1) (i % n) (i % n) * s - c * ((i / n + 1 : Nat) : Int)
theorem mF_at {k j : Nat} (hj : j < n) : mF n t c s (k * n + j) = pw n t (k + 1) j j * s - c * ((k + 1 : Nat) : Int) := by
  unfold mF
  have h1 : (k * n + j) / n = k := by
    rw [Nat.mul_comm, Nat.mul_add_div (by omega), Nat.div_eq_of_lt hj, Nat.add_zero]
  have h2 : (k * n + j) % n = j := by
    rw [Nat.mul_comm, Nat.mul_add_mod, Nat.mod_eq_of_lt hj]
  rw [h1, h2]
theorem mF_min (a : IsLR n t c s) : minF (n * n) (mF n t c s) = 0 := by
  have n0 := a.n0
  have nn : 0 < n * n := Nat.mul_pos n0 n0
  refine Int.le_antisymm ?_ (le_minF nn fun i hi => ?_)
  · obtain ⟨k, p, hk, hn, hp, h⟩ := a.hit
    have hlt : (k - 1) * n + p < n * n := by
      have h1 : (k - 1) * n + n ≤ n * n := by
        have : (k - 1 + 1) * n ≤ n * n := Nat.mul_le_mul_right n (by omega)
        rw [Nat.add_mul, Nat.one_mul] at this
        exact this
      omega
    have h2 := minF_le (f := mF n t c s) _ hlt
    rw [mF_at hp, show k - 1 + 1 = k by omega] at h2
    omega
  · have h1 : i / n < n := Nat.div_lt_of_lt_mul hi
    have h2 := a.low (i / n + 1) (i % n) (Nat.le_add_left 1 _) h1 (Nat.mod_lt i n0)
    exact Int.sub_nonneg_of_le h2
end K38
end
section
set_option Elab.async false
set_option linter.all false
set_option maxRecDepth 100000
set_option maxHeartbeats 8000000
set_option exponentiation.threshold 2000
/-! K38L: the law. -/
namespace K38
open PySem PySem.Spec PyProof.Rows L2
section
variable {P : Program} {w : World} {K : PySem.W.Frag} {mg : Str → Option Value} {base : Heap} {f : Addr} {fd : FuncData}
theorem gr_1p {m : Int} : GR (rI0 fun i j => .int (i + j)) (kI 1) (kB0 m) (kEx (fun z : Int => 1 ≤ z ∧ z ≤ m) kI) := fun x y Hx H1 e hx hy Q q => by
  cases hx
  obtain ⟨r, ⟨r0, r1⟩, rfl⟩ := hy
  exact ⟨1, r, rfl, rfl, q _ H1 (Same.refl H1) ⟨1 + r, ⟨by omega, by omega⟩, rfl⟩⟩
theorem gd_few {M : Addr → Prop} {Hk H0 H : Hp} {p : Addr} {c n : Nat} {σ : L2.St} {E : XK} {i : Nat} {ta : TA} (A : At M H0 H) (hM : M p) (hσ : σ[i]? = some (some (V.ref p))) (h : GA ta σ (kn Hk H0 M H) [kI (n : Int)]) (hp : 1 ≤ n ∧ n ≤ 8) (hc : c + 400 ≤ 1000000) : GD M Hk H0 H p c 400 (tCall (spFew K) [] E (tCons (tVar i) ta)) σ (kSome K n) :=
  gd_call (pre := fun n : Nat => 1 ≤ n ∧ n ≤ 8) (args := fun n : Nat => [kI (n : Int)]) (cost := fun _ => 400) (res := fun n => kSome K n) A hM hσ n hp h hc
theorem ints_kL {H : Hp} {a : Addr} {ns : List Int} (hS : SqL K H a (ns.map V.int)) : (kL K ns.length fun _ => kZ).p (.ref a) H := ⟨a, _, rfl, hS, by simp, fun i x hx => by
    rw [List.getElem?_map] at hx
    cases q : ns[i]? with
    | none => rw [q] at hx; cases hx
    | some j => rw [q] at hx; exact ⟨j, trivial, (Option.some.inj hx).symm⟩⟩
theorem tSeqD {ts tu : TS} {D : Ends} {σ : L2.St} {H : Hp} (h : ts { D with nx := tu D } σ H) : tSeq ts tu D σ H := h
theorem ge_single {K : PySem.W.Frag} {σ : L2.St} {H : Hp} {te : TE} {i : Int} (h : GE te σ H (kI i)) : GE (tTup (tCons te tNil)) σ H (kTI K 1 fun _ => i) := (ge_tup (K := K) (rs := [kI i]) (ga_one h) (by show 1 ≤ 1000; decide)).conv fun v B _ hv => kT_mono (fun j hj x H hx => by
  have : j = 0 := by
    have : j < 1 := hj
    omega
  subst this
  exact hx) hv
def spLaw (K : PySem.W.Frag) : Sp := fun vs H Q _ => ∃ (a : Addr) (ns : List Int), vs = [V.ref a] ∧ SqL K H a (ns.map V.int) ∧ ns.length ≤ 63 ∧ ∀ H', Q (.bl true) H'
abbrev nLW : List Str := ["_law_script", "_law_k", "_law_feed_here", "_law_places", "_law_table", "_law_cost", "_law_steps", "_law_means", "_law_count", "_law_told", "_law_place", "_law_more", "_law_number", "_law_times", "_law_turn", "_law_one_here"]
theorem fn_of {x : Str} {st : Stmt} {N ps : List Str} {k : Nat} {sp : Sp} (F : FnP K x st f fd) (S : FnScope N ps (defScope st)) (len : ∀ vs H Q E, sp vs H Q E → vs.length = ps.length)
    (body : ∀ (cdv : Value) (A : Around) (outer : List Env) (s : Shared) (H : Hp) (vs : List V) (Q : VK) (E : XK), Room k (A.deeper (envOfC x (defScope st) s.heap.objs.size f cdv)) → sp vs H Q E →
      ∃ t, PSs (cxOf CX0 P w K mg base N x (defScope st) f cdv A outer s H E).nox (defBody st) t ∧ t { nx := fun _ H' => Q .non H', rt := Q } (start N vs) H) : FnOk P w K mg base CX0 (k + 1) f fd ps sp :=
  F.ok S len fun cdv A outer s H vs Q E hr h => by
    obtain ⟨t, h1, h2⟩ := body cdv A outer s H vs Q E hr h
    exact ⟨t, h1.nox, h2⟩
theorem sc_law : FnScope nLW ["_law_script"] (defScope s_law) := ⟨rfl, rfl, rfl, by decide +kernel, rfl, by decide +kernel, by decide +kernel⟩
theorem ok_law (T : Bl K mg) (F : FnP K "law" s_law f fd) (dF : Df P w K mg base "_law_feed" ["_law_script", "_law_k"] 1 (spFeed K)) (dD : Df P w K mg base "_law_draw" ["_law_feed_here", "_law_many"] 1 spDraw)
    (dW : Df P w K mg base "_law_few" ["_law_feed_here", "_law_places"] 4 (spFew K)) (dT : Df P w K mg base "_law_terms" ["_law_cost", "_law_steps"] 1 (spTerms K))
    (dL : Df P w K mg base "least_round" ["table"] 6 (spLeastMean K)) (dP : Df P w K mg base "power" ["table", "count"] 6 (spPower K)) (dY : Df P w K mg base "way" ["table", "place", "other", "count"] 6 (spFirstWay K)) (dC : Df P w K mg base "way_cost" ["table", "way"] 6 (spWayCost K))
    (dI : Df P w K mg base "lifted" ["table", "rows", "columns"] 5 (spLifted K)) (dS : Df P w K mg base "scaled" ["table", "times"] 5 (spScaled K)) (dU : Df P w K mg base "turned" ["table"] 5 (spTurned K)) : FnOk P w K mg base CX0 7 f fd ["_law_script"] (spLaw K) := by
  have nd := sc_law.nd
  refine fn_of F sc_law (fun vs H Q E h => by
    obtain ⟨a, ns, rfl, _⟩ := h
    rfl) fun cdv A outer s H vs Q E hr h => ?_
  refine ⟨_, pss_cons (ps_for PassesOwn.never rfl (p_rng1 T (pe_callB (call_max2 rfl) (by rfl) T.max PyProof.Rows.boot_max (pa_cons pe_int (pa_cons (pe_callB (call_min2 rfl) (by rfl) T.min PyProof.Rows.boot_min (pa_cons (e_len T (pv 0)) (pa_cons pe_int pa_nil))) pa_nil)))) (pg_name (i := 1) nd rfl (Or.inl rfl))
      (pss_cons (ps_set (i := 2) nd rfl (Or.inr rfl) (e_df dF hr (pa_cons (pv 0) (pa_cons (pv 1) pa_nil))))
      (pss_cons (ps_set (i := 3) nd rfl (Or.inl rfl) (pe_op op_add pe_int (e_df dD hr (pa_cons (pv 2) (pa_cons pe_int pa_nil)))))
      (pss_cons (ps_set (i := 4) nd rfl (Or.inl rfl) (e_df dW hr (pa_cons (pv 2) (pa_cons (pv 3) pa_nil))))
      (pss_cons (ps_asg (e_df dL hr (pa_cons (pv 4) pa_nil)) (g_tup T (pgs_cons (pg_name (i := 5) nd rfl (Or.inr rfl)) (pgs_cons (pg_name (i := 6) nd rfl (Or.inr rfl)) pgs_nil))))
      (pss_cons (ps_set (i := 7) nd rfl (Or.inl rfl) (pe_lst pa_nil))
      (pss_cons (ps_for PassesOwn.never rfl (pi_range2 rfl T.range (pa_cons pe_int (pa_cons (pe_op op_add (pv 3) pe_int) pa_nil))) (pg_name (i := 8) nd rfl (Or.inr rfl))
        (pss_cons (ps_set (i := 9) nd rfl (Or.inr rfl) (e_df dP hr (pa_cons (pv 4) (pa_cons (pv 8) pa_nil))))
        (pss_one (ps_expr (pe_bm PySem.F.plainAttrs_list PySem.F.slot_list_extend PySem.F.type_list_extend mt_extend (pv 7) (pa_cons (pe_lc (own := [("_law_place", 10)]) (g := gName 10) (tt := tYes) rfl nd (p_rng1 T (pv 3)) (blkOk_by (own := [("_law_place", 10)]) (N := nLW) (sc := defScope s_law) (by decide +kernel)) (fun _ _ _ _ _ => pg_name (i := 10) nd rfl (Or.inl rfl)) (fun _ _ _ _ _ => pts_nil)
          (fun _ _ _ _ _ => pe_op op_sub (pe_op op_mul (e_ixT T (e_ixT T (pv 9) (pv 10)) (pv 10)) (pv 6)) (pe_op op_mul (pv 5) (pv 8)))) pa_nil))))))
      (pss_cons (ps_if (pt_cmpR op_ne (e_min T (pv 7)) pe_int (nomark _)) (pss_one (ps_ret pe_bl)) pss_nil)
      (pss_cons (ps_set (i := 8) nd rfl (Or.inr rfl) (pe_op op_add pe_int (e_df dD hr (pa_cons (pv 2) (pa_cons pe_int pa_nil)))))
      (pss_cons (ps_set (i := 9) nd rfl (Or.inr rfl) (e_df dP hr (pa_cons (pv 4) (pa_cons (pv 8) pa_nil))))
      (pss_cons (ps_if (pt_cmpR (op_neD hr.units) (pe_lc (own := [("_law_place", 10)]) (g := gName 10) rfl nd (p_rng1 T (pv 3)) (blkOk_by (own := [("_law_place", 10)]) (N := nLW) (sc := defScope s_law) (by decide +kernel)) (fun _ _ _ _ _ => pg_name (i := 10) nd rfl (Or.inl rfl))
          (fun _ _ _ _ _ => pts_one (pt_cmpR op_lt (pe_op op_mul (e_ixT T (e_ixT T (pv 9) (pv 10)) (pv 10)) (pv 6)) (pe_op op_mul (pv 5) (pv 8)) (nomark _))) (fun _ _ _ _ _ => pe_int)) (pe_lst pa_nil) (nomark _)) (pss_one (ps_ret pe_bl)) pss_nil)
      (pss_cons (ps_set (i := 10) nd rfl (Or.inl rfl) (e_df dD hr (pa_cons (pv 2) (pa_cons (pv 3) pa_nil))))
      (pss_cons (ps_if (pt_cmpR op_lt (pe_op op_mul (e_df dC hr (pa_cons (pv 4) (pa_cons (e_df dY hr (pa_cons (pv 4) (pa_cons (pv 10) (pa_cons (pv 10) (pa_cons (pv 8) pa_nil))))) pa_nil))) (pv 6)) (pe_op op_mul (pv 5) (pv 8)) (nomark _)) (pss_one (ps_ret pe_bl)) pss_nil)
      (pss_cons (ps_set (i := 11) nd rfl (Or.inl rfl) (e_tuple T (pe_lc (own := [("_law_turn", 14)]) (g := gName 14) (tt := tYes) rfl nd (p_rng1 T (pv 3)) (blkOk_by (own := [("_law_turn", 14)]) (N := nLW) (sc := defScope s_law) (by decide +kernel)) (fun _ _ _ _ _ => pg_name (i := 14) nd rfl (Or.inl rfl)) (fun _ _ _ _ _ => pts_nil)
          (fun _ _ _ _ _ => pe_op op_sub (e_df dD hr (pa_cons (pv 2) (pa_cons pe_int pa_nil))) pe_int))))
      (pss_cons (ps_if (pt_cmpR (op_neD hr.units) (e_df dL hr (pa_cons (e_df dI hr (pa_cons (pv 4) (pa_cons (pv 11) (pa_cons (e_tuple T (pe_lc (own := [("_law_one_here", 15)]) (g := gName 15) (tt := tYes) rfl nd (p_tup T (pv 11)) (blkOk_by (own := [("_law_one_here", 15)]) (N := nLW) (sc := defScope s_law) (by decide +kernel)) (fun _ _ _ _ _ => pg_name (i := 15) nd rfl (Or.inl rfl)) (fun _ _ _ _ _ => pts_nil)
          (fun _ _ _ _ _ => pe_op op_sub pe_int (pv 15)))) pa_nil)))) pa_nil)) (pe_tup (pa_cons (pv 5) (pa_cons (pv 6) pa_nil))) (nomark _)) (pss_one (ps_ret pe_bl)) pss_nil)
      (pss_cons (ps_par (i := 12) (j := 13) rfl nd rfl rfl (by decide) rfl rfl (pa_cons (pe_op op_sub (e_df dD hr (pa_cons (pv 2) (pa_cons pe_int pa_nil))) pe_int) (pa_cons (e_df dD hr (pa_cons (pv 2) (pa_cons pe_int pa_nil))) pa_nil)) (by rfl))
      (pss_cons (ps_if (pt_cmpR (op_neD hr.units) (e_df dL hr (pa_cons (e_df dI hr (pa_cons (pv 4) (pa_cons (pe_op op_repT1 (pe_tup (pa_cons (pv 12) pa_nil)) (pv 3)) (pa_cons (pe_op op_repT1 (pe_tup (pa_cons pe_int pa_nil)) (pv 3)) pa_nil)))) pa_nil)) (e_df dT hr (pa_cons (pe_op op_add (pv 5) (pe_op op_mul (pv 12) (pv 6))) (pa_cons (pv 6) pa_nil))) (nomark _)) (pss_one (ps_ret pe_bl)) pss_nil)
      (pss_one (ps_if (PW.pt (pw_or (pt_cmpR (op_neD hr.units) (e_df dL hr (pa_cons (e_df dS hr (pa_cons (pv 4) (pa_cons (pv 13) pa_nil))) pa_nil)) (e_df dT hr (pa_cons (pe_op op_mul (pv 5) (pv 13)) (pa_cons (pv 6) pa_nil))) (nomark _))
          (pw_or1 (pt_cmpR (op_neD hr.units) (e_df dL hr (pa_cons (e_df dU hr (pa_cons (pv 4) pa_nil)) pa_nil)) (pe_tup (pa_cons (pv 5) (pa_cons (pv 6) pa_nil))) (nomark _))))) (pss_one (ps_ret pe_bl)) pss_nil)))))))))))))))))))
    (pss_one (ps_ret pe_bl)), ?_⟩
  obtain ⟨a, ns, rfl, hS, hn, q⟩ := h
  have hs : (kL K ns.length fun _ => kZ).p (.ref a) (kn H H noM H) := (kL K ns.length fun _ => kZ).mono (kn_start (Hk := H) (Same.refl H)) (ints_kL hS)
  obtain ⟨T3, hT3, hT4⟩ : ∃ T3 : Nat, (if (if (3 : Int) < (ns.length : Int) then (3 : Int) else (ns.length : Int)) > 1 then (if (3 : Int) < (ns.length : Int) then (3 : Int) else (ns.length : Int)) else 1) = (T3 : Int) ∧ T3 ≤ 3 := by
    have hL : 0 ≤ (if (3 : Int) < (ns.length : Int) then (3 : Int) else (ns.length : Int)) ∧ (if (3 : Int) < (ns.length : Int) then (3 : Int) else (ns.length : Int)) ≤ 3 := by
      split <;> omega
    generalize (if (3 : Int) < (ns.length : Int) then (3 : Int) else (ns.length : Int)) = L at hL
    split
    · exact ⟨L.toNat, by omega, by omega⟩
    · exact ⟨1, rfl, by omega⟩
  refine y_for (Hk := H) (n := T3) (At.start (H := H)) (gi_rng (ga_one (ge_cb (ga_two ge_c (ge_cb (ga_two (ge_cb (ga_one (ge_var hs rfl)) gc_lenL) ge_c) gc_I2)) gc_I2)) hT3 (by omega)) fun H1 e1 A1 => ?_
  refine ⟨fun i σ' H' => ∃ x1 x2 x3 x4 x5 x6 x7 x8 x9 x10 x11 x12 x13 x14 x15 : Option V, σ' = [some (.ref a), x1, x2, x3, x4, x5, x6, x7, x8, x9, x10, x11, x12, x13, x14, x15] ∧ At noM H1 H',
    ⟨_, _, _, _, _, _, _, _, _, _, _, _, _, _, _, rfl, At.start⟩, fun i σ' H' _ p => ?_, fun i x σ' H' hi p hx => ?_, fun σ' H' p => ?_⟩
  · obtain ⟨_, _, _, _, _, _, _, _, _, _, _, _, _, _, _, _, A'⟩ := p
    exact kn_sub.trans (A'.chg.same fun a z => z.elim)
  · obtain ⟨x1, x2, x3, x4, x5, x6, x7, x8, x9, x10, x11, x12, x13, x14, x15, rfl, A'⟩ := p
    cases hx
    refine ⟨_, rfl, _, rfl, a, ns, i, rfl, sameL (e1.trans (A'.chg.same fun a z => z.elim)) hS, by omega, fun p H2 e2 hp hf => ?_⟩
    have A2 : At (ins noM p) H1 H2 := A'.take e2 hp hf.ne
    have hM : ins noM p p := .inr rfl
    have hp1 : H1 p = none := A'.free hp
    show tSeq _ _ _ _ _
    refine d_set (Hk := H1) A2 hM hf (gd_op (Hk := H1) (k1 := 0) (k2 := 1) (a := kI 1) (b := kB0 8) (d := kEx (fun z : Int => 1 ≤ z ∧ z ≤ 8) kI) A2 hM (gd_of A2 hM ge_c) (gd_draw A2 hM rfl (ga_one ge_c) ⟨by decide, by decide⟩ (by decide)) gr_1p) fun vn H3 c3 A3 f3 hvn => ?_
    obtain ⟨zn, ⟨n1, n8⟩, rfl⟩ := hvn
    obtain ⟨n, rfl⟩ : ∃ n : Nat, zn = (n : Int) := ⟨zn.toNat, by omega⟩
    have n1 : 1 ≤ n := by omega
    have n8 : n ≤ 8 := by omega
    refine d_set (Hk := H1) A3 hM f3 (gd_few A3 hM rfl (ga_one (ge_var (r := kI (n : Int)) rfl rfl)) ⟨n1, n8⟩ (by decide)) fun vt H4 c4 A4 f4 hvt => ?_
    obtain ⟨t, _, hvt⟩ := hvt
    refine y_tup (Hk := H1) (K := K) (R := fun z => IsLR n t z.1 z.2) A4 (ge_call (n, t) ⟨n1, n8⟩ (ga_one (ge_var hvt rfl))) rfl fun z H5 hz e5 A5 => ?_
    obtain ⟨c, s⟩ := z
    have hz : IsLR n t c s := hz
    have s0 := hz.pos
    have s8 : s ≤ n := hz.le
    have f5 := f4.mono (Nat.le_refl _) fun o h => e5 _ _ h
    have hvt5 := (kTab K n t).mono (kn_fwd (Hk := H1) (H0 := H1) (M := ins noM p) (.of e5)) hvt
    refine y_lst (Hk := H1) A5 (rs := []) ga_nil (Nat.zero_le _) fun l H6 hl hl0 A6 k6 s6 hL => ?_
    have hMl : ins (ins noM p) l l := .inr rfl
    have nl : l ≠ p := fun z => f5.ne (by rw [← z]; exact hl)
    have f6 := f5.mono (Nat.le_refl _) fun o h => s6 _ _ h
    have hvt6 := (kTab K n t).mono k6 hvt5
    refine tSeqD (y_for (Hk := H1) (n := n) A6 (gi_rng2 (ga_two ge_c (ge_I0 (g := fun i j => .int (i + j)) (ge_var (i := 3) (r := kI (n : Int)) rfl rfl) ge_c)) ⟨by decide, by omega⟩ (by omega)) fun H7 e7 A7 => ?_)
    refine ⟨fun m σ' H' => ∃ y8 y9 : Option V, σ' = [some (.ref a), some (.int (i : Int)), some (.ref p), some (.int (n : Int)), some vt, some (.int c), some (.int s), some (.ref l), y8, y9, x10, x11, x12, x13, x14, x15] ∧ At (ins (ins noM p) l) H1 H' ∧ Same (kn H1 H1 (ins (ins noM p) l) H7) (kn H1 H1 (ins (ins noM p) l) H') ∧
        FeedAt p (0 + (0 + 1) + 400) H' ∧ Lst l (m * n) (fun i => kI (mF n t c s i)) (kn H1 H1 (ins (ins noM p) l) H') H',
      ⟨_, _, rfl, A7, Same.refl _, f6.mono (Nat.le_refl _) fun o h => e7 _ _ h, ?_⟩, fun m σ' H' _ p => ?_, fun m x σ' H' hm p hx => ?_, fun σ' H' p => ?_⟩
    · rw [Nat.zero_mul]
      exact (hL.mono (kn_fwd (.of e7)) fun o h => e7 _ _ h).conv fun i hi => absurd hi (Nat.not_lt_zero i)
    · obtain ⟨y8, y9, rfl, A', k', _⟩ := p
      exact k'.trans kn_sub
    · obtain ⟨y8, y9, rfl, A', k', f', hL'⟩ := p
      have hx : x = V.int (1 + (m : Int)) := hx
      rw [show (1 : Int) + (m : Int) = ((m + 1 : Nat) : Int) by omega] at hx
      subst hx
      have hvt' := (kTab K n t).mono ((kn_fwd (Hk := H1) (H0 := H1) (M := ins (ins noM p) l) (.of e7)).trans k') hvt6
      refine y_set (Hk := H1) (r := kTab K n (pw n t (m + 1))) A' (ge_call (n, t, m + 1) ⟨n1, n8, (by show 1 ≤ m + 1; omega), (by show m + 1 ≤ 1000; omega)⟩ (ga_two (ge_var hvt' rfl) (ge_var (r := kI ((m + 1 : Nat) : Int)) rfl rfl))) fun vp H8 e8 A8 hvp => ?_
      have k9 := k'.trans (kn_fwd (Hk := H1) (H0 := H1) (M := ins (ins noM p) l) (.of e8))
      refine y_ext (Hk := H1) (m := n) (ρ' := fun j => kI (pw n t (m + 1) j j * s - c * ((m + 1 : Nat) : Int))) A8 hMl (hL'.mono (kn_fwd (.of e8)) fun o h => e8 _ _ h) rfl ?_ (fun j hj x B h => ?_) ?_ fun H9 A9 k9' s9 hL9 => ?_
      · exact ge_lcM (gi_rng (ga_one (ge_var (i := 3) (r := kI (n : Int)) rfl rfl)) rfl (by omega)) (fun j hj B eB x hx => by
          have hvp' := (kTab K n (pw n t (m + 1))).mono eB hvp
          exact ge_I0 (g := fun i j => .int (i - j)) (ge_I (C := CMul) (g := fun i j => .int (i * j)) (ge_ixT (i := j) (ge_ixT (i := j) (ge_var hvp' rfl) (ge_var hx rfl) rfl hj) (ge_var hx rfl) rfl hj) (ge_var (r := kI s) rfl rfl) (.inr ⟨by omega, by omega⟩))
            (ge_I (C := CMul) (g := fun i j => .int (i * j)) (ge_var (r := kI c) rfl rfl) (ge_var (r := kI ((m + 1 : Nat) : Int)) rfl rfl) (.inr ⟨by omega, by omega⟩))) (by omega)
      · show (kI (mF n t c s (m * n + j))).p x B
        rw [mF_at hj]
        exact h
      · have : m * n ≤ 8 * 8 := Nat.mul_le_mul (by omega) (by omega)
        omega
      · refine ⟨_, _, rfl, A9, k9.trans k9', f'.mono (Nat.le_refl _) fun o h => s9 _ _ nl.symm (e8 _ _ h), ?_⟩
        rw [Nat.add_mul, Nat.one_mul]
        exact hL9
    · obtain ⟨y8, y9, rfl, A', k', f', hL'⟩ := p
      have A8 : At (ins noM p) H1 H' := A'.less (fun a h => .inl h) fun a h => h.elim .inl fun z => .inr (by rw [z]; exact hl0)
      have hme : (kL K (n * n) fun i => kI (mF n t c s i)).p (.ref l) (kn H1 H1 (ins noM p) H') := hL'.out2 hl0 (fun a h => .inl h) (fun z => z.elim (fun z => z) nl)
      have hvt8 := (kTab K n t).mono (((kn_fwd (Hk := H1) (H0 := H1) (M := ins (ins noM p) l) (.of e7)).trans k').trans (kn_less (M' := ins noM p) fun a h => .inl h)) hvt6
      dsimp only
      refine y_skip (Hk := H1) A8 ((gt_test (ge_neI (ge_cb (ga_one (ge_var hme rfl)) (gc_min (Nat.mul_pos n1 n1))) ge_c)).to (by rw [mF_min hz]; rfl)) fun H9 e9 A9 => ?_
      have f9 := f'.mono (Nat.le_refl _) fun o h => e9 _ _ h
      have hvt9 := (kTab K n t).mono (kn_fwd (Hk := H1) (H0 := H1) (M := ins noM p) (.of e9)) hvt8
      refine d_set (Hk := H1) A9 hM f9 (gd_op (Hk := H1) (k1 := 0) (k2 := 1) (a := kI 1) (b := kB0 60) (d := kEx (fun z : Int => 1 ≤ z ∧ z ≤ 60) kI) A9 hM (gd_of A9 hM ge_c) (gd_draw A9 hM rfl (ga_one ge_c) ⟨by decide, by decide⟩ (by decide)) gr_1p) fun vm H10 c10 A10 f10 hvm => ?_
      obtain ⟨zm, ⟨m1, m60⟩, rfl⟩ := hvm
      obtain ⟨m, rfl⟩ : ∃ m : Nat, zm = (m : Int) := ⟨zm.toNat, by omega⟩
      have m1 : 1 ≤ m := by omega
      have m60 : m ≤ 60 := by omega
      have hvt10 := (kTab K n t).mono (kn_fwd (Hk := H1) (H0 := H1) (c10.mono (is_sub hM))) hvt9
      refine y_set (Hk := H1) (r := kTab K n (pw n t m)) A10 (ge_call (n, t, m) ⟨n1, n8, m1, (by show m ≤ 1000; omega)⟩ (ga_two (ge_var hvt10 rfl) (ge_var (r := kI (m : Int)) rfl rfl))) fun vp H11 e11 A11 hvp => ?_
      have f11 := f10.mono (Nat.le_refl _) fun o h => e11 _ _ h
      have hvt11 := (kTab K n t).mono (kn_fwd (Hk := H1) (H0 := H1) (M := ins noM p) (.of e11)) hvt10
      have low : ∀ j, j < n → c * (m : Int) ≤ pw n t m j j * s := fun j hj => power_ge n1 s0 hz.low m1 hj
      refine y_skip (Hk := H1) A11 (gt_test (ge_neNil (ge_lcNo (n := n) (gi_rng (ga_one (ge_var (i := 3) (r := kI (n : Int)) rfl rfl)) rfl (by omega)) fun j hj B eB x hx => ?_) (ge_lst (rs := []) ga_nil (Nat.zero_le _)))) fun H12 e12 A12 => ?_
      · have hvp' := (kTab K n (pw n t m)).mono eB hvp
        exact (gt_test (ge_I0 (g := fun i j => .bl (decide (i < j))) (ge_I (C := CMul) (g := fun i j => .int (i * j)) (ge_ixT (i := j) (ge_ixT (i := j) (ge_var hvp' rfl) (ge_var hx rfl) rfl hj) (ge_var hx rfl) rfl hj) (ge_var (r := kI s) rfl rfl) (.inr ⟨by omega, by omega⟩))
            (ge_I (C := CMul) (g := fun i j => .int (i * j)) (ge_var (r := kI c) rfl rfl) (ge_var (r := kI (m : Int)) rfl rfl) (.inr ⟨by omega, by omega⟩)))).to (decide_eq_false (Int.not_lt.mpr (low j hj)))
      have f12 := f11.mono (Nat.le_refl _) fun o h => e12 _ _ h
      have hvt12 := (kTab K n t).mono (kn_fwd (Hk := H1) (H0 := H1) (M := ins noM p) (.of e12)) hvt11
      refine d_set (Hk := H1) A12 hM f12 (gd_draw (m := (n : Int)) A12 hM rfl (ga_one (ge_var rfl rfl)) ⟨by omega, by omega⟩ (by decide)) fun vj H13 c13 A13 f13 hvj => ?_
      obtain ⟨zj, ⟨j0, j1⟩, rfl⟩ := hvj
      obtain ⟨j, rfl⟩ : ∃ j : Nat, zj = (j : Int) := ⟨zj.toNat, by omega⟩
      have hj : j < n := by omega
      have hvt13 := (kTab K n t).mono (kn_fwd (Hk := H1) (H0 := H1) (c13.mono (is_sub hM))) hvt12
      refine y_skip (Hk := H1) A13 (gt_test (k := false) (ge_op (a := kEx (fun z : Int => c * (m : Int) ≤ z) kI) (b := kI (c * (m : Int))) (ge_op (a := kEx (fun z : Int => c * (m : Int) ≤ z * s) kI) (b := kI s) (ge_callE (rs := [kTab K n t, kWay K n m j j]) (ga_two (ge_var hvt13 rfl) (ge_call (n, t, j, j, m) ⟨n1, n8, hj, hj, m1, m60⟩ (ga_cons (ge_var hvt13 rfl) (ga_cons (ge_var rfl rfl) (ga_two (ge_var rfl rfl) (ge_var rfl rfl)))))) ?_) (ge_var rfl rfl) ?_)
          (ge_I (C := CMul) (g := fun i j => .int (i * j)) (ge_var (r := kI c) rfl rfl) (ge_var (r := kI (m : Int)) rfl rfl) (.inr ⟨by omega, by omega⟩)) ?_)) fun H14 e14 A14 => ?_
      · intro vs H' _ pv
        obtain ⟨v1, v2, rfl, h1, π, ⟨p0, pm, pl⟩, h2⟩ := pv.two
        refine ⟨(n, t, m, π), ⟨n1, n8, m1, m60, pl⟩, ⟨h1, h2, trivial⟩, fun v H2 h => ⟨_, ?_, h⟩⟩
        have h3 := pw_le (t := t) π m1 pl
        rw [p0, pm] at h3
        exact Int.le_trans (low j hj) (Int.mul_le_mul_of_nonneg_right h3 (by omega))
      · intro x y Hx H1 e hx hy Q q
        obtain ⟨z, hz, rfl⟩ := hx
        cases hy
        exact ⟨z, s, rfl, rfl, .inr ⟨by omega, by omega⟩, q _ H1 (Same.refl H1) ⟨z * s, hz, rfl⟩⟩
      · intro x y Hx H1 e hx hy Q q
        obtain ⟨z, hz, rfl⟩ := hx
        cases hy
        exact ⟨z, _, rfl, rfl, q _ H1 (Same.refl H1) (congrArg V.bl (decide_eq_false (Int.not_lt.mpr hz)))⟩
      have f14 := f13.mono (Nat.le_refl _) fun o h => e14 _ _ h
      have hvt14 := (kTab K n t).mono (kn_fwd (Hk := H1) (H0 := H1) (M := ins noM p) (.of e14)) hvt13
      refine d_set (Hk := H1) (r := kT K n fun _ => kZ) A14 hM f14 (gd_cb1 A14 hM (gd_lc (K := K) (n := n) (k := 1) (q := fun _ => kZ) A14 hM (gi_rng (ga_one (ge_var (i := 3) (r := kI (n : Int)) rfl rfl)) rfl (by omega)) (fun j hj M' H' hM A' k' x hx =>
        gd_op (Hk := H1) (k1 := 1) (k2 := 0) A' hM (gd_draw (m := 2001) A' hM rfl (ga_one ge_c) ⟨by decide, by decide⟩ (by omega)) (gd_of A' hM (ge_ex (P := fun _ => True) ge_c trivial)) (gr_ex (g := fun i j => i - j) fun _ _ _ _ => trivial)) (by omega)) gc_tuple) fun vr H15 c15 A15 f15 hvr => ?_
      obtain ⟨r, hvr⟩ := some_row hvr
      have hvt15 := (kTab K n t).mono (kn_fwd (Hk := H1) (H0 := H1) (c15.mono (is_sub hM))) hvt14
      have same : ∀ (u : Nat → Nat → Int) (c' s' : Int), IsLR n u c' s' → ∀ v B, (kLR K n u).p v B → (kP K (kI c') (kI s')).p v B := fun u c' s' hu v B h => by
        obtain ⟨⟨z1, z2⟩, hz', h⟩ := h
        have hz' : IsLR n u z1 z2 := hz'
        obtain ⟨e1, e2⟩ := hz'.uniq hu
        subst e1 e2
        exact h
      refine y_skip (Hk := H1) A15 ((gt_test (ge_nePair (a := c) (b := s) (c := c) (d := s) (GE.conv (ge_call (n, fun i j => t i j + r i + (0 - r j)) ⟨n1, n8⟩ (ga_one (ge_call (n, t, r, fun j => 0 - r j) ⟨n1, n8⟩ (ga_cons (ge_var hvt15 rfl) (ga_two (ge_var hvr rfl)
        (ge_cb (ga_one (ge_lc (n := n) (q := fun j => kI (0 - r j)) (gi_tup (ge_var hvr rfl)) (fun j hj B eB x hx => ge_I0 (g := fun i j => .int (i - j)) ge_c (ge_var hx rfl)) (by omega))) gc_tuple)))))) fun v B _ h => same _ _ _ (lr_lift hz r) v B h) (ge_pair (ge_var (r := kI c) rfl rfl) (ge_var (r := kI s) rfl rfl)))).to (by simp)) fun H16 e16 A16 => ?_
      have f16 := f15.mono (Nat.le_refl _) fun o h => e16 _ _ h
      have hvt16 := (kTab K n t).mono (kn_fwd (Hk := H1) (H0 := H1) (M := ins noM p) (.of e16)) hvt15
      refine d_par (Hk := H1) (k1 := 1) (k2 := 1) (a := kZ) (b := kB0 1000) A16 hM f16 (gd_op (Hk := H1) (k1 := 1) (k2 := 0) A16 hM (gd_draw (m := 201) A16 hM rfl (ga_one ge_c) ⟨by decide, by decide⟩ (by omega)) (gd_of A16 hM (ge_ex (P := fun _ => True) ge_c trivial)) (gr_ex (g := fun i j => i - j) fun _ _ _ _ => trivial))
        (gd_draw (m := 1000) A16 hM rfl (ga_one ge_c) ⟨by decide, by decide⟩ (by omega)) fun vu vk H17 c17 A17 f17 hu hk => ?_
      obtain ⟨u, _, rfl⟩ := hu
      obtain ⟨k, ⟨k0, k1⟩, rfl⟩ := hk
      have hvt17 := (kTab K n t).mono (kn_fwd (Hk := H1) (H0 := H1) (c17.mono (is_sub hM))) hvt16
      refine y_skip (Hk := H1) A17 ((gt_test (ge_nePair (K := K) (GE.conv (ge_call (n, fun i j => t i j + u + 0) ⟨n1, n8⟩ (ga_one (ge_call (n, t, (fun _ => u), fun _ => 0) ⟨n1, n8⟩ (ga_cons (ge_var hvt17 rfl) (ga_two
          (ge_rep (n := n) (ge_single (ge_var (r := kI u) rfl rfl)) (ge_var (r := kI (n : Int)) rfl rfl) rfl n1 (by omega)) (ge_rep (n := n) (ge_single ge_c) (ge_var (r := kI (n : Int)) rfl rfl) rfl n1 (by omega))))))) fun v B _ h => same _ _ _ (lr_more hz u) v B h)
        (ge_call (c + u * s, s) ⟨s0, (by show s ≤ 100; omega)⟩ (ga_two (ge_I0 (g := fun i j => .int (i + j)) (ge_var (r := kI c) rfl rfl) (ge_I (C := CMul) (g := fun i j => .int (i * j)) (ge_var (r := kI u) rfl rfl) (ge_var (r := kI s) rfl rfl) (.inr ⟨by omega, by omega⟩))) (ge_var (r := kI s) rfl rfl))))).to (by simp)) fun H18 e18 A18 => ?_
      have hvt18 := (kTab K n t).mono (kn_fwd (Hk := H1) (H0 := H1) (M := ins noM p) (.of e18)) hvt17
      refine y_if (Hk := H1) (k := false) A18 ((gt_or (k := false) (l := false) ((gt_test (ge_nePair (K := K) (GE.conv (ge_call (n, fun i j => t i j * k) ⟨n1, n8⟩ (ga_one (ge_call (n, t, k) ⟨n1, n8, k0, (by show k ≤ 10 ^ 9; omega)⟩ (ga_two (ge_var hvt18 rfl) (ge_var rfl rfl))))) fun v B _ h => same _ _ _ (lr_scale hz k0) v B h)
          (ge_call (c * k, s) ⟨s0, (by show s ≤ 100; omega)⟩ (ga_two (ge_I (C := CMul) (g := fun i j => .int (i * j)) (ge_var (r := kI c) rfl rfl) (ge_var (r := kI k) rfl rfl) (.inr ⟨by omega, by omega⟩)) (ge_var (r := kI s) rfl rfl))))).to (by simp))
        fun _ => (gt_test (ge_nePair (a := c) (b := s) (c := c) (d := s) (GE.conv (ge_call (n, fun i j => t j i) ⟨n1, n8⟩ (ga_one (ge_call (n, t) ⟨n1, n8⟩ (ga_one (ge_var hvt18 rfl))))) fun v B _ h => same _ _ _ (lr_turn hz) v B h) (ge_pair (ge_var (r := kI c) rfl rfl) (ge_var (r := kI s) rfl rfl)))).to (by simp))) (fun h => by cases h) fun _ H19 e19 A19 => ?_
      have A20 : At noM H1 H19 := A19.less (fun a h => h.elim) fun a h => h.elim .inl fun z => .inr (by rw [z]; exact hp1)
      exact ⟨_, _, _, _, _, _, _, _, _, _, _, _, _, _, _, rfl, A20⟩
  · exact q _
end
end K38
end
section
set_option Elab.async false
set_option linter.all false
set_option maxRecDepth 100000
set_option maxHeartbeats 0
/-! K38Z: the end. -/
namespace K38
open PySem PySem.Spec PyProof.Rows L2
theorem bl_of {w : World} {K : PySem.W.Frag} {h h' : Heap} {mg : Str → Option Value} (X : K.In h) (G : h.Ns mainGlobals mg) (c : He.SaysX fa fn [] [] exG w h' K) : Bl K mg :=
  ⟨He.free_ok X G (c.t.d.fact 46 (f := .free "isinstance") rfl), He.free_ok X G (c.t.d.fact 47 (f := .free "int") rfl), He.free_ok X G (c.t.d.fact 48 (f := .free "bool") rfl), He.free_ok X G (c.t.d.fact 49 (f := .free "tuple") rfl), He.free_ok X G (c.t.d.fact 50 (f := .free "len") rfl), He.free_ok X G (c.t.d.fact 51 (f := .free "all") rfl), He.free_ok X G (c.t.d.fact 52 (f := .free "range") rfl), He.free_ok X G (c.t.d.fact 53 (f := .free "zip") rfl), He.free_ok X G (c.t.d.fact 54 (f := .free "min") rfl), He.free_ok X G (c.t.d.fact 55 (f := .free "max") rfl), He.free_ok X G (c.t.d.fact 56 (f := .free "sum") rfl), He.free_ok X G (c.t.d.fact 57 (f := .free "enumerate") rfl), He.free_ok X G (c.t.d.fact 58 (f := .free "abs") rfl),
    PySem.W.mg_of X G (He.eqO_ok c.more), He.int_ok X G (c.t.d.fact 59 (f := .int "MOST_ROWS" 8) rfl), He.int_ok X G (c.t.d.fact 60 (f := .int "MOST_POWER" (10 ^ 18)) rfl), He.int_ok X G (c.t.d.fact 61 (f := .int "MOST_STEPS" 60) rfl), He.int_ok X G (c.t.d.fact 62 (f := .int "MOST_TIMES" (10 ^ 9)) rfl)⟩
theorem facts {P : Program} {w : World} {K : PySem.W.Frag} {h h' : Heap} {mg : Str → Option Value} {f : Addr} (X : K.In h) (G : h.Ns mainGlobals mg) (hfa : mg ("law" : Str) = some (.ref f)) (c : He.SaysX fa fn [] [] exG w h' K) :
    ∃ fd : FuncData, (∀ (s : Shared) (v : Value), BindsTo s fd ⟨[v], []⟩ [("_law_script", v)]) ∧ ∀ base : Heap, K.In base → base.Ns mainGlobals mg → FnOk P w K mg base CX0 7 f fd ["_law_script"] (spLaw K) := by
  have T : Bl K mg := bl_of X G c
  obtain ⟨_, F_is_integer⟩ := c.t.d.def_ 0 (d := d_is_integer) rfl
  have g_is_integer := He.glo_ok X G (c.t.d.fact 0 (f := .glo "is_integer") rfl)
  obtain ⟨_, F_is_within⟩ := c.t.d.def_ 1 (d := d_is_within) rfl
  have g_is_within := He.glo_ok X G (c.t.d.fact 1 (f := .glo "is_within") rfl)
  obtain ⟨_, F_is_row_of⟩ := c.t.d.def_ 2 (d := d_is_row_of) rfl
  have g_is_row_of := He.glo_ok X G (c.t.d.fact 2 (f := .glo "is_row_of") rfl)
  obtain ⟨_, F_are_integers⟩ := c.t.d.def_ 3 (d := d_are_integers) rfl
  have g_are_integers := He.glo_ok X G (c.t.d.fact 3 (f := .glo "are_integers") rfl)
  obtain ⟨_, F_need_number⟩ := c.t.d.def_ 4 (d := d_need_number) rfl
  have g_need_number := He.glo_ok X G (c.t.d.fact 4 (f := .glo "need_number") rfl)
  obtain ⟨_, F_columns_of⟩ := c.t.d.def_ 5 (d := d_columns_of) rfl
  have g_columns_of := He.glo_ok X G (c.t.d.fact 5 (f := .glo "columns_of") rfl)
  obtain ⟨_, F_sums_by⟩ := c.t.d.def_ 6 (d := d_sums_by) rfl
  have g_sums_by := He.glo_ok X G (c.t.d.fact 6 (f := .glo "sums_by") rfl)
  obtain ⟨_, F_least_sums⟩ := c.t.d.def_ 7 (d := d_least_sums) rfl
  have g_least_sums := He.glo_ok X G (c.t.d.fact 7 (f := .glo "least_sums") rfl)
  obtain ⟨_, F_tails_ahead⟩ := c.t.d.def_ 8 (d := d_tails_ahead) rfl
  have g_tails_ahead := He.glo_ok X G (c.t.d.fact 8 (f := .glo "tails_ahead") rfl)
  obtain ⟨_, F_first_step⟩ := c.t.d.def_ 9 (d := d_first_step) rfl
  have g_first_step := He.glo_ok X G (c.t.d.fact 9 (f := .glo "first_step") rfl)
  obtain ⟨_, F_power_of⟩ := c.t.d.def_ 10 (d := d_power_of) rfl
  have g_power_of := He.glo_ok X G (c.t.d.fact 10 (f := .glo "power_of") rfl)
  obtain ⟨_, F_way_tails⟩ := c.t.d.def_ 11 (d := d_way_tails) rfl
  have g_way_tails := He.glo_ok X G (c.t.d.fact 11 (f := .glo "way_tails") rfl)
  obtain ⟨_, F_first_way⟩ := c.t.d.def_ 12 (d := d_first_way) rfl
  have g_first_way := He.glo_ok X G (c.t.d.fact 12 (f := .glo "first_way") rfl)
  obtain ⟨_, F_steps_sum⟩ := c.t.d.def_ 13 (d := d_steps_sum) rfl
  have g_steps_sum := He.glo_ok X G (c.t.d.fact 13 (f := .glo "steps_sum") rfl)
  obtain ⟨_, F_returns⟩ := c.t.d.def_ 14 (d := d_returns) rfl
  have g_returns := He.glo_ok X G (c.t.d.fact 14 (f := .glo "returns") rfl)
  obtain ⟨_, F_is_less⟩ := c.t.d.def_ 15 (d := d_is_less) rfl
  have g_is_less := He.glo_ok X G (c.t.d.fact 15 (f := .glo "is_less") rfl)
  obtain ⟨_, F_in_least_terms⟩ := c.t.d.def_ 16 (d := d_in_least_terms) rfl
  have g_in_least_terms := He.glo_ok X G (c.t.d.fact 16 (f := .glo "in_least_terms") rfl)
  obtain ⟨_, F_least_mean⟩ := c.t.d.def_ 17 (d := d_least_mean) rfl
  have g_least_mean := He.glo_ok X G (c.t.d.fact 17 (f := .glo "least_mean") rfl)
  obtain ⟨_, F_width⟩ := c.t.d.def_ 18 (d := d_width) rfl
  have g_width := He.glo_ok X G (c.t.d.fact 18 (f := .glo "width") rfl)
  obtain ⟨_, F_column_of⟩ := c.t.d.def_ 19 (d := d_column_of) rfl
  have g_column_of := He.glo_ok X G (c.t.d.fact 19 (f := .glo "column_of") rfl)
  obtain ⟨_, F_turned_table⟩ := c.t.d.def_ 20 (d := d_turned_table) rfl
  have g_turned_table := He.glo_ok X G (c.t.d.fact 20 (f := .glo "turned_table") rfl)
  obtain ⟨_, F_lifted_table⟩ := c.t.d.def_ 21 (d := d_lifted_table) rfl
  have g_lifted_table := He.glo_ok X G (c.t.d.fact 21 (f := .glo "lifted_table") rfl)
  obtain ⟨_, F_scaled_table⟩ := c.t.d.def_ 22 (d := d_scaled_table) rfl
  have g_scaled_table := He.glo_ok X G (c.t.d.fact 22 (f := .glo "scaled_table") rfl)
  obtain ⟨_, F_is_table_form⟩ := c.t.d.def_ 23 (d := d_is_table_form) rfl
  have g_is_table_form := He.glo_ok X G (c.t.d.fact 23 (f := .glo "is_table_form") rfl)
  obtain ⟨_, F_need_table⟩ := c.t.d.def_ 24 (d := d_need_table) rfl
  have g_need_table := He.glo_ok X G (c.t.d.fact 24 (f := .glo "need_table") rfl)
  obtain ⟨_, F_need_square⟩ := c.t.d.def_ 25 (d := d_need_square) rfl
  have g_need_square := He.glo_ok X G (c.t.d.fact 25 (f := .glo "need_square") rfl)
  obtain ⟨_, F_need_index⟩ := c.t.d.def_ 26 (d := d_need_index) rfl
  have g_need_index := He.glo_ok X G (c.t.d.fact 26 (f := .glo "need_index") rfl)
  obtain ⟨_, F_is_way⟩ := c.t.d.def_ 27 (d := d_is_way) rfl
  have g_is_way := He.glo_ok X G (c.t.d.fact 27 (f := .glo "is_way") rfl)
  obtain ⟨_, F_power⟩ := c.t.d.def_ 28 (d := d_power) rfl
  have g_power := He.glo_ok X G (c.t.d.fact 28 (f := .glo "power") rfl)
  obtain ⟨_, F_way⟩ := c.t.d.def_ 29 (d := d_way) rfl
  have g_way := He.glo_ok X G (c.t.d.fact 29 (f := .glo "way") rfl)
  obtain ⟨_, F_way_cost⟩ := c.t.d.def_ 30 (d := d_way_cost) rfl
  have g_way_cost := He.glo_ok X G (c.t.d.fact 30 (f := .glo "way_cost") rfl)
  obtain ⟨_, F_least_round⟩ := c.t.d.def_ 31 (d := d_least_round) rfl
  have g_least_round := He.glo_ok X G (c.t.d.fact 31 (f := .glo "least_round") rfl)
  obtain ⟨_, F_need_numbers⟩ := c.t.d.def_ 32 (d := d_need_numbers) rfl
  have g_need_numbers := He.glo_ok X G (c.t.d.fact 32 (f := .glo "need_numbers") rfl)
  obtain ⟨_, F_lifted⟩ := c.t.d.def_ 33 (d := d_lifted) rfl
  have g_lifted := He.glo_ok X G (c.t.d.fact 33 (f := .glo "lifted") rfl)
  obtain ⟨_, F_scaled⟩ := c.t.d.def_ 34 (d := d_scaled) rfl
  have g_scaled := He.glo_ok X G (c.t.d.fact 34 (f := .glo "scaled") rfl)
  obtain ⟨_, F_turned⟩ := c.t.d.def_ 35 (d := d_turned) rfl
  have g_turned := He.glo_ok X G (c.t.d.fact 35 (f := .glo "turned") rfl)
  obtain ⟨_, F_feed⟩ := c.t.d.def_ 36 (d := d_law_feed) rfl
  have g_feed := He.glo_ok X G (c.t.d.fact 36 (f := .glo "_law_feed") rfl)
  obtain ⟨_, F_draw⟩ := c.t.d.def_ 37 (d := d_law_draw) rfl
  have g_draw := He.glo_ok X G (c.t.d.fact 37 (f := .glo "_law_draw") rfl)
  obtain ⟨_, F_one⟩ := c.t.d.def_ 38 (d := d_law_one) rfl
  have g_one := He.glo_ok X G (c.t.d.fact 38 (f := .glo "_law_one") rfl)
  obtain ⟨_, F_built⟩ := c.t.d.def_ 39 (d := d_law_built) rfl
  have g_built := He.glo_ok X G (c.t.d.fact 39 (f := .glo "_law_built") rfl)
  obtain ⟨_, F_sized⟩ := c.t.d.def_ 40 (d := d_law_sized) rfl
  have g_sized := He.glo_ok X G (c.t.d.fact 40 (f := .glo "_law_sized") rfl)
  obtain ⟨_, F_numbers⟩ := c.t.d.def_ 41 (d := d_law_numbers) rfl
  have g_numbers := He.glo_ok X G (c.t.d.fact 41 (f := .glo "_law_numbers") rfl)
  obtain ⟨_, F_few⟩ := c.t.d.def_ 42 (d := d_law_few) rfl
  have g_few := He.glo_ok X G (c.t.d.fact 42 (f := .glo "_law_few") rfl)
  obtain ⟨_, F_trimmed⟩ := c.t.d.def_ 43 (d := d_law_trimmed) rfl
  have g_trimmed := He.glo_ok X G (c.t.d.fact 43 (f := .glo "_law_trimmed") rfl)
  obtain ⟨_, F_terms⟩ := c.t.d.def_ 44 (d := d_law_terms) rfl
  have g_terms := He.glo_ok X G (c.t.d.fact 44 (f := .glo "_law_terms") rfl)
  obtain ⟨_, F_law⟩ := c.t.d.def_ 45 (d := d_law) rfl
  have e := hfa.symm.trans (He.glo_ok X G (c.t.d.fact 45 (f := .glo "law") rfl))
  cases e
  have b := FunD.bindsA (ps := ["_law_script"]) F_law fun _ _ _ _ _ _ us hl => match us, hl with | [_], _ => rfl
  refine ⟨_, fun s v => b s [v] rfl, fun base _ _ => ?_⟩
  have k_is_integer := ok_is_integer (P := P) (w := w) (base := base) T F_is_integer g_is_integer
  have k_is_within := ok_is_within (P := P) (w := w) (base := base) T F_is_within g_is_within k_is_integer
  have k_is_row_of := ok_is_row_of (P := P) (w := w) (base := base) T F_is_row_of g_is_row_of
  have k_are_integers := ok_are_integers (P := P) (w := w) (base := base) T F_are_integers g_are_integers k_is_integer k_is_row_of
  have k_need_number := ok_need_number (P := P) (w := w) (base := base) T F_need_number g_need_number k_is_within
  have k_is_table_form := ok_is_table_form (P := P) (w := w) (base := base) T F_is_table_form g_is_table_form k_is_row_of k_are_integers
  have k_need_table := ok_need_table (P := P) (w := w) (base := base) T F_need_table g_need_table k_is_table_form
  have k_need_square := ok_need_square (P := P) (w := w) (base := base) T F_need_square g_need_square k_need_table
  have k_need_index := ok_need_index (P := P) (w := w) (base := base) T F_need_index g_need_index k_is_within
  have k_need_numbers := ok_need_numbers (P := P) (w := w) (base := base) T F_need_numbers g_need_numbers k_are_integers
  have k_columns_of := ok_columns_of (P := P) (w := w) (base := base) T F_columns_of g_columns_of
  have k_sums_by := ok_sums_by (P := P) (w := w) (base := base) T F_sums_by g_sums_by
  have k_least_sums := ok_least_sums (P := P) (w := w) (base := base) T F_least_sums g_least_sums k_columns_of k_sums_by
  have k_tails_ahead := ok_tails_ahead (P := P) (w := w) (base := base) T F_tails_ahead g_tails_ahead k_sums_by
  have k_first_step := ok_first_step (P := P) (w := w) (base := base) T F_first_step g_first_step k_sums_by
  have k_power_of := ok_power_of (P := P) (w := w) (base := base) T F_power_of g_power_of k_least_sums
  have k_way_tails := ok_way_tails (P := P) (w := w) (base := base) T F_way_tails g_way_tails k_tails_ahead
  have k_first_way := ok_first_way (P := P) (w := w) (base := base) T F_first_way g_first_way k_way_tails k_first_step
  have k_steps_sum := ok_steps_sum (P := P) (w := w) (base := base) T F_steps_sum g_steps_sum
  have k_returns := ok_returns (P := P) (w := w) (base := base) T F_returns g_returns k_least_sums
  have k_is_less := ok_is_less (P := P) (w := w) (base := base) T F_is_less g_is_less
  have k_in_least_terms := ok_in_least_terms (P := P) (w := w) (base := base) T F_in_least_terms g_in_least_terms
  have k_least_mean := ok_least_mean (P := P) (w := w) (base := base) T F_least_mean g_least_mean k_returns k_is_less k_in_least_terms
  have k_width := ok_width (P := P) (w := w) (base := base) T F_width g_width
  have k_column_of := ok_column_of (P := P) (w := w) (base := base) T F_column_of g_column_of
  have k_turned_table := ok_turned_table (P := P) (w := w) (base := base) T F_turned_table g_turned_table k_width k_column_of
  have k_scaled_table := ok_scaled_table (P := P) (w := w) (base := base) T F_scaled_table g_scaled_table
  have k_lifted_table := ok_lifted_table (P := P) (w := w) (base := base) T F_lifted_table g_lifted_table
  have k_power := ok_power (P := P) (w := w) (base := base) T F_power g_power k_need_square k_need_number k_power_of
  have k_way := ok_way (P := P) (w := w) (base := base) T F_way g_way k_need_square k_need_index k_need_number k_first_way
  have k_is_way := ok_is_way (P := P) (w := w) (base := base) T F_is_way g_is_way k_is_integer
  have k_way_cost := ok_way_cost (P := P) (w := w) (base := base) T F_way_cost g_way_cost k_need_square k_is_way k_steps_sum
  have k_least_round := ok_least_round (P := P) (w := w) (base := base) T F_least_round g_least_round k_need_square k_least_mean
  have k_lifted := ok_lifted (P := P) (w := w) (base := base) T F_lifted g_lifted k_need_table k_need_numbers k_width k_lifted_table
  have k_scaled := ok_scaled (P := P) (w := w) (base := base) T F_scaled g_scaled k_need_table k_need_number k_scaled_table
  have k_turned := ok_turned (P := P) (w := w) (base := base) T F_turned g_turned k_need_table k_turned_table
  have k_feed := ok_feed (P := P) (w := w) (base := base) T F_feed g_feed
  have k_draw := ok_draw (P := P) (w := w) (base := base) T F_draw g_draw
  have k_built := ok_built (P := P) (w := w) (base := base) T F_built g_built
  have k_trimmed := ok_trimmed (P := P) (w := w) (base := base) T F_trimmed g_trimmed
  have k_terms := ok_terms (P := P) (w := w) (base := base) T F_terms g_terms
  have k_one := ok_one (P := P) (w := w) (base := base) T F_one g_one k_draw
  have k_sized := ok_sized (P := P) (w := w) (base := base) T F_sized g_sized k_draw k_one k_built
  have k_numbers := ok_numbers (P := P) (w := w) (base := base) T F_numbers g_numbers k_draw k_one
  have k_few := ok_few (P := P) (w := w) (base := base) T F_few g_few k_draw k_sized k_trimmed k_numbers
  exact ok_law T F_law k_feed k_draw k_few k_terms k_least_round k_power k_way k_way_cost k_lifted k_scaled k_turned
end K38
end
set_option Elab.async false
set_option linter.all false
set_option maxRecDepth 100000
set_option maxHeartbeats 0
open PySem PySem.W PySem.Calls PyProof.Rows
theorem PySem.Challenge.cw_straightleast_k38_whole_rounds_and_power_holds : PySem.Challenge.rw_straightleast_k38_whole_rounds_and_power.Holds := by
  w_on; o_law
  refine HandSHeadRun.head_imp (r := K38.R) (q := view K38.R.prog [0, 66]) (H := K38.hk) (ob := K38.ob) (M := 6000) (loose := K38.nms) (d := HandSHeadRun.topDef K38.R.prog 66) (kwd := []) K38.ob_eq K38.run
    (by kernel_rfl) (by kernel_rfl) (by kernel_rfl) (by rfl) (by first | assumption | decide +kernel) (by decide +kernel) ⟨rfl, rfl, rfl, rfl, rfl, by decide +kernel⟩ ?hw ?hc
  case hw => w_witness2
  case hc =>
    refine L2.walk_ofE (l := PySem.Challenge.rw_straightleast_k38_whole_rounds_and_power) (n := 63) (k := 7) (x := "_law_script") (CX := L2.CX0) rfl (by decide) (by kernel_rfl) ⟨rfl, by decide, by decide⟩ ?F (fun _ _ _ _ z => z)
    intro w mg fa h Y G hmg0
    obtain ⟨K, KX, c⟩ := Y
    have hmg : mg ("law" : PySem.Str) = some (.ref fa) := by
      have e : (HandSHeadRun.topDef K38.R.prog 66).name = ("law" : PySem.Str) := by kernel_rfl
      rw [← e]
      exact hmg0
    obtain ⟨fd, hb, hF⟩ := K38.facts (P := (PySem.Challenge.rw_straightleast_k38_whole_rounds_and_power).prog) (w := w) KX G hmg c
    exact ⟨K, fd, K38.spLaw K, KX, hb, fun H a ns hl _ hS => ⟨a, ns, rfl, hS, hl, fun _ => rfl⟩, hF⟩
