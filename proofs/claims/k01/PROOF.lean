import PyProof.Rows.All
import Wide.All
import OpenK.AllK
import Wide.FinOn
import HandS.ForMost
import HandS.IsInst
import HandS.Wide
import HandS.TupAny
import HandS.Style
import HandS.Defaults
import HandS.SortInts
import PyProof.ReprRoads
import HandS.EndBits
import HandS.Head0
import HandS.Head1
import HandS.Head2
import HandS.HeadHook1
import HandS.HeadHook2
import KE.KRevSl
import PySem.Challenge.RW_boxregions_k01_squares_and_boxes_judged
set_option Elab.async false
set_option linter.all false
set_option maxRecDepth 100000
set_option maxHeartbeats 4000000
/-! Own layer: values by what they are (Ty), over a part G of the heap that never changes again. -/
namespace BR
open PySem PySem.Spec PyProof.Rows L2
abbrev St := L2.St

/-! ### heaps that grow -/
theorem same_refl (H : Hp) : Same H H := fun _ _ h => h
structure Grow (G H G' H' : Hp) : Prop where
  g : Same G G'
  h : Same H H'
  s : Same G' H'
  f : ∀ a, G a = none → G' a ≠ none → H a = none
theorem Grow.refl {G H : Hp} (s : Same G H) : Grow G H G H :=
  ⟨same_refl G, same_refl H, s, fun a h h' => absurd h h'⟩
theorem Grow.trans {G H G1 H1 G2 H2 : Hp} (a : Grow G H G1 H1) (b : Grow G1 H1 G2 H2) : Grow G H G2 H2 :=
  ⟨a.g.trans b.g, a.h.trans b.h, b.s, fun x hx hy => by
    by_cases h1 : G1 x = none
    · exact a.h.free (b.f x h1 hy)
    · exact a.f x hx h1⟩
/-- only the rest has grown -/
theorem Grow.rest {G H H' : Hp} (s : Same G H) (h : Same H H') : Grow G H G H' :=
  ⟨same_refl G, h, s.trans h, fun a h h' => absurd h h'⟩
theorem same_new {H : Hp} {p : Addr} {o : HO} (h : H p = none) : Same H (upd H p o) := fun a u e => by
  rw [upd_ne (ne_of_none e h)]
  exact e
theorem Grow.new {G H : Hp} {p : Addr} {o : HO} (s : Same G H) (h : H p = none) : Grow G H (upd G p o) (upd H p o) := by
  have hG : G p = none := s.free h
  refine ⟨same_new hG, same_new h, fun a u e => ?_, fun a ha hb => ?_⟩
  · by_cases q : a = p
    · subst q
      rw [upd_same] at e ⊢
      exact e
    · rw [upd_ne q] at e ⊢
      exact s a u e
  · by_cases q : a = p
    · subst q
      exact h
    · rw [upd_ne q] at hb
      exact absurd ha hb
def uni (A B : Hp) : Hp := fun a => match A a with
  | some o => some o
  | none => B a
theorem uni_l (A B : Hp) : Same A (uni A B) := fun a o e => by simp [uni, e]
theorem uni_r {A B H : Hp} (ha : Same A H) (hb : Same B H) : Same B (uni A B) := fun a o e => by
  unfold uni
  cases q : A a with
  | none => exact e
  | some u =>
    have h1 := ha a u q
    have h2 := hb a o e
    rw [h1] at h2
    exact h2
theorem uni_s {A B H : Hp} (ha : Same A H) (hb : Same B H) : Same (uni A B) H := fun a o e => by
  unfold uni at e
  cases q : A a with
  | none =>
    rw [q] at e
    exact hb a o e
  | some u =>
    rw [q] at e
    cases e
    exact ha a _ q
/-- a growth over less is one over more -/
theorem Grow.more {G G1 H G' H' : Hp} (a : Grow G H G' H') (g : Same G G1) (s : Same G1 H) : Grow G1 H (uni G1 G') H' ∧ Same G' (uni G1 G') :=
  ⟨⟨uni_l _ _, a.h, uni_s (s.trans a.h) a.s, fun x hx hy => by
    have e : uni G1 G' x = G' x := by simp [uni, hx]
    rw [e] at hy
    exact a.f x (g.free hx) hy⟩, uni_r (s.trans a.h) a.s⟩

/-! ### what a value is -/
structure Ty where
  p : Hp → V → Prop
  m : ∀ G G' v, Same G G' → p G v → p G' v
inductive All : Hp → List Ty → List V → Prop
  | nil {G} : All G [] []
  | cons {G φ φs v vs} : φ.p G v → All G φs vs → All G (φ :: φs) (v :: vs)
theorem All.mono {G G' : Hp} (s : Same G G') : ∀ {φs : List Ty} {vs : List V}, All G φs vs → All G' φs vs
  | _, _, .nil => .nil
  | _, _, .cons h t => .cons (Ty.m _ _ _ _ s h) (t.mono s)
theorem All.length {G : Hp} : ∀ {φs : List Ty} {vs : List V}, All G φs vs → vs.length = φs.length
  | _, _, .nil => rfl
  | _, _, .cons _ t => by simp [t.length]
theorem All.get {G : Hp} : ∀ {φs : List Ty} {vs : List V} {i : Nat} {φ : Ty}, All G φs vs → φs[i]? = some φ → ∃ v, vs[i]? = some v ∧ φ.p G v
  | _, _, _, _, .nil, e => by simp at e
  | _, _, 0, _, .cons h _, e => by
    simp at e
    subst e
    exact ⟨_, rfl, h⟩
  | _, _, i + 1, _, .cons _ t, e => by
    obtain ⟨v, h1, h2⟩ := t.get (i := i) (by simpa using e)
    exact ⟨v, by simpa using h1, h2⟩
theorem All.get' {G : Hp} : ∀ {φs : List Ty} {vs : List V} {i : Nat} {v : V}, All G φs vs → vs[i]? = some v → ∃ φ, φs[i]? = some φ ∧ φ.p G v
  | _, _, _, _, .nil, e => by simp at e
  | _, _, 0, _, .cons h _, e => by
    simp at e
    subst e
    exact ⟨_, rfl, h⟩
  | _, _, i + 1, _, .cons _ t, e => by
    obtain ⟨φ, h1, h2⟩ := t.get' (i := i) (by simpa using e)
    exact ⟨φ, by simpa using h1, h2⟩
theorem All.append {G : Hp} : ∀ {φs ψs : List Ty} {vs ws : List V}, All G φs vs → All G ψs ws → All G (φs ++ ψs) (vs ++ ws)
  | _, _, _, _, .nil, h => h
  | _, _, _, _, .cons a t, h => .cons a (t.append h)
theorem All.take {G : Hp} : ∀ {φs : List Ty} {vs : List V} (n : Nat), All G φs vs → All G (φs.take n) (vs.take n)
  | _, _, 0, _ => by simpa using All.nil
  | _, _, _ + 1, .nil => .nil
  | _, _, n + 1, .cons a t => .cons a (t.take n)
theorem All.drop {G : Hp} : ∀ {φs : List Ty} {vs : List V} (n : Nat), All G φs vs → All G (φs.drop n) (vs.drop n)
  | _, _, 0, h => h
  | _, _, _ + 1, .nil => .nil
  | _, _, n + 1, .cons _ t => t.drop n
theorem All.reverse {G : Hp} : ∀ {φs : List Ty} {vs : List V}, All G φs vs → All G φs.reverse vs.reverse
  | _, _, .nil => .nil
  | _, _, .cons a t => by
    rw [List.reverse_cons, List.reverse_cons]
    exact t.reverse.append (.cons a .nil)
theorem All.set {G : Hp} {φ : Ty} {v : V} (h : φ.p G v) : ∀ {φs : List Ty} {vs : List V} (i : Nat), All G φs vs → All G (φs.set i φ) (vs.set i v)
  | _, _, _, .nil => .nil
  | _, _, 0, .cons _ t => .cons h t
  | _, _, i + 1, .cons a t => .cons a (All.set h i t)

abbrev Fg := PySem.W.Frag
theorem sqL_mono {K : Fg} {G G' : Hp} {a : Addr} {xs : List V} (e : Same G G') (h : SqL K G a xs) : SqL K G' a xs := e.seq h
theorem sqT_mono {K : Fg} {G G' : Hp} {a : Addr} {xs : List V} (e : Same G G') (h : SqT K G a xs) : SqT K G' a xs := by
  rcases h with (h | ⟨o, h⟩) | h
  · exact .inl (.inl (e _ _ h))
  · exact .inl (.inr ⟨o, e _ _ h⟩)
  · exact .inr h
/-- a known value -/
def tv (v : V) : Ty := ⟨fun _ u => u = v, fun _ _ _ _ h => h⟩
abbrev tI (i : Int) : Ty := tv (.int i)
abbrev tBo (b : Bool) : Ty := tv (.bl b)
abbrev tN : Ty := tv .non
abbrev tSt (x : Str) : Ty := tv (.str x)
/-- a tuple, a list (never changed again), by what their items are -/
def tT (φs : List Ty) : Ty := ⟨fun G v => ∃ a vs, v = .ref a ∧ G a = some (.tup vs) ∧ All G φs vs, fun _ _ _ s ⟨a, vs, e, h1, h2⟩ => ⟨a, vs, e, s _ _ h1, h2.mono s⟩⟩
def tL (φs : List Ty) : Ty := ⟨fun G v => ∃ a vs, v = .ref a ∧ G a = some (.lst vs) ∧ All G φs vs, fun _ _ _ s ⟨a, vs, e, h1, h2⟩ => ⟨a, vs, e, s _ _ h1, h2.mono s⟩⟩
/-- a value of a class, nothing else known -/
def tAny (K : Fg) (t : Value) : Ty := ⟨fun G v => ∃ H0, Same H0 G ∧ ∀ H, Same H0 H → TyX K H v t, fun _ _ _ s ⟨H0, h1, h2⟩ => ⟨H0, h1.trans s, h2⟩⟩

/-! ### what an expression's reading gives -/
def PD (t : TE) (σ : St) (G R : Hp) (φ : Ty) : Prop :=
  ∀ H, Same R H → Same G H → ∀ Q : VK, (∀ v G' H', Grow G H G' H' → φ.p G' v → Q v H') → t σ H Q
def AD (t : TA) (σ : St) (G R : Hp) (φs : List Ty) : Prop :=
  ∀ H, Same R H → Same G H → ∀ Q : List V → Hp → Prop, (∀ vs G' H', Grow G H G' H' → All G' φs vs → Q vs H') → t σ H Q
def TD (t : TT) (σ : St) (R : Hp) (b : Bool) : Prop :=
  ∀ H, Same R H → ∀ Q : Bool → Hp → Prop, (∀ H', Same H H' → Q b H') → t σ H Q
section
variable {K : Fg} {σ : St} {G G1 R R1 : Hp} {ta tb te : TE} {φ ψ χ : Ty}
theorem PD.mono (h : PD te σ G R φ) (g : Same G G1) (r : Same R R1) : PD te σ G1 R1 φ := fun H sr sg Q q =>
  h H (r.trans sr) (g.trans sg) Q fun v G' H' gr hv =>
    let ⟨g2, s2⟩ := gr.more g sg
    q v _ H' g2 (φ.m _ _ _ s2 hv)
theorem AD.mono {ta : TA} {φs : List Ty} (h : AD ta σ G R φs) (g : Same G G1) (r : Same R R1) : AD ta σ G1 R1 φs := fun H sr sg Q q =>
  h H (r.trans sr) (g.trans sg) Q fun v G' H' gr hv =>
    let ⟨g2, s2⟩ := gr.more g sg
    q v _ H' g2 (hv.mono s2)
theorem TD.mono {t : TT} {b : Bool} (h : TD t σ R b) (r : Same R R1) : TD t σ R1 b := fun H sr Q q => h H (r.trans sr) Q q
theorem PD.imp (h : PD te σ G R φ) (f : ∀ G v, φ.p G v → ψ.p G v) : PD te σ G R ψ := fun H sr sg Q q =>
  h H sr sg Q fun v G' H' gr hv => q v G' H' gr (f _ _ hv)
theorem PD.is (h : PD te σ G R φ) (e : φ = ψ) : PD te σ G R ψ := e ▸ h
theorem TD.is {t : TT} {a b : Bool} (h : TD t σ R a) (e : a = b) : TD t σ R b := e ▸ h
/-- a known value may be read off anything that stands -/
theorem PD.val {v : V} (h : PD te σ R R (tv v)) : PD te σ G R (tv v) := fun H sr sg Q q =>
  h H sr sr Q fun u _ H' gr hv => q u G H' (.rest sg gr.h) hv
theorem PD.val' {v : V} (h : PD te σ G1 R (tv v)) (s1 : Same G1 R) : PD te σ G R (tv v) := fun H sr sg Q q =>
  h H sr (s1.trans sr) Q fun u _ H' gr hv => q u G H' (.rest sg gr.h) hv
/-! names, constants -/
theorem pd_var {i : Nat} {v : V} (h : σ[i]? = some (some v)) (hv : φ.p G v) : PD (tVar i) σ G R φ := fun H _ sg Q q =>
  ⟨v, h, q v G H (.refl sg) hv⟩
theorem pd_c {v : V} : PD (tC v) σ G R (tv v) := fun H _ sg Q q => q v G H (.refl sg) rfl
/-! arguments, displays -/
theorem ad_nil : AD tNil σ G R [] := fun H _ sg Q q => q [] G H (.refl sg) .nil
theorem ad_cons {tr : TA} {φs : List Ty} (h : PD te σ G R φ) (hr : AD tr σ G R φs) : AD (tCons te tr) σ G R (φ :: φs) := fun H sr sg Q q =>
  h H sr sg _ fun v G1 H1 g1 hv => (hr.mono g1.g (sr.trans g1.h)) H1 (same_refl _) g1.s _ fun vs G2 H2 g2 hvs =>
    q (v :: vs) G2 H2 (g1.trans g2) (.cons (φ.m _ _ _ g2.g hv) hvs)
theorem sz_of {n : Nat} (h : n ≤ 100000) : n ≤ sizeLine := Nat.le_trans h (by decide)
theorem sz_lt {n : Nat} (h : n < 100000) : n < sizeLine := Nat.lt_of_lt_of_le h (by decide)
theorem pd_tup {t : TA} {φs : List Ty} (h : AD t σ G R φs) (hl : φs.length ≤ 100000) : PD (tTup t) σ G R (tT φs) := fun H sr sg Q q =>
  h H sr sg _ fun vs G1 H1 g1 hvs => ⟨sz_of (by rw [hvs.length]; exact hl), fun p hp =>
    have g2 : Grow G1 H1 (upd G1 p (.tup vs)) (upd H1 p (.tup vs)) := .new g1.s hp
    q (.ref p) _ _ (g1.trans g2) ⟨p, vs, rfl, upd_same, hvs.mono g2.g⟩⟩
theorem pd_lst {t : TA} {φs : List Ty} (h : AD t σ G R φs) (hl : φs.length ≤ 100000) : PD (tLst t) σ G R (tL φs) := fun H sr sg Q q =>
  h H sr sg _ fun vs G1 H1 g1 hvs => ⟨sz_of (by rw [hvs.length]; exact hl), fun p hp =>
    have g2 : Grow G1 H1 (upd G1 p (.lst vs)) (upd H1 p (.lst vs)) := .new g1.s hp
    q (.ref p) _ _ (g1.trans g2) ⟨p, vs, rfl, upd_same, hvs.mono g2.g⟩⟩
/-! two places -/
theorem pd_op {r : R2} (ha : PD ta σ G R φ) (hb : PD tb σ G R ψ)
    (hr : ∀ x y G1 H, Same G G1 → Same G1 H → φ.p G1 x → ψ.p G1 y → ∀ Q : VK, (∀ v G' H', Grow G1 H G' H' → χ.p G' v → Q v H') → r x y H Q) : PD (tOp r ta tb) σ G R χ := fun H sr sg Q q =>
  ha H sr sg _ fun x G1 H1 g1 hx => (hb.mono g1.g (sr.trans g1.h)) H1 (same_refl _) g1.s _ fun y G2 H2 g2 hy =>
    hr x y G2 H2 (g1.g.trans g2.g) g2.s (φ.m _ _ _ g2.g hx) hy Q fun v G3 H3 g3 hv => q v G3 H3 ((g1.trans g2).trans g3) hv
/-- two known values to a known value -/
theorem pd_opv {r : R2} {x y z : V} (ha : PD ta σ G R (tv x)) (hb : PD tb σ G R (tv y)) (hr : ∀ H Q, Q z H → r x y H Q) : PD (tOp r ta tb) σ G R (tv z) :=
  pd_op ha hb fun x' y' G1 H _ s1 ex ey Q q => by
    cases ex
    cases ey
    exact hr H Q (q z G1 H (.refl s1) rfl)
theorem pd_I0 {g : Int → Int → V} {i j : Int} (ha : PD ta σ G R (tI i)) (hb : PD tb σ G R (tI j)) : PD (tOp (rI0 g) ta tb) σ G R (tv (g i j)) :=
  pd_opv ha hb fun H Q q => ⟨i, j, rfl, rfl, q⟩
theorem pd_I {C : Int → Int → Prop} {g : Int → Int → V} {i j : Int} (ha : PD ta σ G R (tI i)) (hb : PD tb σ G R (tI j)) (hc : C i j) : PD (tOp (rI C g) ta tb) σ G R (tv (g i j)) :=
  pd_opv ha hb fun H Q q => ⟨i, j, rfl, rfl, hc, q⟩
theorem pd_eqS {x y : V} (ha : PD ta σ G R (tv x)) (hb : PD tb σ G R (tv y)) (hs : scal x y = true) : PD (tOp rEq ta tb) σ G R (tBo (decide (x = y))) :=
  pd_opv ha hb fun H Q q => ⟨hs, q⟩
theorem pd_neS {x y : V} (ha : PD ta σ G R (tv x)) (hb : PD tb σ G R (tv y)) (hs : scal x y = true) : PD (tOp rNe ta tb) σ G R (tBo (!decide (x = y))) :=
  pd_opv ha hb fun H Q q => ⟨hs, q⟩
theorem pd_un {r : V → Hp → VK → Prop} {x z : V} (ha : PD ta σ G R (tv x)) (hr : ∀ H Q, Q z H → r x H Q) : PD (tUn r ta) σ G R (tv z) := fun H sr sg Q q =>
  ha H sr sg _ fun v G1 H1 g1 hv => by
    cases hv
    exact hr H1 Q (q z G1 H1 g1 rfl)
/-! items -/
theorem pd_ixT {φs : List Ty} {i : Int} (ha : PD ta σ G R (tT φs)) (hb : PD tb σ G R (tI i)) (hi : atI φs i = some φ) : PD (tOp (rIxT K) ta tb) σ G R φ :=
  pd_op ha hb fun x y G1 H _ s1 hx hy Q q => by
    obtain ⟨a, vs, rfl, h1, h2⟩ := hx
    cases hy
    unfold atI at hi
    rw [← h2.length] at hi
    cases e : ixN vs.length i with
    | none =>
      rw [e] at hi
      cases hi
    | some j =>
      rw [e] at hi
      obtain ⟨v, e1, e2⟩ := h2.get hi
      exact ⟨a, vs, i, v, rfl, rfl, .of (s1 _ _ h1), by unfold atI; rw [e]; exact e1, q v G1 H (.refl s1) e2⟩
theorem pd_ixL {φs : List Ty} {i : Int} (ha : PD ta σ G R (tL φs)) (hb : PD tb σ G R (tI i)) (hi : atI φs i = some φ) : PD (tOp (rIxL K) ta tb) σ G R φ :=
  pd_op ha hb fun x y G1 H _ s1 hx hy Q q => by
    obtain ⟨a, vs, rfl, h1, h2⟩ := hx
    cases hy
    unfold atI at hi
    rw [← h2.length] at hi
    cases e : ixN vs.length i with
    | none =>
      rw [e] at hi
      cases hi
    | some j =>
      rw [e] at hi
      obtain ⟨v, e1, e2⟩ := h2.get hi
      exact ⟨a, vs, i, v, rfl, rfl, .of (s1 _ _ h1), by unfold atI; rw [e]; exact e1, q v G1 H (.refl s1) e2⟩
/-! tests -/
theorem td_B {b : Bool} (h : PD te σ R R (tBo b)) : TD (tB te) σ R b := fun H sr Q q =>
  h H sr sr _ fun v _ H1 g1 hv => ⟨b, hv, q H1 g1.h⟩
theorem td_test {b : Bool} (h : PD te σ R R (tBo b)) : TD (tTest te) σ R b := fun H sr Q q =>
  h H sr sr _ fun v _ H1 g1 hv => ⟨b, hv, q H1 g1.h⟩
variable {t u : TT}
theorem td_and {a b : Bool} (h1 : TD t σ R a) (h2 : a = true → TD u σ R b) : TD (tAnd t u) σ R (a && b) := fun H sr Q q =>
  h1 H sr _ fun H1 g1 => by
    cases a with
    | true => exact h2 rfl H1 (sr.trans g1) Q fun H2 g2 => q H2 (g1.trans g2)
    | false => exact q H1 g1
theorem td_or {a b : Bool} (h1 : TD t σ R a) (h2 : a = false → TD u σ R b) : TD (tOr t u) σ R (a || b) := fun H sr Q q =>
  h1 H sr _ fun H1 g1 => by
    cases a with
    | true => exact q H1 g1
    | false => exact h2 rfl H1 (sr.trans g1) Q fun H2 g2 => q H2 (g1.trans g2)
theorem td_not {a : Bool} (h : TD t σ R a) : TD (tNot t) σ R (!a) := fun H sr Q q => h H sr _ fun H1 g1 => q H1 g1
theorem pd_andV {a b : Bool} (h1 : PD ta σ G R (tBo a)) (h2 : a = true → PD tb σ G R (tBo b)) : PD (tAndV ta tb) σ G R (tBo (a && b)) := fun H sr sg Q q =>
  h1 H sr sg _ fun v G1 H1 g1 hv => ⟨a, hv, by
    cases a with
    | true => exact ((h2 rfl).mono g1.g (sr.trans g1.h)) H1 (same_refl _) g1.s Q fun v G2 H2 g2 hv => q v G2 H2 (g1.trans g2) hv
    | false => exact q _ G1 H1 g1 rfl⟩
theorem pd_orV {a b : Bool} (h1 : PD ta σ G R (tBo a)) (h2 : a = false → PD tb σ G R (tBo b)) : PD (tOrV ta tb) σ G R (tBo (a || b)) := fun H sr sg Q q =>
  h1 H sr sg _ fun v G1 H1 g1 hv => ⟨a, hv, by
    cases a with
    | true => exact q _ G1 H1 g1 rfl
    | false => exact ((h2 rfl).mono g1.g (sr.trans g1.h)) H1 (same_refl _) g1.s Q fun v G2 H2 g2 hv => q v G2 H2 (g1.trans g2) hv⟩
theorem pd_notV {a : Bool} (h : PD ta σ G R (tBo a)) : PD (tNotV ta) σ G R (tBo (!a)) := fun H sr sg Q q =>
  h H sr sg _ fun v G1 H1 g1 hv => ⟨a, hv, q _ G1 H1 g1 rfl⟩
theorem pd_if {b : Bool} (h : TD t σ R b) (h1 : b = true → PD ta σ G R φ) (h2 : b = false → PD tb σ G R φ) : PD (tIf t ta tb) σ G R φ := fun H sr sg Q q =>
  h H sr _ fun H1 g1 => by
    cases b with
    | true => exact (h1 rfl) H1 (sr.trans g1) (sg.trans g1) Q fun v G2 H2 g2 hv => q v G2 H2 ((Grow.rest sg g1).trans g2) hv
    | false => exact (h2 rfl) H1 (sr.trans g1) (sg.trans g1) Q fun v G2 H2 g2 hv => q v G2 H2 ((Grow.rest sg g1).trans g2) hv
/-! calls of built-ins -/
theorem pd_callB {r : List V → Hp → VK → Prop} {ta : TA} {φs : List Ty} (h : AD ta σ G R φs)
    (hr : ∀ vs G1 H, Same G G1 → Same G1 H → All G1 φs vs → ∀ Q : VK, (∀ v G' H', Grow G1 H G' H' → χ.p G' v → Q v H') → r vs H Q) : PD (tCB r ta) σ G R χ := fun H sr sg Q q =>
  h H sr sg _ fun vs G1 H1 g1 hv => hr vs G1 H1 g1.g g1.s hv Q fun v G2 H2 g2 hv => q v G2 H2 (g1.trans g2) hv
/-! promises of defs that are functions of their arguments -/
def spT (pre : List Ty → Ty → Prop) : Sp := fun vs H Q _ => ∃ G φs φ, Same G H ∧ All G φs vs ∧ pre φs φ ∧ ∀ v G' H', Grow G H G' H' → φ.p G' v → Q v H'
theorem pd_call {pre : List Ty → Ty → Prop} {E : XK} {ta : TA} {φs : List Ty} (h : AD ta σ G R φs) (hp : pre φs φ) : PD (tCall (spT pre) [] E ta) σ G R φ := fun H sr sg Q q =>
  h H sr sg _ fun vs G1 H1 g1 hv => ⟨G1, φs, φ, g1.s, by rw [List.append_nil]; exact hv, hp, fun v G2 H2 g2 hv => q v G2 H2 (g1.trans g2) hv⟩
end
/-! ### statements -/
section
variable {K : Fg} {σ : St} {G R H : Hp} {ta tb te : TE} {t : TT} {φ ψ : Ty} {D : Ends} {tu tw tz : TS}
theorem s_ret (h : PD te σ G R φ) (sr : Same R H) (sg : Same G H) (k : ∀ v G' H', Grow G H G' H' → φ.p G' v → D.rt v H') : tRet te D σ H := h H sr sg _ k
theorem s_asg {i : Nat} (h : PD te σ G R φ) (sr : Same R H) (sg : Same G H) (k : ∀ v G' H', Grow G H G' H' → φ.p G' v → D.nx (σ.set i (some v)) H') : tAsg te (gName i) D σ H := h H sr sg _ k
theorem q_asg {i : Nat} (h : PD te σ G R φ) (sr : Same R H) (sg : Same G H) (k : ∀ v G' H', Grow G H G' H' → φ.p G' v → tz D (σ.set i (some v)) H') : tSeq (tAsg te (gName i)) tz D σ H := h H sr sg _ k
theorem s_if {b : Bool} (h : TD t σ R b) (sr : Same R H) (h1 : b = true → ∀ H', Same H H' → tu D σ H') (h2 : b = false → ∀ H', Same H H' → tw D σ H') : tIfS t tu tw D σ H :=
  h H sr _ fun H1 g1 => by
    cases b with
    | true => exact h1 rfl H1 g1
    | false => exact h2 rfl H1 g1
theorem q_if {b : Bool} (h : TD t σ R b) (sr : Same R H) (h1 : b = true → ∀ H', Same H H' → tu { D with nx := tz D } σ H') (h2 : b = false → ∀ H', Same H H' → tw { D with nx := tz D } σ H') : tSeq (tIfS t tu tw) tz D σ H :=
  s_if (D := { D with nx := tz D }) h sr h1 h2
theorem q_when {b : Bool} (h : TD t σ R b) (sr : Same R H) (h1 : b = true → ∀ H', Same H H' → tu { D with nx := tz D } σ H') (h2 : b = false → ∀ H', Same H H' → tz D σ H') : tSeq (tIfS t tu tNext) tz D σ H :=
  s_if (D := { D with nx := tz D }) h sr h1 h2
theorem s_when {b : Bool} (h : TD t σ R b) (sr : Same R H) (h1 : b = true → ∀ H', Same H H' → tu D σ H') (h2 : b = false → ∀ H', Same H H' → D.nx σ H') : tIfS t tu tNext D σ H :=
  s_if h sr h1 h2
end
end BR
/-! Own layer, second part: defs that are called where no repr is under way; generic operators. -/
namespace BR
open PySem PySem.Spec PyProof.Rows L2
/-! ### defs -/
structure FnG (P : Program) (w : World) (K : Fg) (mg : Str → Option Value) (base : Heap) (CX : CXT) (k : Nat) (f : Addr) (fd : FuncData) (ps : List Str) (sp : Sp) : Prop where
  len : ∀ vs H Q E, sp vs H Q E → vs.length = ps.length
  run : ∀ (A : Around) (outer : List Env) (s : Shared) (H : Hp) (args : Args) (us : List Value) (vs : List V) (Q : VK) (E : XK),
    Room k A → A.guards = some [] → Env0 P w K mg base A outer s H → BindsTo s fd args (ps.zip us) → Vals vs us → sp vs H Q E →
    codeAny (model P w) A (.call (.ref f) args) (CR CX outer P w H s Q E) s
theorem FnG.mono {P : Program} {w : World} {K : Fg} {mg : Str → Option Value} {base : Heap} {CX : CXT} {j k : Nat} {f : Addr} {fd : FuncData} {ps : List Str} {sp : Sp}
    (F : FnG P w K mg base CX j f fd ps sp) (h : j ≤ k) : FnG P w K mg base CX k f fd ps sp :=
  ⟨F.len, fun A outer s H args us vs Q E hr => F.run A outer s H args us vs Q E (hr.mono h)⟩
theorem guards_deeper (A : Around) (env : Env) : (A.deeper env).guards = A.guards := rfl
theorem fn_ofG {CX : CXT} {P : Program} {w : World} {K : Fg} {mg : Str → Option Value} {base : Heap} {k : Nat} {f : Addr} {name qual : Str} {params : Arguments} {body : List Stmt} {scope : Scope}
    {dV kV doc pm cdv ct oc : Value} {an od : Option Addr} {osl : Array (Option Value)} {N ps : List Str} {sp : Sp}
    (lk : K.lookup f = some ⟨oc, od, .func (PySem.W.fnOf name qual params body scope dV kV doc pm an cdv ct), osl⟩) (hcd : PySem.W.codeIn K cdv qual = true) (S : FnScope N ps scope)
    (len : ∀ vs H Q E, sp vs H Q E → vs.length = ps.length)
    (hbody : ∀ (A : Around) (outer : List Env) (s : Shared) (H : Hp) (vs : List V) (Q : VK) (E : XK), Room k (A.deeper (envOfC qual scope s.heap.objs.size f cdv)) → A.guards = some [] → sp vs H Q E →
      ∃ t, PSs (cxOf CX P w K mg base N qual scope f cdv A outer s H E) body t ∧ t { nx := fun _ H' => Q .non H', rt := Q } (start N vs) H) :
    FnG P w K mg base CX (k + 1) f (PySem.W.fnOf name qual params body scope dV kV doc pm an cdv ct) ps sp := by
  refine ⟨len, ?_⟩
  intro A outer s H args us vs Q E hr hgd e0 hb r hsp
  have KX : K.In s.heap := e0.mod.kin.keeps fun b o e => (e0.bs b o e).1
  have lim : s.heap.NoLimit := e0.mod.nolimit.keeps fun b o e => (e0.bs b o e).1
  have hkind : ∀ y ∈ ps.zip us, scope.names.lookup y.1 = some .local ∨
      (scope.names.lookup y.1 = some .cell ∧ ((cellsFrom (s.heap.objs.size + 1) scope.names []).lookup y.1).isSome = true) := by
    rintro ⟨n, v⟩ hy
    exact (S.par n (List.of_mem_zip hy).1).imp id fun q => ⟨q, PySem.W.cellsFrom_some _ _ _ (.inl q)⟩
  refine codeAny_call_function hr.depth (KX _ _ lk) rfl S.co S.gen rfl (PySem.W.codeRec_of KX hcd) (hb _ _ _ _ ?_)
  refine wpAny_newFunctionEnv_cells S.kind hkind ?_
  rintro env rfl s1 x
  refine ⟨lim.keeps x.toInCall.keep, codeAny_func ?_⟩
  obtain ⟨t, ht, hq⟩ := hbody A outer s H vs Q E (hr.deeper _) hgd hsp
  have I : Inv (cxOf CX P w K mg base N qual scope f cdv A outer s H E) [] (start N vs) H s1 := inv_start S hr.hd e0 (len _ _ _ _ hsp) r x
  refine wpAny_mono (ht.run [] s1 (start N vs) H _ I hq) ?_ (fun e s' hs => hs)
  intro fl s' hs
  match fl, hs with
  | .ret u, ⟨v, σ', H', J, rv, q⟩ => exact ⟨v, H', J.os, J.bare, J.base, J.hok, rv, q⟩
  | .next, ⟨σ', H', J, q⟩ => exact ⟨V.non, H', J.os, J.bare, J.base, J.hok, rfl, q⟩
  | .brk, ⟨_, _, _, q⟩ => exact q.elim
  | .cont, ⟨_, _, _, q⟩ => exact q.elim
/-- a def that the module's name x holds -/
structure Has (P : Program) (w : World) (K : Fg) (mg : Str → Option Value) (base : Heap) (CX : CXT) (k : Nat) (x : Str) (ps : List Str) (sp : Sp) : Prop where
  ex : ∃ f fd, mg x = some (.ref f) ∧ PySem.W.keepIn K (.ref f) = true ∧ Binds K fd ps [] ∧ FnG P w K mg base CX k f fd ps sp
theorem Has.mono {P : Program} {w : World} {K : Fg} {mg : Str → Option Value} {base : Heap} {CX : CXT} {j k : Nat} {x : Str} {ps : List Str} {sp : Sp} (h : Has P w K mg base CX j x ps sp) (hk : j ≤ k) : Has P w K mg base CX k x ps sp := by
  obtain ⟨f, fd, h1, h2, h3, h4⟩ := h.ex
  exact ⟨f, fd, h1, h2, h3, h4.mono hk⟩
/-- a plain def of the text -/
abbrev Fnt (K : Fg) (x : Str) (st : Stmt) (f : Addr) (fd : FuncData) : Prop := FunD K x x (defArgs st) (defBody st) (defScope st) [] [] f fd
theorem has_of {CX : CXT} {P : Program} {w : World} {K : Fg} {mg : Str → Option Value} {base : Heap} {k : Nat} {x : Str} {st : Stmt} {f : Addr} {fd : FuncData} {N ps : List Str} {sp : Sp}
    (F : Fnt K x st f fd) (hm : mg x = some (.ref f)) (S : FnScope N ps (defScope st)) (hb : ∀ fd', Fnt K x st f fd' → Binds K fd' ps []) (len : ∀ vs H Q E, sp vs H Q E → vs.length = ps.length)
    (hbody : ∀ (cdv : Value) (A : Around) (outer : List Env) (s : Shared) (H : Hp) (vs : List V) (Q : VK) (E : XK), Room k (A.deeper (envOfC x (defScope st) s.heap.objs.size f cdv)) → A.guards = some [] → sp vs H Q E →
      ∃ t, PSs (cxOf CX P w K mg base N x (defScope st) f cdv A outer s H E) (defBody st) t ∧ t { nx := fun _ H' => Q .non H', rt := Q } (start N vs) H) :
    Has P w K mg base CX (k + 1) x ps sp := by
  have hb' := hb fd F
  obtain ⟨oc, od, dV, kV, doc, pm, an, cdv, ct, osl, rfl, lk, hcd, _, _⟩ := F.ex
  exact ⟨f, _, hm, F.kp, hb', fn_ofG lk hcd S len fun A outer s H vs Q E hr hg hsp => hbody cdv A outer s H vs Q E hr hg hsp⟩
section
variable {X : Cx} {CX : CXT} {k : Nat} {x : Str} {ps : List Str} {sp : Sp} {E : XK} {p pos : Pos} {e : Expr} {es : List Expr} {t : TA}
theorem run_fnG {f : Addr} {fd : FuncData} {pins : List (Addr × Obj)} {σ : St} {H : Hp} {s : Shared} {Q : VK} {us : List Value} {vs : List V}
    (F : FnG X.prog X.w X.K X.mg X.base CX k f fd ps sp) (hr : Room k X.A) (hgd : X.A.guards = some []) (hb : Binds X.K fd ps []) (hx : Passes CX X E)
    (I : Inv X pins σ H s) (r : Vals vs us) (h : sp vs H Q E) : wpAny (model X.prog X.w) X.A (call (.ref f) us) (EP X pins σ Q) X.xe s := by
  have hl : (us ++ []).length = ps.length := by rw [List.append_nil, ← r.length]; exact F.len _ _ _ _ h
  have hb' := hb s us I.kIn hl
  rw [List.append_nil] at hb'
  refine wpAny_call (codeAny_mono (F.run X.A X.stack s H ⟨us, []⟩ us vs Q E hr hgd I.env0 hb' r h) ?_)
  intro r s' hq
  match r, hq with
  | .error e, hq => exact hx pins σ H s e s' I hq
  | .ok (.ret u), hq => exact I.after hq
/-- f(e, ..) -/
theorem pe_callH (hf : Has X.prog X.w X.K X.mg X.base CX k x ps sp) (hr : Room k X.A) (hgd : X.A.guards = some []) (hx : Passes CX X E) (hg : Gl X x) (ha : PA X (e :: es) t)
    (hdb : (x == ("__debug__" : Str)) = false := by decide) (he : starEach (e :: es) X.env = (false, eval e X.env) :: starEach es X.env := by rfl)
    (hpl : (backTo pos (starEach es X.env)).any (·.1) = false := by rfl) : PE X (.Call (.Name x p) (e :: es) [] pos) (tCall sp [] E t) := by
  obtain ⟨f, fd, hm, hk, hb, F⟩ := hf.ex
  refine ⟨fun pins s σ H Q I h => ?_⟩
  refine wpAny_Call_Name_kw (ld_glob I hg hm ?_ hdb)
  refine PySem.W.callWith_K (h₀ := X.base) I.ok.mod.kin hk (thn (ha.run pos pins s σ H _ I h) ?_) he hpl
  rintro us s1 ⟨vs, H1, I1, r, q⟩
  have q2 : sp (vs ++ []) H1 Q E := q
  rw [List.append_nil] at q2
  exact ⟨I1.kIn, run_fnG F hr hgd hb hx I1 r q2⟩
theorem pe_callH0 (hf : Has X.prog X.w X.K X.mg X.base CX k x ps sp) (hr : Room k X.A) (hgd : X.A.guards = some []) (hx : Passes CX X E) (hg : Gl X x)
    (hdb : (x == ("__debug__" : Str)) = false := by decide) : PE X (.Call (.Name x p) [] [] pos) (tCall sp [] E tNil) := by
  obtain ⟨f, fd, hm, hk, hb, F⟩ := hf.ex
  refine ⟨fun pins s σ H Q I h => ?_⟩
  exact wpAny_Call_Name_kw (ld_glob I hg hm (PySem.W.callWith_K0 I.kIn hk (run_fnG (us := []) (vs := []) F hr hgd hb hx I .nil h)) hdb)
end
/-! ### operators, by all that they may meet -/
section
variable {X : Cx}
abbrev rAddI : R2 := rI0 fun i j => .int (i + j)
abbrev rSubI : R2 := rI0 fun i j => .int (i - j)
abbrev rMulI : R2 := rI CMulW fun i j => .int (i * j)
abbrev rDivI : R2 := rI CDivW fun i j => .int (i / j)
abbrev rModI : R2 := rI (fun _ j => 0 < j) fun i j => .int (i % j)
abbrev rPowI : R2 := rI CPow fun i j => .int (i ^ j.toNat)
abbrev rLtI : R2 := rI0 fun i j => .bl (decide (i < j))
abbrev rLeI : R2 := rI0 fun i j => .bl (decide (i ≤ j))
abbrev rGtI : R2 := rI0 fun i j => .bl (decide (j < i))
abbrev rGeI : R2 := rI0 fun i j => .bl (decide (j ≤ i))
abbrev rNegI : V → Hp → VK → Prop := rU fun i => .int (-i)
def rAddS : R2 := fun x y H Q => ∃ i j, x = .str i ∧ y = .str j ∧ i.length + j.length ≤ sizeLine ∧ Q (.str (i ++ j)) H
def rAddX (K : Fg) : R2 := fun x y H Q => rAddI x y H Q ∨ rCatA K x y H Q ∨ rCat x y H Q ∨ rAddS x y H Q
theorem op_addX : OpR X (binaryOp .Add) (rAddX X.K) := op_add.or (op_catA.or (op_cat.or op_add_str))
def rMulX : R2 := fun x y H Q => rMulI x y H Q ∨ rRep x y H Q
def rSlX (K : Fg) : V → Option Int → Option Int → Hp → VK → Prop := fun x lo hi H Q => rSlL K x lo hi H Q ∨ rSlA K x lo hi H Q
theorem sl_X : SlR X (rSlX X.K) := sl_list.or sl_tupA
def rLenX (K : Fg) : List V → Hp → VK → Prop := fun xs H Q => ∃ x n, xs = [x] ∧ LenV K x H n ∧ Q (.int n) H
theorem call_lenX : CallR X (.builtin "len") (rLenX X.K) := call_len
def rMax2 : List V → Hp → VK → Prop := fun xs H Q => ∃ i j, xs = [.int i, .int j] ∧ Q (.int (if j > i then j else i)) H
def rMin2 : List V → Hp → VK → Prop := fun xs H Q => ∃ i j, xs = [.int i, .int j] ∧ Q (.int (if j < i then j else i)) H
theorem call_max2' (hc : X.calm = true) : CallR X (.builtin "max") rMax2 := call_max2 hc
theorem call_min2' (hc : X.calm = true) : CallR X (.builtin "min") rMin2 := call_min2 hc
def rListOf (K : Fg) : List V → Hp → VK → Prop := fun xs H Q => ∃ p ys, xs = [.ref p] ∧ (SqL K H p ys ∨ SqT K H p ys) ∧ ∀ l, H l = none → Q (.ref l) (upd H l (.lst ys))
def rTupOf (K : Fg) : List V → Hp → VK → Prop := fun xs H Q => ∃ p ys, xs = [.ref p] ∧ ((SqL K H p ys ∧ ∀ l, H l = none → Q (.ref l) (upd H l (.tup ys))) ∨ (SqT K H p ys ∧ Q (.ref p) H))
theorem call_listX : CallR X (.type "list") (rListOf X.K) := call_list_of
theorem call_tupX : CallR X (.type "tuple") (rTupOf X.K) := call_tuple_of
/-- what a for walks: a list or a tuple -/
def iSeq (K : Fg) (tl : TE) : TI := fun σ H R => tl σ H fun x H1 => (∃ a, x = .ref a ∧ (∃ xs, SqL K H1 a xs) ∧ R (Itl K a) H1) ∨ (∃ a, x = .ref a ∧ (∃ xs, SqT K H1 a xs) ∧ R (Itt K a) H1)
theorem pi_seq {tg l : Expr} {tl : TE} (hl : PE X l tl) : PI X tg l (iSeq X.K tl) := by
  refine ⟨fun pins s σ H R I h => ?_⟩
  refine thn (hl.run pins s σ H _ I h) ?_
  rintro v s1 ⟨x, H1, I1, r1, ⟨a, rfl, ⟨xs, hq⟩, q⟩ | ⟨a, rfl, ⟨xs, hq⟩, q⟩⟩
  · cases r1
    obtain ⟨its, rv, p, hz⟩ := I1.list hq
    refine wpAny_pyIter_list p.isList ⟨s1.heap.objs.size, [s1.heap.objs.size], _, _, H1, rfl, ?_, turn_list a _, ⟨_, Heap.get?_push_size _ rfl, rfl, rfl⟩, ?_, q⟩
    · exact I1.kept (t' := s1.toks) fun b o e => Heap.get?_push_of_some _ e
    · intro b hb
      rw [List.mem_singleton.mp hb]
      exact I1.fpOk (Nat.le_refl _) (I1.hok.fresh (Nat.le_refl _))
  · cases r1
    obtain ⟨its, rv, p, hz⟩ := I1.tuple hq
    refine wpAny_pyIter_tuple (show s1.heap.IsTuple a its.toArray from p) ⟨s1.heap.objs.size, [s1.heap.objs.size], _, _, H1, rfl, ?_, turn_tuple a _, ⟨_, Heap.get?_push_size _ rfl, rfl, rfl⟩, ?_, q⟩
    · exact I1.kept (t' := s1.toks) fun b o e => Heap.get?_push_of_some _ e
    · intro b hb
      rw [List.mem_singleton.mp hb]
      exact I1.fpOk (Nat.le_refl _) (I1.hok.fresh (Nat.le_refl _))
end
/-! ### what these give -/
section
variable {K : Fg} {σ : St} {G R : Hp} {ta tb te : TE} {φ ψ χ : Ty} {i j : Int}
theorem pd_add (ha : PD ta σ G R (tI i)) (hb : PD tb σ G R (tI j)) : PD (tOp (rAddX K) ta tb) σ G R (tI (i + j)) := pd_opv ha hb fun H Q q => .inl ⟨i, j, rfl, rfl, q⟩
theorem pd_sub (ha : PD ta σ G R (tI i)) (hb : PD tb σ G R (tI j)) : PD (tOp rSubI ta tb) σ G R (tI (i - j)) := pd_I0 ha hb
theorem pd_mul (ha : PD ta σ G R (tI i)) (hb : PD tb σ G R (tI j)) (hc : CMulW i j) : PD (tOp rMulI ta tb) σ G R (tI (i * j)) := pd_I ha hb hc
theorem pd_div (ha : PD ta σ G R (tI i)) (hb : PD tb σ G R (tI j)) (hc : CDivW i j) : PD (tOp rDivI ta tb) σ G R (tI (i / j)) := pd_I ha hb hc
theorem pd_mod (ha : PD ta σ G R (tI i)) (hb : PD tb σ G R (tI j)) (hc : 0 < j) : PD (tOp rModI ta tb) σ G R (tI (i % j)) := pd_I ha hb hc
theorem pd_pow (ha : PD ta σ G R (tI i)) (hb : PD tb σ G R (tI j)) (hc : CPow i j) : PD (tOp rPowI ta tb) σ G R (tI (i ^ j.toNat)) := pd_I ha hb hc
theorem pd_lt (ha : PD ta σ G R (tI i)) (hb : PD tb σ G R (tI j)) : PD (tOp rLtI ta tb) σ G R (tBo (decide (i < j))) := pd_I0 ha hb
theorem pd_le (ha : PD ta σ G R (tI i)) (hb : PD tb σ G R (tI j)) : PD (tOp rLeI ta tb) σ G R (tBo (decide (i ≤ j))) := pd_I0 ha hb
theorem pd_gt (ha : PD ta σ G R (tI i)) (hb : PD tb σ G R (tI j)) : PD (tOp rGtI ta tb) σ G R (tBo (decide (j < i))) := pd_I0 ha hb
theorem pd_ge (ha : PD ta σ G R (tI i)) (hb : PD tb σ G R (tI j)) : PD (tOp rGeI ta tb) σ G R (tBo (decide (j ≤ i))) := pd_I0 ha hb
theorem pd_neg (ha : PD ta σ G R (tI i)) : PD (tUn rNegI ta) σ G R (tI (-i)) := pd_un ha fun H Q q => ⟨i, rfl, q⟩
/-- two tuples, two lists put together -/
theorem pd_catT {φs ψs : List Ty} (ha : PD ta σ G R (tT φs)) (hb : PD tb σ G R (tT ψs)) (hl : φs.length + ψs.length ≤ 100000) : PD (tOp (rAddX K) ta tb) σ G R (tT (φs ++ ψs)) :=
  pd_op ha hb fun x y G1 H _ s1 hx hy Q q => by
    obtain ⟨a, vs, rfl, h1, h2⟩ := hx
    obtain ⟨b, ws, rfl, h3, h4⟩ := hy
    refine .inr (.inl ⟨a, b, vs, ws, rfl, rfl, .of (s1 _ _ h1), .of (s1 _ _ h3), sz_of (by rw [h2.length, h4.length]; exact hl), fun e => ?_, fun _ e => ?_, fun _ _ p hp => ?_⟩)
    · subst e
      cases h2
      exact q _ G1 H (.refl s1) ⟨b, ws, rfl, h3, h4⟩
    · subst e
      cases h4
      rw [List.append_nil] at q
      exact q _ G1 H (.refl s1) ⟨a, vs, rfl, h1, h2⟩
    · have g2 : Grow G1 H (upd G1 p (.tup (vs ++ ws))) (upd H p (.tup (vs ++ ws))) := .new s1 hp
      exact q _ _ _ g2 ⟨p, _, rfl, upd_same, (h2.append h4).mono g2.g⟩
theorem pd_catL {φs ψs : List Ty} (ha : PD ta σ G R (tL φs)) (hb : PD tb σ G R (tL ψs)) (hl : φs.length + ψs.length ≤ 100000) : PD (tOp (rAddX K) ta tb) σ G R (tL (φs ++ ψs)) :=
  pd_op ha hb fun x y G1 H _ s1 hx hy Q q => by
    obtain ⟨a, vs, rfl, h1, h2⟩ := hx
    obtain ⟨b, ws, rfl, h3, h4⟩ := hy
    refine .inr (.inr (.inl ⟨a, b, vs, ws, rfl, rfl, s1 _ _ h1, s1 _ _ h3, sz_of (by rw [h2.length, h4.length]; exact hl), fun p hp => ?_⟩))
    have g2 : Grow G1 H (upd G1 p (.lst (vs ++ ws))) (upd H p (.lst (vs ++ ws))) := .new s1 hp
    exact q _ _ _ g2 ⟨p, _, rfl, upd_same, (h2.append h4).mono g2.g⟩
theorem pd_cat {x y : Str} (ha : PD ta σ G R (tSt x)) (hb : PD tb σ G R (tSt y)) (hl : x.length + y.length ≤ sizeLine) : PD (tOp (rAddX K) ta tb) σ G R (tSt (x ++ y)) :=
  pd_opv ha hb fun H Q q => .inr (.inr (.inr ⟨x, y, rfl, rfl, hl, q⟩))
/-- items -/
theorem at_of_all {G : Hp} {φs : List Ty} {vs : List V} {i : Int} {φ : Ty} (h : All G φs vs) (hi : atI φs i = some φ) : ∃ v, atI vs i = some v ∧ φ.p G v := by
  unfold atI at hi ⊢
  rw [← h.length] at hi
  cases e : ixN vs.length i with
  | none =>
    rw [e] at hi
    cases hi
  | some j =>
    rw [e] at hi
    exact h.get hi
theorem pd_ixTX {φs : List Ty} (ha : PD ta σ G R (tT φs)) (hb : PD tb σ G R (tI i)) (hi : atI φs i = some φ) : PD (tOp (rIx K) ta tb) σ G R φ :=
  pd_op ha hb fun x y G1 H _ s1 hx hy Q q => by
    obtain ⟨a, vs, rfl, h1, h2⟩ := hx
    cases hy
    obtain ⟨v, e1, e2⟩ := at_of_all h2 hi
    exact .inr (.inl ⟨a, vs, i, v, rfl, rfl, .of (s1 _ _ h1), e1, q v G1 H (.refl s1) e2⟩)
theorem pd_ixLX {φs : List Ty} (ha : PD ta σ G R (tL φs)) (hb : PD tb σ G R (tI i)) (hi : atI φs i = some φ) : PD (tOp (rIx K) ta tb) σ G R φ :=
  pd_op ha hb fun x y G1 H _ s1 hx hy Q q => by
    obtain ⟨a, vs, rfl, h1, h2⟩ := hx
    cases hy
    obtain ⟨v, e1, e2⟩ := at_of_all h2 hi
    exact .inl ⟨a, vs, i, v, rfl, rfl, .of (s1 _ _ h1), e1, q v G1 H (.refl s1) e2⟩
/-- an item of a list that still changes, by values -/
theorem pd_ixV {a : Addr} {vs : List V} {v : V} (ha : PD ta σ R R (tv (.ref a))) (hb : PD tb σ R R (tI i)) (hl : R a = some (.lst vs)) (hi : atI vs i = some v) : PD (tOp (rIx K) ta tb) σ R R (tv v) :=
  pd_op ha hb fun x y G1 H g1 s1 hx hy Q q => by
    cases hx
    cases hy
    exact .inl ⟨a, vs, i, v, rfl, rfl, .of (s1 _ _ (g1 _ _ hl)), hi, q v G1 H (.refl s1) rfl⟩
/-- len -/
theorem pd_lenT {φs : List Ty} (h : PD te σ G R (tT φs)) : PD (tCB (rLenX K) (tCons te tNil)) σ G R (tI (φs.length : Int)) :=
  pd_callB (ad_cons h ad_nil) fun vs G1 H _ s1 hv Q q => by
    cases hv with
    | cons h1 h2 =>
      cases h2
      obtain ⟨a, ws, rfl, h3, h4⟩ := h1
      exact ⟨.ref a, ws.length, rfl, .inr ⟨ws, .of (s1 _ _ h3), rfl⟩, q _ G1 H (.refl s1) (by rw [h4.length]; rfl)⟩
theorem pd_lenL {φs : List Ty} (h : PD te σ G R (tL φs)) : PD (tCB (rLenX K) (tCons te tNil)) σ G R (tI (φs.length : Int)) :=
  pd_callB (ad_cons h ad_nil) fun vs G1 H _ s1 hv Q q => by
    cases hv with
    | cons h1 h2 =>
      cases h2
      obtain ⟨a, ws, rfl, h3, h4⟩ := h1
      exact ⟨.ref a, ws.length, rfl, .inl ⟨ws, .of (s1 _ _ h3), rfl⟩, q _ G1 H (.refl s1) (by rw [h4.length]; rfl)⟩
theorem pd_max2 (ha : PD ta σ G R (tI i)) (hb : PD tb σ G R (tI j)) : PD (tCB rMax2 (tCons ta (tCons tb tNil))) σ G R (tI (max i j)) :=
  pd_callB (ad_cons ha (ad_cons hb ad_nil)) fun vs G1 H _ s1 hv Q q => by
    cases hv with
    | cons h1 h2 =>
      cases h2 with
      | cons h2 h3 =>
        cases h3
        cases h1
        cases h2
        refine ⟨i, j, rfl, q _ G1 H (.refl s1) ?_⟩
        show V.int _ = V.int _
        congr 1
        split <;> omega
theorem pd_min2 (ha : PD ta σ G R (tI i)) (hb : PD tb σ G R (tI j)) : PD (tCB rMin2 (tCons ta (tCons tb tNil))) σ G R (tI (min i j)) :=
  pd_callB (ad_cons ha (ad_cons hb ad_nil)) fun vs G1 H _ s1 hv Q q => by
    cases hv with
    | cons h1 h2 =>
      cases h2 with
      | cons h2 h3 =>
        cases h3
        cases h1
        cases h2
        refine ⟨i, j, rfl, q _ G1 H (.refl s1) ?_⟩
        show V.int _ = V.int _
        congr 1
        split <;> omega
theorem pd_listT {φs : List Ty} (h : PD te σ G R (tT φs)) : PD (tCB (rListOf K) (tCons te tNil)) σ G R (tL φs) :=
  pd_callB (ad_cons h ad_nil) fun vs G1 H _ s1 hv Q q => by
    cases hv with
    | cons h1 h2 =>
      cases h2
      obtain ⟨a, ws, rfl, h3, h4⟩ := h1
      refine ⟨a, ws, rfl, .inr (.of (s1 _ _ h3)), fun p hp => ?_⟩
      have g2 : Grow G1 H (upd G1 p (.lst ws)) (upd H p (.lst ws)) := .new s1 hp
      exact q _ _ _ g2 ⟨p, _, rfl, upd_same, h4.mono g2.g⟩
theorem pd_listL {φs : List Ty} (h : PD te σ G R (tL φs)) : PD (tCB (rListOf K) (tCons te tNil)) σ G R (tL φs) :=
  pd_callB (ad_cons h ad_nil) fun vs G1 H _ s1 hv Q q => by
    cases hv with
    | cons h1 h2 =>
      cases h2
      obtain ⟨a, ws, rfl, h3, h4⟩ := h1
      refine ⟨a, ws, rfl, .inl (.of (s1 _ _ h3)), fun p hp => ?_⟩
      have g2 : Grow G1 H (upd G1 p (.lst ws)) (upd H p (.lst ws)) := .new s1 hp
      exact q _ _ _ g2 ⟨p, _, rfl, upd_same, h4.mono g2.g⟩
theorem pd_tupL {φs : List Ty} (h : PD te σ G R (tL φs)) : PD (tCB (rTupOf K) (tCons te tNil)) σ G R (tT φs) :=
  pd_callB (ad_cons h ad_nil) fun vs G1 H _ s1 hv Q q => by
    cases hv with
    | cons h1 h2 =>
      cases h2
      obtain ⟨a, ws, rfl, h3, h4⟩ := h1
      refine ⟨a, ws, rfl, .inl ⟨.of (s1 _ _ h3), fun p hp => ?_⟩⟩
      have g2 : Grow G1 H (upd G1 p (.tup ws)) (upd H p (.tup ws)) := .new s1 hp
      exact q _ _ _ g2 ⟨p, _, rfl, upd_same, h4.mono g2.g⟩
/-- any, all of a list of bools -/
theorem all_bools {G : Hp} : ∀ {bs : List Bool} {vs : List V}, All G (bs.map tBo) vs → vs = bs.map V.bl
  | [], _, .nil => rfl
  | b :: bs, _, .cons h t => by
    cases h
    rw [all_bools t] <;> rfl
theorem all_ints {G : Hp} : ∀ {ns : List Int} {vs : List V}, All G (ns.map tI) vs → vs = ns.map V.int
  | [], _, .nil => rfl
  | b :: bs, _, .cons h t => by
    cases h
    rw [all_ints t] <;> rfl
theorem ints_all {G : Hp} : ∀ (ns : List Int), All G (ns.map tI) (ns.map V.int)
  | [] => .nil
  | n :: ns => .cons rfl (ints_all ns)
theorem pd_any {bs : List Bool} (h : PD te σ G R (tL (bs.map tBo))) : PD (tCB (rAny K) (tCons te tNil)) σ G R (tBo (bs.any id)) :=
  pd_callB (ad_cons h ad_nil) fun vs G1 H _ s1 hv Q q => by
    cases hv with
    | cons h1 h2 =>
      cases h2
      obtain ⟨a, ws, rfl, h3, h4⟩ := h1
      rw [all_bools h4] at h3
      exact ⟨a, bs, rfl, .of (s1 _ _ h3), q _ G1 H (.refl s1) rfl⟩
theorem pd_all {bs : List Bool} (h : PD te σ G R (tL (bs.map tBo))) : PD (tCB (rAll K) (tCons te tNil)) σ G R (tBo (bs.all id)) :=
  pd_callB (ad_cons h ad_nil) fun vs G1 H _ s1 hv Q q => by
    cases hv with
    | cons h1 h2 =>
      cases h2
      obtain ⟨a, ws, rfl, h3, h4⟩ := h1
      rw [all_bools h4] at h3
      exact ⟨a, bs, rfl, .of (s1 _ _ h3), q _ G1 H (.refl s1) rfl⟩
theorem pd_sum {ns : List Int} (h : PD te σ G R (tL (ns.map tI))) : PD (tCB (rSum K) (tCons te tNil)) σ G R (tI ns.sum) :=
  pd_callB (ad_cons h ad_nil) fun vs G1 H _ s1 hv Q q => by
    cases hv with
    | cons h1 h2 =>
      cases h2
      obtain ⟨a, ws, rfl, h3, h4⟩ := h1
      rw [all_ints h4] at h3
      exact ⟨a, ns, rfl, .of (s1 _ _ h3), q _ G1 H (.refl s1) rfl⟩
/-- slices -/
def cutT {α : Type} (xs : List α) (lo hi : Option Int) : List α := (xs.drop (HT.sIx xs.length 0 lo)).take (HT.sIx xs.length xs.length hi - HT.sIx xs.length 0 lo)
def OD (t : TO) (σ : St) (R : Hp) (o : Option Int) : Prop := ∀ H, Same R H → ∀ Q : Option Int → Hp → Prop, (∀ H', Same H H' → Q o H') → t σ H Q
theorem od_none : OD tNoPart σ R none := fun H _ Q q => q H (same_refl _)
theorem od_some (h : PD te σ R R (tI i)) : OD (tPart te) σ R (some i) := fun H sr Q q => h H sr sr _ fun v _ H1 g1 hv => ⟨i, hv, q H1 g1.h⟩
theorem All.cut {G : Hp} {φs : List Ty} {vs : List V} (h : All G φs vs) (lo hi : Option Int) : All G (cutT φs lo hi) (cutV vs lo hi) := by
  unfold cutT cutV
  rw [h.length]
  exact (h.drop _).take _
theorem pd_slT {φs : List Ty} {tl th : TO} {lo hi : Option Int} (h : PD te σ G R (tT φs)) (hl : OD tl σ R lo) (hh : OD th σ R hi) : PD (tSl (rSlX K) te tl th) σ G R (tT (cutT φs lo hi)) := fun H sr sg Q q =>
  h H sr sg _ fun v G1 H1 g1 hv => hl H1 (sr.trans g1.h) _ fun H2 e2 => hh H2 ((sr.trans g1.h).trans e2) _ fun H3 e3 => by
    obtain ⟨a, vs, rfl, h1, h2⟩ := hv
    have s3 : Same G1 H3 := (g1.s.trans e2).trans e3
    have g3 : Grow G H G1 H3 := g1.trans (.rest g1.s (e2.trans e3))
    refine .inr ⟨a, vs, rfl, .of (s3 _ _ h1), fun hw => q _ G1 H3 g3 ⟨a, vs, rfl, h1, ?_⟩, fun _ p hp => ?_⟩
    · have e : cutV vs lo hi = vs := by
        unfold cutV
        rw [hw.1, hw.2]
        simp
      have h3 := h2.cut lo hi
      rw [e] at h3
      exact h3
    · have g4 : Grow G1 H3 (upd G1 p (.tup (cutV vs lo hi))) (upd H3 p (.tup (cutV vs lo hi))) := .new s3 hp
      exact q _ _ _ (g3.trans g4) ⟨p, _, rfl, upd_same, (h2.cut lo hi).mono g4.g⟩
theorem pd_slL {φs : List Ty} {tl th : TO} {lo hi : Option Int} (h : PD te σ G R (tL φs)) (hl : OD tl σ R lo) (hh : OD th σ R hi) : PD (tSl (rSlX K) te tl th) σ G R (tL (cutT φs lo hi)) := fun H sr sg Q q =>
  h H sr sg _ fun v G1 H1 g1 hv => hl H1 (sr.trans g1.h) _ fun H2 e2 => hh H2 ((sr.trans g1.h).trans e2) _ fun H3 e3 => by
    obtain ⟨a, vs, rfl, h1, h2⟩ := hv
    have s3 : Same G1 H3 := (g1.s.trans e2).trans e3
    have g3 : Grow G H G1 H3 := g1.trans (.rest g1.s (e2.trans e3))
    refine .inl ⟨a, vs, rfl, .of (s3 _ _ h1), fun p hp => ?_⟩
    have g4 : Grow G1 H3 (upd G1 p (.lst (cutV vs lo hi))) (upd H3 p (.lst (cutV vs lo hi))) := .new s3 hp
    exact q _ _ _ (g3.trans g4) ⟨p, _, rfl, upd_same, (h2.cut lo hi).mono g4.g⟩
/-- a < b < c -/
theorem pd_chain {r r' : R2} {tc : TE} {x y z : V} {a b : Bool} (ha : PD ta σ G R (tv x)) (hb : PD tb σ G R (tv y)) (hc : PD tc σ G R (tv z)) (hr : ∀ H Q, Q (.bl a) H → r x y H Q) (hr' : ∀ H Q, Q (.bl b) H → r' y z H Q) :
    PD (tChain r r' ta tb tc) σ G R (tBo (a && b)) := fun H sr sg Q q =>
  ha H sr sg _ fun u G1 H1 g1 hu => (hb.mono g1.g (sr.trans g1.h)) H1 (same_refl _) g1.s _ fun v G2 H2 g2 hv => by
    cases hu
    cases hv
    have g12 := g1.trans g2
    refine hr H2 _ ⟨a, rfl, ?_⟩
    cases a with
    | true =>
      refine (hc.mono g12.g (sr.trans g12.h)) H2 (same_refl _) g2.s _ fun w G3 H3 g3 hw => ?_
      cases hw
      exact hr' H3 _ (q _ G3 H3 (g12.trans g3) (by simp [tv]))
    | false => exact q _ G2 H2 g12 rfl
end
end BR
/-! Own layer, third part: comprehensions and loops. -/
namespace BR
open PySem PySem.Spec PyProof.Rows L2
/-- a list or a tuple -/
def tSq (φs : List Ty) : Ty := ⟨fun G v => ∃ a vs, v = .ref a ∧ (G a = some (.lst vs) ∨ G a = some (.tup vs)) ∧ All G φs vs,
  fun _ _ _ s ⟨a, vs, e, h1, h2⟩ => ⟨a, vs, e, h1.imp (s _ _) (s _ _), h2.mono s⟩⟩
section
variable {K : Fg} {σ : St} {G R H : Hp} {te tl : TE} {φs : List Ty}
theorem PD.sqL (h : PD te σ G R (tL φs)) : PD te σ G R (tSq φs) := h.imp fun _ _ ⟨a, vs, e, h1, h2⟩ => ⟨a, vs, e, .inl h1, h2⟩
theorem PD.sqT (h : PD te σ G R (tT φs)) : PD te σ G R (tSq φs) := h.imp fun _ _ ⟨a, vs, e, h1, h2⟩ => ⟨a, vs, e, .inr h1, h2⟩
/-! ### targets -/
def GD (g : TG) (σ : St) (G : Hp) (x : V) (σ' : St) : Prop := ∀ H, Same G H → ∀ Q : St → Hp → Prop, Q σ' H → g x σ H Q
def GDs (g : TGs) (σ : St) (G : Hp) (xs : List V) (σ' : St) : Prop := ∀ H, Same G H → ∀ Q : St → Hp → Prop, Q σ' H → g xs σ H Q
theorem gd_name {j : Nat} {x : V} : GD (gName j) σ G x (σ.set j (some x)) := fun H _ Q q => q
theorem gds_nil : GDs gNil σ G [] σ := fun H _ Q q => ⟨rfl, q⟩
theorem gds_cons {t : TG} {u : TGs} {x : V} {xs : List V} {σ1 σ2 : St} (h : GD t σ G x σ1) (hr : GDs u σ1 G xs σ2) : GDs (gCons t u) σ G (x :: xs) σ2 := fun H s Q q =>
  ⟨x, xs, rfl, h H s _ (hr H s Q q)⟩
theorem gd_tup {n : Nat} {t : TGs} {a : Addr} {xs : List V} {σ' : St} (ha : G a = some (.tup xs)) (hn : xs.length = n) (h : GDs t σ G xs σ') : GD (gTup K n t) σ G (.ref a) σ' := fun H s Q q =>
  ⟨a, xs, rfl, .of (s _ _ ha), hn, h H s Q q⟩
theorem gd_2 {i j : Nat} {φ ψ : Ty} {x : V} (h : (tT [φ, ψ]).p G x) : ∃ v w, φ.p G v ∧ ψ.p G w ∧ GD (gTup K 2 (gCons (gName i) (gCons (gName j) gNil))) σ G x ((σ.set i (some v)).set j (some w)) := by
  obtain ⟨a, vs, rfl, h1, h2⟩ := h
  cases h2 with
  | cons p1 h2 =>
    cases h2 with
    | cons p2 h2 =>
      cases h2
      exact ⟨_, _, p1, p2, gd_tup h1 rfl (gds_cons gd_name (gds_cons gd_name gds_nil))⟩
theorem gd_3 {i j k : Nat} {φ ψ χ : Ty} {x : V} (h : (tT [φ, ψ, χ]).p G x) : ∃ v w u, φ.p G v ∧ ψ.p G w ∧ χ.p G u ∧
    GD (gTup K 3 (gCons (gName i) (gCons (gName j) (gCons (gName k) gNil)))) σ G x (((σ.set i (some v)).set j (some w)).set k (some u)) := by
  obtain ⟨a, vs, rfl, h1, h2⟩ := h
  cases h2 with
  | cons p1 h2 =>
    cases h2 with
    | cons p2 h2 =>
      cases h2 with
      | cons p3 h2 =>
        cases h2
        exact ⟨_, _, _, p1, p2, p3, gd_tup h1 rfl (gds_cons gd_name (gds_cons gd_name (gds_cons gd_name gds_nil)))⟩
theorem gd_4 {i j k l : Nat} {φ ψ χ θ : Ty} {x : V} (h : (tT [φ, ψ, χ, θ]).p G x) : ∃ v w u z, φ.p G v ∧ ψ.p G w ∧ χ.p G u ∧ θ.p G z ∧
    GD (gTup K 4 (gCons (gName i) (gCons (gName j) (gCons (gName k) (gCons (gName l) gNil))))) σ G x ((((σ.set i (some v)).set j (some w)).set k (some u)).set l (some z)) := by
  obtain ⟨a, vs, rfl, h1, h2⟩ := h
  cases h2 with
  | cons p1 h2 =>
    cases h2 with
    | cons p2 h2 =>
      cases h2 with
      | cons p3 h2 =>
        cases h2 with
        | cons p4 h2 =>
          cases h2
          exact ⟨_, _, _, _, p1, p2, p3, p4, gd_tup h1 rfl (gds_cons gd_name (gds_cons gd_name (gds_cons gd_name (gds_cons gd_name gds_nil))))⟩
theorem td_yes : TD tYes σ R true := fun H _ Q q => q H (same_refl _)
/-! ### one clause -/
/-- while a comprehension fills the list at D -/
def Cw (G1 H1 : Hp) (D : Addr) (φs : List Ty) (H : Hp) : Prop :=
  ∃ Gi vs, Same G1 Gi ∧ Same Gi H ∧ Same H1 H ∧ Gi D = none ∧ (∀ a, G1 a = none → Gi a ≠ none → H1 a = none) ∧ H D = some (.lst vs) ∧ All Gi φs vs
theorem same_upd {G H : Hp} {D : Addr} {o : HO} (s : Same G H) (h : G D = none) : Same G (upd H D o) := fun a u e => by
  rw [upd_ne (ne_of_none e h)]
  exact s a u e
theorem Cw.start {G1 H1 : Hp} {D : Addr} (s : Same G1 H1) (hD : H1 D = none) : Cw G1 H1 D [] (upd H1 D (.lst [])) :=
  ⟨G1, [], same_refl _, same_upd s (s.free hD), same_new hD, s.free hD, fun a h h' => absurd h h', upd_same, .nil⟩
theorem Cw.fin {G0 H0 G1 H1 H : Hp} {D : Addr} {φs : List Ty} (g : Grow G0 H0 G1 H1) (hD : H1 D = none) (c : Cw G1 H1 D φs H) : ∃ G', Grow G0 H0 G' H ∧ (tL φs).p G' (.ref D) := by
  obtain ⟨Gi, vs, a, b, c, d, e, f, h⟩ := c
  refine ⟨upd Gi D (.lst vs), ⟨(g.g.trans a).trans (same_new d), g.h.trans c, fun x o hx => ?_, fun x hx hy => ?_⟩, D, vs, rfl, upd_same, h.mono (same_new d)⟩
  · by_cases q : x = D
    · subst q
      rw [upd_same] at hx
      rw [f]
      exact hx
    · rw [upd_ne q] at hx
      exact b x o hx
  · by_cases q : x = D
    · subst q
      exact g.h.free hD
    · rw [upd_ne q] at hy
      by_cases z : G1 x = none
      · exact g.h.free (e x z hy)
      · exact g.f x hx z
theorem Cw.put {G1 H1 Gi H H2 G' : Hp} {D : Addr} {φs : List Ty} {ψ : Ty} {vs : List V} {v : V} (a : Same G1 Gi) (c : Same H1 H) (d : Gi D = none) (hD : H1 D = none) (e : ∀ a, G1 a = none → Gi a ≠ none → H1 a = none) (f : H D = some (.lst vs)) (h : All Gi φs vs)
    (g : Grow Gi H G' H2) (hv : ψ.p G' v) : Cw G1 H1 D (φs ++ [ψ]) (upd H2 D (.lst (vs ++ [v]))) := by
  have hG' : G' D = none := by
    cases q : G' D with
    | none => rfl
    | some o =>
      have z := g.f D d (by rw [q]; exact fun z => nomatch z)
      rw [f] at z
      cases z
  refine ⟨G', vs ++ [v], a.trans g.g, same_upd g.s hG', ?_, hG', fun x hx hy => ?_, upd_same, (h.mono g.g).append (.cons hv .nil)⟩
  · exact same_upd (c.trans g.h) hD
  · by_cases z : Gi x = none
    · exact c.free (g.f x z hy)
    · exact e x hx z
/-- one turn of a comprehension -/
theorem Cw.turn {α : Type} {G1 H1 H : Hp} {D : Addr} {tt : TT} {φs : List Ty} {σ2 : St} {b : Bool} {ψ : Ty} (hD : H1 D = none) (hz : φs.length < 100000) (c : Cw G1 H1 D φs H)
    (hb : ∀ Gi Ri, Same G1 Gi → Same H1 Ri → Same Gi Ri → TD tt σ2 Ri b ∧ (b = true → PD te σ2 Gi Ri ψ)) :
    tt σ2 H fun b H3 => if b = true then te σ2 H3 fun y H4 => ∃ acc, H4 D = some (.lst acc) ∧ acc.length < sizeLine ∧ Cw G1 H1 D (φs ++ [ψ]) (upd H4 D (.lst (acc ++ [y]))) else Cw G1 H1 D φs H3 := by
  obtain ⟨Gi, vs, a, b1, c, d, e, f, h⟩ := c
  obtain ⟨t1, t2⟩ := hb Gi H a c b1
  refine t1 H (same_refl _) _ fun H3 e3 => ?_
  cases b with
  | true =>
    rw [if_pos rfl]
    refine (t2 rfl) H3 e3 (b1.trans e3) _ fun v G' H4 g4 hv => ⟨vs, g4.h _ _ (e3 _ _ f), sz_lt (by rw [h.length]; exact hz), ?_⟩
    exact Cw.put a (c.trans e3) d hD e (e3 _ _ f) h g4 hv
  | false =>
    rw [if_neg (by decide)]
    exact ⟨Gi, vs, a, b1.trans e3, c.trans e3, d, e, e3 _ _ f, h⟩
theorem take_succ_of {α : Type} {xs : List α} {i : Nat} {a : α} (h : xs[i]? = some a) : xs.take (i + 1) = xs.take i ++ [a] := by
  rw [List.take_add_one, h] <;> rfl
theorem filter_map_take {α β : Type} {xs : List α} {i : Nat} {a : α} {c : α → Bool} {f : α → β} (h : xs[i]? = some a) :
    ((xs.take (i + 1)).filter c).map f = if c a = true then ((xs.take i).filter c).map f ++ [f a] else ((xs.take i).filter c).map f := by
  rw [take_succ_of h, List.filter_append, List.map_append]
  by_cases q : c a = true
  · rw [if_pos q]
    simp [q]
  · rw [if_neg q]
    simp [q]
/-- [e for x in xs if c]: by the items a of xs -/
theorem pd_lc {α : Type} {xs : List α} {φ ψ : α → Ty} {c : α → Bool} {g : TG} {tt : TT} {vs : List Nat} (h : PD tl σ G R (tSq (xs.map φ))) (hz : xs.length ≤ 100000)
    (hb : ∀ a ∈ xs, ∀ x Gi Ri, Same G Gi → Same R Ri → Same Gi Ri → (φ a).p Gi x → ∃ σ2, GD g (wipe σ vs) Gi x σ2 ∧ wipe σ2 vs = wipe σ vs ∧ TD tt σ2 Ri (c a) ∧ (c a = true → PD te σ2 Gi Ri (ψ a))) :
    PD (tLc (iSeq K tl) g tt te vs) σ G R (tL ((xs.filter c).map ψ)) := fun H sr sg Q q =>
  h H sr sg _ fun v G1 H1 g1 hv => by
    obtain ⟨l, us, rfl, hl, hus⟩ := hv
    have lenU : us.length = xs.length := by rw [hus.length, List.length_map]
    have step : ∀ (D : Addr), H1 D = none → ∀ (i : Nat) (x : V) (H2 : Hp), us[i]? = some x → Cw G1 H1 D (((xs.take i).filter c).map ψ) H2 →
        g x (wipe σ vs) H2 fun σ2 H3 => wipe σ2 vs = wipe σ vs ∧ tt σ2 H3 fun b H4 => if b = true then te σ2 H4 fun y H5 => ∃ acc, H5 D = some (.lst acc) ∧ acc.length < sizeLine ∧ Cw G1 H1 D (((xs.take (i + 1)).filter c).map ψ) (upd H5 D (.lst (acc ++ [y])))
          else Cw G1 H1 D (((xs.take (i + 1)).filter c).map ψ) H4 := by
      intro D hD i x H2 hx cw
      have hi : i < xs.length := by rw [← lenU]; exact (List.getElem?_eq_some_iff.mp hx).1
      obtain ⟨χ, hχ, hpx⟩ := hus.get' hx
      rw [List.getElem?_map] at hχ
      obtain ⟨a, ha, rfl⟩ := Option.map_eq_some_iff.mp hχ
      obtain ⟨Gi, ws, a1, b1, c1, d1, e1, f1, h1⟩ := id cw
      obtain ⟨σ2, k1, k2, k3, k4⟩ := hb a (List.mem_of_getElem? ha) x Gi H2 (g1.g.trans a1) ((sr.trans g1.h).trans c1) b1 ((φ a).m _ _ _ a1 hpx)
      refine k1 H2 b1 _ ⟨k2, ?_⟩
      rw [filter_map_take ha]
      have lz : (((xs.take i).filter c).map ψ).length < 100000 := by
        rw [List.length_map]
        have q1 := List.length_filter_le c (xs.take i)
        rw [List.length_take] at q1
        omega
      refine k3 H2 (same_refl _) _ fun H3 e3 => ?_
      cases hc : c a with
      | true =>
        rw [if_pos rfl]
        refine (k4 hc) H3 e3 (b1.trans e3) _ fun v G' H4 g4 hv => ⟨ws, g4.h _ _ (e3 _ _ f1), sz_lt (by rw [h1.length]; exact lz), ?_⟩
        rw [if_pos rfl]
        exact Cw.put a1 (c1.trans e3) d1 hD e1 (e3 _ _ f1) h1 g4 hv
      | false =>
        rw [if_neg (by decide), if_neg (by decide)]
        exact ⟨Gi, ws, a1, b1.trans e3, c1.trans e3, d1, e1, e3 _ _ f1, h1⟩
    have fin : ∀ (D : Addr), H1 D = none → ∀ H2, Cw G1 H1 D (((xs.take us.length).filter c).map ψ) H2 → Q (.ref D) H2 := by
      intro D hD H2 cw
      rw [lenU, List.take_length] at cw
      obtain ⟨G', g', hp⟩ := cw.fin g1 hD
      exact q _ G' H2 g' hp
    rcases hl with hl | hl
    · refine .inl ⟨l, rfl, ⟨us, .of (g1.s _ _ hl)⟩, fun D hD => ?_⟩
      refine lc_list (xs := us) (fun i => Cw G1 H1 D (((xs.take i).filter c).map ψ)) (by simpa using Cw.start g1.s hD) (fun i H2 _ cw => ?_) (step D hD) (fin D hD)
      obtain ⟨Gi, ws, a1, b1, _⟩ := cw
      exact .of (b1 _ _ (a1 _ _ hl))
    · refine .inr ⟨l, rfl, ⟨us, .of (g1.s _ _ hl)⟩, fun D hD => ?_⟩
      refine lc_tup (xs := us) (fun i => Cw G1 H1 D (((xs.take i).filter c).map ψ)) (by simpa using Cw.start g1.s hD) (fun i H2 _ cw => ?_) (step D hD) (fin D hD)
      obtain ⟨Gi, ws, a1, b1, _⟩ := cw
      exact .of (b1 _ _ (a1 _ _ hl))
/-- .. without a test -/
theorem pd_lcM {α : Type} {xs : List α} {φ ψ : α → Ty} {g : TG} {vs : List Nat} (h : PD tl σ G R (tSq (xs.map φ))) (hz : xs.length ≤ 100000)
    (hb : ∀ a ∈ xs, ∀ x Gi Ri, Same G Gi → Same R Ri → Same Gi Ri → (φ a).p Gi x → ∃ σ2, GD g (wipe σ vs) Gi x σ2 ∧ wipe σ2 vs = wipe σ vs ∧ PD te σ2 Gi Ri (ψ a)) :
    PD (tLc (iSeq K tl) g tYes te vs) σ G R (tL (xs.map ψ)) := by
  have k := pd_lc (K := K) (c := fun _ => true) (ψ := ψ) (tt := tYes) (te := te) (vs := vs) h hz (fun a ha x Gi Ri s1 s2 s3 hx => by
    obtain ⟨σ2, k1, k2, k3⟩ := hb a ha x Gi Ri s1 s2 s3 hx
    exact ⟨σ2, k1, k2, td_yes, fun _ => k3⟩)
  have e : xs.filter (fun _ => true) = xs := by simp
  rw [e] at k
  exact k
/-! ### loops -/
/-- for x in xs -/
theorem s_for {α : Type} {xs : List α} {φ : α → Ty} {g : TG} {tb : TS} {D : Ends} (h : PD tl σ G R (tSq (xs.map φ))) (sr : Same R H) (sg : Same G H) (Pv : Nat → St → Hp → Hp → Prop)
    (h0 : ∀ G1 H1, Grow G H G1 H1 → Pv 0 σ G1 H1)
    (hs : ∀ G1 H1, Grow G H G1 H1 → ∀ i a x σ' Gi Hi, xs[i]? = some a → Same G1 Gi → Same Gi Hi → (φ a).p Gi x → Pv i σ' Gi Hi →
      g x σ' Hi fun σ2 H2 => tb { D with nx := fun σ3 H3 => ∃ G3, Same G1 G3 ∧ Same G3 H3 ∧ Pv (i + 1) σ3 G3 H3, ct := fun σ3 H3 => ∃ G3, Same G1 G3 ∧ Same G3 H3 ∧ Pv (i + 1) σ3 G3 H3, bk := D.nx } σ2 H2)
    (hd : ∀ G1 H1, Grow G H G1 H1 → ∀ σ' Gi Hi, Same G1 Gi → Same Gi Hi → Pv xs.length σ' Gi Hi → D.nx σ' Hi) : tFor (iSeq K tl) g tb D σ H :=
  h H sr sg _ fun v G1 H1 g1 hv => by
    obtain ⟨l, us, rfl, hl, hus⟩ := hv
    have lenU : us.length = xs.length := by rw [hus.length, List.length_map]
    have step : ∀ (i : Nat) (x : V) (σ' : St) (H2 : Hp), us[i]? = some x → (∃ Gi, Same G1 Gi ∧ Same Gi H2 ∧ Pv i σ' Gi H2) →
        g x σ' H2 fun σ2 H2 => tb { D with nx := fun σ3 H3 => ∃ G3, Same G1 G3 ∧ Same G3 H3 ∧ Pv (i + 1) σ3 G3 H3, ct := fun σ3 H3 => ∃ G3, Same G1 G3 ∧ Same G3 H3 ∧ Pv (i + 1) σ3 G3 H3, bk := D.nx } σ2 H2 := by
      rintro i x σ' H2 hx ⟨Gi, a1, b1, p⟩
      obtain ⟨χ, hχ, hpx⟩ := hus.get' hx
      rw [List.getElem?_map] at hχ
      obtain ⟨a, ha, rfl⟩ := Option.map_eq_some_iff.mp hχ
      exact hs G1 H1 g1 i a x σ' Gi H2 ha a1 b1 ((φ a).m _ _ _ a1 hpx) p
    rcases hl with hl | hl
    · refine .inl ⟨l, rfl, ⟨us, .of (g1.s _ _ hl)⟩, ?_⟩
      refine for_list (xs := us) (fun i σ' H' => ∃ Gi, Same G1 Gi ∧ Same Gi H' ∧ Pv i σ' Gi H') ⟨G1, same_refl _, g1.s, h0 G1 H1 g1⟩ ?_ step ?_
      · rintro i σ' H2 _ ⟨Gi, a1, b1, _⟩
        exact .of (b1 _ _ (a1 _ _ hl))
      · rintro σ' H2 ⟨Gi, a1, b1, p⟩
        rw [lenU] at p
        exact hd G1 H1 g1 σ' Gi H2 a1 b1 p
    · refine .inr ⟨l, rfl, ⟨us, .of (g1.s _ _ hl)⟩, ?_⟩
      refine for_tup (xs := us) (fun i σ' H' => ∃ Gi, Same G1 Gi ∧ Same Gi H' ∧ Pv i σ' Gi H') ⟨G1, same_refl _, g1.s, h0 G1 H1 g1⟩ ?_ step ?_
      · rintro i σ' H2 _ ⟨Gi, a1, b1, _⟩
        exact .of (b1 _ _ (a1 _ _ hl))
      · rintro σ' H2 ⟨Gi, a1, b1, p⟩
        rw [lenU] at p
        exact hd G1 H1 g1 σ' Gi H2 a1 b1 p
/-- for k in range(n) -/
theorem s_range {n : Int} {ta : TA} {g : TG} {tb : TS} {D : Ends} (h : AD ta σ G R [tI n]) (sr : Same R H) (sg : Same G H) (hn : -(2 ^ 62) ≤ n ∧ n < 2 ^ 62) (Pv : Nat → St → Hp → Prop)
    (h0 : ∀ H1, Same H H1 → Pv 0 σ H1)
    (hs : ∀ (i : Nat) σ' Hi, (i : Int) < n → Pv i σ' Hi → g (.int (i : Int)) σ' Hi fun σ2 H2 => tb { D with nx := Pv (i + 1), ct := Pv (i + 1), bk := D.nx } σ2 H2)
    (hd : ∀ σ' Hi, Pv n.toNat σ' Hi → D.nx σ' Hi) : tFor (iRng1 ta) g tb D σ H :=
  h H sr sg _ fun vs G1 H1 g1 hv => by
    cases hv with
    | cons h1 h2 =>
      cases h2
      cases h1
      refine ⟨n, rfl, hn.1, hn.2, for_range (lo := 0) (n := n.toNat) Pv (h0 H1 g1.h) (fun i σ' H' hi p => ?_) hd⟩
      rw [Int.zero_add]
      exact hs i σ' H' (by omega) p
end
end BR
/-! Own layer, fourth part: data, ==, repr, isinstance, t[::-1]; a law's end. -/
namespace BR
open PySem PySem.Spec PyProof.Rows L2
/-! ### data -/
mutual
def dt : PyData → Ty
  | .none => tN
  | .bool b => tBo b
  | .int i => tI i
  | .str x => tSt x
  | .list ds => tL (dts ds)
  | .tuple ds => tT (dts ds)
  | .dict _ => ⟨fun G v => ∃ a ks, v = .ref a ∧ G a = some (.dK ks), fun _ _ _ s ⟨a, ks, e, h⟩ => ⟨a, ks, e, s _ _ h⟩⟩
def dts : List PyData → List Ty
  | [] => []
  | d :: ds => dt d :: dts ds
end
theorem dts_eq : ∀ ds : List PyData, dts ds = ds.map dt
  | [] => by simp [dts]
  | d :: ds => by simp [dts, dts_eq ds]
theorem dt_tuple (ds : List PyData) : dt (.tuple ds) = tT (ds.map dt) := by rw [← dts_eq]; simp [dt]
theorem dt_list (ds : List PyData) : dt (.list ds) = tL (ds.map dt) := by rw [← dts_eq]; simp [dt]
theorem dt_int (i : Int) : dt (.int i) = tI i := by simp [dt]
theorem dt_bool (b : Bool) : dt (.bool b) = tBo b := by simp [dt]
theorem dt_str (x : Str) : dt (.str x) = tSt x := by simp [dt]
theorem dt_none : dt .none = tN := by simp [dt]
mutual
theorem dt_dp {K : Fg} {G : Hp} : ∀ (d : PyData) (v : V), d.canLay0 = true → (dt d).p G v → Dp K G v d
  | .none, v, _, h => by rw [dt_none] at h; cases h; exact .non
  | .bool b, v, _, h => by rw [dt_bool] at h; cases h; exact .bl b
  | .int i, v, _, h => by rw [dt_int] at h; cases h; exact .int i
  | .str x, v, _, h => by rw [dt_str] at h; cases h; exact .str x
  | .list ds, v, c, h => by
    simp only [dt] at h
    obtain ⟨a, vs, rfl, h1, h2⟩ := h
    exact .lst (.of h1) (dts_dp ds vs (by simpa [PyData.canLay0] using c) h2)
  | .tuple ds, v, c, h => by
    simp only [dt] at h
    obtain ⟨a, vs, rfl, h1, h2⟩ := h
    exact .tup (.of h1) (dts_dp ds vs (by simpa [PyData.canLay0] using c) h2)
  | .dict _, v, c, h => by simp [PyData.canLay0] at c
theorem dts_dp {K : Fg} {G : Hp} : ∀ (ds : List PyData) (vs : List V), PyData.canLayAll0 ds = true → All G (dts ds) vs → DpAll K G vs ds
  | [], vs, _, h => by simp only [dts] at h; cases h; exact .nil
  | d :: ds, vs, c, h => by
    simp only [dts] at h
    simp only [PyData.canLayAll0, Bool.and_eq_true] at c
    cases h with
    | cons h1 h2 => exact .cons (dt_dp d _ c.1 h1) (dts_dp ds _ c.2 h2)
end
/-! ### == -/
def rEqX (K : Fg) : R2 := fun x y H Q => rEq x y H Q ∨ rEqD K x y H Q
def rNeX (K : Fg) : R2 := fun x y H Q => rNe x y H Q ∨ rNeD K x y H Q
theorem op_eqX {X : Cx} (hu : X.A.units + 64 < cLine) : OpR X (compareOp .Eq) (rEqX X.K) := op_eq.or (op_eqD hu)
theorem op_neX {X : Cx} (hu : X.A.units + 64 < cLine) : OpR X (compareOp .NotEq) (rNeX X.K) := op_ne.or (op_neD hu)
section
variable {K : Fg} {σ : St} {G R : Hp} {ta tb te : TE} {φ ψ χ : Ty}
theorem pd_eqD {d e : PyData} (ha : PD ta σ G R (dt d)) (hb : PD tb σ G R (dt e)) (hd : SeqAt.shaped d = true) (he : SeqAt.shaped e = true) : PD (tOp (rEqX K) ta tb) σ G R (tBo (PyData.eqv d e)) :=
  pd_op ha hb fun x y G1 H _ s1 hx hy Q q => .inr ⟨d, e, dt_dp d x (SeqAt.canLay_of_shaped hd) ((dt d).m _ _ _ s1 hx), dt_dp e y (SeqAt.canLay_of_shaped he) ((dt e).m _ _ _ s1 hy), hd, he, q _ G1 H (.refl s1) rfl⟩
theorem pd_neD {d e : PyData} (ha : PD ta σ G R (dt d)) (hb : PD tb σ G R (dt e)) (hd : SeqAt.shaped d = true) (he : SeqAt.shaped e = true) : PD (tOp (rNeX K) ta tb) σ G R (tBo (!PyData.eqv d e)) :=
  pd_op ha hb fun x y G1 H _ s1 hx hy Q q => .inr ⟨d, e, dt_dp d x (SeqAt.canLay_of_shaped hd) ((dt d).m _ _ _ s1 hx), dt_dp e y (SeqAt.canLay_of_shaped he) ((dt e).m _ _ _ s1 hy), hd, he, q _ G1 H (.refl s1) rfl⟩
theorem pd_eqv {x y : V} (ha : PD ta σ G R (tv x)) (hb : PD tb σ G R (tv y)) (hs : scal x y = true) : PD (tOp (rEqX K) ta tb) σ G R (tBo (decide (x = y))) := pd_opv ha hb fun H Q q => .inl ⟨hs, q⟩
theorem pd_nev {x y : V} (ha : PD ta σ G R (tv x)) (hb : PD tb σ G R (tv y)) (hs : scal x y = true) : PD (tOp (rNeX K) ta tb) σ G R (tBo (!decide (x = y))) := pd_opv ha hb fun H Q q => .inl ⟨hs, q⟩
theorem int_dec (i j : Int) : decide (V.int i = V.int j) = decide (i = j) := by
  by_cases h : i = j
  · subst h
    simp
  · simp [h]
theorem pd_eqI {i j : Int} (ha : PD ta σ G R (tI i)) (hb : PD tb σ G R (tI j)) : PD (tOp (rEqX K) ta tb) σ G R (tBo (decide (i = j))) := by
  rw [← int_dec]
  exact pd_eqv ha hb rfl
theorem pd_neI {i j : Int} (ha : PD ta σ G R (tI i)) (hb : PD tb σ G R (tI j)) : PD (tOp (rNeX K) ta tb) σ G R (tBo (!decide (i = j))) := by
  rw [← int_dec]
  exact pd_nev ha hb rfl
/-! ### isinstance -/
theorem pd_isi {t : Value} {n : String} {b : Bool} (h : PD te σ G R φ) (ht : ∀ G v, φ.p G v → TyX K G v t) (hk : PySem.W.kitOne K t (.type n) = some b) : PD (tCB (rIsi K) (tCons te (tCons (tC (.ty n)) tNil))) σ G R (tBo b) :=
  pd_callB (ad_cons h (ad_cons pd_c ad_nil)) fun vs G1 H _ s1 hv Q q => by
    cases hv with
    | cons h1 h2 =>
      cases h2 with
      | cons h2 h3 =>
        cases h3
        cases h2
        exact ⟨_, _, t, .type n, b, rfl, .ty n, ht H _ (φ.m _ _ _ s1 h1), hk, q _ G1 H (.refl s1) rfl⟩
def clsD : PyData → String
  | .none => "NoneType"
  | .bool _ => "bool"
  | .int _ => "int"
  | .str _ => "str"
  | .list _ => "list"
  | .tuple _ => "tuple"
  | .dict _ => "dict"
theorem tyx_dt : ∀ (d : PyData) (G : Hp) (v : V), (dt d).p G v → TyX K G v (.type (clsD d))
  | .none, G, v, h => by rw [dt_none] at h; cases h; exact .base .non
  | .bool b, G, v, h => by rw [dt_bool] at h; cases h; exact .base (.bl b)
  | .int i, G, v, h => by rw [dt_int] at h; cases h; exact .base (.int i)
  | .str x, G, v, h => by rw [dt_str] at h; cases h; exact .base (.str x)
  | .list ds, G, v, h => by
    simp only [dt] at h
    obtain ⟨a, vs, rfl, h1, h2⟩ := h
    exact .base (.lst h1)
  | .tuple ds, G, v, h => by
    simp only [dt] at h
    obtain ⟨a, vs, rfl, h1, h2⟩ := h
    exact .base (.tup h1)
  | .dict _, G, v, h => by
    simp only [dt] at h
    obtain ⟨a, vs, rfl, h1⟩ := h
    exact .base (.dK h1)
/-! ### repr of data in a list or a tuple -/
def rReprX (K : Fg) : List V → Hp → VK → Prop := fun xs H Q => ∃ a d, xs = [.ref a] ∧ Dp K H (.ref a) d ∧ d.showable = true ∧ d.hasDict = false ∧ d.shown.length ≤ sizeLine ∧ d.depth ≤ 64 ∧ Q (.str d.shown) H
theorem call_reprX {X : Cx} {k : Nat} (hr : Room k X.A) (hg : X.A.guards = some []) : CallR X (.builtin "repr") (rReprX X.K) := by
  intro pins s σ H xs us Q I r h
  obtain ⟨a, d, rfl, hd, h1, h2, h3, h4, q⟩ := h
  cases r with
  | cons r1 r2 =>
    cases r2
    obtain ⟨as, hrd⟩ := Dp.reads I d _ _ hd r1
    have r1' : _ = Value.ref a := r1
    subst r1'
    have hu := hr.un
    exact repr_of_reads' hrd h1 (fun z => by rw [h2] at z; cases z) hg (by omega) (fun _ _ e => e) (fun h' u tk hk => ⟨.str d.shown, H, I.kept hk, ⟨u, rfl⟩, q⟩) h3
theorem pd_repr {d : PyData} (h : PD te σ G R (dt d)) (hr : ∀ G v, (dt d).p G v → ∃ a, v = .ref a) (h0 : d.canLay0 = true) (h1 : d.showable = true) (h2 : d.hasDict = false) (h3 : d.shown.length ≤ sizeLine) (h4 : d.depth ≤ 64) :
    PD (tCB (rReprX K) (tCons te tNil)) σ G R (tSt d.shown) :=
  pd_callB (ad_cons h ad_nil) fun vs G1 H _ s1 hv Q q => by
    cases hv with
    | cons k1 k2 =>
      cases k2
      obtain ⟨a, rfl⟩ := hr _ _ k1
      exact ⟨a, d, rfl, dt_dp d _ h0 ((dt d).m _ _ _ s1 k1), h1, h2, h3, h4, q _ G1 H (.refl s1) rfl⟩
end
/-! ### t[::-1] -/
section
variable {prog : Program} {w : World} {A : Around} {E : Value → Shared → Prop} {s : Shared}
theorem adjust_back (n : Nat) : Builtin.Slice.sliceAdjust none none (-1) (n : Int) = ((n : Int) - 1, -1) := by
  unfold Builtin.Slice.sliceAdjust
  simp
theorem places_back (n : Nat) : Builtin.Slice.slicePlaces ((n : Int) - 1) (-1) (-1) = n := by
  unfold Builtin.Slice.slicePlaces
  have h1 : ¬ ((-1 : Int) > 0) := by omega
  simp only [h1, if_false]
  split
  · simp
  · omega
theorem applied_back {sl : Addr} {vk : Value} {n : Nat} {Q : Int × Int × Nat → Shared → Prop} (hs : s.heap.IsSliceOf sl .none .none vk) (pk : IsPart vk (some (-1)))
    (h : Q ((n : Int) - 1, -1, n) s) : wpAny (model prog w) A (Builtin.Slice.sliceApplied (.ref sl) (pure (n : Int))) Q E s := by
  obtain ⟨os, hos, hcs, hds⟩ := id hs
  unfold Builtin.Slice.sliceApplied Builtin.Slice.sliceFields
  refine wpAny_bind (wpAny_bind (wpAny_field hos hds (x := .none) rfl (wpAny_bind (wpAny_field hos hds (x := .none) rfl (wpAny_bind (wpAny_field hos hds (x := vk) rfl (wpAny_pure ?_)))))))
  refine wpAny_bind (HT.slicePart_ pk ?_)
  show wpAny _ _ (if ((-1 : Int) == 0) = true then _ else _) _ _ s
  rw [if_neg (by decide)]
  refine wpAny_bind (HT.slicePart_ .none (wpAny_bind (HT.slicePart_ .none (wpAny_bind (wpAny_pure ?_)))))
  show wpAny _ _ (match Builtin.Slice.sliceAdjust none none (-1) (n : Int) with | (lo, hi) => pure (lo, (-1 : Int), Builtin.Slice.slicePlaces lo hi (-1))) _ _ s
  rw [adjust_back n]
  show wpAny _ _ (pure ((n : Int) - 1, (-1 : Int), Builtin.Slice.slicePlaces ((n : Int) - 1) (-1) (-1))) _ _ s
  rw [places_back]
  exact wpAny_pure h
theorem fmap_congr {α β : Type} {f g : α → Option β} : ∀ (l : List α), (∀ x ∈ l, f x = g x) → l.filterMap f = l.filterMap g
  | [], _ => rfl
  | x :: l, h => by
    rw [List.filterMap_cons, List.filterMap_cons, h x List.mem_cons_self, fmap_congr l fun y hy => h y (List.mem_cons_of_mem _ hy)]
theorem pick_back (xs : Array Value) : ((List.range xs.size).filterMap fun (m : Nat) => xs[(((xs.size : Int) - 1) + (m : Int) * (-1)).toNat]?).toArray = xs.toList.reverse.toArray := by
  congr 1
  have e : (List.range xs.size).filterMap (fun (m : Nat) => xs[(((xs.size : Int) - 1) + (m : Int) * (-1)).toNat]?) = ((List.range xs.size).map fun k => xs.size - 1 - k).filterMap (xs[·]?) := by
    rw [List.filterMap_map]
    refine fmap_congr _ fun m hm => ?_
    have : (((xs.size : Int) - 1) + (m : Int) * (-1)).toNat = xs.size - 1 - m := by
      have := List.mem_range.mp hm
      omega
    rw [this] <;> rfl
  rw [e, PySem.W.krv_range, List.filterMap_reverse, PySem.W.krv_all]
theorem getItem_tuple_back {t sl : Addr} {items : Array Value} {vk : Value} {Q : Value → Shared → Prop} (ht : IsTup s.heap t items) (hs : s.heap.IsSliceOf sl .none .none vk) (pk : IsPart vk (some (-1)))
    (h : Q (.ref s.heap.objs.size) { s with heap := s.heap.push { cls := .type "tuple", data := .seq items.toList.reverse.toArray } })
    (hsz : items.size ≤ sizeLine) : wpAny (model prog w) A (getItem (.ref t) (.ref sl)) Q E s := by
  have htake : sizeOk (.seq items.toList.reverse.toArray) := by
    show items.toList.reverse.toArray.size ≤ sizeLine
    simpa using hsz
  obtain ⟨os, hos, hcs, hds⟩ := id hs
  have hTs : s.TypeIs (.ref sl) "slice" := ⟨os, hos, hcs⟩
  unfold getItem
  try with_reducible refine wpAny_holding ?_
  first | refine wpAny_bind (wpAny_pure ?_) | skip
  refine wpAny_bind (wpAny_sequenceKey ht.typeIs (by decide) ?_)
  refine wpAny_bind (wpAny_callSpecial?_slot (name := Str.ofString "__getitem__") ht.typeIs PyProof.Rows.slot_tuple_getitem
    (wpAny_call_entry PyProof.Rows.slot_tuple_getitem ht.typeIs entry_tuple_getitem ?_ (args_tuple_getitem _ _)))
  show wpAny _ _ (Builtin.Tuple.tupleItemsOf (.ref t) >>= _) _ _ s
  refine wpAny_bind (tupleItemsOf_ ht ?_)
  refine wpAny_bind (wpAny_typeOf hTs ?_)
  rw [if_pos (by decide)]
  refine wpAny_bind (applied_back hs pk ?_)
  have hno : ¬ ((((items.size : Int) - 1) == 0 && (-1 : Int) == 1 && items.size == items.size) = true) := by
    intro q
    rw [Bool.and_eq_true, Bool.and_eq_true] at q
    exact absurd q.1.2 (by decide)
  show wpAny _ _ (if (((items.size : Int) - 1) == 0 && (-1 : Int) == 1 && items.size == items.size) = true then _ else _) _ _ s
  rw [if_neg hno, pick_back]
  first
    | exact wpAny_bind (m := Builtin.Tuple.tupleExact _) (wpAny_newObj_type (wpAny_pure ⟨_, rfl, wpAny_pure h⟩) htake)
    | exact wpAny_bind (m := Builtin.Tuple.tupleExact _) (wpAny_newObj_type (wpAny_bind (wpAny_pure (wpAny_pure ⟨_, rfl, wpAny_pure h⟩))) htake)
    | exact wpAny_bind (wpAny_bind (m := Builtin.Tuple.tupleExact _) (wpAny_newObj_type (wpAny_pure (wpAny_pure ⟨_, rfl, wpAny_pure h⟩)) htake))
    | exact wpAny_bind (wpAny_bind (m := Builtin.Tuple.tupleExact _) (wpAny_newObj_type (wpAny_pure ⟨_, rfl, wpAny_pure h⟩) htake))
end
def tRevT (K : Fg) (te : TE) : TE := fun σ H Q => te σ H fun x H1 => ∃ a xs, x = .ref a ∧ SqT K H1 a xs ∧ ∀ p, H1 p = none → Q (.ref p) (upd H1 p (.tup xs.reverse))
theorem pe_revT {X : Cx} {e : Expr} {te : TE} {k : Nat} {p1 p2 p3 pos : Pos} (he : PE X e te) : PE X (.Subscript e (.Slice none none (some (.UnaryOp .USub (.Constant (.int 1) k p1) p2)) p3) pos) (tRevT X.K te) := by
  refine ⟨fun pins s σ H Q I h => ?_⟩
  refine Subscript_ (thn (he.run pins s σ H _ I h) ?_)
  rintro v s1 ⟨x, H1, I1, r1, a, xs, rfl, hx, q⟩
  cases r1
  have hst : PO X (some (.UnaryOp .USub (.Constant (.int 1) k p1) p2)) (tPart (tUn (rU fun i => .int (-i)) (tC (.int 1)))) := po_some (pe_un un_neg pe_int)
  refine wpAny_Slice (thn (po_none.run pins s1 σ H1 (fun o H2 => o = none ∧ H2 = H1) I1 ⟨rfl, rfl⟩) ?_)
  rintro vl s2 ⟨l, H2, I2, pl, rfl, rfl⟩
  refine thn (po_none.run pins s2 σ H2 (fun o H3 => o = none ∧ H3 = H2) I2 ⟨rfl, rfl⟩) ?_
  rintro vu s3 ⟨u, H3, I3, pu, rfl, rfl⟩
  refine thn (hst.run pins s3 σ H3 (fun o H4 => o = some (-1) ∧ H4 = H3) I3 ⟨1, rfl, -1, rfl, rfl, rfl⟩) ?_
  rintro vs s4 ⟨o, H4, I4, ps, rfl, rfl⟩
  cases pl
  cases pu
  have I5 : Inv X pins σ H4 { s4 with heap := s4.heap.push { cls := .type "slice", data := .fields #[.none, .none, vs] } } := I4.kept (t' := s4.toks) fun b ob q => Heap.get?_push_of_some _ q
  obtain ⟨its, r, ht, hz⟩ := I5.tuple hx
  have hlen := r.length
  show wpAny (model X.prog X.w) X.A (subscriptTail e (.Slice none none (some (.UnaryOp .USub (.Constant (.int 1) k p1) p2)) p3) (.ref a) (.ref s4.heap.objs.size)) (EP X pins σ Q) X.xe { s4 with heap := s4.heap.push { cls := .type "slice", data := .fields #[.none, .none, vs] } }
  refine tail_any (ops := [.ref a, .ref s4.heap.objs.size]) ht.typeIs (PyProof.Rows.slot_tuple_getitem.lookup) ?_ (by with_unfolding_all rfl)
  refine getItem_tuple_back ht (Heap.IsSliceOf.new _ .none .none vs) ps ?_ (by rw [List.size_toArray]; omega)
  refine ⟨.ref _, _, I5.laid (t' := s4.toks) (o := .tup xs.reverse) (fun b ob q => Heap.get?_push_of_some _ q) (Nat.le_refl _) ?_, rfl, q _ (I5.hok.fresh (Nat.le_refl _))⟩
  exact ⟨by rw [List.length_reverse]; exact hz, _, r.reverse, ⟨_, Heap.get?_push_size _ rfl, rfl, _, rfl⟩⟩
theorem pd_revT {K : Fg} {σ : St} {G R : Hp} {te : TE} {φs : List Ty} (h : PD te σ G R (tT φs)) : PD (tRevT K te) σ G R (tT φs.reverse) := fun H sr sg Q q =>
  h H sr sg _ fun v G1 H1 g1 hv => by
    obtain ⟨a, vs, rfl, h1, h2⟩ := hv
    refine ⟨a, vs, rfl, .of (g1.s _ _ h1), fun p hp => ?_⟩
    have g2 : Grow G1 H1 (upd G1 p (.tup vs.reverse)) (upd H1 p (.tup vs.reverse)) := .new g1.s hp
    exact q _ _ _ (g1.trans g2) ⟨p, _, rfl, upd_same, h2.reverse.mono g2.g⟩
/-! ### the pool of a law, and reading step by step -/
def PoolOk (c z : Int) : Prop := 0 ≤ c ∧ 0 ≤ z ∧ z < 2147483648
structure PI (p : Addr) (G H : Hp) : Prop where
  s : Same G H
  n : G p = none
  h : ∃ c z, H p = some (.lst [.int c, .int z]) ∧ PoolOk c z
theorem PI.grow {p : Addr} {G H G' H' : Hp} (i : PI p G H) (g : Grow G H G' H') : PI p G' H' := by
  obtain ⟨c, z, h, k⟩ := i.h
  refine ⟨g.s, ?_, c, z, g.h _ _ h, k⟩
  cases q : G' p with
  | none => rfl
  | some o =>
    have e := g.f p i.n (by rw [q]; exact fun z => nomatch z)
    rw [h] at e
    cases e
theorem PI.same {p : Addr} {G H H' : Hp} (i : PI p G H) (g : Same H H') : PI p G H' := by
  obtain ⟨c, z, h, k⟩ := i.h
  exact ⟨i.s.trans g, i.n, c, z, g _ _ h, k⟩
/-- what a draw leaves: all but the pool as it was -/
def SameBut (p : Addr) (H H' : Hp) : Prop := ∀ a o, a ≠ p → H a = some o → H' a = some o
theorem PI.but {p : Addr} {G H H' : Hp} (i : PI p G H) (g : SameBut p H H') {c z : Int} (h : H' p = some (.lst [.int c, .int z])) (k : PoolOk c z) : PI p G H' :=
  ⟨fun a o e => g a o (ne_of_none e i.n) (i.s a o e), i.n, c, z, h, k⟩
def sp_l_take : Sp := fun vs H Q _ => ∃ (p : Addr) (c z n : Int), vs = [.ref p, .int n] ∧ H p = some (.lst [.int c, .int z]) ∧ PoolOk c z ∧ 0 < n ∧ n < 2 ^ 200 ∧
  ∀ (r c' z' : Int) (H' : Hp), 0 ≤ r → r < n → PoolOk c' z' → SameBut p H H' → H' p = some (.lst [.int c', .int z']) → Q (.int r) H'
section
variable {K : Fg} {σ : St} {G R H : Hp} {ta tb te : TE} {φ ψ χ : Ty} {p : Addr} {Q : VK} {E : XK} {D : Ends} {tz tu : TS}
theorem k_pd (i : PI p G H) (h : PD te σ G G φ) (k : ∀ v G' H', Same G G' → PI p G' H' → φ.p G' v → Q v H') : te σ H Q :=
  h H i.s i.s _ fun v G' H' g hv => k v G' H' g.g (i.grow g) hv
/-- a known value: G stays -/
theorem k_pv {x : V} (i : PI p G H) (h : PD te σ G G (tv x)) (k : ∀ H', PI p G H' → Q x H') : te σ H Q :=
  h H i.s i.s _ fun v G' H' g hv => by
    cases hv
    exact k H' (i.same g.h)
theorem k_take {j : Nat} {n : Int} (i : PI p G H) (hp : σ[j]? = some (some (.ref p))) (hn : PD te σ G G (tI n)) (h0 : 0 < n) (h1 : n < 2 ^ 200) (k : ∀ r H', 0 ≤ r → r < n → PI p G H' → Q (.int r) H') :
    tCall sp_l_take [] E (tCons (tVar j) (tCons te tNil)) σ H Q :=
  ⟨_, hp, hn H i.s i.s _ fun v G' H' g hv => by
    cases hv
    obtain ⟨c, z, h, o⟩ := i.h
    exact ⟨p, c, z, n, rfl, g.h _ _ h, o, h0, h1, fun r c' z' H2 q1 q2 q3 q4 q5 => k r H2 q1 q2 ((i.same g.h).but q4 q5 q3)⟩⟩
theorem un_op {r : R2} (h : ta σ H fun x H1 => tb σ H1 fun y H2 => r x y H2 Q) : tOp r ta tb σ H Q := h
theorem un_tup {t : TA} (h : t σ H fun xs H1 => xs.length ≤ sizeLine ∧ ∀ q, H1 q = none → Q (.ref q) (upd H1 q (.tup xs))) : tTup t σ H Q := h
theorem un_lst {t : TA} (h : t σ H fun xs H1 => xs.length ≤ sizeLine ∧ ∀ q, H1 q = none → Q (.ref q) (upd H1 q (.lst xs))) : tLst t σ H Q := h
theorem un_cons {tr : TA} {Q : List V → Hp → Prop} (h : ta σ H fun x H1 => tr σ H1 fun xs H2 => Q (x :: xs) H2) : tCons ta tr σ H Q := h
theorem un_seq (h : tu { D with nx := tz D } σ H) : tSeq tu tz D σ H := h
theorem un_asg {g : TG} (h : te σ H fun x H1 => g x σ H1 D.nx) : tAsg te g D σ H := h
theorem un_asg2 {i : Nat} (h : te σ H fun x H1 => tz D (σ.set i (some x)) H1) : tSeq (tAsg te (gName i)) tz D σ H := h
theorem un_par2 {i j : Nat} {ta : TA} (h : ta σ H fun vs H1 => ∃ v w, vs = [v, w] ∧ tz D ((σ.set i (some v)).set j (some w)) H1) : tSeq (tPar i j ta) tz D σ H := h
theorem un_ret (h : te σ H D.rt) : tRet te D σ H := h
theorem un_drop (h : te σ H fun _ H1 => D.nx σ H1) : tDrop te D σ H := h
theorem un_drop2 (h : te σ H fun _ H1 => tz D σ H1) : tSeq (tDrop te) tz D σ H := h
end
/-! ### promises of pure defs -/
theorem lenT {pre : List Ty → Ty → Prop} {n : Nat} (h : ∀ φs φ, pre φs φ → φs.length = n) : ∀ vs H Q E, spT pre vs H Q E → vs.length = n := by
  rintro vs H Q E ⟨G, φs, φ, _, h2, h3, _⟩
  rw [h2.length]
  exact h φs φ h3
theorem pureT {pre : List Ty → Ty → Prop} {t : TS} {N : List Str}
    (h : ∀ G φs φ vs H, Same G H → All G φs vs → pre φs φ → ∀ D : Ends, (∀ v G' H', Grow G H G' H' → φ.p G' v → D.rt v H') → t D (L2.start N vs) H) :
    ∀ vs H (Q : VK) (E : XK), spT pre vs H Q E → t { nx := fun _ H' => Q .non H', rt := Q } (L2.start N vs) H := by
  rintro vs H Q E ⟨G, φs, φ, h1, h2, h3, h4⟩
  exact h G φs φ vs H h1 h2 h3 _ h4
/-! ### a law's end -/
theorem law_callG {P : Program} {w : World} {K : Fg} {mg mb : Str → Option Value} {CX : CXT} {k : Nat} {fa a : Addr} {nl x : Str} {sp : Sp} {s₁ : Shared} {vs : List Value} {ns : List Int}
    (KX : K.In s₁.heap) (hns : s₁.heap.Ns mainGlobals mg) (hb : s₁.heap.Ns builtinsNs mb) (hbb : ∀ x : Str, x ≠ "__name__" → mb x = bootBuiltins x) (hlim : s₁.heap.NoLimit) (hg : s₁.gens = #[])
    (ha : s₁.heap.get? a = some { cls := .type "list", data := .seq vs.toArray }) (hi : IntsAre vs ns) (hl : ns.length ≤ sizeLine) (hr : Room k callerA)
    (F : ∀ base : Heap, K.In base → base.Ns mainGlobals mg → Has P w K mg base CX k nl [x] sp) (hmg : mg nl = some (.ref fa))
    (hsp : ∀ H : Hp, Only H → SqL K H a (ns.map V.int) → sp [.ref a] H (fun v _ => v = .bl true) fun _ _ _ => False)
    (hCX : ∀ H e s', CX [] H s₁ (fun _ _ _ => False) e s' → False) :
    codeAny (model P w) callerA (.call (.ref fa) ⟨[.ref a], []⟩) (fun r s' => r = .ok (.ret (.bool true)) ∧ OldK s₁.heap s'.heap ∧ s'.os = s₁.os ∧ AllBare s'.gens) s₁ := by
  have rv := vals_ints hi
  have core : ∀ H : Hp, Only H → SqL K H a (ns.map V.int) → HOk P w H s₁.heap → (∀ b, H b ≠ none → b = a) → (H a ≠ none → K.lookup a = none) →
      codeAny (model P w) callerA (.call (.ref fa) ⟨[.ref a], []⟩) (fun r s' => r = .ok (.ret (.bool true)) ∧ OldK s₁.heap s'.heap ∧ s'.os = s₁.os ∧ AllBare s'.gens) s₁ := by
    intro H hO hS hok hA hK
    have noA : ∀ {b : Addr} {o : Obj} {es : Array DictEntry} {ep : Nat}, s₁.heap.get? b = some o → o.data = .dict es ep → H b = none := by
      intro b o es ep e d
      cases q : H b with
      | none => rfl
      | some u =>
        have e' := hA b (by rw [q]; exact fun z => nomatch z)
        rw [e', ha] at e
        cases e
        exact nomatch (show Data.seq vs.toArray _ = Data.dict es ep from d)
    have nsK : ∀ {b : Addr} {m : Str → Option Value}, s₁.heap.Ns b m → (hidT s₁.heap H).Ns b m := by
      rintro b m ⟨o, es, ep, e, d, r⟩
      exact ⟨o, es, ep, hidT_get e (noA e d), d, r⟩
    have hKb : K.In (hidT s₁.heap H) := by
      intro b o e
      refine hidT_get (KX b o e) ?_
      cases q : H b with
      | none => rfl
      | some u =>
        have e' := hA b (by rw [q]; exact fun z => nomatch z)
        have z := hK (by rw [← e', q]; exact fun z => nomatch z)
        rw [← e', e] at z
        cases z
    obtain ⟨mc, l1, l2⟩ := hlim
    have hM : Mod K mg (hidT s₁.heap H) := ⟨hKb, nsK hns, ⟨mb, nsK hb, hbb⟩, ⟨mc, nsK l1, l2⟩⟩
    have e0 : Env0 P w K mg (hidT s₁.heap H) callerA [] s₁ H :=
      ⟨rfl, hM, fun b o e => of_hidT e, Nat.le_of_eq (hidT_size _ _), trivial, fun b z => absurd (show b ∈ ([] : List Addr) from z) (by simp), hok, .of_eq hg⟩
    obtain ⟨f, fd, hm, _, hbi, FF⟩ := (F _ hKb (nsK hns)).ex
    rw [hmg] at hm
    cases hm
    refine codeAny_mono (FF.run callerA [] s₁ H ⟨[.ref a], []⟩ [.ref a] [.ref a] _ _ hr rfl e0 (hbi s₁ [.ref a] KX rfl) (.cons rfl .nil) (hsp H hO hS)) ?_
    intro r s' h
    match r, h with
    | .error e, h => exact (hCX H e s' h).elim
    | .ok (.ret u), ⟨v, H', os, bare, un, hok', r', q⟩ =>
      have q' : v = .bl true := q
      subst q'
      obtain rfl : u = Value.bool true := r'
      refine ⟨rfl, OldK.of_keep fun b o e => ?_, os, bare⟩
      rcases hO b with z | ⟨ob, xs, z⟩
      · exact un.keep b o e z (fun z => absurd (show b ∈ ([] : List Addr) from z) (by simp)) (by simp)
      · have e1 := (hok b _ z).1
        rw [e] at e1
        cases e1
        exact (hok' b _ (un.frzs b o _ z)).1
  have lenV := hi.length
  cases hk : K.lookup a with
  | some o =>
    have e := KX a o hk
    rw [ha] at e
    cases e
    refine core (fun _ => none) (fun _ => .inl rfl) (.inr ⟨_, vs.toArray, _, hk, rfl, rfl, rfl, by rw [List.size_toArray, lenV]; exact hl, by simpa using rv⟩) (fun b u z => nomatch (show (none : Option HO) = some u from z)) (fun b z => absurd rfl z) (fun z => absurd rfl z)
  | none =>
    have at1 : ∀ b, b = a → (if b = a then some (HO.frz { cls := .type "list", data := .seq vs.toArray } (.lst (ns.map V.int))) else none) = some (HO.frz { cls := .type "list", data := .seq vs.toArray } (.lst (ns.map V.int))) := fun b e => if_pos e
    refine core (fun b => if b = a then some (.frz { cls := .type "list", data := .seq vs.toArray } (.lst (ns.map V.int))) else none) (fun b => ?_) (.inl (.inr ⟨_, at1 a rfl⟩)) (fun b u z => ?_) (fun b z => ?_) (fun _ => hk)
    · by_cases q : b = a
      · exact .inr ⟨_, _, if_pos q⟩
      · exact .inl (if_neg q)
    · by_cases q : b = a
      · have z' := (if_pos q).symm.trans z
        cases z'
        rw [q]
        exact ⟨ha, by rw [List.length_map]; exact hl, vs, _, rv, ha⟩
      · exact nomatch ((if_neg q).symm.trans z)
    · exact Decidable.byContradiction fun q => z (if_neg q)
theorem walk_ofG {l : PySem.W.OpenLaw} {n k : Nat} {q : Program} {loose : List Str} {XP : (Str → Option Value) → Heap → Prop} {YP : World → Heap → Prop} {d : DefRec} {CX : CXT} {x : Str}
    (hn : l.most = some n) (hn2 : n ≤ sizeLine) (hdf : d.params.defaults = []) (hr : Room k callerA)
    (F : ∀ (w : World) (mg : Str → Option Value) (fa : Addr) (h : Heap), YP w h → h.Ns mainGlobals mg → mg d.name = some (.ref fa) →
      ∃ (K : Fg) (sp : Sp), K.In h ∧
        (∀ (H : Hp) (a : Addr) (ns : List Int), ns.length ≤ n → (∀ z ∈ ns, Builtin.Int.intBits z ≤ 1048576) → Only H → SqL K H a (ns.map V.int) → sp [.ref a] H (fun v _ => v = .bl true) fun _ _ _ => False) ∧
        ∀ base : Heap, K.In base → base.Ns mainGlobals mg → Has l.prog w K mg base CX k d.name [x] sp)
    (hCX : ∀ (H : Hp) (s : Shared) (e : Value) (s' : Shared), CX [] H s (fun _ _ _ => False) e s' → False) :
    PySem.W.WalkO q loose XP YP l.row.toRowW d [] (fun f vs => PySem.call f vs) := by
  refine Att.attach_callB hn hdf fun w s₀ s₁ mg mb fa o pm cd doc a vs ns G Y ho hd hcd hmg hobj hints hlen hbits hg => ?_
  obtain ⟨K, sp, KX, hsp, hF⟩ := F w mg fa _ Y G.T.g hmg
  exact law_callG KX G.T.g G.T.b G.T.builtins G.T.nolimit hg hobj hints (Nat.le_trans hlen hn2) hr hF hmg (fun H hO hS => hsp H a ns hlen hbits hO hS) fun H e s' => hCX H s₁ e s'
end BR
/-! Own layer, fifth part: how long a repr is; the script; cuts. -/
namespace BR
open PySem PySem.Spec PyProof.Rows L2
theorem piled_nil : piled [] = 0 := by simp [piled]
theorem listText_le (ts : List Str) : (listText ts).length ≤ piled ts + 2 := by
  unfold listText
  rw [Str.length_append]
  have e1 : ("[" : Str).length = 1 := by decide +kernel
  have e2 : ("]" : Str).length = 1 := by decide +kernel
  cases ts with
  | nil =>
    show ("[" : Str).length + _ ≤ _
    omega
  | cons t ts =>
    show (textFrom 1 (("[" : Str) ++ ((if 0 > 0 then ", " else "" : String) : Str) ++ t) ts).length + _ ≤ _
    rw [textFrom_length_pos ts 1 _ (by decide), Str.length_append, Str.length_append, piled_cons]
    have e3 : (((if 0 > 0 then ", " else "" : String) : Str)).length = 0 := by decide +kernel
    omega
theorem tupleText_le (ts : List Str) : (tupleText ts).length ≤ piled ts + 4 := by
  unfold tupleText
  rw [Str.length_append, Str.length_append]
  have e1 : ("(" : Str).length = 1 := by decide +kernel
  have e2 : ((if ts.length == 1 then ",)" else ")" : String) : Str).length ≤ 2 := by
    split
    · decide +kernel
    · decide +kernel
  cases ts with
  | nil =>
    have e3 : (Str.join ", " []).length = 0 := by decide +kernel
    omega
  | cons t ts =>
    have := join_length_add (t :: ts) (by simp)
    omega
mutual
def wt : PyData → Nat
  | .none => 4
  | .bool _ => 5
  | .int _ => 1921
  | .str x => (reprText x).length
  | .list xs => wts xs + 4
  | .tuple xs => wts xs + 4
  | .dict kvs => 0
def wts : List PyData → Nat
  | [] => 0
  | x :: xs => wt x + 2 + wts xs
end
mutual
theorem shown_le : ∀ d : PyData, d.showable = true → d.hasDict = false → d.shown.length ≤ wt d
  | .none, _, _ => by simp only [PyData.shown, wt]; decide +kernel
  | .bool b, _, _ => by
    simp only [PyData.shown, wt]
    cases b <;> decide +kernel
  | .int i, h, _ => by
    simp only [PyData.shown, wt]
    simp only [PyData.showable, decide_eq_true_eq] at h
    have e := int_text_length_le (k := 1920) (by decide) h
    rw [PySem.ofString_length]
    omega
  | .str x, _, _ => by simp only [PyData.shown, wt]; omega
  | .list xs, h, h' => by
    simp only [PyData.showable] at h
    simp only [PyData.hasDict] at h'
    simp only [PyData.shown, wt]
    have := shownAll_le xs h h'
    have := listText_le (PyData.shownAll xs)
    omega
  | .tuple xs, h, h' => by
    simp only [PyData.showable] at h
    simp only [PyData.hasDict] at h'
    simp only [PyData.shown, wt]
    have := shownAll_le xs h h'
    have := tupleText_le (PyData.shownAll xs)
    omega
  | .dict kvs, _, h => by simp [PyData.hasDict] at h
theorem shownAll_le : ∀ xs : List PyData, PyData.showableAll xs = true → PyData.hasDictAll xs = false → piled (PyData.shownAll xs) ≤ wts xs
  | [], _, _ => by simp only [PyData.shownAll, wts, piled_nil]; omega
  | x :: xs, h, h' => by
    simp only [PyData.showableAll, Bool.and_eq_true] at h
    simp only [PyData.hasDictAll, Bool.or_eq_false_iff] at h'
    simp only [PyData.shownAll, wts, piled_cons]
    have := shown_le x h.1 h'.1
    have := shownAll_le xs h.2 h'.2
    omega
end
/-- all that a repr asks of data -/
structure Shows (d : PyData) (n : Nat) : Prop where
  lay : d.canLay0 = true
  shw : d.showable = true
  nod : d.hasDict = false
  wt : wt d ≤ n
  dep : d.depth ≤ 60
theorem Shows.mono {d : PyData} {n m : Nat} (h : Shows d n) (k : n ≤ m) : Shows d m := ⟨h.lay, h.shw, h.nod, Nat.le_trans h.wt k, h.dep⟩
theorem Shows.len {d : PyData} {n : Nat} (h : Shows d n) (hn : n ≤ 16777216) : d.shown.length ≤ sizeLine := by
  have := shown_le d h.shw h.nod
  have := h.wt
  rw [sizeLine_eq]
  omega
structure ShowsAll (ds : List PyData) (n : Nat) : Prop where
  lay : PyData.canLayAll0 ds = true
  shw : PyData.showableAll ds = true
  nod : PyData.hasDictAll ds = false
  wt : wts ds ≤ n
  dep : PyData.depthAll ds ≤ 59
theorem showsAll_of {m : Nat} : ∀ ds : List PyData, (∀ d ∈ ds, Shows d m ∧ d.depth ≤ 59) → ShowsAll ds (ds.length * (m + 2))
  | [], _ => ⟨rfl, rfl, rfl, by simp [wts], by simp [PyData.depthAll]⟩
  | d :: ds, h => by
    obtain ⟨h1, h2⟩ := h d List.mem_cons_self
    have h3 := showsAll_of ds fun x hx => h x (List.mem_cons_of_mem _ hx)
    refine ⟨?_, ?_, ?_, ?_, ?_⟩
    · simp only [PyData.canLayAll0, h1.lay, h3.lay, Bool.and_true]
    · simp only [PyData.showableAll, h1.shw, h3.shw, Bool.and_true]
    · simp only [PyData.hasDictAll, h1.nod, h3.nod, Bool.or_false]
    · simp only [wts, List.length_cons, Nat.succ_mul]
      have := h1.wt
      have := h3.wt
      omega
    · simp only [PyData.depthAll]
      have := h3.dep
      omega
theorem shows_tuple {ds : List PyData} {n : Nat} (h : ShowsAll ds n) : Shows (.tuple ds) (n + 4) := by
  refine ⟨?_, ?_, ?_, ?_, ?_⟩
  · simp only [PyData.canLay0, h.lay]
  · simp only [PyData.showable, h.shw]
  · simp only [PyData.hasDict, h.nod]
  · simp only [wt]; have := h.wt; omega
  · simp only [PyData.depth]; have := h.dep; omega
theorem shows_list {ds : List PyData} {n : Nat} (h : ShowsAll ds n) : Shows (.list ds) (n + 4) := by
  refine ⟨?_, ?_, ?_, ?_, ?_⟩
  · simp only [PyData.canLay0, h.lay]
  · simp only [PyData.showable, h.shw]
  · simp only [PyData.hasDict, h.nod]
  · simp only [wt]; have := h.wt; omega
  · simp only [PyData.depth]; have := h.dep; omega
theorem shows_none : Shows .none 4 := ⟨rfl, rfl, rfl, by simp [wt], by simp [PyData.depth]⟩
theorem shows_bool (b : Bool) : Shows (.bool b) 5 := ⟨rfl, rfl, rfl, by simp [wt], by simp [PyData.depth]⟩
theorem shows_int {i : Int} (h : i.natAbs < 2 ^ 1900) : Shows (.int i) 1921 := by
  refine ⟨rfl, ?_, rfl, by simp [wt], by simp [PyData.depth]⟩
  simp only [PyData.showable, decide_eq_true_eq]
  have := PySem.Flt.log2_lt_of (show 0 < 1900 by decide) h
  omega
theorem shows_str {x : Str} (h : PyData.strOk x = true) : Shows (.str x) (reprText x).length := ⟨by simp only [PyData.canLay0, h], rfl, rfl, by simp [wt], by simp [PyData.depth]⟩
section
variable {K : Fg} {σ : St} {G R : Hp} {te tb : TE}
theorem pd_reprS {d : PyData} {n : Nat} (h : PD te σ G R (dt d)) (hr : ∀ G v, (dt d).p G v → ∃ a, v = .ref a) (hs : Shows d n) (hn : n ≤ 16777216) : PD (tCB (rReprX K) (tCons te tNil)) σ G R (tSt d.shown) :=
  pd_repr h hr hs.lay hs.shw hs.nod (hs.len hn) (Nat.le_trans hs.dep (by decide))
theorem ref_tuple {ds : List PyData} : ∀ G v, (dt (.tuple ds)).p G v → ∃ a, v = .ref a := by
  intro G v h
  rw [dt_tuple] at h
  obtain ⟨a, _, e, _⟩ := h
  exact ⟨a, e⟩
theorem ref_list {ds : List PyData} : ∀ G v, (dt (.list ds)).p G v → ∃ a, v = .ref a := by
  intro G v h
  rw [dt_list] at h
  obtain ⟨a, _, e, _⟩ := h
  exact ⟨a, e⟩
/-! the script: a list that is read alone -/
theorem pd_lenS {a : Addr} {xs : List V} (ha : PD te σ R R (tv (.ref a))) (h : SqL K R a xs) : PD (tCB (rLenX K) (tCons te tNil)) σ G R (tI (xs.length : Int)) := fun H sr sg Q q =>
  ha H sr sr _ fun v G1 H1 g1 hv => by
    cases hv
    exact ⟨.ref a, xs.length, rfl, .inl ⟨xs, sqL_mono (sr.trans g1.h) h, rfl⟩, q _ G H1 (.rest sg g1.h) rfl⟩
theorem pd_ixS {a : Addr} {xs : List V} {i : Int} {v : V} (ha : PD te σ R R (tv (.ref a))) (hb : PD tb σ R R (tI i)) (h : SqL K R a xs) (hi : atI xs i = some v) : PD (tOp (rIx K) te tb) σ G R (tv v) := fun H sr sg Q q =>
  ha H sr sr _ fun u G1 H1 g1 hu => (hb.mono (same_refl _) (sr.trans g1.h)) H1 (same_refl _) (sr.trans g1.h) _ fun w G2 H2 g2 hw => by
    cases hu
    cases hw
    have s2 : Same R H2 := (sr.trans g1.h).trans g2.h
    exact .inl ⟨a, xs, i, v, rfl, rfl, sqL_mono s2 h, hi, q v G H2 (.rest sg (g1.h.trans g2.h)) rfl⟩
theorem cutT_map {α β : Type} (f : α → β) (xs : List α) (lo hi : Option Int) : cutT (xs.map f) lo hi = (cutT xs lo hi).map f := by
  unfold cutT
  rw [List.length_map, List.map_take, List.map_drop]
theorem cutT_len {α : Type} (xs : List α) (lo hi : Option Int) : (cutT xs lo hi).length ≤ xs.length := by
  unfold cutT
  rw [List.length_take, List.length_drop]
  omega
theorem cutT_mem {α : Type} {xs : List α} {lo hi : Option Int} {x : α} (h : x ∈ cutT xs lo hi) : x ∈ xs := List.mem_of_mem_drop (List.mem_of_mem_take h)
theorem atI_nat {α : Type} {xs : List α} {i : Int} (h0 : 0 ≤ i) (h1 : i < (xs.length : Int)) : ∃ x, atI xs i = some x ∧ xs[i.toNat]? = some x := by
  have hi : i.toNat < xs.length := by omega
  refine ⟨xs[i.toNat], ?_, by simp [hi]⟩
  unfold atI ixN
  rw [if_pos h0, if_pos h1]
  simp [hi]
end
/-! ### the pool, made and drawn from -/
def sp_l_pool (K : Fg) : Sp := fun vs H Q _ => ∃ (a : Addr) (ns : List Int) (k : Int), vs = [.ref a, .int k] ∧ SqL K H a (ns.map V.int) ∧ 0 ≤ k ∧ k ≤ 100 ∧
  ∀ p c z H', PoolOk c z → H p = none → Same H H' → H' p = some (.lst [.int c, .int z]) → Q (.ref p) H'
def t_l_pool (K : Fg) : TS :=
  (tSeq (tAsg (tC (.int 0)) (gName 2))
  (tSeq (tIfS (tTest (tOp rLtI (tVar 1) (tCB (rLenX K) (tCons (tVar 0) tNil))))
  (tAsg (tOp (rIx K) (tVar 0) (tVar 1)) (gName 2))
  tNext)
  (tSeq (tAsg (tOp rModI (tOp rMulI (tOp (rAddX K) (tOp (rAddX K) (tOp rModI (tVar 2) (tC (.int 2147483629))) (tOp rMulI (tOp rMulI (tC (.int 7919)) (tVar 1)) (tVar 1))) (tC (.int 13))) (tC (.int 48271))) (tC (.int 2147483647))) (gName 3))
  (tSeq (tIfS (tTest (tOp rLtI (tVar 2) (tOp rPowI (tC (.int 10)) (tC (.int 18)))))
  (tAsg (tC (.int 0)) (gName 2))
  tNext)
  (tRet (tLst (tCons (tVar 2) (tCons (tOp (rAddX K) (tOp rModI (tOp rMulI (tVar 3) (tVar 3)) (tC (.int 2147483587))) (tC (.int 1))) tNil))))))))
def t_l_take (K : Fg) : TS :=
  (tSeq (tIfS (tTest (tOp rGtI (tOp (rIx K) (tVar 0) (tC (.int 0))) (tC (.int 0))))
  (tSeq (tAsg (tOp rModI (tOp (rIx K) (tVar 0) (tC (.int 0))) (tVar 1)) (gName 2))
  (tSeq (tAsg (tOp rDivI (tOp (rIx K) (tVar 0) (tC (.int 0))) (tVar 1)) (gSub (tVar 0) (tC (.int 0)) rSetL))
  (tRet (tVar 2))))
  tNext)
  (tSeq (tAsg (tOp rModI (tOp (rAddX K) (tOp rMulI (tOp (rIx K) (tVar 0) (tC (.int 1))) (tC (.int 48271))) (tC (.int 11))) (tC (.int 2147483647))) (gSub (tVar 0) (tC (.int 1)) rSetL))
  (tRet (tOp rModI (tOp rDivI (tOp rModI (tOp rMulI (tOp (rIx K) (tVar 0) (tC (.int 1))) (tOp (rIx K) (tVar 0) (tC (.int 1)))) (tC (.int 2147483629))) (tC (.int 64))) (tVar 1)))))
theorem mulW_small {i j : Int} (h1 : i.natAbs < 2 ^ 250) (h2 : j.natAbs < 2 ^ 250) : CMulW i j := wide_mul h1 h2 (by decide) (by decide) (by decide)
theorem small_of {i : Int} {n : Nat} (h : i.natAbs < 2 ^ n) (hn : n ≤ 250) : i.natAbs < 2 ^ 250 := Nat.lt_of_lt_of_le h (Nat.pow_le_pow_right (by decide) hn)
theorem small64 {i : Int} (h : i.natAbs < 2 ^ 64) : i.natAbs < 2 ^ 250 := small_of h (by decide)
section
variable {K : Fg}
theorem pure_l_take : ∀ vs H (Q : VK) (E : XK), sp_l_take vs H Q E → t_l_take K { nx := fun _ H' => Q .non H', rt := Q } (L2.start ["_law_pool_here", "_law_sides", "_law_found"] vs) H := by
  rintro vs H Q E ⟨p, c, z, n, rfl, hp, ⟨o1, o2, o3⟩, n0, n1, k⟩
  have cN : CDivW c n := wide_div n0 (b := 200) (by omega) (by decide) (by decide)
  refine q_if (R := H) (b := decide (0 < c)) (td_test (pd_gt (pd_ixV (pd_var rfl rfl) pd_c hp rfl) pd_c)) (same_refl _) (fun hb H1 s1 => ?_) (fun hb H1 s1 => ?_)
  · have hc : 0 < c := of_decide_eq_true hb
    have hp1 := s1 _ _ hp
    refine un_asg2 (pd_mod (pd_ixV (pd_var rfl rfl) pd_c hp1 rfl) (pd_var rfl rfl) n0 H1 (same_refl _) (same_refl _) _ fun v _ H2 g2 hv => ?_)
    cases hv
    have hp2 := g2.h _ _ hp1
    refine un_seq (un_asg (pd_div (pd_ixV (pd_var rfl rfl) pd_c hp2 rfl) (pd_var rfl rfl) cN H2 (same_refl _) (same_refl _) _ fun v _ H3 g3 hv => ?_))
    cases hv
    have hp3 := g3.h _ _ hp2
    refine ⟨_, rfl, p, _, 0, 0, rfl, rfl, hp3, rfl, _, rfl, ?_⟩
    refine k _ (c / n) z _ (Int.emod_nonneg _ (by omega)) (Int.emod_lt_of_pos _ n0) ⟨Int.ediv_nonneg o1 (by omega), o2, o3⟩ (fun a o ha e => ?_) upd_same
    rw [upd_ne ha]
    exact g3.h _ _ (g2.h _ _ (s1 _ _ e))
  · have hp1 := s1 _ _ hp
    have hz : z.natAbs < 2 ^ 250 := small64 (by omega)
    refine un_seq (un_asg (pd_mod (pd_add (pd_mul (pd_ixV (pd_var rfl rfl) pd_c hp1 rfl) pd_c (mulW_small hz (by decide))) pd_c) pd_c (by decide) H1 (same_refl _) (same_refl _) _ fun v _ H2 g2 hv => ?_))
    cases hv
    have hp2 := g2.h _ _ hp1
    generalize hz' : (z * 48271 + 11) % 2147483647 = z'
    have z0 : 0 ≤ z' ∧ z' < 2147483647 := by
      rw [← hz']
      exact ⟨Int.emod_nonneg _ (by decide), Int.emod_lt_of_pos _ (by decide)⟩
    refine ⟨_, rfl, p, _, 1, 1, rfl, rfl, hp2, rfl, ?_⟩
    have hz2 : z'.natAbs < 2 ^ 250 := small64 (by omega)
    have hp3 : upd H2 p (.lst ([V.int c, V.int z].set 1 (V.int z'))) p = some (.lst [V.int c, V.int z']) := upd_same
    refine un_ret (pd_mod (pd_div (pd_mod (pd_mul (pd_ixV (pd_var rfl rfl) pd_c hp3 rfl) (pd_ixV (pd_var rfl rfl) pd_c hp3 rfl) (mulW_small hz2 hz2)) pd_c (by decide)) pd_c (wide_div (b := 10) (by decide) (by decide) (by decide) (by decide))) (pd_var rfl rfl) n0 _ (same_refl _) (same_refl _) _ fun v _ H4 g4 hv => ?_)
    cases hv
    refine k _ c z' H4 (Int.emod_nonneg _ (by omega)) (Int.emod_lt_of_pos _ n0) ⟨o1, z0.1, by omega⟩ (fun a o ha e => g4.h _ _ ?_) (g4.h _ _ hp3)
    rw [upd_ne ha]
    exact g2.h _ _ (s1 _ _ e)
theorem len_l_take : ∀ vs H Q E, sp_l_take vs H Q E → vs.length = (["_law_pool_here", "_law_sides"] : List Str).length := by
  rintro vs H Q E ⟨p, c, z, n, rfl, _⟩
  rfl
theorem pure_l_pool : ∀ vs H (Q : VK) (E : XK), sp_l_pool K vs H Q E → t_l_pool K { nx := fun _ H' => Q .non H', rt := Q } (L2.start ["_law_script", "_law_k", "_law_cell", "_law_seed"] vs) H := by
  rintro vs H Q E ⟨a, ns, k, rfl, hS, k0, k1, kk⟩
  refine un_asg2 ?_
  show tSeq _ _ _ [some (.ref a), some (.int k), some (.int 0), none] H
  have rest : ∀ (c : Int) (H1 : Hp), Same H H1 → (tSeq (tAsg (tOp rModI (tOp rMulI (tOp (rAddX K) (tOp (rAddX K) (tOp rModI (tVar 2) (tC (.int 2147483629))) (tOp rMulI (tOp rMulI (tC (.int 7919)) (tVar 1)) (tVar 1))) (tC (.int 13))) (tC (.int 48271))) (tC (.int 2147483647))) (gName 3))
      (tSeq (tIfS (tTest (tOp rLtI (tVar 2) (tOp rPowI (tC (.int 10)) (tC (.int 18)))))
      (tAsg (tC (.int 0)) (gName 2))
      tNext)
      (tRet (tLst (tCons (tVar 2) (tCons (tOp (rAddX K) (tOp rModI (tOp rMulI (tVar 3) (tVar 3)) (tC (.int 2147483587))) (tC (.int 1))) tNil)))))) { nx := fun _ H' => Q .non H', rt := Q } [some (.ref a), some (.int k), some (.int c), none] H1 := by
    intro c H1 s1
    have b1 : 0 ≤ c % 2147483629 ∧ c % 2147483629 < 2147483629 := ⟨Int.emod_nonneg _ (by decide), Int.emod_lt_of_pos _ (by decide)⟩
    have b2 : 0 ≤ 7919 * k ∧ 7919 * k ≤ 791900 := by omega
    have b3 : 0 ≤ 7919 * k * k ∧ 7919 * k * k ≤ 791900 * 100 := ⟨Int.mul_nonneg b2.1 k0, Int.mul_le_mul b2.2 k1 k0 (by decide)⟩
    refine un_asg2 (pd_mod (pd_mul (pd_add (pd_add (pd_mod (pd_var rfl rfl) pd_c (by decide)) (pd_mul (pd_mul pd_c (pd_var rfl rfl) (mulW_small (by decide) (small64 (by omega)))) (pd_var rfl rfl) (mulW_small (small64 (by omega)) (small64 (by omega))))) pd_c) pd_c (mulW_small (small64 (by omega)) (by decide))) pd_c (by decide)
      H1 (same_refl _) (same_refl _) _ fun v _ H2 g2 hv => ?_)
    cases hv
    generalize hz' : (c % 2147483629 + 7919 * k * k + 13) * 48271 % 2147483647 = z
    have z0 : 0 ≤ z ∧ z < 2147483647 := by
      rw [← hz']
      exact ⟨Int.emod_nonneg _ (by decide), Int.emod_lt_of_pos _ (by decide)⟩
    show tSeq _ _ _ [some (.ref a), some (.int k), some (.int c), some (.int z)] H2
    have fin : ∀ (c' : Int) (H3 : Hp), 0 ≤ c' → Same H H3 → tRet (tLst (tCons (tVar 2) (tCons (tOp (rAddX K) (tOp rModI (tOp rMulI (tVar 3) (tVar 3)) (tC (.int 2147483587))) (tC (.int 1))) tNil))) { nx := fun _ H' => Q .non H', rt := Q } [some (.ref a), some (.int k), some (.int c'), some (.int z)] H3 := by
      intro c' H3 hc s3
      have hz2 : z.natAbs < 2 ^ 250 := small64 (by omega)
      refine un_ret (un_lst (un_cons ⟨_, rfl, un_cons ?_⟩))
      refine pd_add (pd_mod (pd_mul (pd_var rfl rfl) (pd_var rfl rfl) (mulW_small hz2 hz2)) pd_c (by decide)) pd_c H3 (same_refl _) (same_refl _) _ fun v _ H4 g4 hv => ?_
      cases hv
      refine ⟨by show 2 ≤ sizeLine; decide, fun p hp => ?_⟩
      have m0 : 0 ≤ z * z % 2147483587 ∧ z * z % 2147483587 < 2147483587 := ⟨Int.emod_nonneg _ (by decide), Int.emod_lt_of_pos _ (by decide)⟩
      exact kk p c' _ _ ⟨hc, by omega, by omega⟩ ((s3.trans g4.h).free hp) ((s3.trans g4.h).trans (same_new hp)) upd_same
    refine q_if (R := H2) (b := decide (c < 10 ^ 18)) (td_test (pd_lt (pd_var rfl rfl) (pd_pow (i := 10) (j := 18) pd_c pd_c ⟨by decide, by decide, by decide⟩))) (same_refl _) (fun hb H3 s3 => ?_) (fun hb H3 s3 => ?_)
    · exact fin 0 H3 (by decide) ((s1.trans g2.h).trans s3)
    · have : ¬ (c < 10 ^ 18) := of_decide_eq_false hb
      exact fin c H3 (by omega) ((s1.trans g2.h).trans s3)
  have hlen : PD (tCB (rLenX K) (tCons (tVar 0) tNil)) [some (.ref a), some (.int k), some (.int 0), none] H H (tI (ns.length : Int)) := by
    have q := pd_lenS (K := K) (te := tVar 0) (σ := [some (.ref a), some (.int k), some (.int 0), none]) (G := H) (R := H) (pd_var rfl rfl) hS
    rw [List.length_map] at q
    exact q
  refine q_if (R := H) (b := decide (k < (ns.length : Int))) (td_test (pd_lt (pd_var rfl rfl) hlen)) (same_refl _) (fun hb H1 s1 => ?_) (fun hb H1 s1 => ?_)
  · have hk : k < (ns.length : Int) := of_decide_eq_true hb
    obtain ⟨c, e1, e2⟩ := atI_nat k0 hk
    have e3 : atI (ns.map V.int) k = some (.int c) := by
      obtain ⟨x, f1, f2⟩ := atI_nat (xs := ns.map V.int) k0 (by rw [List.length_map]; exact hk)
      rw [List.getElem?_map, e2] at f2
      cases f2
      exact f1
    refine un_asg (pd_ixS (K := K) (pd_var rfl rfl) (pd_var rfl rfl) (sqL_mono s1 hS) e3 H1 (same_refl _) (same_refl _) _ fun v _ H2 g2 hv => ?_)
    cases hv
    exact rest c H2 (s1.trans g2.h)
  · exact rest 0 H1 s1
theorem len_l_pool : ∀ vs H Q E, sp_l_pool K vs H Q E → vs.length = (["_law_script", "_law_k"] : List Str).length := by
  rintro vs H Q E ⟨a, ns, k, rfl, _⟩
  rfl
end
end BR
/-! Own layer, sixth part: draws out of lists, a loop over a range inside a block. -/
namespace BR
open PySem PySem.Spec PyProof.Rows L2
section
variable {K : Fg} {σ : St} {G R H : Hp} {ta tb te tl tn : TE} {φ ψ χ : Ty} {p : Addr} {Q : VK} {E : XK} {D : Ends} {tz tu : TS}
theorem at_map {α β : Type} {xs : List α} {f : α → β} {i : Int} {x : α} (h : atI xs i = some x) : atI (xs.map f) i = some (f x) := by
  unfold atI at h ⊢
  rw [List.length_map]
  cases q : ixN xs.length i with
  | none =>
    rw [q] at h
    cases h
  | some m =>
    rw [q] at h
    show (xs.map f)[m]? = _
    rw [List.getElem?_map, show xs[m]? = some x from h] <;> rfl
/-- [a, b, ..][take(pool, n)] -/
theorem k_pick {α : Type} {xs : List α} {f : α → Ty} {j : Nat} {n : Int} (i : PI p G H) (hl : PD tl σ G G (tL (xs.map f))) (hp : σ[j]? = some (some (.ref p))) (hn : ∀ G', Same G G' → PD tn σ G' G' (tI n)) (hz : n = (xs.length : Int)) (h0 : 0 < n) (h1 : n < 2 ^ 200)
    (k : ∀ x ∈ xs, ∀ v G' H', Same G G' → PI p G' H' → (f x).p G' v → Q v H') : tOp (rIx K) tl (tCall sp_l_take [] E (tCons (tVar j) (tCons tn tNil))) σ H Q := by
  refine un_op (k_pd i hl fun v G1 H1 s1 i1 hv => k_take i1 hp (hn G1 s1) h0 h1 fun r H2 r0 r1 i2 => ?_)
  obtain ⟨a, vs, rfl, b, c⟩ := hv
  obtain ⟨x, e1, e2⟩ := atI_nat (xs := xs) r0 (by omega)
  obtain ⟨u, g1, g2⟩ := at_of_all c (at_map e1)
  exact .inl ⟨a, vs, r, u, rfl, rfl, .of (i2.s _ _ b), g1, k x (List.mem_of_getElem? e2) u G1 H2 s1 i2 g2⟩
/-- .. of known values -/
theorem k_pickV {vs : List V} {j : Nat} {n : Int} (i : PI p G H) (hl : PD tl σ G G (tL (vs.map tv))) (hp : σ[j]? = some (some (.ref p))) (hn : ∀ G', Same G G' → PD tn σ G' G' (tI n)) (hz : n = (vs.length : Int)) (h0 : 0 < n) (h1 : n < 2 ^ 200)
    (k : ∀ x ∈ vs, ∀ H', PI p G H' → Q x H') : tOp (rIx K) tl (tCall sp_l_take [] E (tCons (tVar j) (tCons tn tNil))) σ H Q :=
  k_pick i hl hp hn hz h0 h1 fun x hx v G' H' s' i' hv => by
    cases hv
    exact k x hx H' ⟨s'.trans i'.s, s'.free i'.n, i'.h⟩
theorem PI.less {G' : Hp} (i : PI p G' H) (s : Same G G') : PI p G H := ⟨s.trans i.s, s.free i.n, i.h⟩
theorem PI.new {o : HO} {q : Addr} (i : PI p G H) (h : H q = none) : PI p (upd G q o) (upd H q o) := i.grow (.new i.s h)
theorem q_range {n : Int} {ta : TA} {g : TG} {tb : TS} (h : AD ta σ G R [tI n]) (sr : Same R H) (sg : Same G H) (hn : -(2 ^ 62) ≤ n ∧ n < 2 ^ 62) (Pv : Nat → St → Hp → Prop)
    (h0 : ∀ H1, Same H H1 → Pv 0 σ H1)
    (hs : ∀ (i : Nat) σ' Hi, (i : Int) < n → Pv i σ' Hi → g (.int (i : Int)) σ' Hi fun σ2 H2 => tb { D with nx := Pv (i + 1), ct := Pv (i + 1), bk := tz D } σ2 H2)
    (hd : ∀ σ' Hi, Pv n.toNat σ' Hi → tz D σ' Hi) : tSeq (tFor (iRng1 ta) g tb) tz D σ H :=
  s_range (D := { D with nx := tz D }) h sr sg hn Pv h0 hs hd
theorem q_for {α : Type} {xs : List α} {φ : α → Ty} {g : TG} {tb : TS} (h : PD tl σ G R (tSq (xs.map φ))) (sr : Same R H) (sg : Same G H) (Pv : Nat → St → Hp → Hp → Prop)
    (h0 : ∀ G1 H1, Grow G H G1 H1 → Pv 0 σ G1 H1)
    (hs : ∀ G1 H1, Grow G H G1 H1 → ∀ i a x σ' Gi Hi, xs[i]? = some a → Same G1 Gi → Same Gi Hi → (φ a).p Gi x → Pv i σ' Gi Hi →
      g x σ' Hi fun σ2 H2 => tb { D with nx := fun σ3 H3 => ∃ G3, Same G1 G3 ∧ Same G3 H3 ∧ Pv (i + 1) σ3 G3 H3, ct := fun σ3 H3 => ∃ G3, Same G1 G3 ∧ Same G3 H3 ∧ Pv (i + 1) σ3 G3 H3, bk := tz D } σ2 H2)
    (hd : ∀ G1 H1, Grow G H G1 H1 → ∀ σ' Gi Hi, Same G1 Gi → Same Gi Hi → Pv xs.length σ' Gi Hi → tz D σ' Hi) : tSeq (tFor (iSeq K tl) g tb) tz D σ H :=
  s_for (D := { D with nx := tz D }) h sr sg Pv h0 hs hd
theorem pd_dict : PD tDNewK σ G R (dt (.dict [])) := fun H sr sg Q q p hp => by
  refine q _ (upd G p (.dK [])) _ (.new sg hp) ?_
  simp only [dt]
  exact ⟨p, [], rfl, upd_same⟩
theorem pd_notB {a b : Bool} (ha : PD ta σ G R (tBo a)) (hb : PD tb σ G R (tBo b)) : PD (tOp rNotB ta tb) σ G R (tBo (!decide (a = b))) := pd_opv ha hb fun H Q q => ⟨a, b, rfl, rfl, q⟩
theorem pd_isB {a b : Bool} (ha : PD ta σ G R (tBo a)) (hb : PD tb σ G R (tBo b)) : PD (tOp rIsB ta tb) σ G R (tBo (decide (a = b))) := pd_opv ha hb fun H Q q => ⟨a, b, rfl, rfl, q⟩
/-- the law's turns: max(1, min(len(script), n)) -/
theorem pd_turns {a : Addr} {ns : List Int} {j : Nat} {n : Int} (hj : σ[j]? = some (some (.ref a))) (h : SqL K R a (ns.map V.int)) :
    PD (tCB rMax2 (tCons (tC (.int 1)) (tCons (tCB rMin2 (tCons (tCB (rLenX K) (tCons (tVar j) tNil)) (tCons (tC (.int n)) tNil))) tNil))) σ G R (tI (max 1 (min (ns.length : Int) n))) := by
  refine pd_max2 pd_c (pd_min2 ?_ pd_c)
  have q := pd_lenS (K := K) (te := tVar j) (σ := σ) (G := G) (R := R) (pd_var hj rfl) h
  rw [List.length_map] at q
  exact q
end
end BR
namespace BR
open PySem PySem.Spec PyProof.Rows L2
/-! ### the judgements of squares and boxes -/
def isI : PyData → Bool
  | .int _ => true
  | _ => false
def areI (d : PyData) (n : Int) : Bool := match d with
  | .tuple ds => decide ((ds.length : Int) = n) && ds.all isI
  | _ => false
def iv : PyData → Int
  | .int i => i
  | _ => 0
def isBx (d : PyData) : Bool := areI d 4 && (match d with
  | .tuple [.int a, .int b, .int c, .int e] => decide (a < c) && decide (b < e)
  | _ => false)
def sp_is_integer : Sp := spT fun φs φ => ∃ d, φs = [dt d] ∧ φ = tBo (isI d)
def sp_are_integers : Sp := spT fun φs φ => ∃ d n, φs = [dt d, tI n] ∧ (∀ ds, d = .tuple ds → ds.length ≤ 100000) ∧ φ = tBo (areI d n)
def sp_is_square : Sp := spT fun φs φ => ∃ d, (∀ ds, d = .tuple ds → ds.length ≤ 100000) ∧ φs = [dt d] ∧ φ = tBo (areI d 2)
def sp_is_box : Sp := spT fun φs φ => ∃ d, (∀ ds, d = .tuple ds → ds.length ≤ 100000) ∧ φs = [dt d] ∧ φ = tBo (isBx d)

def t_is_integer (K : Fg) : TS :=
  (tRet (tAndV (tCB (rIsi K) (tCons (tVar 0) (tCons (tC (.ty "int")) tNil))) (tNotV (tCB (rIsi K) (tCons (tVar 0) (tCons (tC (.ty "bool")) tNil))))))
def t_are_integers (K : Fg) : TS :=
  (tRet (tAndV (tCB (rIsi K) (tCons (tVar 0) (tCons (tC (.ty "tuple")) tNil))) (tAndV (tOp (rEqX K) (tCB (rLenX K) (tCons (tVar 0) tNil)) (tVar 1)) (tCB (rAll K) (tCons (tLc (iSeq K (tVar 0)) (gName 2) tYes (tCall sp_is_integer [] E0 (tCons (tVar 2) tNil)) [2]) tNil)))))
def t_is_square (K : Fg) : TS :=
  (tRet (tCall sp_are_integers [] E0 (tCons (tVar 0) (tCons (tC (.int 2)) tNil))))
def t_is_box (K : Fg) : TS :=
  (tRet (tAndV (tCall sp_are_integers [] E0 (tCons (tVar 0) (tCons (tC (.int 4)) tNil))) (tAndV (tOp rLtI (tOp (rIx K) (tVar 0) (tC (.int 0))) (tOp (rIx K) (tVar 0) (tC (.int 2)))) (tOp rLtI (tOp (rIx K) (tVar 0) (tC (.int 1))) (tOp (rIx K) (tVar 0) (tC (.int 3)))))))

theorem kitB_of {a b : String} {r : Bool} {K : Fg} (h : kitB a b = some r) : PySem.W.kitOne K (.type a) (.type b) = some r := kit_ty h
theorem kit_int (d : PyData) : kitB (clsD d) "int" = some (match d with | .int _ => true | .bool _ => true | _ => false) := by
  cases d with
  | none => exact (by decide +kernel : kitB "NoneType" "int" = some false)
  | bool _ => exact (by decide +kernel : kitB "bool" "int" = some true)
  | int _ => exact (by decide +kernel : kitB "int" "int" = some true)
  | str _ => exact (by decide +kernel : kitB "str" "int" = some false)
  | list _ => exact (by decide +kernel : kitB "list" "int" = some false)
  | tuple _ => exact (by decide +kernel : kitB "tuple" "int" = some false)
  | dict _ => exact (by decide +kernel : kitB "dict" "int" = some false)
theorem kit_bool (d : PyData) : kitB (clsD d) "bool" = some (match d with | .bool _ => true | _ => false) := by
  cases d with
  | none => exact (by decide +kernel : kitB "NoneType" "bool" = some false)
  | bool _ => exact (by decide +kernel : kitB "bool" "bool" = some true)
  | int _ => exact (by decide +kernel : kitB "int" "bool" = some false)
  | str _ => exact (by decide +kernel : kitB "str" "bool" = some false)
  | list _ => exact (by decide +kernel : kitB "list" "bool" = some false)
  | tuple _ => exact (by decide +kernel : kitB "tuple" "bool" = some false)
  | dict _ => exact (by decide +kernel : kitB "dict" "bool" = some false)
theorem kit_tuple (d : PyData) : kitB (clsD d) "tuple" = some (match d with | .tuple _ => true | _ => false) := by
  cases d with
  | none => exact (by decide +kernel : kitB "NoneType" "tuple" = some false)
  | bool _ => exact (by decide +kernel : kitB "bool" "tuple" = some false)
  | int _ => exact (by decide +kernel : kitB "int" "tuple" = some false)
  | str _ => exact (by decide +kernel : kitB "str" "tuple" = some false)
  | list _ => exact (by decide +kernel : kitB "list" "tuple" = some false)
  | tuple _ => exact (by decide +kernel : kitB "tuple" "tuple" = some true)
  | dict _ => exact (by decide +kernel : kitB "dict" "tuple" = some false)
section
variable {K : Fg}
theorem pure_is_integer : ∀ vs H (Q : VK) (E : XK), sp_is_integer vs H Q E → t_is_integer K { nx := fun _ H' => Q .non H', rt := Q } (L2.start ["thing"] vs) H := by
  refine pureT ?_
  rintro G φs φ vs H s1 hv ⟨d, rfl, rfl⟩ D k
  cases hv with
  | cons h1 h2 =>
    cases h2
    refine s_ret (G := G) (R := G) (φ := tBo (isI d)) ?_ s1 s1 k
    have v0 : ∀ {R : Hp}, PD (tVar 0) (L2.start ["thing"] [_]) G R (dt d) := pd_var rfl h1
    refine PD.is (pd_andV (pd_isi v0 (tyx_dt d) (kit_ty (kit_int d))) (fun _ => pd_notV (pd_isi v0 (tyx_dt d) (kit_ty (kit_bool d))))) ?_
    cases d <;> rfl
theorem len_is_integer : ∀ vs H Q E, sp_is_integer vs H Q E → vs.length = (["thing"] : List Str).length := lenT (by rintro φs φ ⟨d, rfl, _⟩; rfl)
theorem areI_other {d : PyData} {n : Int} (h : (match d with | .tuple _ => true | _ => false) = false) : areI d n = false := by
  cases d <;> first | rfl | cases h
theorem pure_are_integers : ∀ vs H (Q : VK) (E : XK), sp_are_integers vs H Q E → t_are_integers K { nx := fun _ H' => Q .non H', rt := Q } (L2.start ["thing", "count", "number"] vs) H := by
  refine pureT ?_
  rintro G φs φ vs H s1 hv ⟨d, n, rfl, hz, rfl⟩ D k
  cases hv with
  | cons h1 h2 =>
    cases h2 with
    | cons h2 h3 =>
      cases h3
      cases h2
      rename_i v
      refine s_ret (G := G) (R := G) (φ := tBo (areI d n)) ?_ s1 s1 k
      have v0 : PD (tVar 0) (L2.start ["thing", "count", "number"] [v, .int n]) G G (dt d) := pd_var rfl h1
      have a0 := pd_isi v0 (tyx_dt (K := K) d) (kit_ty (kit_tuple d))
      cases hd : d with
      | tuple ds =>
        subst hd
        rw [dt_tuple] at v0
        refine PD.is (pd_andV a0 fun _ => pd_andV (b := ds.all isI) (pd_eqI (pd_lenT v0) (pd_var rfl rfl)) fun _ => ?_) ?_
        · have e : ds.all isI = (ds.map isI).all id := by rw [List.all_map] <;> rfl
          rw [e]
          refine pd_all ?_
          rw [List.map_map]
          refine pd_lcM (xs := ds) (φ := dt) v0.sqT (hz ds rfl) ?_
          intro a ha x Gi Ri s1 s2 s3 hx
          exact ⟨_, gd_name, rfl, pd_call (ad_cons (pd_var rfl hx) ad_nil) ⟨a, rfl, rfl⟩⟩
        · rw [List.length_map] <;> rfl
      | _ =>
        subst hd
        exact PD.is (pd_andV (b := false) a0 fun q => nomatch q) rfl
theorem len_are_integers : ∀ vs H Q E, sp_are_integers vs H Q E → vs.length = (["thing", "count"] : List Str).length := lenT (by rintro φs φ ⟨d, n, rfl, _⟩; rfl)
theorem pure_is_square : ∀ vs H (Q : VK) (E : XK), sp_is_square vs H Q E → t_is_square K { nx := fun _ H' => Q .non H', rt := Q } (L2.start ["thing"] vs) H := by
  refine pureT ?_
  rintro G φs φ vs H s1 hv ⟨d, hz, rfl, rfl⟩ D k
  cases hv with
  | cons h1 h2 =>
    cases h2
    exact s_ret (G := G) (R := G) (pd_call (ad_cons (pd_var rfl h1) (ad_cons pd_c ad_nil)) ⟨d, 2, rfl, hz, rfl⟩) s1 s1 k
theorem len_is_square : ∀ vs H Q E, sp_is_square vs H Q E → vs.length = (["thing"] : List Str).length := lenT (by rintro φs φ ⟨d, _, rfl, _⟩; rfl)
theorem areI_4 {d : PyData} (h : areI d 4 = true) : ∃ a b c e, d = .tuple [.int a, .int b, .int c, .int e] := by
  cases d with
  | tuple ds =>
    simp only [areI, Bool.and_eq_true, decide_eq_true_eq] at h
    obtain ⟨h1, h2⟩ := h
    match ds, h1, h2 with
    | [x, y, z, w], _, h2 =>
      simp only [List.all_cons, List.all_nil, Bool.and_eq_true, Bool.and_true] at h2
      obtain ⟨a1, a2, a3, a4⟩ := h2
      cases x <;> first | cases a1 | skip
      cases y <;> first | cases a2 | skip
      cases z <;> first | cases a3 | skip
      cases w <;> first | cases a4 | skip
      exact ⟨_, _, _, _, rfl⟩
    | [], h1, _ => simp at h1
    | [_], h1, _ => simp at h1
    | [_, _], h1, _ => simp at h1
    | [_, _, _], h1, _ => simp at h1
    | _ :: _ :: _ :: _ :: _ :: l, h1, _ => simp at h1; omega
  | _ => cases h
theorem isBx_eq {a b c e : Int} : isBx (.tuple [.int a, .int b, .int c, .int e]) = (true && (decide (a < c) && decide (b < e))) := rfl
theorem pure_is_box : ∀ vs H (Q : VK) (E : XK), sp_is_box vs H Q E → t_is_box K { nx := fun _ H' => Q .non H', rt := Q } (L2.start ["thing"] vs) H := by
  refine pureT ?_
  rintro G φs φ vs H s1 hv ⟨d, hz, rfl, rfl⟩ D k
  cases hv with
  | cons h1 h2 =>
    cases h2
    rename_i v
    refine s_ret (G := G) (R := G) (φ := tBo (isBx d)) ?_ s1 s1 k
    have a0 : PD (tCall sp_are_integers [] E0 (tCons (tVar 0) (tCons (tC (.int 4)) tNil))) (L2.start ["thing"] [v]) G G (tBo (areI d 4)) := pd_call (ad_cons (pd_var rfl h1) (ad_cons pd_c ad_nil)) ⟨d, 4, rfl, hz, rfl⟩
    by_cases h4 : areI d 4 = true
    · obtain ⟨a, b, c, e, rfl⟩ := areI_4 h4
      rw [isBx_eq]
      have v0 : PD (tVar 0) (L2.start ["thing"] [v]) G G (tT [tI a, tI b, tI c, tI e]) := by
        have q : PD (tVar 0) (L2.start ["thing"] [v]) G G (dt (.tuple [.int a, .int b, .int c, .int e])) := pd_var rfl h1
        rw [dt_tuple] at q
        simpa only [List.map_cons, List.map_nil, dt_int] using q
      exact pd_andV a0 fun _ => pd_andV (pd_lt (pd_ixTX v0 pd_c rfl) (pd_ixTX v0 pd_c rfl)) fun _ => pd_lt (pd_ixTX v0 pd_c rfl) (pd_ixTX v0 pd_c rfl)
    · have h4' : areI d 4 = false := by simpa using h4
      rw [h4'] at a0
      refine PD.is (pd_andV (b := false) a0 fun q => nomatch q) ?_
      unfold isBx
      rw [h4'] <;> rfl
theorem len_is_box : ∀ vs H Q E, sp_is_box vs H Q E → vs.length = (["thing"] : List Str).length := lenT (by rintro φs φ ⟨d, _, rfl, _⟩; rfl)
end
end BR
namespace BR
open PySem PySem.Spec PyProof.Rows L2
/-! ### law k01 -/
def It1 (x : PyData) : Prop := x = .none ∨ x = .bool true ∨ x = .str "1" ∨ x = .tuple [.int 1] ∨ ∃ i : Int, x = .int i ∧ i.natAbs < 2 ^ 200
def Gd (d : PyData) : Prop := ∃ ds : List PyData, (d = .tuple ds ∨ d = .list ds) ∧ ds.length ≤ 20 ∧ ∀ x ∈ ds, It1 x
def sp_l_is_tuple : Sp := spT fun φs φ => ∃ d n, Gd d ∧ φs = [dt d, tI n] ∧ φ = tBo (areI d n)
def sp_l_judged : Sp := spT fun φs φ => ∃ d, Gd d ∧ φs = [dt d] ∧ φ = dt (.list [.bool (areI d 2), .bool (isBx d)])
def sp_l_bent : Sp := fun vs H Q _ => ∃ (p : Addr) (G : Hp) (v : V) (xs : List Int), vs = [.ref p, v] ∧ PI p G H ∧ (tT (xs.map tI)).p G v ∧ 1 ≤ xs.length ∧ xs.length ≤ 4 ∧ (∀ i ∈ xs, i.natAbs < 2 ^ 150) ∧
  ∀ d u G' H', Gd d → Same G G' → PI p G' H' → (dt d).p G' u → Q u H'
def sp_law (K : Fg) : Sp := fun vs H Q _ => ∃ (a : Addr) (ns : List Int), vs = [.ref a] ∧ SqL K H a (ns.map V.int) ∧ ns.length ≤ 63 ∧ ∀ H', Q (.bl true) H'

def t_l_is_tuple (K : Fg) : TS :=
  (tSeq (tIfS (tOr (tNot (tB (tCB (rIsi K) (tCons (tVar 0) (tCons (tC (.ty "tuple")) tNil))))) (tTest (tOp (rNeX K) (tCB (rLenX K) (tCons (tVar 0) tNil)) (tVar 1))))
  (tRet (tC (.bl false)))
  tNext)
  (tRet (tOp (rEqX K) (tLc (iSeq K (tVar 0)) (gName 2) (tOr (tNot (tB (tCB (rIsi K) (tCons (tVar 2) (tCons (tC (.ty "int")) tNil))))) (tB (tCB (rIsi K) (tCons (tVar 2) (tCons (tC (.ty "bool")) tNil))))) (tVar 2) [2]) (tLst tNil))))
def t_l_judged (K : Fg) : TS :=
  (tSeq (tAsg (tCall sp_l_is_tuple [] E0 (tCons (tVar 0) (tCons (tC (.int 4)) tNil))) (gName 1))
  (tRet (tLst (tCons (tCall sp_l_is_tuple [] E0 (tCons (tVar 0) (tCons (tC (.int 2)) tNil))) (tCons (tAndV (tVar 1) (tAndV (tOp rLtI (tOp (rIx K) (tVar 0) (tC (.int 0))) (tOp (rIx K) (tVar 0) (tC (.int 2)))) (tOp rLtI (tOp (rIx K) (tVar 0) (tC (.int 1))) (tOp (rIx K) (tVar 0) (tC (.int 3)))))) tNil)))))
def t_l_bent (K : Fg) : TS :=
  (tSeq (tAsg (tCall sp_l_take [] E0 (tCons (tVar 0) (tCons (tCB (rLenX K) (tCons (tVar 1) tNil)) tNil))) (gName 2))
  (tSeq (tAsg (tOp (rIx K) (tLst (tCons (tC .non) (tCons (tC (.bl true)) (tCons (tC (.str ("1" : Str))) (tCons (tC (.int 0)) (tCons (tUn rNegI (tC (.int 1))) (tCons (tTup (tCons (tC (.int 1)) tNil)) (tCons (tOp (rAddX K) (tOp (rIx K) (tVar 1) (tVar 2)) (tC (.int 1))) (tCons (tOp (rIx K) (tVar 1) (tUn rNegI (tC (.int 1)))) (tCons (tOp (rIx K) (tVar 1) (tC (.int 0))) tNil)))))))))) (tCall sp_l_take [] E0 (tCons (tVar 0) (tCons (tC (.int 9)) tNil)))) (gName 3))
  (tSeq (tAsg (tLst (tCons (tVar 1) (tCons (tOp (rAddX K) (tOp (rAddX K) (tSl (rSlX K) (tVar 1) tNoPart (tPart (tVar 2))) (tTup (tCons (tVar 3) tNil))) (tSl (rSlX K) (tVar 1) (tPart (tOp (rAddX K) (tVar 2) (tC (.int 1)))) tNoPart)) (tCons (tOp (rAddX K) (tVar 1) (tTup (tCons (tVar 3) tNil))) (tCons (tSl (rSlX K) (tVar 1) (tPart (tC (.int 1))) tNoPart) (tCons (tCB (rListOf K) (tCons (tVar 1) tNil)) (tCons (tRevT K (tVar 1)) tNil))))))) (gName 4))
  (tRet (tOp (rIx K) (tOp (rAddX K) (tVar 4) (tLst (tCons (tVar 1) (tCons (tOp (rAddX K) (tOp (rAddX K) (tSl (rSlX K) (tVar 1) tNoPart (tPart (tVar 2))) (tTup (tCons (tVar 3) tNil))) (tSl (rSlX K) (tVar 1) (tPart (tOp (rAddX K) (tVar 2) (tC (.int 1)))) tNoPart)) tNil)))) (tCall sp_l_take [] E0 (tCons (tVar 0) (tCons (tC (.int 8)) tNil))))))))
def t_law (K : Fg) : TS :=
  (tSeq (tFor (iRng1 (tCons (tCB rMax2 (tCons (tC (.int 1)) (tCons (tCB rMin2 (tCons (tCB (rLenX K) (tCons (tVar 0) tNil)) (tCons (tC (.int 6)) tNil))) tNil))) tNil)) (gName 1)
  (tSeq (tAsg (tCall (sp_l_pool K) [] E0 (tCons (tVar 0) (tCons (tVar 1) tNil))) (gName 2))
  (tSeq (tFor (iRng1 (tCons (tC (.int 16)) tNil)) (gName 3)
  (tSeq (tAsg (tOp (rIx K) (tLst (tCons (tC (.int 5)) (tCons (tOp rPowI (tC (.int 10)) (tC (.int 18))) tNil))) (tCall sp_l_take [] E0 (tCons (tVar 2) (tCons (tC (.int 2)) tNil)))) (gName 4))
  (tSeq (tPar 5 6 (tCons (tOp rSubI (tCall sp_l_take [] E0 (tCons (tVar 2) (tCons (tVar 4) tNil))) (tOp rDivI (tVar 4) (tC (.int 2)))) (tCons (tOp rSubI (tCall sp_l_take [] E0 (tCons (tVar 2) (tCons (tVar 4) tNil))) (tOp rDivI (tVar 4) (tC (.int 2)))) tNil)))
  (tSeq (tAsg (tOp rMulI (tVar 6) (tOp (rIx K) (tLst (tCons (tC (.int 1)) (tCons (tOp rPowI (tC (.int 10)) (tC (.int 12))) tNil))) (tCall sp_l_take [] E0 (tCons (tVar 2) (tCons (tC (.int 2)) tNil))))) (gName 6))
  (tSeq (tAsg (tCall sp_l_bent [] E0 (tCons (tVar 2) (tCons (tTup (tCons (tVar 5) (tCons (tVar 6) tNil))) tNil))) (gName 7))
  (tSeq (tAsg (tCall sp_l_bent [] E0 (tCons (tVar 2) (tCons (tTup (tCons (tVar 5) (tCons (tVar 6) (tCons (tOp (rAddX K) (tOp (rAddX K) (tVar 5) (tC (.int 1))) (tCall sp_l_take [] E0 (tCons (tVar 2) (tCons (tVar 4) tNil)))) (tCons (tOp (rAddX K) (tOp (rAddX K) (tVar 6) (tC (.int 1))) (tCall sp_l_take [] E0 (tCons (tVar 2) (tCons (tVar 4) tNil)))) tNil))))) tNil))) (gName 8))
  (tFor (iSeq K (tLst (tCons (tVar 7) (tCons (tVar 8) tNil)))) (gName 9)
  (tSeq (tAsg (tCB (rReprX K) (tCons (tVar 9) tNil)) (gName 10))
  (tIfS (tOr (tTest (tOp (rNeX K) (tCB (rReprX K) (tCons (tLst (tCons (tCall sp_is_square [] E0 (tCons (tVar 9) tNil)) (tCons (tCall sp_is_box [] E0 (tCons (tVar 9) tNil)) tNil))) tNil)) (tCB (rReprX K) (tCons (tCall sp_l_judged [] E0 (tCons (tVar 9) tNil)) tNil)))) (tTest (tOp (rNeX K) (tCB (rReprX K) (tCons (tVar 9) tNil)) (tVar 10))))
  (tRet (tC (.bl false)))
  tNext)))))))))
  (tFor (iSeq K (tLst (tCons (tC .non) (tCons (tC (.int 5)) (tCons (tC (.str ("0 0 1 1" : Str))) (tCons tDNewK (tCons (tLst tNil) (tCons (tTup tNil) (tCons (tTup (tCons (tC (.int 0)) tNil)) (tCons (tLst (tCons (tC (.int 0)) (tCons (tC (.int 0)) tNil))) (tCons (tTup (tCons (tC (.int 0)) (tCons (tC (.int 0)) (tCons (tC (.int 0)) tNil)))) (tCons (tTup (tCons (tTup (tCons (tC (.int 0)) (tCons (tC (.int 0)) tNil))) (tCons (tTup (tCons (tC (.int 1)) (tCons (tC (.int 1)) tNil))) tNil))) tNil)))))))))))) (gName 11)
  (tIfS (tOr (tTest (tOp rNotB (tCall sp_is_square [] E0 (tCons (tVar 11) tNil)) (tC (.bl false)))) (tTest (tOp rNotB (tCall sp_is_box [] E0 (tCons (tVar 11) tNil)) (tC (.bl false)))))
  (tRet (tC (.bl false)))
  tNext)))))
  (tRet (tC (.bl true))))

theorem str1 : reprText "1" = "'1'" := by decide +kernel
theorem It1.shows {x : PyData} (h : It1 x) : Shows x 2000 ∧ x.depth ≤ 59 := by
  rcases h with rfl | rfl | rfl | rfl | ⟨i, rfl, hi⟩
  · exact ⟨shows_none.mono (by decide), by decide⟩
  · exact ⟨(shows_bool true).mono (by decide), by decide⟩
  · refine ⟨(shows_str (by decide +kernel)).mono ?_, by decide⟩
    rw [str1]
    decide +kernel
  · refine ⟨(shows_tuple (showsAll_of (m := 1921) [.int 1] ?_)).mono (by decide), by decide⟩
    intro d hd
    rw [List.mem_singleton.mp hd]
    exact ⟨shows_int (by decide +kernel), by decide⟩
  · exact ⟨(shows_int (Nat.lt_of_lt_of_le hi (Nat.pow_le_pow_right (by decide) (by decide)))).mono (by decide), by simp [PyData.depth]⟩
theorem Gd.shows {d : PyData} (h : Gd d) : Shows d 50000 := by
  obtain ⟨ds, hd, hl, hi⟩ := h
  have a := showsAll_of ds fun x hx => (hi x hx).shows
  have b : ds.length * (2000 + 2) ≤ 20 * 2002 := Nat.mul_le_mul_right _ hl
  rcases hd with rfl | rfl
  · exact (shows_tuple a).mono (by omega)
  · exact (shows_list a).mono (by omega)
theorem Gd.ref {d : PyData} (h : Gd d) : ∀ G v, (dt d).p G v → ∃ a, v = .ref a := by
  obtain ⟨ds, rfl | rfl, _⟩ := h
  · exact ref_tuple
  · exact ref_list
theorem Gd.len {d : PyData} (h : Gd d) : ∀ ds, d = .tuple ds → ds.length ≤ 100000 := by
  obtain ⟨es, hd, hl, hi⟩ := h
  rintro ds rfl
  rcases hd with e | e
  · cases e
    omega
  · cases e
section
variable {K : Fg}
theorem eqv_nil (xs : List PyData) : PyData.eqv (.list xs) (.list []) = xs.isEmpty := by
  cases xs with
  | nil => simp [PyData.eqv, PyData.eqvAll]
  | cons x xs => simp [PyData.eqv, PyData.eqvAll]
theorem filter_bad (ds : List PyData) : (ds.filter fun x => !isI x).isEmpty = ds.all isI := by
  induction ds with
  | nil => rfl
  | cons x xs ih =>
    cases q : isI x with
    | true => simpa [q] using ih
    | false => simp [q]
theorem shaped_of {d : PyData} {n : Nat} (h : Shows d n) : SeqAt.shaped d = true := by
  unfold SeqAt.shaped
  rw [h.lay, decide_eq_true (Nat.le_trans h.dep (by decide))] <;> rfl
theorem pure_l_is_tuple : ∀ vs H (Q : VK) (E : XK), sp_l_is_tuple vs H Q E → t_l_is_tuple K { nx := fun _ H' => Q .non H', rt := Q } (L2.start ["_law_thing", "_law_many", "_law_one"] vs) H := by
  refine pureT ?_
  rintro G φs φ vs H s1 hv ⟨d, n, hg, rfl, rfl⟩ D k
  cases hv with
  | cons h1 h2 =>
    cases h2 with
    | cons h2 h3 =>
      cases h3
      cases h2
      rename_i v
      have v0 : ∀ R : Hp, PD (tVar 0) (L2.start ["_law_thing", "_law_many", "_law_one"] [v, .int n]) G R (dt d) := fun R => pd_var rfl h1
      have a0 : TD (tB (tCB (rIsi K) (tCons (tVar 0) (tCons (tC (.ty "tuple")) tNil)))) (L2.start ["_law_thing", "_law_many", "_law_one"] [v, .int n]) G _ := td_B (pd_isi (v0 G) (tyx_dt (K := K) d) (kit_ty (kit_tuple d)))
      obtain ⟨ds, rfl | rfl, hl, hi⟩ := hg
      · have w0 := v0 G
        rw [dt_tuple] at w0
        refine q_when (R := G) (td_or (td_not a0) fun _ => td_test (pd_neI (pd_lenT w0) (pd_var rfl rfl))) s1 (fun hb H1 s2 => ?_) (fun hb H1 s2 => ?_)
        · have e : areI (.tuple ds) n = false := by
            rw [List.length_map] at hb
            have hb' : (!decide ((ds.length : Int) = n)) = true := hb
            show (decide ((ds.length : Int) = n) && ds.all isI) = false
            cases q : decide ((ds.length : Int) = n)
            · rfl
            · rw [q] at hb'
              cases hb'
          exact s_ret (G := G) (R := G) (φ := tBo (areI (.tuple ds) n)) (by rw [e]; exact pd_c) (s1.trans s2) (s1.trans s2) fun v G' H' g hv => k v G' H' ((Grow.rest s1 s2).trans g) hv
        · have e : areI (.tuple ds) n = ds.all isI := by
            rw [List.length_map] at hb
            have hb' : (!decide ((ds.length : Int) = n)) = false := hb
            show (decide ((ds.length : Int) = n) && ds.all isI) = ds.all isI
            cases q : decide ((ds.length : Int) = n)
            · rw [q] at hb'
              cases hb'
            · rfl
          refine s_ret (G := G) (R := G) (φ := tBo (areI (.tuple ds) n)) ?_ (s1.trans s2) (s1.trans s2) fun v G' H' g hv => k v G' H' ((Grow.rest s1 s2).trans g) hv
          have sh : ShowsAll (ds.filter fun x => !isI x) _ := showsAll_of _ fun x hx => (hi x (List.mem_filter.mp hx).1).shows
          refine PD.is (pd_eqD (d := .list (ds.filter fun x => !isI x)) (e := .list []) ?_ ?_ (shaped_of (shows_list sh)) rfl) ?_
          · rw [dt_list]
            refine pd_lc (xs := ds) (φ := dt) w0.sqT (by omega) ?_
            intro x hx u Gi Ri t1 t2 t3 hu
            refine ⟨_, gd_name, rfl, ?_, fun _ => pd_var rfl hu⟩
            have hu' := (dt x).m _ _ _ t3 hu
            refine TD.is (td_or (td_not (td_B (pd_isi (φ := dt x) (pd_var rfl hu') (tyx_dt (K := K) x) (kit_ty (kit_int x))))) fun _ => td_B (pd_isi (φ := dt x) (pd_var rfl hu') (tyx_dt (K := K) x) (kit_ty (kit_bool x)))) ?_
            cases x <;> rfl
          · rw [dt_list]
            exact pd_lst ad_nil (by decide)
          · rw [eqv_nil, e]
            congr 1
            exact filter_bad ds
      · refine q_if (R := G) (td_or (b := true) (td_not a0) fun q => nomatch q) s1 (fun hb H1 s2 => ?_) (fun hb H1 s2 => nomatch hb)
        exact s_ret (G := G) (R := G) (φ := tBo (areI (.list ds) n)) pd_c (s1.trans s2) (s1.trans s2) fun v G' H' g hv => k v G' H' ((Grow.rest s1 s2).trans g) hv
theorem len_l_is_tuple : ∀ vs H Q E, sp_l_is_tuple vs H Q E → vs.length = (["_law_thing", "_law_many"] : List Str).length := lenT (by rintro φs φ ⟨d, n, _, rfl, _⟩; rfl)
theorem pure_l_judged : ∀ vs H (Q : VK) (E : XK), sp_l_judged vs H Q E → t_l_judged K { nx := fun _ H' => Q .non H', rt := Q } (L2.start ["_law_thing", "_law_right"] vs) H := by
  refine pureT ?_
  rintro G φs φ vs H s1 hv ⟨d, hg, rfl, rfl⟩ D k
  cases hv with
  | cons h1 h2 =>
    cases h2
    rename_i v
    refine q_asg (G := G) (R := G) (pd_call (ad_cons (pd_var rfl h1) (ad_cons pd_c ad_nil)) ⟨d, 4, hg, rfl, rfl⟩) s1 s1 fun u G1 H1 g1 hu => ?_
    cases hu
    have h1' := (dt d).m _ _ _ g1.g h1
    refine s_ret (G := G1) (R := G1) (φ := dt (.list [.bool (areI d 2), .bool (isBx d)])) ?_ g1.s g1.s fun v G' H' g hv => k v G' H' (g1.trans g) hv
    rw [dt_list]
    refine pd_lst (φs := [dt (.bool (areI d 2)), dt (.bool (isBx d))]) ?_ (by simp)
    rw [dt_bool, dt_bool]
    refine ad_cons (pd_call (ad_cons (pd_var rfl h1') (ad_cons pd_c ad_nil)) ⟨d, 2, hg, rfl, rfl⟩) (ad_cons ?_ ad_nil)
    by_cases h4 : areI d 4 = true
    · obtain ⟨a, b, c, e, rfl⟩ := areI_4 h4
      rw [isBx_eq]
      have v0 : PD (tVar 0) ((L2.start ["_law_thing", "_law_right"] [v]).set 1 (some (.bl (areI (.tuple [.int a, .int b, .int c, .int e]) 4)))) G1 G1 (tT [tI a, tI b, tI c, tI e]) := by
        have q : PD (tVar 0) ((L2.start ["_law_thing", "_law_right"] [v]).set 1 (some (.bl (areI (.tuple [.int a, .int b, .int c, .int e]) 4)))) G1 G1 (dt (.tuple [.int a, .int b, .int c, .int e])) := pd_var rfl h1'
        rw [dt_tuple] at q
        simpa only [List.map_cons, List.map_nil, dt_int] using q
      exact pd_andV (a := true) (pd_var rfl (by rw [h4] <;> rfl)) fun _ => pd_andV (pd_lt (pd_ixTX v0 pd_c rfl) (pd_ixTX v0 pd_c rfl)) fun _ => pd_lt (pd_ixTX v0 pd_c rfl) (pd_ixTX v0 pd_c rfl)
    · have h4' : areI d 4 = false := by simpa using h4
      refine PD.is (pd_andV (a := false) (b := false) (pd_var rfl (by rw [h4'] <;> rfl)) fun q => nomatch q) ?_
      unfold isBx
      rw [h4'] <;> rfl
theorem len_l_judged : ∀ vs H Q E, sp_l_judged vs H Q E → vs.length = (["_law_thing"] : List Str).length := lenT (by rintro φs φ ⟨d, _, rfl, _⟩; rfl)
theorem len_l_bent : ∀ vs H Q E, sp_l_bent vs H Q E → vs.length = (["_law_pool_here", "_law_thing"] : List Str).length := by
  rintro vs H Q E ⟨p, G, v, xs, rfl, _⟩
  rfl
theorem dt_ints (xs : List Int) : dt (.tuple (xs.map .int)) = tT (xs.map tI) := by
  rw [dt_tuple, List.map_map]
  have q : xs.map (dt ∘ PyData.int) = xs.map tI := List.map_congr_left fun x _ => dt_int x
  rw [q]
theorem dt_one (o : PyData) : dt (.tuple [o]) = tT [dt o] := by rw [dt_tuple] <;> rfl
theorem It1.int {i : Int} (h : i.natAbs < 2 ^ 200) : It1 (.int i) := .inr (.inr (.inr (.inr ⟨i, rfl, h⟩)))
theorem pure_l_bent : ∀ vs H (Q : VK) (E : XK), sp_l_bent vs H Q E → t_l_bent K { nx := fun _ H' => Q .non H', rt := Q } (L2.start ["_law_pool_here", "_law_thing", "_law_at", "_law_odd", "_law_some"] vs) H := by
  rintro vs H Q E ⟨p, G, v, xs, rfl, i0, hv, l1, l4, hx, k⟩
  have big : ∀ {i : Int}, i.natAbs < 2 ^ 150 → i.natAbs + 1 < 2 ^ 200 := fun {i} h => by
    have : (2 : Nat) ^ 150 + 1 ≤ 2 ^ 200 := by decide +kernel
    omega
  -- at
  refine un_asg2 (k_take i0 rfl (pd_lenT (pd_var rfl hv)) (by rw [List.length_map]; omega) (by rw [List.length_map]; omega) fun r H1 r0 r1 i1 => ?_)
  rw [List.length_map] at r1
  obtain ⟨xr, er, er'⟩ := atI_nat (xs := xs) r0 r1
  have hxr := hx xr (List.mem_of_getElem? er')
  obtain ⟨xl, el, el'⟩ : ∃ y, atI xs (-1) = some y ∧ y ∈ xs := by
    have hn : xs.length - 1 < xs.length := by omega
    refine ⟨xs[xs.length - 1], ?_, List.getElem_mem hn⟩
    unfold atI ixN
    rw [if_neg (by decide), if_pos (by omega)]
    have e : ((-1 : Int) + (xs.length : Int)).toNat = xs.length - 1 := by omega
    show xs[((-1 : Int) + (xs.length : Int)).toNat]? = _
    rw [e]
    simp [hn]
  obtain ⟨xf, ef, ef'⟩ := atI_nat (xs := xs) (i := 0) (by decide) (by omega)
  have mp : ∀ {j : Int} {y : Int}, atI xs j = some y → atI (xs.map tI) j = some (tI y) := by
    intro j y h
    unfold atI at h ⊢
    rw [List.length_map]
    cases q : ixN xs.length j with
    | none =>
      rw [q] at h
      cases h
    | some m =>
      rw [q] at h
      show (xs.map tI)[m]? = _
      rw [List.getElem?_map, show xs[m]? = some y from h] <;> rfl
  -- odd
  have hod : ∀ x ∈ ([.none, .bool true, .str "1", .int 0, .int (-1), .tuple [.int 1], .int (xr + 1), .int xl, .int xf] : List PyData), It1 x := by
    have b1 := big hxr
    have b2 := big (hx xl el')
    have b3 := big (hx xf (List.mem_of_getElem? ef'))
    intro x hx
    simp only [List.mem_cons, List.not_mem_nil, or_false] at hx
    rcases hx with rfl | rfl | rfl | rfl | rfl | rfl | rfl | rfl | rfl
    · exact .inl rfl
    · exact .inr (.inl rfl)
    · exact .inr (.inr (.inl rfl))
    · exact It1.int (by decide)
    · exact It1.int (by decide)
    · exact .inr (.inr (.inr (.inl rfl)))
    · exact It1.int (by omega)
    · exact It1.int (by omega)
    · exact It1.int (by omega)
  refine un_asg2 (un_op ?_)
  have v1 : ∀ {R : Hp}, PD (tVar 1) ((L2.start ["_law_pool_here", "_law_thing", "_law_at", "_law_odd", "_law_some"] [V.ref p, v]).set 2 (some (.int r))) G R (tT (xs.map tI)) := pd_var rfl hv
  refine k_pd (φ := tL (([.none, .bool true, .str "1", .int 0, .int (-1), .tuple [.int 1], .int (xr + 1), .int xl, .int xf] : List PyData).map dt)) i1 ?_ fun v2 G2 H2 s2 i2 hv2 => ?_
  · simp only [List.map_cons, List.map_nil, dt_none, dt_bool, dt_str, dt_int, dt_one]
    exact pd_lst (ad_cons pd_c (ad_cons pd_c (ad_cons pd_c (ad_cons pd_c (ad_cons (pd_neg pd_c) (ad_cons (pd_tup (ad_cons pd_c ad_nil) (by simp)) (ad_cons (pd_add (pd_ixTX v1 (pd_var rfl rfl) (mp er)) pd_c) (ad_cons (pd_ixTX v1 (pd_neg pd_c) (mp el)) (ad_cons (pd_ixTX v1 pd_c (mp ef)) ad_nil))))))))) (by simp)
  refine k_take i2 rfl pd_c (by decide) (by decide) fun r2 H3 q0 q1 i3 => ?_
  obtain ⟨o, eo, eo'⟩ := atI_nat (xs := ([.none, .bool true, .str "1", .int 0, .int (-1), .tuple [.int 1], .int (xr + 1), .int xl, .int xf] : List PyData)) q0 (by simpa using q1)
  have ho := hod o (List.mem_of_getElem? eo')
  obtain ⟨a2, vs2, rfl, b2, c2⟩ := hv2
  have eo2 : atI (([.none, .bool true, .str "1", .int 0, .int (-1), .tuple [.int 1], .int (xr + 1), .int xl, .int xf] : List PyData).map dt) r2 = some (dt o) := by
    obtain ⟨y, f1, f2⟩ := atI_nat (xs := ([.none, .bool true, .str "1", .int 0, .int (-1), .tuple [.int 1], .int (xr + 1), .int xl, .int xf] : List PyData).map dt) q0 (by simpa using q1)
    rw [List.getElem?_map, eo'] at f2
    cases f2
    exact f1
  obtain ⟨vo, f1, f2⟩ := at_of_all c2 eo2
  refine .inl ⟨a2, vs2, r2, vo, rfl, rfl, .of (i3.s _ _ b2), f1, ?_⟩
  have hv3 := (tT (xs.map tI)).m _ _ _ s2 hv
  -- some
  have w1 : ∀ {τ : St} {G' R : Hp}, τ[1]? = some (some v) → Same G2 G' → PD (tVar 1) τ G' R (tT (xs.map tI)) := fun h s => pd_var h ((tT (xs.map tI)).m _ _ _ s hv3)
  have mid : ∀ {τ : St} {G' R : Hp}, τ[1]? = some (some v) → τ[2]? = some (some (.int r)) → τ[3]? = some (some vo) → Same G2 G' →
      PD (tOp (rAddX K) (tOp (rAddX K) (tSl (rSlX K) (tVar 1) tNoPart (tPart (tVar 2))) (tTup (tCons (tVar 3) tNil))) (tSl (rSlX K) (tVar 1) (tPart (tOp (rAddX K) (tVar 2) (tC (.int 1)))) tNoPart)) τ G' R
        (dt (.tuple ((cutT xs none (some r)).map .int ++ [o] ++ (cutT xs (some (r + 1)) none).map .int))) := by
    intro τ G' R h1 h2 h3 s
    have e : dt (.tuple ((cutT xs none (some r)).map .int ++ [o] ++ (cutT xs (some (r + 1)) none).map .int)) = tT ((cutT (xs.map tI) none (some r) ++ [dt o]) ++ cutT (xs.map tI) (some (r + 1)) none) := by
      rw [dt_tuple, List.map_append, List.map_append, List.map_map, List.map_map, cutT_map, cutT_map]
      have q : ∀ l : List Int, l.map (dt ∘ PyData.int) = l.map tI := fun l => List.map_congr_left fun x _ => dt_int x
      rw [q, q] <;> rfl
    rw [e]
    have l1 := cutT_len (xs.map tI) none (some r)
    have l2 := cutT_len (xs.map tI) (some (r + 1)) none
    rw [List.length_map] at l1 l2
    exact pd_catT (pd_catT (pd_slT (w1 h1 s) od_none (od_some (pd_var h2 rfl))) (pd_tup (ad_cons (pd_var h3 ((dt o).m _ _ _ s f2)) ad_nil) (by simp)) (by simp; omega)) (pd_slT (w1 h1 s) (od_some (pd_add (pd_var h2 rfl) pd_c)) od_none) (by simp; omega)
  generalize hds : ([.tuple (xs.map .int), .tuple ((cutT xs none (some r)).map .int ++ [o] ++ (cutT xs (some (r + 1)) none).map .int), .tuple (xs.map .int ++ [o]), .tuple ((cutT xs (some 1) none).map .int), .list (xs.map .int), .tuple (xs.map PyData.int).reverse] : List PyData) = ds
  generalize hes : ([.tuple (xs.map .int), .tuple ((cutT xs none (some r)).map .int ++ [o] ++ (cutT xs (some (r + 1)) none).map .int)] : List PyData) = es
  have gint : ∀ {l : List Int}, (∀ i ∈ l, i ∈ xs) → ∀ x ∈ l.map PyData.int, It1 x := by
    intro l hl x hx'
    obtain ⟨i, hi, rfl⟩ := List.mem_map.mp hx'
    have := big (hx i (hl i hi))
    exact It1.int (by omega)
  have c1 := cutT_len xs none (some r)
  have c2' := cutT_len xs (some (r + 1)) none
  have c3 := cutT_len xs (some 1) none
  have good : ∀ d ∈ ds ++ es, Gd d := by
    have gm : Gd (.tuple ((cutT xs none (some r)).map .int ++ [o] ++ (cutT xs (some (r + 1)) none).map .int)) := by
      refine ⟨_, .inl rfl, by simp; omega, fun x hx' => ?_⟩
      rcases List.mem_append.mp hx' with h | h
      · rcases List.mem_append.mp h with h | h
        · exact gint (fun i hi => cutT_mem hi) x h
        · rw [List.mem_singleton.mp h]
          exact ho
      · exact gint (fun i hi => cutT_mem hi) x h
    have g0 : Gd (.tuple (xs.map .int)) := ⟨_, .inl rfl, by simp; omega, gint fun i hi => hi⟩
    intro d hd
    rw [← hds, ← hes] at hd
    simp only [List.cons_append, List.nil_append, List.mem_cons, List.not_mem_nil, or_false] at hd
    rcases hd with rfl | rfl | rfl | rfl | rfl | rfl | rfl | rfl
    · exact g0
    · exact gm
    · refine ⟨_, .inl rfl, by simp; omega, fun x hx' => ?_⟩
      rcases List.mem_append.mp hx' with h | h
      · exact gint (fun i hi => hi) x h
      · rw [List.mem_singleton.mp h]
        exact ho
    · exact ⟨_, .inl rfl, by simp; omega, gint fun i hi => cutT_mem hi⟩
    · exact ⟨_, .inr rfl, by simp; omega, gint fun i hi => hi⟩
    · exact ⟨_, .inl rfl, by simp; omega, fun x hx' => gint (fun i hi => hi) x (List.mem_reverse.mp hx')⟩
    · exact g0
    · exact gm
  refine un_asg2 ?_
  refine k_pd (φ := tL (ds.map dt)) i3 ?_ fun v4 G4 H4 s4 i4 hv4 => ?_
  · rw [← hds]
    simp only [List.map_cons, List.map_nil]
    refine pd_lst (ad_cons ?_ (ad_cons (mid rfl rfl rfl (same_refl _)) (ad_cons ?_ (ad_cons ?_ (ad_cons ?_ (ad_cons ?_ ad_nil)))))) (by simp)
    · rw [dt_ints]
      exact w1 rfl (same_refl _)
    · have e : dt (.tuple (xs.map .int ++ [o])) = tT (xs.map tI ++ [dt o]) := by
        rw [dt_tuple, List.map_append, List.map_map]
        have q : xs.map (dt ∘ PyData.int) = xs.map tI := List.map_congr_left fun x _ => dt_int x
        rw [q] <;> rfl
      rw [e]
      exact pd_catT (w1 rfl (same_refl _)) (pd_tup (ad_cons (pd_var rfl f2) ad_nil) (by simp)) (by simp; omega)
    · rw [dt_ints, ← cutT_map]
      exact pd_slT (w1 rfl (same_refl _)) (od_some pd_c) od_none
    · have e : dt (.list (xs.map .int)) = tL (xs.map tI) := by
        rw [dt_list, List.map_map]
        have q : xs.map (dt ∘ PyData.int) = xs.map tI := List.map_congr_left fun x _ => dt_int x
        rw [q]
      rw [e]
      exact pd_listT (w1 rfl (same_refl _))
    · rw [← List.map_reverse, dt_ints, List.map_reverse]
      exact pd_revT (w1 rfl (same_refl _))
  -- the answer
  refine un_ret (un_op ?_)
  refine k_pd (φ := tL ((ds ++ es).map dt)) i4 ?_ fun v5 G5 H5 s5 i5 hv5 => ?_
  · rw [List.map_append]
    have le : ds.length = 6 ∧ es.length = 2 := by rw [← hds, ← hes]; exact ⟨rfl, rfl⟩
    refine pd_catL (pd_var rfl hv4) ?_ (by simp; omega)
    rw [← hes]
    simp only [List.map_cons, List.map_nil]
    refine pd_lst (ad_cons ?_ (ad_cons (mid rfl rfl rfl s4) ad_nil)) (by simp)
    rw [dt_ints]
    exact w1 rfl s4
  refine k_take i5 rfl pd_c (by decide) (by decide) fun r6 H6 y0 y1 i6 => ?_
  have le : (ds ++ es).length = 8 := by rw [← hds, ← hes]; rfl
  obtain ⟨d, ed, ed'⟩ := atI_nat (xs := ds ++ es) y0 (by rw [le]; exact y1)
  have ed2 : atI ((ds ++ es).map dt) r6 = some (dt d) := by
    obtain ⟨y, f1, f2⟩ := atI_nat (xs := (ds ++ es).map dt) y0 (by rw [List.length_map, le]; exact y1)
    rw [List.getElem?_map, ed'] at f2
    cases f2
    exact f1
  obtain ⟨a5, vs5, rfl, b5, c5⟩ := hv5
  obtain ⟨u, g1, g2⟩ := at_of_all c5 ed2
  exact .inl ⟨a5, vs5, r6, u, rfl, rfl, .of (i6.s _ _ b5), g1, k d u G5 H6 (good d (List.mem_of_getElem? ed')) ((s2.trans s4).trans s5) i6 g2⟩
end
end BR
namespace BR
open PySem PySem.Spec PyProof.Rows L2
def bads : List PyData := [.none, .int 5, .str "0 0 1 1", .dict [], .list [], .tuple [], .tuple [.int 0], .list [.int 0, .int 0], .tuple [.int 0, .int 0, .int 0], .tuple [.tuple [.int 0, .int 0], .tuple [.int 1, .int 1]]]
theorem bads_ok : ∀ d ∈ bads, areI d 2 = false ∧ isBx d = false ∧ ∀ ds, d = .tuple ds → ds.length ≤ 100000 := by
  intro d hd
  simp only [bads, List.mem_cons, List.not_mem_nil, or_false] at hd
  rcases hd with rfl | rfl | rfl | rfl | rfl | rfl | rfl | rfl | rfl | rfl
  all_goals refine ⟨rfl, rfl, ?_⟩
  all_goals (intro ds e; cases e <;> simp)
abbrev Nlaw : List Str := ["_law_script", "_law_k", "_law_pool_here", "_law_turn", "_law_far", "_law_x", "_law_y", "_law_thing", "_law_box", "_law_one", "_law_seen", "_law_bad"]
section
variable {K : Fg}
theorem len_law : ∀ vs H Q E, sp_law K vs H Q E → vs.length = (["_law_script"] : List Str).length := by
  rintro vs H Q E ⟨a, ns, rfl, _⟩
  rfl
theorem pure_law : ∀ vs H (Q : VK) (E : XK), sp_law K vs H Q E → t_law K { nx := fun _ H' => Q .non H', rt := Q } (L2.start Nlaw vs) H := by
  rintro vs H0 Q E ⟨a, ns, rfl, hS, hl, kQ⟩
  have ht : 1 ≤ max 1 (min (ns.length : Int) 6) ∧ max 1 (min (ns.length : Int) 6) ≤ 6 := by omega
  refine q_range (G := H0) (R := H0) (n := max 1 (min (ns.length : Int) 6)) (ad_cons (pd_turns rfl hS) ad_nil) (same_refl _) (same_refl _) (by omega)
    (fun i σ' H' => (∃ o1 o2 o3 o4 o5 o6 o7 o8 o9 o10 o11, σ' = [some (.ref a), o1, o2, o3, o4, o5, o6, o7, o8, o9, o10, o11]) ∧ Same H0 H')
    (fun H1 s1 => ⟨⟨none, none, none, none, none, none, none, none, none, none, none, rfl⟩, s1⟩) ?_ (fun σ' H' _ => kQ H')
  rintro i σ' H hi ⟨⟨o1, o2, o3, o4, o5, o6, o7, o8, o9, o10, o11, rfl⟩, s0⟩
  -- the pool
  refine un_asg2 ⟨_, rfl, _, rfl, a, ns, (i : Int), rfl, sqL_mono s0 hS, by omega, by omega, fun p c z H1 pok hp s1 hp1 => ?_⟩
  have i1 : PI p H H1 := ⟨s1, hp, c, z, hp1, pok⟩
  -- the sixteen turns
  refine q_range (G := H) (R := H) (n := 16) (ad_cons pd_c ad_nil) s1 s1 (by decide)
    (fun j σ' H' => (∃ o3 o4 o5 o6 o7 o8 o9 o10 o11, σ' = [some (.ref a), some (.int (i : Int)), some (.ref p), o3, o4, o5, o6, o7, o8, o9, o10, o11]) ∧ PI p H H')
    (fun H2 s2 => ⟨⟨o3, o4, o5, o6, o7, o8, o9, o10, o11, rfl⟩, i1.same s2⟩) ?_ ?_
  · rintro j σ' H2 hj ⟨⟨o3, o4, o5, o6, o7, o8, o9, o10, o11, rfl⟩, i2⟩
    -- far
    refine un_asg2 (k_pickV (vs := [.int 5, .int (10 ^ 18)]) i2 (pd_lst (ad_cons pd_c (ad_cons (pd_pow (i := 10) (j := 18) pd_c pd_c ⟨by decide, by decide, by decide⟩) ad_nil)) (by simp)) rfl (fun _ _ => pd_c) rfl (by decide) (by decide) fun fv hf H3 i3 => ?_)
    obtain ⟨far, rfl, f0, f1⟩ : ∃ far : Int, fv = .int far ∧ 5 ≤ far ∧ far ≤ 10 ^ 18 := by
      simp only [List.mem_cons, List.not_mem_nil, or_false] at hf
      rcases hf with rfl | rfl
      · exact ⟨5, rfl, by decide, by decide⟩
      · exact ⟨10 ^ 18, rfl, by decide, by decide⟩
    have hfar : ∀ {σ : St} {G R : Hp}, σ[4]? = some (some (.int far)) → PD (tVar 4) σ G R (tI far) := fun h => pd_var h rfl
    have c2 : CDivW far 2 := wide_div (b := 10) (by decide) (by decide) (by decide) (by decide)
    -- x, y
    refine un_par2 (un_cons (un_op (k_take i3 rfl (hfar rfl) (by omega) (by omega) fun r1 H4 a0 a1 i4 => k_pv i4 (pd_div (hfar rfl) pd_c c2) fun H5 i5 => ⟨_, _, rfl, rfl, ?_⟩)))
    refine un_cons (un_op (k_take i5 rfl (hfar rfl) (by omega) (by omega) fun r2 H6 b0 b1 i6 => k_pv i6 (pd_div (hfar rfl) pd_c c2) fun H7 i7 => ⟨_, _, rfl, rfl, ⟨_, _, rfl, ?_⟩⟩))
    have hh : 0 ≤ far / 2 ∧ far / 2 ≤ 10 ^ 18 := ⟨Int.ediv_nonneg (by omega) (by decide), by omega⟩
    dsimp only
    generalize hxx : r1 - far / 2 = x
    generalize hyy : r2 - far / 2 = y
    have hx : -(10 ^ 18) ≤ x ∧ x ≤ 10 ^ 18 := by omega
    have hy : -(10 ^ 18) ≤ y ∧ y ≤ 10 ^ 18 := by omega
    -- y
    refine un_asg2 (un_op ⟨_, rfl, k_pickV (vs := [.int 1, .int (10 ^ 12)]) i7 (pd_lst (ad_cons pd_c (ad_cons (pd_pow (i := 10) (j := 12) pd_c pd_c ⟨by decide, by decide, by decide⟩) ad_nil)) (by simp)) rfl (fun _ _ => pd_c) rfl (by decide) (by decide) fun mv hm H8 i8 => ?_⟩)
    obtain ⟨m, rfl, m0, m1⟩ : ∃ m : Int, mv = .int m ∧ 0 ≤ m ∧ m ≤ 10 ^ 12 := by
      simp only [List.mem_cons, List.not_mem_nil, or_false] at hm
      rcases hm with rfl | rfl
      · exact ⟨1, rfl, by decide, by decide⟩
      · exact ⟨10 ^ 12, rfl, by decide, by decide⟩
    refine ⟨_, _, rfl, rfl, mulW_small (small64 (by omega)) (small64 (by omega)), ?_⟩
    dsimp only
    have ym : -(10 ^ 30) ≤ y * m ∧ y * m ≤ 10 ^ 30 := by
      have e1 : y * m ≤ 10 ^ 18 * 10 ^ 12 := Int.le_trans (Int.mul_le_mul_of_nonneg_right hy.2 m0) (Int.mul_le_mul_of_nonneg_left m1 (by decide))
      have e2 : -(10 ^ 18) * 10 ^ 12 ≤ y * m := Int.le_trans (Int.mul_le_mul_of_nonpos_left (a := -(10 ^ 18)) (b := 10 ^ 12) (c := m) (by decide) m1) (Int.mul_le_mul_of_nonneg_right hy.1 m0)
      exact ⟨by simpa using e2, by simpa using e1⟩
    generalize hyw : y * m = w at ym
    have small : ∀ {u : Int}, -(10 ^ 31) ≤ u → u ≤ 10 ^ 31 → u.natAbs < 2 ^ 150 := fun {u} h1 h2 => by
      have : u.natAbs ≤ 10 ^ 31 := by omega
      exact Nat.lt_of_le_of_lt this (by decide +kernel)
    -- thing
    refine un_asg2 ⟨_, rfl, un_cons (k_pd i8 (pd_tup (φs := [x, w].map tI) (ad_cons (pd_var rfl rfl) (ad_cons (pd_var rfl rfl) ad_nil)) (by simp)) fun v9 G9 H9 s9 i9 hv9 => ⟨p, G9, v9, [x, w], rfl, i9, hv9, by simp, by simp, ?_, ?_⟩)⟩
    · intro u hu
      simp only [List.mem_cons, List.not_mem_nil, or_false] at hu
      rcases hu with rfl | rfl
      · exact small (by omega) (by omega)
      · exact small (by omega) (by omega)
    intro d1 u1 G10 H10 gd1 s10 i10 hu1
    -- box
    refine un_asg2 ⟨_, rfl, un_cons (un_tup (un_cons ⟨_, rfl, un_cons ⟨_, rfl, un_cons (un_op (k_pv i10 (pd_add (pd_var rfl rfl) pd_c) fun H11 i11 => k_take i11 rfl (hfar rfl) (by omega) (by omega) fun r3 H12 c0 c1 i12 => .inl ⟨_, _, rfl, rfl, ?_⟩))⟩⟩))⟩
    refine un_cons (un_op (k_pv i12 (pd_add (pd_var rfl rfl) pd_c) fun H13 i13 => k_take i13 rfl (hfar rfl) (by omega) (by omega) fun r4 H14 d0 d1' i14 => .inl ⟨_, _, rfl, rfl, ⟨by show 4 ≤ sizeLine; decide, fun q hq => ?_⟩⟩))
    dsimp only
    have i15 := i14.new (o := .tup [V.int x, V.int w, V.int (x + 1 + r3), V.int (w + 1 + r4)]) hq
    refine ⟨p, _, .ref q, [x, w, x + 1 + r3, w + 1 + r4], rfl, i15, ⟨q, _, rfl, upd_same, ints_all _⟩, by simp, by simp, ?_, ?_⟩
    · intro u hu
      simp only [List.mem_cons, List.not_mem_nil, or_false] at hu
      rcases hu with rfl | rfl | rfl | rfl
      all_goals exact small (by omega) (by omega)
    intro d2 u2 G16 H16 gd2 s16 i16 hu2
    have s1016 : Same G10 G16 := (same_new (i14.s.free hq)).trans s16
    have hu1' := (dt d1).m _ _ _ s1016 hu1
    -- both of them
    refine s_for (xs := [d1, d2]) (φ := dt) (G := G16) (R := G16) (PD.sqL (pd_lst (ad_cons (pd_var rfl hu1') (ad_cons (pd_var rfl hu2) ad_nil)) (by simp))) i16.s i16.s
      (fun m σ' G' H' => (∃ o9 o10, σ' = [some (.ref a), some (.int (i : Int)), some (.ref p), some (.int (j : Int)), some (.int far), some (.int x), some (.int w), some u1, some u2, o9, o10, o11]) ∧ PI p H H')
      (fun G1 H1' g1 => ⟨⟨o9, o10, rfl⟩, (i16.grow g1).less ((((s9.trans s10).trans s1016)).trans g1.g)⟩) ?_ ?_
    · rintro G1 H1' g1 m d v σ' Gi Hi hm s2 s3 hv ⟨⟨o9, o10, rfl⟩, ih⟩
      have gd : Gd d := by
        have := List.mem_of_getElem? hm
        simp only [List.mem_cons, List.not_mem_nil, or_false] at this
        rcases this with rfl | rfl
        · exact gd1
        · exact gd2
      have sh := gd.shows
      refine q_asg (G := Gi) (R := Gi) (pd_reprS (pd_var rfl hv) gd.ref sh (by decide)) s3 s3 fun v2 G2 H2' g2 hv2 => ?_
      cases hv2
      have hv' := (dt d).m _ _ _ g2.g hv
      have sj : Shows (.list [.bool (areI d 2), .bool (isBx d)]) 100 := (shows_list (showsAll_of (m := 5) [.bool (areI d 2), .bool (isBx d)] (by
        intro b hb
        simp only [List.mem_cons, List.not_mem_nil, or_false] at hb
        rcases hb with rfl | rfl
        · exact ⟨shows_bool _, by simp [PyData.depth]⟩
        · exact ⟨shows_bool _, by simp [PyData.depth]⟩))).mono (by simp)
      have hsq : ∀ {σ : St}, σ[9]? = some (some v) → PD (tLst (tCons (tCall sp_is_square [] E0 (tCons (tVar 9) tNil)) (tCons (tCall sp_is_box [] E0 (tCons (tVar 9) tNil)) tNil))) σ G2 G2 (dt (.list [.bool (areI d 2), .bool (isBx d)])) := by
        intro σ h9
        rw [dt_list]
        simp only [List.map_cons, List.map_nil, dt_bool]
        exact pd_lst (ad_cons (pd_call (ad_cons (pd_var h9 hv') ad_nil) ⟨d, gd.len, rfl, rfl⟩) (ad_cons (pd_call (ad_cons (pd_var h9 hv') ad_nil) ⟨d, gd.len, rfl, rfl⟩) ad_nil)) (by simp)
      refine s_when (R := G2) (b := false) (TD.is (td_or (td_test (pd_nev (pd_reprS (hsq rfl) ref_list sj (by decide)) (pd_reprS (pd_call (ad_cons (pd_var rfl hv') ad_nil) ⟨d, gd, rfl, rfl⟩) ref_list sj (by decide)) rfl))
        (fun _ => td_test (pd_nev (pd_reprS (pd_var rfl hv') gd.ref sh (by decide)) (pd_var rfl rfl) rfl))) (by simp)) g2.s (fun q => nomatch q) (fun _ H3' s3' => ?_)
      exact ⟨G2, s2.trans g2.g, g2.s.trans s3', ⟨some v, some (.str d.shown), rfl⟩, (ih.same g2.h).same s3'⟩
    · rintro G1 H1' g1 σ' Gi Hi s2 s3 ⟨⟨o9, o10, rfl⟩, ih⟩
      exact ⟨⟨_, _, _, _, _, _, _, _, _, rfl⟩, ih⟩
  · -- the values that are none
    rintro σ' H2 ⟨⟨o3, o4, o5, o6, o7, o8, o9, o10, o11, rfl⟩, i2⟩
    refine s_for (xs := bads) (φ := dt) (G := H) (R := H) ?_ i2.s i2.s
      (fun m σ' G' H' => (∃ o11, σ' = [some (.ref a), some (.int (i : Int)), some (.ref p), o3, o4, o5, o6, o7, o8, o9, o10, o11]) ∧ Same H0 H')
      (fun G1 H1' g1 => ⟨⟨o11, rfl⟩, (s0.trans i2.s).trans g1.h⟩) ?_ ?_
    · refine PD.sqL ?_
      simp only [bads, List.map_cons, List.map_nil, dt_none, dt_int, dt_str, dt_tuple, dt_list]
      exact pd_lst (ad_cons pd_c (ad_cons pd_c (ad_cons pd_c (ad_cons pd_dict (ad_cons (pd_lst ad_nil (by simp)) (ad_cons (pd_tup ad_nil (by simp)) (ad_cons (pd_tup (ad_cons pd_c ad_nil) (by simp)) (ad_cons (pd_lst (ad_cons pd_c (ad_cons pd_c ad_nil)) (by simp))
        (ad_cons (pd_tup (ad_cons pd_c (ad_cons pd_c (ad_cons pd_c ad_nil))) (by simp)) (ad_cons (pd_tup (ad_cons (pd_tup (ad_cons pd_c (ad_cons pd_c ad_nil)) (by simp)) (ad_cons (pd_tup (ad_cons pd_c (ad_cons pd_c ad_nil)) (by simp)) ad_nil)) (by simp)) ad_nil)))))))))) (by simp)
    · rintro G1 H1' g1 m d v σ' Gi Hi hm s2 s3 hv ⟨⟨o11, rfl⟩, ih⟩
      obtain ⟨e1, e2, e3⟩ := bads_ok d (List.mem_of_getElem? hm)
      refine s_when (R := Gi) (b := false) (TD.is (td_or (td_test (pd_notB (pd_call (ad_cons (pd_var rfl hv) ad_nil) ⟨d, e3, rfl, rfl⟩) pd_c)) (fun _ => td_test (pd_notB (pd_call (ad_cons (pd_var rfl hv) ad_nil) ⟨d, e3, rfl, rfl⟩) pd_c))) (by rw [e1, e2]; rfl)) s3 (fun q => nomatch q) (fun _ H3' s3' => ?_)
      exact ⟨Gi, s2, s3.trans s3', ⟨some v, rfl⟩, ih.trans s3'⟩
    · rintro G1 H1' g1 σ' Gi Hi s2 s3 ⟨⟨o11, rfl⟩, ih⟩
      exact ⟨⟨_, _, _, _, _, _, _, _, _, _, _, rfl⟩, ih⟩
end
end BR
namespace BR
open PySem PySem.Spec PyProof.Rows L2
def top (i : Nat) : Stmt := PySem.Challenge.pw_boxregions_k01_squares_and_boxes_judged.main.body.getD i (.Pass ⟨0, 0, 0, 0⟩)
structure Md (mg : Str → Option Value) : Prop where
  b_isinstance : mg "isinstance" = none
  b_int : mg "int" = none
  b_bool : mg "bool" = none
  b_tuple : mg "tuple" = none
  b_all : mg "all" = none
  b_len : mg "len" = none
  b_list : mg "list" = none
  b_range : mg "range" = none
  b_max : mg "max" = none
  b_min : mg "min" = none
  b_repr : mg "repr" = none
section
variable {P : Program} {w : World} {K : Fg} {mg : Str → Option Value} {base : Heap} {f : Addr} {fd : FuncData}
abbrev s_is_integer : Stmt := top 1
abbrev N_is_integer : List Str := ["thing"]
theorem sc_is_integer : FnScope N_is_integer ["thing"] (defScope s_is_integer) := ⟨rfl, rfl, rfl, by decide +kernel, rfl, by decide +kernel, by decide +kernel⟩
theorem has_is_integer  (F : Fnt K "is_integer" s_is_integer f fd) (hm : mg "is_integer" = some (.ref f)) (M : Md mg) : Has P w K mg base CX0 1 "is_integer" ["thing"] sp_is_integer := by
  refine has_of F hm sc_is_integer (fun fd' F' => F'.bindsN fun _ _ _ _ _ _ us hl => match us, hl with | [_], _ => rfl) len_is_integer (fun cdv A outer s H vs Q E hr hg0 h => ⟨t_is_integer K, PSs.nox ?_, pure_is_integer vs H Q E h⟩)
  have nd := sc_is_integer.nd
  exact (pss_one (ps_ret (pe_and (pe_callB call_isi (by rfl) M.b_isinstance (by decide +kernel) (pa_cons (pv 0) (pa_cons (pe_bltn (v := .ty "int") (by rfl) M.b_int (by decide +kernel) rfl) pa_nil))) (pe_one (pe_not (pe_callB call_isi (by rfl) M.b_isinstance (by decide +kernel) (pa_cons (pv 0) (pa_cons (pe_bltn (v := .ty "bool") (by rfl) M.b_bool (by decide +kernel) rfl) pa_nil))))))))

abbrev s_are_integers : Stmt := top 2
abbrev N_are_integers : List Str := ["thing", "count", "number"]
theorem sc_are_integers : FnScope N_are_integers ["thing", "count"] (defScope s_are_integers) := ⟨rfl, rfl, rfl, by decide +kernel, rfl, by decide +kernel, by decide +kernel⟩
theorem has_are_integers (h_is_integer : Has P w K mg base CX0 1 "is_integer" ["thing"] sp_is_integer) (F : Fnt K "are_integers" s_are_integers f fd) (hm : mg "are_integers" = some (.ref f)) (M : Md mg) : Has P w K mg base CX0 2 "are_integers" ["thing", "count"] sp_are_integers := by
  refine has_of F hm sc_are_integers (fun fd' F' => F'.bindsN fun _ _ _ _ _ _ us hl => match us, hl with | [_, _], _ => rfl) len_are_integers (fun cdv A outer s H vs Q E hr hg0 h => ⟨t_are_integers K, PSs.nox ?_, pure_are_integers vs H Q E h⟩)
  have nd := sc_are_integers.nd
  exact (pss_one (ps_ret (pe_and (pe_callB call_isi (by rfl) M.b_isinstance (by decide +kernel) (pa_cons (pv 0) (pa_cons (pe_bltn (v := .ty "tuple") (by rfl) M.b_tuple (by decide +kernel) rfl) pa_nil))) (pe_and (pe_cmpR (op_eqX hr.units) (pe_callB call_lenX (by rfl) M.b_len (by decide +kernel) (pa_cons (pv 0) pa_nil)) (pv 1) (nomark _)) (pe_one (pe_callB (cr_all rfl) (by rfl) M.b_all (by decide +kernel) (pa_cons (pe_lc (own := [("number", 2)]) (g := (gName 2)) (tt := tYes) rfl nd (pi_seq (pv 0)) (blkOk_by (own := [("number", 2)]) (N := N_are_integers) (sc := defScope s_are_integers) (by decide +kernel)) (fun _ _ _ _ _ => (pg_name (i := 2) nd rfl (Or.inl rfl))) (fun _ _ _ _ _ => pts_nil) (fun _ _ _ _ _ => (pe_callH h_is_integer (hr.mono (by decide)) hg0 pass0 (by rfl) (pa_cons (pv 2) pa_nil)))) pa_nil)))))))

abbrev s_is_square : Stmt := top 3
abbrev N_is_square : List Str := ["thing"]
theorem sc_is_square : FnScope N_is_square ["thing"] (defScope s_is_square) := ⟨rfl, rfl, rfl, by decide +kernel, rfl, by decide +kernel, by decide +kernel⟩
theorem has_is_square (h_are_integers : Has P w K mg base CX0 2 "are_integers" ["thing", "count"] sp_are_integers) (F : Fnt K "is_square" s_is_square f fd) (hm : mg "is_square" = some (.ref f)) (M : Md mg) : Has P w K mg base CX0 3 "is_square" ["thing"] sp_is_square := by
  refine has_of F hm sc_is_square (fun fd' F' => F'.bindsN fun _ _ _ _ _ _ us hl => match us, hl with | [_], _ => rfl) len_is_square (fun cdv A outer s H vs Q E hr hg0 h => ⟨t_is_square K, PSs.nox ?_, pure_is_square vs H Q E h⟩)
  have nd := sc_is_square.nd
  exact (pss_one (ps_ret (pe_callH h_are_integers (hr.mono (by decide)) hg0 pass0 (by rfl) (pa_cons (pv 0) (pa_cons pe_int pa_nil)))))

abbrev s_is_box : Stmt := top 4
abbrev N_is_box : List Str := ["thing"]
theorem sc_is_box : FnScope N_is_box ["thing"] (defScope s_is_box) := ⟨rfl, rfl, rfl, by decide +kernel, rfl, by decide +kernel, by decide +kernel⟩
theorem has_is_box (h_are_integers : Has P w K mg base CX0 2 "are_integers" ["thing", "count"] sp_are_integers) (F : Fnt K "is_box" s_is_box f fd) (hm : mg "is_box" = some (.ref f)) (M : Md mg) : Has P w K mg base CX0 3 "is_box" ["thing"] sp_is_box := by
  refine has_of F hm sc_is_box (fun fd' F' => F'.bindsN fun _ _ _ _ _ _ us hl => match us, hl with | [_], _ => rfl) len_is_box (fun cdv A outer s H vs Q E hr hg0 h => ⟨t_is_box K, PSs.nox ?_, pure_is_box vs H Q E h⟩)
  have nd := sc_is_box.nd
  exact (pss_one (ps_ret (pe_and (pe_callH h_are_integers (hr.mono (by decide)) hg0 pass0 (by rfl) (pa_cons (pv 0) (pa_cons pe_int pa_nil))) (pe_and (pe_cmpR op_lt (pe_ix ix_seq (pv 0) pe_int (fun _ _ => rfl)) (pe_ix ix_seq (pv 0) pe_int (fun _ _ => rfl)) (nomark _)) (pe_one (pe_cmpR op_lt (pe_ix ix_seq (pv 0) pe_int (fun _ _ => rfl)) (pe_ix ix_seq (pv 0) pe_int (fun _ _ => rfl)) (nomark _)))))))

abbrev s_l_pool : Stmt := top 6
abbrev N_l_pool : List Str := ["_law_script", "_law_k", "_law_cell", "_law_seed"]
theorem sc_l_pool : FnScope N_l_pool ["_law_script", "_law_k"] (defScope s_l_pool) := ⟨rfl, rfl, rfl, by decide +kernel, rfl, by decide +kernel, by decide +kernel⟩
theorem has_l_pool  (F : Fnt K "_law_pool" s_l_pool f fd) (hm : mg "_law_pool" = some (.ref f)) (M : Md mg) : Has P w K mg base CX0 1 "_law_pool" ["_law_script", "_law_k"] (sp_l_pool K) := by
  refine has_of F hm sc_l_pool (fun fd' F' => F'.bindsN fun _ _ _ _ _ _ us hl => match us, hl with | [_, _], _ => rfl) len_l_pool (fun cdv A outer s H vs Q E hr hg0 h => ⟨t_l_pool K, PSs.nox ?_, pure_l_pool vs H Q E h⟩)
  have nd := sc_l_pool.nd
  exact (pss_cons (ps_set (i := 2) nd rfl (Or.inl rfl) pe_int)
  (pss_cons (ps_if (pt_cmpR op_lt (pv 1) (pe_callB call_lenX (by rfl) M.b_len (by decide +kernel) (pa_cons (pv 0) pa_nil)) (nomark _))
  (pss_one (ps_set (i := 2) nd rfl (Or.inl rfl) (pe_ix ix_seq (pv 0) (pv 1) (fun _ _ => rfl))))
  pss_nil)
  (pss_cons (ps_set (i := 3) nd rfl (Or.inl rfl) (pe_op op_mod (pe_op op_mulW (pe_op op_addX (pe_op op_addX (pe_op op_mod (pv 2) pe_int) (pe_op op_mulW (pe_op op_mulW pe_int (pv 1)) (pv 1))) pe_int) pe_int) pe_int))
  (pss_cons (ps_if (pt_cmpR op_lt (pv 2) (pe_op op_pow pe_int pe_int) (nomark _))
  (pss_one (ps_set (i := 2) nd rfl (Or.inl rfl) pe_int))
  pss_nil)
  (pss_one (ps_ret (pe_lst (pa_cons (pv 2) (pa_cons (pe_op op_addX (pe_op op_mod (pe_op op_mulW (pv 3) (pv 3)) pe_int) pe_int) pa_nil)))))))))

abbrev s_l_take : Stmt := top 7
abbrev N_l_take : List Str := ["_law_pool_here", "_law_sides", "_law_found"]
theorem sc_l_take : FnScope N_l_take ["_law_pool_here", "_law_sides"] (defScope s_l_take) := ⟨rfl, rfl, rfl, by decide +kernel, rfl, by decide +kernel, by decide +kernel⟩
theorem has_l_take  (F : Fnt K "_law_take" s_l_take f fd) (hm : mg "_law_take" = some (.ref f)) (M : Md mg) : Has P w K mg base CX0 1 "_law_take" ["_law_pool_here", "_law_sides"] sp_l_take := by
  refine has_of F hm sc_l_take (fun fd' F' => F'.bindsN fun _ _ _ _ _ _ us hl => match us, hl with | [_, _], _ => rfl) len_l_take (fun cdv A outer s H vs Q E hr hg0 h => ⟨t_l_take K, PSs.nox ?_, pure_l_take vs H Q E h⟩)
  have nd := sc_l_take.nd
  exact (pss_cons (ps_if (pt_cmpR op_gt (pe_ix ix_seq (pv 0) pe_int (fun _ _ => rfl)) pe_int (nomark _))
  (pss_cons (ps_set (i := 2) nd rfl (Or.inl rfl) (pe_op op_mod (pe_ix ix_seq (pv 0) pe_int (fun _ _ => rfl)) (pv 1)))
  (pss_cons (ps_asg (pe_op op_fdivW (pe_ix ix_seq (pv 0) pe_int (fun _ _ => rfl)) (pv 1)) (pg_sub (pv 0) pe_int set_list))
  (pss_one (ps_ret (pv 2)))))
  pss_nil)
  (pss_cons (ps_asg (pe_op op_mod (pe_op op_addX (pe_op op_mulW (pe_ix ix_seq (pv 0) pe_int (fun _ _ => rfl)) pe_int) pe_int) pe_int) (pg_sub (pv 0) pe_int set_list))
  (pss_one (ps_ret (pe_op op_mod (pe_op op_fdivW (pe_op op_mod (pe_op op_mulW (pe_ix ix_seq (pv 0) pe_int (fun _ _ => rfl)) (pe_ix ix_seq (pv 0) pe_int (fun _ _ => rfl))) pe_int) pe_int) (pv 1))))))

abbrev s_l_is_tuple : Stmt := top 8
abbrev N_l_is_tuple : List Str := ["_law_thing", "_law_many", "_law_one"]
theorem sc_l_is_tuple : FnScope N_l_is_tuple ["_law_thing", "_law_many"] (defScope s_l_is_tuple) := ⟨rfl, rfl, rfl, by decide +kernel, rfl, by decide +kernel, by decide +kernel⟩
theorem has_l_is_tuple  (F : Fnt K "_law_is_tuple" s_l_is_tuple f fd) (hm : mg "_law_is_tuple" = some (.ref f)) (M : Md mg) : Has P w K mg base CX0 1 "_law_is_tuple" ["_law_thing", "_law_many"] sp_l_is_tuple := by
  refine has_of F hm sc_l_is_tuple (fun fd' F' => F'.bindsN fun _ _ _ _ _ _ us hl => match us, hl with | [_, _], _ => rfl) len_l_is_tuple (fun cdv A outer s H vs Q E hr hg0 h => ⟨t_l_is_tuple K, PSs.nox ?_, pure_l_is_tuple vs H Q E h⟩)
  have nd := sc_l_is_tuple.nd
  exact (pss_cons (ps_if (PW.pt (pw_or (pt_not (pt_val (pe_callB call_isi (by rfl) M.b_isinstance (by decide +kernel) (pa_cons (pv 0) (pa_cons (pe_bltn (v := .ty "tuple") (by rfl) M.b_tuple (by decide +kernel) rfl) pa_nil))))) (pw_or1 (pt_cmpR (op_neX hr.units) (pe_callB call_lenX (by rfl) M.b_len (by decide +kernel) (pa_cons (pv 0) pa_nil)) (pv 1) (nomark _)))))
  (pss_one (ps_ret pe_bl))
  pss_nil)
  (pss_one (ps_ret (pe_cmpR (op_eqX hr.units) (pe_lc (own := [("_law_one", 2)]) (g := (gName 2)) (tt := (tOr (tNot (tB (tCB (rIsi K) (tCons (tVar 2) (tCons (tC (.ty "int")) tNil))))) (tB (tCB (rIsi K) (tCons (tVar 2) (tCons (tC (.ty "bool")) tNil)))))) rfl nd (pi_seq (pv 0)) (blkOk_by (own := [("_law_one", 2)]) (N := N_l_is_tuple) (sc := defScope s_l_is_tuple) (by decide +kernel)) (fun _ _ _ _ _ => (pg_name (i := 2) nd rfl (Or.inl rfl))) (fun _ _ _ _ _ => (pts_one (PW.pt (pw_or (pt_not (pt_val (pe_callB call_isi (by rfl) M.b_isinstance (by decide +kernel) (pa_cons (pv 2) (pa_cons (pe_bltn (v := .ty "int") (by rfl) M.b_int (by decide +kernel) rfl) pa_nil))))) (pw_or1 (pt_val (pe_callB call_isi (by rfl) M.b_isinstance (by decide +kernel) (pa_cons (pv 2) (pa_cons (pe_bltn (v := .ty "bool") (by rfl) M.b_bool (by decide +kernel) rfl) pa_nil))))))))) (fun _ _ _ _ _ => (pv 2))) (pe_lst pa_nil) (nomark _)))))

abbrev s_l_judged : Stmt := top 9
abbrev N_l_judged : List Str := ["_law_thing", "_law_right"]
theorem sc_l_judged : FnScope N_l_judged ["_law_thing"] (defScope s_l_judged) := ⟨rfl, rfl, rfl, by decide +kernel, rfl, by decide +kernel, by decide +kernel⟩
theorem has_l_judged (h_l_is_tuple : Has P w K mg base CX0 1 "_law_is_tuple" ["_law_thing", "_law_many"] sp_l_is_tuple) (F : Fnt K "_law_judged" s_l_judged f fd) (hm : mg "_law_judged" = some (.ref f)) (M : Md mg) : Has P w K mg base CX0 2 "_law_judged" ["_law_thing"] sp_l_judged := by
  refine has_of F hm sc_l_judged (fun fd' F' => F'.bindsN fun _ _ _ _ _ _ us hl => match us, hl with | [_], _ => rfl) len_l_judged (fun cdv A outer s H vs Q E hr hg0 h => ⟨t_l_judged K, PSs.nox ?_, pure_l_judged vs H Q E h⟩)
  have nd := sc_l_judged.nd
  exact (pss_cons (ps_set (i := 1) nd rfl (Or.inl rfl) (pe_callH h_l_is_tuple (hr.mono (by decide)) hg0 pass0 (by rfl) (pa_cons (pv 0) (pa_cons pe_int pa_nil))))
  (pss_one (ps_ret (pe_lst (pa_cons (pe_callH h_l_is_tuple (hr.mono (by decide)) hg0 pass0 (by rfl) (pa_cons (pv 0) (pa_cons pe_int pa_nil))) (pa_cons (pe_and (pv 1) (pe_and (pe_cmpR op_lt (pe_ix ix_seq (pv 0) pe_int (fun _ _ => rfl)) (pe_ix ix_seq (pv 0) pe_int (fun _ _ => rfl)) (nomark _)) (pe_one (pe_cmpR op_lt (pe_ix ix_seq (pv 0) pe_int (fun _ _ => rfl)) (pe_ix ix_seq (pv 0) pe_int (fun _ _ => rfl)) (nomark _))))) pa_nil))))))

abbrev s_l_bent : Stmt := top 10
abbrev N_l_bent : List Str := ["_law_pool_here", "_law_thing", "_law_at", "_law_odd", "_law_some"]
theorem sc_l_bent : FnScope N_l_bent ["_law_pool_here", "_law_thing"] (defScope s_l_bent) := ⟨rfl, rfl, rfl, by decide +kernel, rfl, by decide +kernel, by decide +kernel⟩
theorem has_l_bent (h_l_take : Has P w K mg base CX0 1 "_law_take" ["_law_pool_here", "_law_sides"] sp_l_take) (F : Fnt K "_law_bent" s_l_bent f fd) (hm : mg "_law_bent" = some (.ref f)) (M : Md mg) : Has P w K mg base CX0 2 "_law_bent" ["_law_pool_here", "_law_thing"] sp_l_bent := by
  refine has_of F hm sc_l_bent (fun fd' F' => F'.bindsN fun _ _ _ _ _ _ us hl => match us, hl with | [_, _], _ => rfl) len_l_bent (fun cdv A outer s H vs Q E hr hg0 h => ⟨t_l_bent K, PSs.nox ?_, pure_l_bent vs H Q E h⟩)
  have nd := sc_l_bent.nd
  exact (pss_cons (ps_set (i := 2) nd rfl (Or.inl rfl) (pe_callH h_l_take (hr.mono (by decide)) hg0 pass0 (by rfl) (pa_cons (pv 0) (pa_cons (pe_callB call_lenX (by rfl) M.b_len (by decide +kernel) (pa_cons (pv 1) pa_nil)) pa_nil))))
  (pss_cons (ps_set (i := 3) nd rfl (Or.inl rfl) (pe_ix ix_seq (pe_lst (pa_cons pe_non (pa_cons pe_bl (pa_cons pe_str (pa_cons pe_int (pa_cons (pe_un un_neg pe_int) (pa_cons (pe_tup (pa_cons pe_int pa_nil)) (pa_cons (pe_op op_addX (pe_ix ix_seq (pv 1) (pv 2) (fun _ _ => rfl)) pe_int) (pa_cons (pe_ix ix_seq (pv 1) (pe_un un_neg pe_int) (fun _ _ => rfl)) (pa_cons (pe_ix ix_seq (pv 1) pe_int (fun _ _ => rfl)) pa_nil)))))))))) (pe_callH h_l_take (hr.mono (by decide)) hg0 pass0 (by rfl) (pa_cons (pv 0) (pa_cons pe_int pa_nil))) (fun _ _ => rfl)))
  (pss_cons (ps_set (i := 4) nd rfl (Or.inl rfl) (pe_lst (pa_cons (pv 1) (pa_cons (pe_op op_addX (pe_op op_addX (pe_slice sl_X (pv 1) po_none (po_some (pv 2))) (pe_tup (pa_cons (pv 3) pa_nil))) (pe_slice sl_X (pv 1) (po_some (pe_op op_addX (pv 2) pe_int)) po_none)) (pa_cons (pe_op op_addX (pv 1) (pe_tup (pa_cons (pv 3) pa_nil))) (pa_cons (pe_slice sl_X (pv 1) (po_some pe_int) po_none) (pa_cons (pe_callTy call_listX (by rfl) M.b_list (by decide +kernel) (pa_cons (pv 1) pa_nil)) (pa_cons (pe_revT (pv 1)) pa_nil))))))))
  (pss_one (ps_ret (pe_ix ix_seq (pe_op op_addX (pv 4) (pe_lst (pa_cons (pv 1) (pa_cons (pe_op op_addX (pe_op op_addX (pe_slice sl_X (pv 1) po_none (po_some (pv 2))) (pe_tup (pa_cons (pv 3) pa_nil))) (pe_slice sl_X (pv 1) (po_some (pe_op op_addX (pv 2) pe_int)) po_none)) pa_nil)))) (pe_callH h_l_take (hr.mono (by decide)) hg0 pass0 (by rfl) (pa_cons (pv 0) (pa_cons pe_int pa_nil))) (fun _ _ => rfl)))))))

abbrev s_law : Stmt := top 11
abbrev N_law : List Str := ["_law_script", "_law_k", "_law_pool_here", "_law_turn", "_law_far", "_law_x", "_law_y", "_law_thing", "_law_box", "_law_one", "_law_seen", "_law_bad"]
theorem sc_law : FnScope N_law ["_law_script"] (defScope s_law) := ⟨rfl, rfl, rfl, by decide +kernel, rfl, by decide +kernel, by decide +kernel⟩
theorem has_law (h_l_pool : Has P w K mg base CX0 1 "_law_pool" ["_law_script", "_law_k"] (sp_l_pool K)) (h_l_bent : Has P w K mg base CX0 2 "_law_bent" ["_law_pool_here", "_law_thing"] sp_l_bent) (h_l_take : Has P w K mg base CX0 1 "_law_take" ["_law_pool_here", "_law_sides"] sp_l_take) (h_is_square : Has P w K mg base CX0 3 "is_square" ["thing"] sp_is_square) (h_is_box : Has P w K mg base CX0 3 "is_box" ["thing"] sp_is_box) (h_l_judged : Has P w K mg base CX0 2 "_law_judged" ["_law_thing"] sp_l_judged) (F : Fnt K "law" s_law f fd) (hm : mg "law" = some (.ref f)) (M : Md mg) : Has P w K mg base CX0 4 "law" ["_law_script"] (sp_law K) := by
  refine has_of F hm sc_law (fun fd' F' => F'.bindsN fun _ _ _ _ _ _ us hl => match us, hl with | [_], _ => rfl) len_law (fun cdv A outer s H vs Q E hr hg0 h => ⟨t_law K, PSs.nox ?_, pure_law vs H Q E h⟩)
  have nd := sc_law.nd
  exact (pss_cons (ps_for PassesOwn.never rfl (pi_range1 (by rfl) M.b_range (pa_cons (pe_callB (call_max2' rfl) (by rfl) M.b_max (by decide +kernel) (pa_cons pe_int (pa_cons (pe_callB (call_min2' rfl) (by rfl) M.b_min (by decide +kernel) (pa_cons (pe_callB call_lenX (by rfl) M.b_len (by decide +kernel) (pa_cons (pv 0) pa_nil)) (pa_cons pe_int pa_nil))) pa_nil))) pa_nil)) (pg_name (i := 1) nd rfl (Or.inl rfl))
  (pss_cons (ps_set (i := 2) nd rfl (Or.inl rfl) (pe_callH h_l_pool (hr.mono (by decide)) hg0 pass0 (by rfl) (pa_cons (pv 0) (pa_cons (pv 1) pa_nil))))
  (pss_cons (ps_for PassesOwn.never rfl (pi_range1 (by rfl) M.b_range (pa_cons pe_int pa_nil)) (pg_name (i := 3) nd rfl (Or.inl rfl))
  (pss_cons (ps_set (i := 4) nd rfl (Or.inl rfl) (pe_ix ix_seq (pe_lst (pa_cons pe_int (pa_cons (pe_op op_pow pe_int pe_int) pa_nil))) (pe_callH h_l_take (hr.mono (by decide)) hg0 pass0 (by rfl) (pa_cons (pv 2) (pa_cons pe_int pa_nil))) (fun _ _ => rfl)))
  (pss_cons (ps_par (i := 5) (j := 6) (by rfl) nd rfl rfl (by decide) rfl rfl (pa_cons (pe_op op_sub (pe_callH h_l_take (hr.mono (by decide)) hg0 pass0 (by rfl) (pa_cons (pv 2) (pa_cons (pv 4) pa_nil))) (pe_op op_fdivW (pv 4) pe_int)) (pa_cons (pe_op op_sub (pe_callH h_l_take (hr.mono (by decide)) hg0 pass0 (by rfl) (pa_cons (pv 2) (pa_cons (pv 4) pa_nil))) (pe_op op_fdivW (pv 4) pe_int)) pa_nil)) (by rfl))
  (pss_cons (ps_set (i := 6) nd rfl (Or.inl rfl) (pe_op op_mulW (pv 6) (pe_ix ix_seq (pe_lst (pa_cons pe_int (pa_cons (pe_op op_pow pe_int pe_int) pa_nil))) (pe_callH h_l_take (hr.mono (by decide)) hg0 pass0 (by rfl) (pa_cons (pv 2) (pa_cons pe_int pa_nil))) (fun _ _ => rfl))))
  (pss_cons (ps_set (i := 7) nd rfl (Or.inl rfl) (pe_callH h_l_bent (hr.mono (by decide)) hg0 pass0 (by rfl) (pa_cons (pv 2) (pa_cons (pe_tup (pa_cons (pv 5) (pa_cons (pv 6) pa_nil))) pa_nil))))
  (pss_cons (ps_set (i := 8) nd rfl (Or.inl rfl) (pe_callH h_l_bent (hr.mono (by decide)) hg0 pass0 (by rfl) (pa_cons (pv 2) (pa_cons (pe_tup (pa_cons (pv 5) (pa_cons (pv 6) (pa_cons (pe_op op_addX (pe_op op_addX (pv 5) pe_int) (pe_callH h_l_take (hr.mono (by decide)) hg0 pass0 (by rfl) (pa_cons (pv 2) (pa_cons (pv 4) pa_nil)))) (pa_cons (pe_op op_addX (pe_op op_addX (pv 6) pe_int) (pe_callH h_l_take (hr.mono (by decide)) hg0 pass0 (by rfl) (pa_cons (pv 2) (pa_cons (pv 4) pa_nil)))) pa_nil))))) pa_nil))))
  (pss_one (ps_for PassesOwn.never rfl (pi_seq (pe_lst (pa_cons (pv 7) (pa_cons (pv 8) pa_nil)))) (pg_name (i := 9) nd rfl (Or.inl rfl))
  (pss_cons (ps_set (i := 10) nd rfl (Or.inl rfl) (pe_callB (call_reprX hr hg0) (by rfl) M.b_repr (by decide +kernel) (pa_cons (pv 9) pa_nil)))
  (pss_one (ps_if (PW.pt (pw_or (pt_cmpR (op_neX hr.units) (pe_callB (call_reprX hr hg0) (by rfl) M.b_repr (by decide +kernel) (pa_cons (pe_lst (pa_cons (pe_callH h_is_square (hr.mono (by decide)) hg0 pass0 (by rfl) (pa_cons (pv 9) pa_nil)) (pa_cons (pe_callH h_is_box (hr.mono (by decide)) hg0 pass0 (by rfl) (pa_cons (pv 9) pa_nil)) pa_nil))) pa_nil)) (pe_callB (call_reprX hr hg0) (by rfl) M.b_repr (by decide +kernel) (pa_cons (pe_callH h_l_judged (hr.mono (by decide)) hg0 pass0 (by rfl) (pa_cons (pv 9) pa_nil)) pa_nil)) (nomark _)) (pw_or1 (pt_cmpR (op_neX hr.units) (pe_callB (call_reprX hr hg0) (by rfl) M.b_repr (by decide +kernel) (pa_cons (pv 9) pa_nil)) (pv 10) (nomark _)))))
  (pss_one (ps_ret pe_bl))
  pss_nil)))))))))))
  (pss_one (ps_for PassesOwn.never rfl (pi_seq (pe_lst (pa_cons pe_non (pa_cons pe_int (pa_cons pe_str (pa_cons pe_dnewK (pa_cons (pe_lst pa_nil) (pa_cons (pe_tup pa_nil) (pa_cons (pe_tup (pa_cons pe_int pa_nil)) (pa_cons (pe_lst (pa_cons pe_int (pa_cons pe_int pa_nil))) (pa_cons (pe_tup (pa_cons pe_int (pa_cons pe_int (pa_cons pe_int pa_nil)))) (pa_cons (pe_tup (pa_cons (pe_tup (pa_cons pe_int (pa_cons pe_int pa_nil))) (pa_cons (pe_tup (pa_cons pe_int (pa_cons pe_int pa_nil))) pa_nil))) pa_nil)))))))))))) (pg_name (i := 11) nd rfl (Or.inl rfl))
  (pss_one (ps_if (PW.pt (pw_or (pt_cmpR op_notBl (pe_callH h_is_square (hr.mono (by decide)) hg0 pass0 (by rfl) (pa_cons (pv 11) pa_nil)) pe_bl (nomark _)) (pw_or1 (pt_cmpR op_notBl (pe_callH h_is_box (hr.mono (by decide)) hg0 pass0 (by rfl) (pa_cons (pv 11) pa_nil)) pe_bl (nomark _)))))
  (pss_one (ps_ret pe_bl))
  pss_nil)))))))
  (pss_one (ps_ret pe_bl)))

end
def d_is_integer : He.DefD := ⟨("is_integer", none), "is_integer", "is_integer", defArgs s_is_integer, defBody s_is_integer, defScope s_is_integer, [], []⟩
def d_are_integers : He.DefD := ⟨("are_integers", none), "are_integers", "are_integers", defArgs s_are_integers, defBody s_are_integers, defScope s_are_integers, [], []⟩
def d_is_square : He.DefD := ⟨("is_square", none), "is_square", "is_square", defArgs s_is_square, defBody s_is_square, defScope s_is_square, [], []⟩
def d_is_box : He.DefD := ⟨("is_box", none), "is_box", "is_box", defArgs s_is_box, defBody s_is_box, defScope s_is_box, [], []⟩
def d_l_pool : He.DefD := ⟨("_law_pool", none), "_law_pool", "_law_pool", defArgs s_l_pool, defBody s_l_pool, defScope s_l_pool, [], []⟩
def d_l_take : He.DefD := ⟨("_law_take", none), "_law_take", "_law_take", defArgs s_l_take, defBody s_l_take, defScope s_l_take, [], []⟩
def d_l_is_tuple : He.DefD := ⟨("_law_is_tuple", none), "_law_is_tuple", "_law_is_tuple", defArgs s_l_is_tuple, defBody s_l_is_tuple, defScope s_l_is_tuple, [], []⟩
def d_l_judged : He.DefD := ⟨("_law_judged", none), "_law_judged", "_law_judged", defArgs s_l_judged, defBody s_l_judged, defScope s_l_judged, [], []⟩
def d_l_bent : He.DefD := ⟨("_law_bent", none), "_law_bent", "_law_bent", defArgs s_l_bent, defBody s_l_bent, defScope s_l_bent, [], []⟩
def d_law : He.DefD := ⟨("law", none), "law", "law", defArgs s_law, defBody s_law, defScope s_law, [], []⟩
def fnD : List He.DefD := [d_is_integer, d_are_integers, d_is_square, d_is_box, d_l_pool, d_l_take, d_l_is_tuple, d_l_judged, d_l_bent, d_law]
def faD : List He.Fa := [.glo "is_integer", .glo "are_integers", .glo "is_square", .glo "is_box", .glo "_law_pool", .glo "_law_take", .glo "_law_is_tuple", .glo "_law_judged", .glo "_law_bent", .glo "law", .free "isinstance", .free "int", .free "bool", .free "tuple", .free "all", .free "len", .free "list", .free "range", .free "max", .free "min", .free "repr"]
abbrev RR : PySem.W.OpenRow := PySem.W.OpenLaw.row PySem.Challenge.rw_boxregions_k01_squares_and_boxes_judged
abbrev hk : PySem.W.Hook := He.hookD 4 faD fnD
def ob (s : PySem.W.SharedT) : He.AlD := He.obsDG 4 faD fnD (HandSHeadRun.getT s)
theorem ob_eq (s : PySem.W.SharedT) : ob s = hk.obs s.abs := He.obsDG_eq (HandSHeadRun.getT_eq s)
def loose : List Str := ["is_integer", "are_integers", "is_square", "is_box", "_law_pool", "_law_take", "_law_is_tuple", "_law_judged", "_law_bent"]
theorem run (w : World) : HandSHeadRun.RunEq RR (PySem.W.view RR.prog [11]) hk ob 600 loose w := by
  intro os
  kernel_rfl
theorem facts {P : Program} {w : World} {K : Fg} {h : Heap} {mg : Str → Option Value} (X : K.In h) (G : h.Ns mainGlobals mg) (c : He.SaysD faD fnD K) (base : Heap) : Has P w K mg base CX0 4 "law" ["_law_script"] (sp_law K) := by
  obtain ⟨fd_is_integer, F_is_integer⟩ := c.def_ 0 (d := d_is_integer) rfl
  have g_is_integer := He.glo_ok X G (c.fact 0 (f := .glo "is_integer") rfl)
  obtain ⟨fd_are_integers, F_are_integers⟩ := c.def_ 1 (d := d_are_integers) rfl
  have g_are_integers := He.glo_ok X G (c.fact 1 (f := .glo "are_integers") rfl)
  obtain ⟨fd_is_square, F_is_square⟩ := c.def_ 2 (d := d_is_square) rfl
  have g_is_square := He.glo_ok X G (c.fact 2 (f := .glo "is_square") rfl)
  obtain ⟨fd_is_box, F_is_box⟩ := c.def_ 3 (d := d_is_box) rfl
  have g_is_box := He.glo_ok X G (c.fact 3 (f := .glo "is_box") rfl)
  obtain ⟨fd_l_pool, F_l_pool⟩ := c.def_ 4 (d := d_l_pool) rfl
  have g_l_pool := He.glo_ok X G (c.fact 4 (f := .glo "_law_pool") rfl)
  obtain ⟨fd_l_take, F_l_take⟩ := c.def_ 5 (d := d_l_take) rfl
  have g_l_take := He.glo_ok X G (c.fact 5 (f := .glo "_law_take") rfl)
  obtain ⟨fd_l_is_tuple, F_l_is_tuple⟩ := c.def_ 6 (d := d_l_is_tuple) rfl
  have g_l_is_tuple := He.glo_ok X G (c.fact 6 (f := .glo "_law_is_tuple") rfl)
  obtain ⟨fd_l_judged, F_l_judged⟩ := c.def_ 7 (d := d_l_judged) rfl
  have g_l_judged := He.glo_ok X G (c.fact 7 (f := .glo "_law_judged") rfl)
  obtain ⟨fd_l_bent, F_l_bent⟩ := c.def_ 8 (d := d_l_bent) rfl
  have g_l_bent := He.glo_ok X G (c.fact 8 (f := .glo "_law_bent") rfl)
  obtain ⟨fd_law, F_law⟩ := c.def_ 9 (d := d_law) rfl
  have g_law := He.glo_ok X G (c.fact 9 (f := .glo "law") rfl)
  have M : Md mg := ⟨He.free_ok X G (c.fact 10 (f := .free "isinstance") rfl), He.free_ok X G (c.fact 11 (f := .free "int") rfl), He.free_ok X G (c.fact 12 (f := .free "bool") rfl), He.free_ok X G (c.fact 13 (f := .free "tuple") rfl), He.free_ok X G (c.fact 14 (f := .free "all") rfl), He.free_ok X G (c.fact 15 (f := .free "len") rfl), He.free_ok X G (c.fact 16 (f := .free "list") rfl), He.free_ok X G (c.fact 17 (f := .free "range") rfl), He.free_ok X G (c.fact 18 (f := .free "max") rfl), He.free_ok X G (c.fact 19 (f := .free "min") rfl), He.free_ok X G (c.fact 20 (f := .free "repr") rfl)⟩
  have h_is_integer : Has P w K mg base CX0 1 "is_integer" ["thing"] sp_is_integer := has_is_integer  F_is_integer g_is_integer M
  have h_l_pool : Has P w K mg base CX0 1 "_law_pool" ["_law_script", "_law_k"] (sp_l_pool K) := has_l_pool  F_l_pool g_l_pool M
  have h_l_take : Has P w K mg base CX0 1 "_law_take" ["_law_pool_here", "_law_sides"] sp_l_take := has_l_take  F_l_take g_l_take M
  have h_l_is_tuple : Has P w K mg base CX0 1 "_law_is_tuple" ["_law_thing", "_law_many"] sp_l_is_tuple := has_l_is_tuple  F_l_is_tuple g_l_is_tuple M
  have h_are_integers : Has P w K mg base CX0 2 "are_integers" ["thing", "count"] sp_are_integers := has_are_integers h_is_integer F_are_integers g_are_integers M
  have h_l_judged : Has P w K mg base CX0 2 "_law_judged" ["_law_thing"] sp_l_judged := has_l_judged h_l_is_tuple F_l_judged g_l_judged M
  have h_l_bent : Has P w K mg base CX0 2 "_law_bent" ["_law_pool_here", "_law_thing"] sp_l_bent := has_l_bent h_l_take F_l_bent g_l_bent M
  have h_is_square : Has P w K mg base CX0 3 "is_square" ["thing"] sp_is_square := has_is_square h_are_integers F_is_square g_is_square M
  have h_is_box : Has P w K mg base CX0 3 "is_box" ["thing"] sp_is_box := has_is_box h_are_integers F_is_box g_is_box M
  have h_law : Has P w K mg base CX0 4 "law" ["_law_script"] (sp_law K) := has_law h_l_pool h_l_bent h_l_take h_is_square h_is_box h_l_judged F_law g_law M
  exact h_law
end BR
open PySem PySem.W PySem.Calls PyProof.Rows
theorem PySem.Challenge.cw_boxregions_k01_squares_and_boxes_judged_holds : PySem.Challenge.rw_boxregions_k01_squares_and_boxes_judged.Holds := by
  w_on; o_law
  refine HandSHeadRun.head_any (r := OpenLaw.row PySem.Challenge.rw_boxregions_k01_squares_and_boxes_judged) (q := view (OpenLaw.row PySem.Challenge.rw_boxregions_k01_squares_and_boxes_judged).prog [11]) (H := BR.hk) (ob := BR.ob) (M := 600) (loose := BR.loose)
    (d := HandSHeadRun.topDef (OpenLaw.row PySem.Challenge.rw_boxregions_k01_squares_and_boxes_judged).prog 11) (kwd := []) BR.ob_eq
    (by kernel_rfl) (fun s => by kernel_rfl) BR.run (by kernel_rfl) (by kernel_rfl) (by kernel_rfl) (by rfl) (by first | assumption | decide +kernel) (by decide +kernel) ⟨rfl, rfl, rfl, rfl, rfl, by decide +kernel⟩ ?hw ?hc
  case hw => w_witness2
  case hc =>
    refine BR.walk_ofG (l := PySem.Challenge.rw_boxregions_k01_squares_and_boxes_judged) (n := 63) (k := 4) (x := "_law_script") (CX := L2.CX0) rfl (by decide) (by kernel_rfl) ⟨rfl, by decide, by decide⟩ ?F (fun _ _ _ _ z => z)
    intro w mg fa h Y G hmg0
    obtain ⟨K, KX, c⟩ := Y
    have e : (HandSHeadRun.topDef (OpenLaw.row PySem.Challenge.rw_boxregions_k01_squares_and_boxes_judged).prog 11).name = ("law" : PySem.Str) := by kernel_rfl
    refine ⟨K, BR.sp_law K, KX, fun H a ns hl _ _ hS => ⟨a, ns, rfl, hS, hl, fun _ => rfl⟩, fun base _ _ => ?_⟩
    rw [e]
    exact BR.facts (P := (PySem.Challenge.rw_boxregions_k01_squares_and_boxes_judged).prog) (w := w) KX G c base
