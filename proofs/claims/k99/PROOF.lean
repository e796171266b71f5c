import PyProof.Rows.All
import Wide.All
import OpenK.AllK
import Wide.FinOn
import HandS.ForMost
import HandS.IsInst
import HandS.Wide
import HandS.TupAny
import HandS.Style
import HandS.Defaults
import HandS.SortInts
import PyProof.ReprRoads
import HandS.EndBits
import HandS.Head0
import HandS.Head1
import HandS.Head2
import HandS.HeadHook1
import HandS.HeadHook2
import KE.KRevSl
import HandS.Strs
import HandS.SetBool
import HandS.SortRule
import HandS.Zip
import HandS.OwnEq
import HandS.Property
import HandS.ClsMeth
import HandS.Star
import KE.KOpsOwn
import HandS.FStr
import HandS.NoneIn
import HandS.Deep
import PyProof.Rows.Range3
import PySem.Challenge.RW_boxregions_k99_whole_borders_of_combinat
set_option Elab.async false
set_option linter.all false
set_option maxRecDepth 100000
set_option maxHeartbeats 4000000
/-! Own layer: values by what they are (Ty), over a part G of the heap that never changes again. -/
namespace BR
open PySem PySem.Spec PyProof.Rows L2
abbrev St := L2.St

/-! ### heaps that grow -/
theorem same_refl (H : Hp) : Same H H := fun _ _ h => h
structure Grow (G H G' H' : Hp) : Prop where
  g : Same G G'
  h : Same H H'
  s : Same G' H'
  f : ∀ a, G a = none → G' a ≠ none → H a = none
theorem Grow.refl {G H : Hp} (s : Same G H) : Grow G H G H :=
  ⟨same_refl G, same_refl H, s, fun a h h' => absurd h h'⟩
theorem Grow.trans {G H G1 H1 G2 H2 : Hp} (a : Grow G H G1 H1) (b : Grow G1 H1 G2 H2) : Grow G H G2 H2 :=
  ⟨a.g.trans b.g, a.h.trans b.h, b.s, fun x hx hy => by
    by_cases h1 : G1 x = none
    · exact a.h.free (b.f x h1 hy)
    · exact a.f x hx h1⟩
/-- only the rest has grown -/
theorem Grow.rest {G H H' : Hp} (s : Same G H) (h : Same H H') : Grow G H G H' :=
  ⟨same_refl G, h, s.trans h, fun a h h' => absurd h h'⟩
theorem same_new {H : Hp} {p : Addr} {o : HO} (h : H p = none) : Same H (upd H p o) := fun a u e => by
  rw [upd_ne (ne_of_none e h)]
  exact e
theorem Grow.new {G H : Hp} {p : Addr} {o : HO} (s : Same G H) (h : H p = none) : Grow G H (upd G p o) (upd H p o) := by
  have hG : G p = none := s.free h
  refine ⟨same_new hG, same_new h, fun a u e => ?_, fun a ha hb => ?_⟩
  · by_cases q : a = p
    · subst q
      rw [upd_same] at e ⊢
      exact e
    · rw [upd_ne q] at e ⊢
      exact s a u e
  · by_cases q : a = p
    · subst q
      exact h
    · rw [upd_ne q] at hb
      exact absurd ha hb
def uni (A B : Hp) : Hp := fun a => match A a with
  | some o => some o
  | none => B a
theorem uni_l (A B : Hp) : Same A (uni A B) := fun a o e => by simp [uni, e]
theorem uni_r {A B H : Hp} (ha : Same A H) (hb : Same B H) : Same B (uni A B) := fun a o e => by
  unfold uni
  cases q : A a with
  | none => exact e
  | some u =>
    have h1 := ha a u q
    have h2 := hb a o e
    rw [h1] at h2
    exact h2
theorem uni_s {A B H : Hp} (ha : Same A H) (hb : Same B H) : Same (uni A B) H := fun a o e => by
  unfold uni at e
  cases q : A a with
  | none =>
    rw [q] at e
    exact hb a o e
  | some u =>
    rw [q] at e
    cases e
    exact ha a _ q
/-- a growth over less is one over more -/
theorem Grow.more {G G1 H G' H' : Hp} (a : Grow G H G' H') (g : Same G G1) (s : Same G1 H) : Grow G1 H (uni G1 G') H' ∧ Same G' (uni G1 G') :=
  ⟨⟨uni_l _ _, a.h, uni_s (s.trans a.h) a.s, fun x hx hy => by
    have e : uni G1 G' x = G' x := by simp [uni, hx]
    rw [e] at hy
    exact a.f x (g.free hx) hy⟩, uni_r (s.trans a.h) a.s⟩

/-! ### what a value is -/
structure Ty where
  p : Hp → V → Prop
  m : ∀ G G' v, Same G G' → p G v → p G' v
inductive All : Hp → List Ty → List V → Prop
  | nil {G} : All G [] []
  | cons {G φ φs v vs} : φ.p G v → All G φs vs → All G (φ :: φs) (v :: vs)
theorem All.mono {G G' : Hp} (s : Same G G') : ∀ {φs : List Ty} {vs : List V}, All G φs vs → All G' φs vs
  | _, _, .nil => .nil
  | _, _, .cons h t => .cons (Ty.m _ _ _ _ s h) (t.mono s)
theorem All.length {G : Hp} : ∀ {φs : List Ty} {vs : List V}, All G φs vs → vs.length = φs.length
  | _, _, .nil => rfl
  | _, _, .cons _ t => by simp [t.length]
theorem All.get {G : Hp} : ∀ {φs : List Ty} {vs : List V} {i : Nat} {φ : Ty}, All G φs vs → φs[i]? = some φ → ∃ v, vs[i]? = some v ∧ φ.p G v
  | _, _, _, _, .nil, e => by simp at e
  | _, _, 0, _, .cons h _, e => by
    simp at e
    subst e
    exact ⟨_, rfl, h⟩
  | _, _, i + 1, _, .cons _ t, e => by
    obtain ⟨v, h1, h2⟩ := t.get (i := i) (by simpa using e)
    exact ⟨v, by simpa using h1, h2⟩
theorem All.get' {G : Hp} : ∀ {φs : List Ty} {vs : List V} {i : Nat} {v : V}, All G φs vs → vs[i]? = some v → ∃ φ, φs[i]? = some φ ∧ φ.p G v
  | _, _, _, _, .nil, e => by simp at e
  | _, _, 0, _, .cons h _, e => by
    simp at e
    subst e
    exact ⟨_, rfl, h⟩
  | _, _, i + 1, _, .cons _ t, e => by
    obtain ⟨φ, h1, h2⟩ := t.get' (i := i) (by simpa using e)
    exact ⟨φ, by simpa using h1, h2⟩
theorem All.append {G : Hp} : ∀ {φs ψs : List Ty} {vs ws : List V}, All G φs vs → All G ψs ws → All G (φs ++ ψs) (vs ++ ws)
  | _, _, _, _, .nil, h => h
  | _, _, _, _, .cons a t, h => .cons a (t.append h)
theorem All.take {G : Hp} : ∀ {φs : List Ty} {vs : List V} (n : Nat), All G φs vs → All G (φs.take n) (vs.take n)
  | _, _, 0, _ => by simpa using All.nil
  | _, _, _ + 1, .nil => .nil
  | _, _, n + 1, .cons a t => .cons a (t.take n)
theorem All.drop {G : Hp} : ∀ {φs : List Ty} {vs : List V} (n : Nat), All G φs vs → All G (φs.drop n) (vs.drop n)
  | _, _, 0, h => h
  | _, _, _ + 1, .nil => .nil
  | _, _, n + 1, .cons _ t => t.drop n
theorem All.reverse {G : Hp} : ∀ {φs : List Ty} {vs : List V}, All G φs vs → All G φs.reverse vs.reverse
  | _, _, .nil => .nil
  | _, _, .cons a t => by
    rw [List.reverse_cons, List.reverse_cons]
    exact t.reverse.append (.cons a .nil)
theorem All.set {G : Hp} {φ : Ty} {v : V} (h : φ.p G v) : ∀ {φs : List Ty} {vs : List V} (i : Nat), All G φs vs → All G (φs.set i φ) (vs.set i v)
  | _, _, _, .nil => .nil
  | _, _, 0, .cons _ t => .cons h t
  | _, _, i + 1, .cons a t => .cons a (All.set h i t)

abbrev Fg := PySem.W.Frag
theorem sqL_mono {K : Fg} {G G' : Hp} {a : Addr} {xs : List V} (e : Same G G') (h : SqL K G a xs) : SqL K G' a xs := e.seq h
theorem sqT_mono {K : Fg} {G G' : Hp} {a : Addr} {xs : List V} (e : Same G G') (h : SqT K G a xs) : SqT K G' a xs := by
  rcases h with (h | ⟨o, h⟩) | h
  · exact .inl (.inl (e _ _ h))
  · exact .inl (.inr ⟨o, e _ _ h⟩)
  · exact .inr h
/-- a known value -/
def tv (v : V) : Ty := ⟨fun _ u => u = v, fun _ _ _ _ h => h⟩
abbrev tI (i : Int) : Ty := tv (.int i)
abbrev tBo (b : Bool) : Ty := tv (.bl b)
abbrev tN : Ty := tv .non
abbrev tSt (x : Str) : Ty := tv (.str x)
/-- a tuple, a list (never changed again), by what their items are -/
def tT (φs : List Ty) : Ty := ⟨fun G v => ∃ a vs, v = .ref a ∧ G a = some (.tup vs) ∧ All G φs vs, fun _ _ _ s ⟨a, vs, e, h1, h2⟩ => ⟨a, vs, e, s _ _ h1, h2.mono s⟩⟩
def tL (φs : List Ty) : Ty := ⟨fun G v => ∃ a vs, v = .ref a ∧ G a = some (.lst vs) ∧ All G φs vs, fun _ _ _ s ⟨a, vs, e, h1, h2⟩ => ⟨a, vs, e, s _ _ h1, h2.mono s⟩⟩
/-- a value of a class, nothing else known -/
def tAny (K : Fg) (t : Value) : Ty := ⟨fun G v => ∃ H0, Same H0 G ∧ ∀ H, Same H0 H → TyX K H v t, fun _ _ _ s ⟨H0, h1, h2⟩ => ⟨H0, h1.trans s, h2⟩⟩

/-! ### what an expression's reading gives -/
def PD (t : TE) (σ : St) (G R : Hp) (φ : Ty) : Prop :=
  ∀ H, Same R H → Same G H → ∀ Q : VK, (∀ v G' H', Grow G H G' H' → φ.p G' v → Q v H') → t σ H Q
def AD (t : TA) (σ : St) (G R : Hp) (φs : List Ty) : Prop :=
  ∀ H, Same R H → Same G H → ∀ Q : List V → Hp → Prop, (∀ vs G' H', Grow G H G' H' → All G' φs vs → Q vs H') → t σ H Q
def TD (t : TT) (σ : St) (R : Hp) (b : Bool) : Prop :=
  ∀ H, Same R H → ∀ Q : Bool → Hp → Prop, (∀ H', Same H H' → Q b H') → t σ H Q
section
variable {K : Fg} {σ : St} {G G1 R R1 : Hp} {ta tb te : TE} {φ ψ χ : Ty}
theorem PD.mono (h : PD te σ G R φ) (g : Same G G1) (r : Same R R1) : PD te σ G1 R1 φ := fun H sr sg Q q =>
  h H (r.trans sr) (g.trans sg) Q fun v G' H' gr hv =>
    let ⟨g2, s2⟩ := gr.more g sg
    q v _ H' g2 (φ.m _ _ _ s2 hv)
theorem AD.mono {ta : TA} {φs : List Ty} (h : AD ta σ G R φs) (g : Same G G1) (r : Same R R1) : AD ta σ G1 R1 φs := fun H sr sg Q q =>
  h H (r.trans sr) (g.trans sg) Q fun v G' H' gr hv =>
    let ⟨g2, s2⟩ := gr.more g sg
    q v _ H' g2 (hv.mono s2)
theorem TD.mono {t : TT} {b : Bool} (h : TD t σ R b) (r : Same R R1) : TD t σ R1 b := fun H sr Q q => h H (r.trans sr) Q q
theorem PD.imp (h : PD te σ G R φ) (f : ∀ G v, φ.p G v → ψ.p G v) : PD te σ G R ψ := fun H sr sg Q q =>
  h H sr sg Q fun v G' H' gr hv => q v G' H' gr (f _ _ hv)
theorem PD.is (h : PD te σ G R φ) (e : φ = ψ) : PD te σ G R ψ := e ▸ h
theorem TD.is {t : TT} {a b : Bool} (h : TD t σ R a) (e : a = b) : TD t σ R b := e ▸ h
/-- a known value may be read off anything that stands -/
theorem PD.val {v : V} (h : PD te σ R R (tv v)) : PD te σ G R (tv v) := fun H sr sg Q q =>
  h H sr sr Q fun u _ H' gr hv => q u G H' (.rest sg gr.h) hv
theorem PD.val' {v : V} (h : PD te σ G1 R (tv v)) (s1 : Same G1 R) : PD te σ G R (tv v) := fun H sr sg Q q =>
  h H sr (s1.trans sr) Q fun u _ H' gr hv => q u G H' (.rest sg gr.h) hv
/-! names, constants -/
theorem pd_var {i : Nat} {v : V} (h : σ[i]? = some (some v)) (hv : φ.p G v) : PD (tVar i) σ G R φ := fun H _ sg Q q =>
  ⟨v, h, q v G H (.refl sg) hv⟩
theorem pd_c {v : V} : PD (tC v) σ G R (tv v) := fun H _ sg Q q => q v G H (.refl sg) rfl
/-! arguments, displays -/
theorem ad_nil : AD tNil σ G R [] := fun H _ sg Q q => q [] G H (.refl sg) .nil
theorem ad_cons {tr : TA} {φs : List Ty} (h : PD te σ G R φ) (hr : AD tr σ G R φs) : AD (tCons te tr) σ G R (φ :: φs) := fun H sr sg Q q =>
  h H sr sg _ fun v G1 H1 g1 hv => (hr.mono g1.g (sr.trans g1.h)) H1 (same_refl _) g1.s _ fun vs G2 H2 g2 hvs =>
    q (v :: vs) G2 H2 (g1.trans g2) (.cons (φ.m _ _ _ g2.g hv) hvs)
theorem sz_of {n : Nat} (h : n ≤ 100000) : n ≤ sizeLine := Nat.le_trans h (by decide)
theorem sz_lt {n : Nat} (h : n < 100000) : n < sizeLine := Nat.lt_of_lt_of_le h (by decide)
theorem pd_tup {t : TA} {φs : List Ty} (h : AD t σ G R φs) (hl : φs.length ≤ 100000) : PD (tTup t) σ G R (tT φs) := fun H sr sg Q q =>
  h H sr sg _ fun vs G1 H1 g1 hvs => ⟨sz_of (by rw [hvs.length]; exact hl), fun p hp =>
    have g2 : Grow G1 H1 (upd G1 p (.tup vs)) (upd H1 p (.tup vs)) := .new g1.s hp
    q (.ref p) _ _ (g1.trans g2) ⟨p, vs, rfl, upd_same, hvs.mono g2.g⟩⟩
theorem pd_lst {t : TA} {φs : List Ty} (h : AD t σ G R φs) (hl : φs.length ≤ 100000) : PD (tLst t) σ G R (tL φs) := fun H sr sg Q q =>
  h H sr sg _ fun vs G1 H1 g1 hvs => ⟨sz_of (by rw [hvs.length]; exact hl), fun p hp =>
    have g2 : Grow G1 H1 (upd G1 p (.lst vs)) (upd H1 p (.lst vs)) := .new g1.s hp
    q (.ref p) _ _ (g1.trans g2) ⟨p, vs, rfl, upd_same, hvs.mono g2.g⟩⟩
/-! two places -/
theorem pd_op {r : R2} (ha : PD ta σ G R φ) (hb : PD tb σ G R ψ)
    (hr : ∀ x y G1 H, Same G G1 → Same G1 H → φ.p G1 x → ψ.p G1 y → ∀ Q : VK, (∀ v G' H', Grow G1 H G' H' → χ.p G' v → Q v H') → r x y H Q) : PD (tOp r ta tb) σ G R χ := fun H sr sg Q q =>
  ha H sr sg _ fun x G1 H1 g1 hx => (hb.mono g1.g (sr.trans g1.h)) H1 (same_refl _) g1.s _ fun y G2 H2 g2 hy =>
    hr x y G2 H2 (g1.g.trans g2.g) g2.s (φ.m _ _ _ g2.g hx) hy Q fun v G3 H3 g3 hv => q v G3 H3 ((g1.trans g2).trans g3) hv
/-- two known values to a known value -/
theorem pd_opv {r : R2} {x y z : V} (ha : PD ta σ G R (tv x)) (hb : PD tb σ G R (tv y)) (hr : ∀ H Q, Q z H → r x y H Q) : PD (tOp r ta tb) σ G R (tv z) :=
  pd_op ha hb fun x' y' G1 H _ s1 ex ey Q q => by
    cases ex
    cases ey
    exact hr H Q (q z G1 H (.refl s1) rfl)
theorem pd_I0 {g : Int → Int → V} {i j : Int} (ha : PD ta σ G R (tI i)) (hb : PD tb σ G R (tI j)) : PD (tOp (rI0 g) ta tb) σ G R (tv (g i j)) :=
  pd_opv ha hb fun H Q q => ⟨i, j, rfl, rfl, q⟩
theorem pd_I {C : Int → Int → Prop} {g : Int → Int → V} {i j : Int} (ha : PD ta σ G R (tI i)) (hb : PD tb σ G R (tI j)) (hc : C i j) : PD (tOp (rI C g) ta tb) σ G R (tv (g i j)) :=
  pd_opv ha hb fun H Q q => ⟨i, j, rfl, rfl, hc, q⟩
theorem pd_eqS {x y : V} (ha : PD ta σ G R (tv x)) (hb : PD tb σ G R (tv y)) (hs : scal x y = true) : PD (tOp rEq ta tb) σ G R (tBo (decide (x = y))) :=
  pd_opv ha hb fun H Q q => ⟨hs, q⟩
theorem pd_neS {x y : V} (ha : PD ta σ G R (tv x)) (hb : PD tb σ G R (tv y)) (hs : scal x y = true) : PD (tOp rNe ta tb) σ G R (tBo (!decide (x = y))) :=
  pd_opv ha hb fun H Q q => ⟨hs, q⟩
theorem pd_un {r : V → Hp → VK → Prop} {x z : V} (ha : PD ta σ G R (tv x)) (hr : ∀ H Q, Q z H → r x H Q) : PD (tUn r ta) σ G R (tv z) := fun H sr sg Q q =>
  ha H sr sg _ fun v G1 H1 g1 hv => by
    cases hv
    exact hr H1 Q (q z G1 H1 g1 rfl)
/-! items -/
theorem pd_ixT {φs : List Ty} {i : Int} (ha : PD ta σ G R (tT φs)) (hb : PD tb σ G R (tI i)) (hi : atI φs i = some φ) : PD (tOp (rIxT K) ta tb) σ G R φ :=
  pd_op ha hb fun x y G1 H _ s1 hx hy Q q => by
    obtain ⟨a, vs, rfl, h1, h2⟩ := hx
    cases hy
    unfold atI at hi
    rw [← h2.length] at hi
    cases e : ixN vs.length i with
    | none =>
      rw [e] at hi
      cases hi
    | some j =>
      rw [e] at hi
      obtain ⟨v, e1, e2⟩ := h2.get hi
      exact ⟨a, vs, i, v, rfl, rfl, .of (s1 _ _ h1), by unfold atI; rw [e]; exact e1, q v G1 H (.refl s1) e2⟩
theorem pd_ixL {φs : List Ty} {i : Int} (ha : PD ta σ G R (tL φs)) (hb : PD tb σ G R (tI i)) (hi : atI φs i = some φ) : PD (tOp (rIxL K) ta tb) σ G R φ :=
  pd_op ha hb fun x y G1 H _ s1 hx hy Q q => by
    obtain ⟨a, vs, rfl, h1, h2⟩ := hx
    cases hy
    unfold atI at hi
    rw [← h2.length] at hi
    cases e : ixN vs.length i with
    | none =>
      rw [e] at hi
      cases hi
    | some j =>
      rw [e] at hi
      obtain ⟨v, e1, e2⟩ := h2.get hi
      exact ⟨a, vs, i, v, rfl, rfl, .of (s1 _ _ h1), by unfold atI; rw [e]; exact e1, q v G1 H (.refl s1) e2⟩
/-! tests -/
theorem td_B {b : Bool} (h : PD te σ R R (tBo b)) : TD (tB te) σ R b := fun H sr Q q =>
  h H sr sr _ fun v _ H1 g1 hv => ⟨b, hv, q H1 g1.h⟩
theorem td_test {b : Bool} (h : PD te σ R R (tBo b)) : TD (tTest te) σ R b := fun H sr Q q =>
  h H sr sr _ fun v _ H1 g1 hv => ⟨b, hv, q H1 g1.h⟩
variable {t u : TT}
theorem td_and {a b : Bool} (h1 : TD t σ R a) (h2 : a = true → TD u σ R b) : TD (tAnd t u) σ R (a && b) := fun H sr Q q =>
  h1 H sr _ fun H1 g1 => by
    cases a with
    | true => exact h2 rfl H1 (sr.trans g1) Q fun H2 g2 => q H2 (g1.trans g2)
    | false => exact q H1 g1
theorem td_or {a b : Bool} (h1 : TD t σ R a) (h2 : a = false → TD u σ R b) : TD (tOr t u) σ R (a || b) := fun H sr Q q =>
  h1 H sr _ fun H1 g1 => by
    cases a with
    | true => exact q H1 g1
    | false => exact h2 rfl H1 (sr.trans g1) Q fun H2 g2 => q H2 (g1.trans g2)
theorem td_not {a : Bool} (h : TD t σ R a) : TD (tNot t) σ R (!a) := fun H sr Q q => h H sr _ fun H1 g1 => q H1 g1
theorem pd_andV {a b : Bool} (h1 : PD ta σ G R (tBo a)) (h2 : a = true → PD tb σ G R (tBo b)) : PD (tAndV ta tb) σ G R (tBo (a && b)) := fun H sr sg Q q =>
  h1 H sr sg _ fun v G1 H1 g1 hv => ⟨a, hv, by
    cases a with
    | true => exact ((h2 rfl).mono g1.g (sr.trans g1.h)) H1 (same_refl _) g1.s Q fun v G2 H2 g2 hv => q v G2 H2 (g1.trans g2) hv
    | false => exact q _ G1 H1 g1 rfl⟩
theorem pd_orV {a b : Bool} (h1 : PD ta σ G R (tBo a)) (h2 : a = false → PD tb σ G R (tBo b)) : PD (tOrV ta tb) σ G R (tBo (a || b)) := fun H sr sg Q q =>
  h1 H sr sg _ fun v G1 H1 g1 hv => ⟨a, hv, by
    cases a with
    | true => exact q _ G1 H1 g1 rfl
    | false => exact ((h2 rfl).mono g1.g (sr.trans g1.h)) H1 (same_refl _) g1.s Q fun v G2 H2 g2 hv => q v G2 H2 (g1.trans g2) hv⟩
theorem pd_notV {a : Bool} (h : PD ta σ G R (tBo a)) : PD (tNotV ta) σ G R (tBo (!a)) := fun H sr sg Q q =>
  h H sr sg _ fun v G1 H1 g1 hv => ⟨a, hv, q _ G1 H1 g1 rfl⟩
theorem pd_if {b : Bool} (h : TD t σ R b) (h1 : b = true → PD ta σ G R φ) (h2 : b = false → PD tb σ G R φ) : PD (tIf t ta tb) σ G R φ := fun H sr sg Q q =>
  h H sr _ fun H1 g1 => by
    cases b with
    | true => exact (h1 rfl) H1 (sr.trans g1) (sg.trans g1) Q fun v G2 H2 g2 hv => q v G2 H2 ((Grow.rest sg g1).trans g2) hv
    | false => exact (h2 rfl) H1 (sr.trans g1) (sg.trans g1) Q fun v G2 H2 g2 hv => q v G2 H2 ((Grow.rest sg g1).trans g2) hv
/-! calls of built-ins -/
theorem pd_callB {r : List V → Hp → VK → Prop} {ta : TA} {φs : List Ty} (h : AD ta σ G R φs)
    (hr : ∀ vs G1 H, Same G G1 → Same G1 H → All G1 φs vs → ∀ Q : VK, (∀ v G' H', Grow G1 H G' H' → χ.p G' v → Q v H') → r vs H Q) : PD (tCB r ta) σ G R χ := fun H sr sg Q q =>
  h H sr sg _ fun vs G1 H1 g1 hv => hr vs G1 H1 g1.g g1.s hv Q fun v G2 H2 g2 hv => q v G2 H2 (g1.trans g2) hv
/-! promises of defs that are functions of their arguments -/
def spT (pre : List Ty → Ty → Prop) : Sp := fun vs H Q _ => ∃ G φs φ, Same G H ∧ All G φs vs ∧ pre φs φ ∧ ∀ v G' H', Grow G H G' H' → φ.p G' v → Q v H'
theorem pd_call {pre : List Ty → Ty → Prop} {E : XK} {ta : TA} {φs : List Ty} (h : AD ta σ G R φs) (hp : pre φs φ) : PD (tCall (spT pre) [] E ta) σ G R φ := fun H sr sg Q q =>
  h H sr sg _ fun vs G1 H1 g1 hv => ⟨G1, φs, φ, g1.s, by rw [List.append_nil]; exact hv, hp, fun v G2 H2 g2 hv => q v G2 H2 (g1.trans g2) hv⟩
end
/-! ### statements -/
section
variable {K : Fg} {σ : St} {G R H : Hp} {ta tb te : TE} {t : TT} {φ ψ : Ty} {D : Ends} {tu tw tz : TS}
theorem s_ret (h : PD te σ G R φ) (sr : Same R H) (sg : Same G H) (k : ∀ v G' H', Grow G H G' H' → φ.p G' v → D.rt v H') : tRet te D σ H := h H sr sg _ k
theorem s_asg {i : Nat} (h : PD te σ G R φ) (sr : Same R H) (sg : Same G H) (k : ∀ v G' H', Grow G H G' H' → φ.p G' v → D.nx (σ.set i (some v)) H') : tAsg te (gName i) D σ H := h H sr sg _ k
theorem q_asg {i : Nat} (h : PD te σ G R φ) (sr : Same R H) (sg : Same G H) (k : ∀ v G' H', Grow G H G' H' → φ.p G' v → tz D (σ.set i (some v)) H') : tSeq (tAsg te (gName i)) tz D σ H := h H sr sg _ k
theorem s_if {b : Bool} (h : TD t σ R b) (sr : Same R H) (h1 : b = true → ∀ H', Same H H' → tu D σ H') (h2 : b = false → ∀ H', Same H H' → tw D σ H') : tIfS t tu tw D σ H :=
  h H sr _ fun H1 g1 => by
    cases b with
    | true => exact h1 rfl H1 g1
    | false => exact h2 rfl H1 g1
theorem q_if {b : Bool} (h : TD t σ R b) (sr : Same R H) (h1 : b = true → ∀ H', Same H H' → tu { D with nx := tz D } σ H') (h2 : b = false → ∀ H', Same H H' → tw { D with nx := tz D } σ H') : tSeq (tIfS t tu tw) tz D σ H :=
  s_if (D := { D with nx := tz D }) h sr h1 h2
theorem q_when {b : Bool} (h : TD t σ R b) (sr : Same R H) (h1 : b = true → ∀ H', Same H H' → tu { D with nx := tz D } σ H') (h2 : b = false → ∀ H', Same H H' → tz D σ H') : tSeq (tIfS t tu tNext) tz D σ H :=
  s_if (D := { D with nx := tz D }) h sr h1 h2
theorem s_when {b : Bool} (h : TD t σ R b) (sr : Same R H) (h1 : b = true → ∀ H', Same H H' → tu D σ H') (h2 : b = false → ∀ H', Same H H' → D.nx σ H') : tIfS t tu tNext D σ H :=
  s_if h sr h1 h2
end
end BR
/-! Own layer, second part: defs that are called where no repr is under way; generic operators. -/
namespace BR
open PySem PySem.Spec PyProof.Rows L2
/-! ### defs -/
structure FnG (P : Program) (w : World) (K : Fg) (mg : Str → Option Value) (base : Heap) (CX : CXT) (k : Nat) (f : Addr) (fd : FuncData) (ps : List Str) (sp : Sp) : Prop where
  len : ∀ vs H Q E, sp vs H Q E → vs.length = ps.length
  run : ∀ (A : Around) (outer : List Env) (s : Shared) (H : Hp) (args : Args) (us : List Value) (vs : List V) (Q : VK) (E : XK),
    Room k A → A.guards = some [] → Env0 P w K mg base A outer s H → BindsTo s fd args (ps.zip us) → Vals vs us → sp vs H Q E →
    codeAny (model P w) A (.call (.ref f) args) (CR CX outer P w H s Q E) s
theorem FnG.mono {P : Program} {w : World} {K : Fg} {mg : Str → Option Value} {base : Heap} {CX : CXT} {j k : Nat} {f : Addr} {fd : FuncData} {ps : List Str} {sp : Sp}
    (F : FnG P w K mg base CX j f fd ps sp) (h : j ≤ k) : FnG P w K mg base CX k f fd ps sp :=
  ⟨F.len, fun A outer s H args us vs Q E hr => F.run A outer s H args us vs Q E (hr.mono h)⟩
theorem guards_deeper (A : Around) (env : Env) : (A.deeper env).guards = A.guards := rfl
theorem fn_ofG {CX : CXT} {P : Program} {w : World} {K : Fg} {mg : Str → Option Value} {base : Heap} {k : Nat} {f : Addr} {name qual : Str} {params : Arguments} {body : List Stmt} {scope : Scope}
    {dV kV doc pm cdv ct oc : Value} {an od : Option Addr} {osl : Array (Option Value)} {N ps : List Str} {sp : Sp}
    (lk : K.lookup f = some ⟨oc, od, .func (PySem.W.fnOf name qual params body scope dV kV doc pm an cdv ct), osl⟩) (hcd : PySem.W.codeIn K cdv qual = true) (S : FnScope N ps scope)
    (len : ∀ vs H Q E, sp vs H Q E → vs.length = ps.length)
    (hbody : ∀ (A : Around) (outer : List Env) (s : Shared) (H : Hp) (vs : List V) (Q : VK) (E : XK), Room k (A.deeper (envOfC qual scope s.heap.objs.size f cdv)) → A.guards = some [] → sp vs H Q E →
      ∃ t, PSs (cxOf CX P w K mg base N qual scope f cdv A outer s H E) body t ∧ t { nx := fun _ H' => Q .non H', rt := Q } (start N vs) H) :
    FnG P w K mg base CX (k + 1) f (PySem.W.fnOf name qual params body scope dV kV doc pm an cdv ct) ps sp := by
  refine ⟨len, ?_⟩
  intro A outer s H args us vs Q E hr hgd e0 hb r hsp
  have KX : K.In s.heap := e0.mod.kin.keeps fun b o e => (e0.bs b o e).1
  have lim : s.heap.NoLimit := e0.mod.nolimit.keeps fun b o e => (e0.bs b o e).1
  have hkind : ∀ y ∈ ps.zip us, scope.names.lookup y.1 = some .local ∨
      (scope.names.lookup y.1 = some .cell ∧ ((cellsFrom (s.heap.objs.size + 1) scope.names []).lookup y.1).isSome = true) := by
    rintro ⟨n, v⟩ hy
    exact (S.par n (List.of_mem_zip hy).1).imp id fun q => ⟨q, PySem.W.cellsFrom_some _ _ _ (.inl q)⟩
  refine codeAny_call_function hr.depth (KX _ _ lk) rfl S.co S.gen rfl (PySem.W.codeRec_of KX hcd) (hb _ _ _ _ ?_)
  refine wpAny_newFunctionEnv_cells S.kind hkind ?_
  rintro env rfl s1 x
  refine ⟨lim.keeps x.toInCall.keep, codeAny_func ?_⟩
  obtain ⟨t, ht, hq⟩ := hbody A outer s H vs Q E (hr.deeper _) hgd hsp
  have I : Inv (cxOf CX P w K mg base N qual scope f cdv A outer s H E) [] (start N vs) H s1 := inv_start S hr.hd e0 (len _ _ _ _ hsp) r x
  refine wpAny_mono (ht.run [] s1 (start N vs) H _ I hq) ?_ (fun e s' hs => hs)
  intro fl s' hs
  match fl, hs with
  | .ret u, ⟨v, σ', H', J, rv, q⟩ => exact ⟨v, H', J.os, J.bare, J.base, J.hok, rv, q⟩
  | .next, ⟨σ', H', J, q⟩ => exact ⟨V.non, H', J.os, J.bare, J.base, J.hok, rfl, q⟩
  | .brk, ⟨_, _, _, q⟩ => exact q.elim
  | .cont, ⟨_, _, _, q⟩ => exact q.elim
/-- a def that the module's name x holds -/
structure Has (P : Program) (w : World) (K : Fg) (mg : Str → Option Value) (base : Heap) (CX : CXT) (k : Nat) (x : Str) (ps : List Str) (sp : Sp) : Prop where
  ex : ∃ f fd, mg x = some (.ref f) ∧ PySem.W.keepIn K (.ref f) = true ∧ Binds K fd ps [] ∧ FnG P w K mg base CX k f fd ps sp
theorem Has.mono {P : Program} {w : World} {K : Fg} {mg : Str → Option Value} {base : Heap} {CX : CXT} {j k : Nat} {x : Str} {ps : List Str} {sp : Sp} (h : Has P w K mg base CX j x ps sp) (hk : j ≤ k) : Has P w K mg base CX k x ps sp := by
  obtain ⟨f, fd, h1, h2, h3, h4⟩ := h.ex
  exact ⟨f, fd, h1, h2, h3, h4.mono hk⟩
/-- a plain def of the text -/
abbrev Fnt (K : Fg) (x : Str) (st : Stmt) (f : Addr) (fd : FuncData) : Prop := FunD K x x (defArgs st) (defBody st) (defScope st) [] [] f fd
theorem has_of {CX : CXT} {P : Program} {w : World} {K : Fg} {mg : Str → Option Value} {base : Heap} {k : Nat} {x : Str} {st : Stmt} {f : Addr} {fd : FuncData} {N ps : List Str} {sp : Sp}
    (F : Fnt K x st f fd) (hm : mg x = some (.ref f)) (S : FnScope N ps (defScope st)) (hb : ∀ fd', Fnt K x st f fd' → Binds K fd' ps []) (len : ∀ vs H Q E, sp vs H Q E → vs.length = ps.length)
    (hbody : ∀ (cdv : Value) (A : Around) (outer : List Env) (s : Shared) (H : Hp) (vs : List V) (Q : VK) (E : XK), Room k (A.deeper (envOfC x (defScope st) s.heap.objs.size f cdv)) → A.guards = some [] → sp vs H Q E →
      ∃ t, PSs (cxOf CX P w K mg base N x (defScope st) f cdv A outer s H E) (defBody st) t ∧ t { nx := fun _ H' => Q .non H', rt := Q } (start N vs) H) :
    Has P w K mg base CX (k + 1) x ps sp := by
  have hb' := hb fd F
  obtain ⟨oc, od, dV, kV, doc, pm, an, cdv, ct, osl, rfl, lk, hcd, _, _⟩ := F.ex
  exact ⟨f, _, hm, F.kp, hb', fn_ofG lk hcd S len fun A outer s H vs Q E hr hg hsp => hbody cdv A outer s H vs Q E hr hg hsp⟩
section
variable {X : Cx} {CX : CXT} {k : Nat} {x : Str} {ps : List Str} {sp : Sp} {E : XK} {p pos : Pos} {e : Expr} {es : List Expr} {t : TA}
theorem run_fnG {f : Addr} {fd : FuncData} {pins : List (Addr × Obj)} {σ : St} {H : Hp} {s : Shared} {Q : VK} {us : List Value} {vs : List V}
    (F : FnG X.prog X.w X.K X.mg X.base CX k f fd ps sp) (hr : Room k X.A) (hgd : X.A.guards = some []) (hb : Binds X.K fd ps []) (hx : Passes CX X E)
    (I : Inv X pins σ H s) (r : Vals vs us) (h : sp vs H Q E) : wpAny (model X.prog X.w) X.A (call (.ref f) us) (EP X pins σ Q) X.xe s := by
  have hl : (us ++ []).length = ps.length := by rw [List.append_nil, ← r.length]; exact F.len _ _ _ _ h
  have hb' := hb s us I.kIn hl
  rw [List.append_nil] at hb'
  refine wpAny_call (codeAny_mono (F.run X.A X.stack s H ⟨us, []⟩ us vs Q E hr hgd I.env0 hb' r h) ?_)
  intro r s' hq
  match r, hq with
  | .error e, hq => exact hx pins σ H s e s' I hq
  | .ok (.ret u), hq => exact I.after hq
/-- f(e, ..) -/
theorem pe_callH (hf : Has X.prog X.w X.K X.mg X.base CX k x ps sp) (hr : Room k X.A) (hgd : X.A.guards = some []) (hx : Passes CX X E) (hg : Gl X x) (ha : PA X (e :: es) t)
    (hdb : (x == ("__debug__" : Str)) = false := by decide) (he : starEach (e :: es) X.env = (false, eval e X.env) :: starEach es X.env := by rfl)
    (hpl : (backTo pos (starEach es X.env)).any (·.1) = false := by rfl) : PE X (.Call (.Name x p) (e :: es) [] pos) (tCall sp [] E t) := by
  obtain ⟨f, fd, hm, hk, hb, F⟩ := hf.ex
  refine ⟨fun pins s σ H Q I h => ?_⟩
  refine wpAny_Call_Name_kw (ld_glob I hg hm ?_ hdb)
  refine PySem.W.callWith_K (h₀ := X.base) I.ok.mod.kin hk (thn (ha.run pos pins s σ H _ I h) ?_) he hpl
  rintro us s1 ⟨vs, H1, I1, r, q⟩
  have q2 : sp (vs ++ []) H1 Q E := q
  rw [List.append_nil] at q2
  exact ⟨I1.kIn, run_fnG F hr hgd hb hx I1 r q2⟩
theorem pe_callH0 (hf : Has X.prog X.w X.K X.mg X.base CX k x ps sp) (hr : Room k X.A) (hgd : X.A.guards = some []) (hx : Passes CX X E) (hg : Gl X x)
    (hdb : (x == ("__debug__" : Str)) = false := by decide) : PE X (.Call (.Name x p) [] [] pos) (tCall sp [] E tNil) := by
  obtain ⟨f, fd, hm, hk, hb, F⟩ := hf.ex
  refine ⟨fun pins s σ H Q I h => ?_⟩
  exact wpAny_Call_Name_kw (ld_glob I hg hm (PySem.W.callWith_K0 I.kIn hk (run_fnG (us := []) (vs := []) F hr hgd hb hx I .nil h)) hdb)
end
/-! ### operators, by all that they may meet -/
section
variable {X : Cx}
abbrev rAddI : R2 := rI0 fun i j => .int (i + j)
abbrev rSubI : R2 := rI0 fun i j => .int (i - j)
abbrev rMulI : R2 := rI CMulW fun i j => .int (i * j)
abbrev rDivI : R2 := rI CDivW fun i j => .int (i / j)
abbrev rModI : R2 := rI (fun _ j => 0 < j) fun i j => .int (i % j)
abbrev rPowI : R2 := rI CPow fun i j => .int (i ^ j.toNat)
abbrev rLtI : R2 := rI0 fun i j => .bl (decide (i < j))
abbrev rLeI : R2 := rI0 fun i j => .bl (decide (i ≤ j))
abbrev rGtI : R2 := rI0 fun i j => .bl (decide (j < i))
abbrev rGeI : R2 := rI0 fun i j => .bl (decide (j ≤ i))
abbrev rNegI : V → Hp → VK → Prop := rU fun i => .int (-i)
def rAddS : R2 := fun x y H Q => ∃ i j, x = .str i ∧ y = .str j ∧ i.length + j.length ≤ sizeLine ∧ Q (.str (i ++ j)) H
def rAddX (K : Fg) : R2 := fun x y H Q => rAddI x y H Q ∨ rCatA K x y H Q ∨ rCat x y H Q ∨ rAddS x y H Q
theorem op_addX : OpR X (binaryOp .Add) (rAddX X.K) := op_add.or (op_catA.or (op_cat.or op_add_str))
def rMulX : R2 := fun x y H Q => rMulI x y H Q ∨ rRep x y H Q
def rSlX (K : Fg) : V → Option Int → Option Int → Hp → VK → Prop := fun x lo hi H Q => rSlL K x lo hi H Q ∨ rSlA K x lo hi H Q
theorem sl_X : SlR X (rSlX X.K) := sl_list.or sl_tupA
def rLenX (K : Fg) : List V → Hp → VK → Prop := fun xs H Q => ∃ x n, xs = [x] ∧ LenV K x H n ∧ Q (.int n) H
theorem call_lenX : CallR X (.builtin "len") (rLenX X.K) := call_len
def rMax2 : List V → Hp → VK → Prop := fun xs H Q => ∃ i j, xs = [.int i, .int j] ∧ Q (.int (if j > i then j else i)) H
def rMin2 : List V → Hp → VK → Prop := fun xs H Q => ∃ i j, xs = [.int i, .int j] ∧ Q (.int (if j < i then j else i)) H
theorem call_max2' (hc : X.calm = true) : CallR X (.builtin "max") rMax2 := call_max2 hc
theorem call_min2' (hc : X.calm = true) : CallR X (.builtin "min") rMin2 := call_min2 hc
def rListOf (K : Fg) : List V → Hp → VK → Prop := fun xs H Q => ∃ p ys, xs = [.ref p] ∧ (SqL K H p ys ∨ SqT K H p ys) ∧ ∀ l, H l = none → Q (.ref l) (upd H l (.lst ys))
def rTupOf (K : Fg) : List V → Hp → VK → Prop := fun xs H Q => ∃ p ys, xs = [.ref p] ∧ ((SqL K H p ys ∧ ∀ l, H l = none → Q (.ref l) (upd H l (.tup ys))) ∨ (SqT K H p ys ∧ Q (.ref p) H))
theorem call_listX : CallR X (.type "list") (rListOf X.K) := call_list_of
theorem call_tupX : CallR X (.type "tuple") (rTupOf X.K) := call_tuple_of
/-- what a for walks: a list or a tuple -/
def iSeq (K : Fg) (tl : TE) : TI := fun σ H R => tl σ H fun x H1 => (∃ a, x = .ref a ∧ (∃ xs, SqL K H1 a xs) ∧ R (Itl K a) H1) ∨ (∃ a, x = .ref a ∧ (∃ xs, SqT K H1 a xs) ∧ R (Itt K a) H1)
theorem pi_seq {tg l : Expr} {tl : TE} (hl : PE X l tl) : PI X tg l (iSeq X.K tl) := by
  refine ⟨fun pins s σ H R I h => ?_⟩
  refine thn (hl.run pins s σ H _ I h) ?_
  rintro v s1 ⟨x, H1, I1, r1, ⟨a, rfl, ⟨xs, hq⟩, q⟩ | ⟨a, rfl, ⟨xs, hq⟩, q⟩⟩
  · cases r1
    obtain ⟨its, rv, p, hz⟩ := I1.list hq
    refine wpAny_pyIter_list p.isList ⟨s1.heap.objs.size, [s1.heap.objs.size], _, _, H1, rfl, ?_, turn_list a _, ⟨_, Heap.get?_push_size _ rfl, rfl, rfl⟩, ?_, q⟩
    · exact I1.kept (t' := s1.toks) fun b o e => Heap.get?_push_of_some _ e
    · intro b hb
      rw [List.mem_singleton.mp hb]
      exact I1.fpOk (Nat.le_refl _) (I1.hok.fresh (Nat.le_refl _))
  · cases r1
    obtain ⟨its, rv, p, hz⟩ := I1.tuple hq
    refine wpAny_pyIter_tuple (show s1.heap.IsTuple a its.toArray from p) ⟨s1.heap.objs.size, [s1.heap.objs.size], _, _, H1, rfl, ?_, turn_tuple a _, ⟨_, Heap.get?_push_size _ rfl, rfl, rfl⟩, ?_, q⟩
    · exact I1.kept (t' := s1.toks) fun b o e => Heap.get?_push_of_some _ e
    · intro b hb
      rw [List.mem_singleton.mp hb]
      exact I1.fpOk (Nat.le_refl _) (I1.hok.fresh (Nat.le_refl _))
end
/-! ### what these give -/
section
variable {K : Fg} {σ : St} {G R : Hp} {ta tb te : TE} {φ ψ χ : Ty} {i j : Int}
theorem pd_add (ha : PD ta σ G R (tI i)) (hb : PD tb σ G R (tI j)) : PD (tOp (rAddX K) ta tb) σ G R (tI (i + j)) := pd_opv ha hb fun H Q q => .inl ⟨i, j, rfl, rfl, q⟩
theorem pd_sub (ha : PD ta σ G R (tI i)) (hb : PD tb σ G R (tI j)) : PD (tOp rSubI ta tb) σ G R (tI (i - j)) := pd_I0 ha hb
theorem pd_mul (ha : PD ta σ G R (tI i)) (hb : PD tb σ G R (tI j)) (hc : CMulW i j) : PD (tOp rMulI ta tb) σ G R (tI (i * j)) := pd_I ha hb hc
theorem pd_div (ha : PD ta σ G R (tI i)) (hb : PD tb σ G R (tI j)) (hc : CDivW i j) : PD (tOp rDivI ta tb) σ G R (tI (i / j)) := pd_I ha hb hc
theorem pd_mod (ha : PD ta σ G R (tI i)) (hb : PD tb σ G R (tI j)) (hc : 0 < j) : PD (tOp rModI ta tb) σ G R (tI (i % j)) := pd_I ha hb hc
theorem pd_pow (ha : PD ta σ G R (tI i)) (hb : PD tb σ G R (tI j)) (hc : CPow i j) : PD (tOp rPowI ta tb) σ G R (tI (i ^ j.toNat)) := pd_I ha hb hc
theorem pd_lt (ha : PD ta σ G R (tI i)) (hb : PD tb σ G R (tI j)) : PD (tOp rLtI ta tb) σ G R (tBo (decide (i < j))) := pd_I0 ha hb
theorem pd_le (ha : PD ta σ G R (tI i)) (hb : PD tb σ G R (tI j)) : PD (tOp rLeI ta tb) σ G R (tBo (decide (i ≤ j))) := pd_I0 ha hb
theorem pd_gt (ha : PD ta σ G R (tI i)) (hb : PD tb σ G R (tI j)) : PD (tOp rGtI ta tb) σ G R (tBo (decide (j < i))) := pd_I0 ha hb
theorem pd_ge (ha : PD ta σ G R (tI i)) (hb : PD tb σ G R (tI j)) : PD (tOp rGeI ta tb) σ G R (tBo (decide (j ≤ i))) := pd_I0 ha hb
theorem pd_neg (ha : PD ta σ G R (tI i)) : PD (tUn rNegI ta) σ G R (tI (-i)) := pd_un ha fun H Q q => ⟨i, rfl, q⟩
/-- two tuples, two lists put together -/
theorem pd_catT {φs ψs : List Ty} (ha : PD ta σ G R (tT φs)) (hb : PD tb σ G R (tT ψs)) (hl : φs.length + ψs.length ≤ 100000) : PD (tOp (rAddX K) ta tb) σ G R (tT (φs ++ ψs)) :=
  pd_op ha hb fun x y G1 H _ s1 hx hy Q q => by
    obtain ⟨a, vs, rfl, h1, h2⟩ := hx
    obtain ⟨b, ws, rfl, h3, h4⟩ := hy
    refine .inr (.inl ⟨a, b, vs, ws, rfl, rfl, .of (s1 _ _ h1), .of (s1 _ _ h3), sz_of (by rw [h2.length, h4.length]; exact hl), fun e => ?_, fun _ e => ?_, fun _ _ p hp => ?_⟩)
    · subst e
      cases h2
      exact q _ G1 H (.refl s1) ⟨b, ws, rfl, h3, h4⟩
    · subst e
      cases h4
      rw [List.append_nil] at q
      exact q _ G1 H (.refl s1) ⟨a, vs, rfl, h1, h2⟩
    · have g2 : Grow G1 H (upd G1 p (.tup (vs ++ ws))) (upd H p (.tup (vs ++ ws))) := .new s1 hp
      exact q _ _ _ g2 ⟨p, _, rfl, upd_same, (h2.append h4).mono g2.g⟩
theorem pd_catL {φs ψs : List Ty} (ha : PD ta σ G R (tL φs)) (hb : PD tb σ G R (tL ψs)) (hl : φs.length + ψs.length ≤ 100000) : PD (tOp (rAddX K) ta tb) σ G R (tL (φs ++ ψs)) :=
  pd_op ha hb fun x y G1 H _ s1 hx hy Q q => by
    obtain ⟨a, vs, rfl, h1, h2⟩ := hx
    obtain ⟨b, ws, rfl, h3, h4⟩ := hy
    refine .inr (.inr (.inl ⟨a, b, vs, ws, rfl, rfl, s1 _ _ h1, s1 _ _ h3, sz_of (by rw [h2.length, h4.length]; exact hl), fun p hp => ?_⟩))
    have g2 : Grow G1 H (upd G1 p (.lst (vs ++ ws))) (upd H p (.lst (vs ++ ws))) := .new s1 hp
    exact q _ _ _ g2 ⟨p, _, rfl, upd_same, (h2.append h4).mono g2.g⟩
theorem pd_cat {x y : Str} (ha : PD ta σ G R (tSt x)) (hb : PD tb σ G R (tSt y)) (hl : x.length + y.length ≤ sizeLine) : PD (tOp (rAddX K) ta tb) σ G R (tSt (x ++ y)) :=
  pd_opv ha hb fun H Q q => .inr (.inr (.inr ⟨x, y, rfl, rfl, hl, q⟩))
/-- items -/
theorem at_of_all {G : Hp} {φs : List Ty} {vs : List V} {i : Int} {φ : Ty} (h : All G φs vs) (hi : atI φs i = some φ) : ∃ v, atI vs i = some v ∧ φ.p G v := by
  unfold atI at hi ⊢
  rw [← h.length] at hi
  cases e : ixN vs.length i with
  | none =>
    rw [e] at hi
    cases hi
  | some j =>
    rw [e] at hi
    exact h.get hi
theorem pd_ixTX {φs : List Ty} (ha : PD ta σ G R (tT φs)) (hb : PD tb σ G R (tI i)) (hi : atI φs i = some φ) : PD (tOp (rIx K) ta tb) σ G R φ :=
  pd_op ha hb fun x y G1 H _ s1 hx hy Q q => by
    obtain ⟨a, vs, rfl, h1, h2⟩ := hx
    cases hy
    obtain ⟨v, e1, e2⟩ := at_of_all h2 hi
    exact .inr (.inl ⟨a, vs, i, v, rfl, rfl, .of (s1 _ _ h1), e1, q v G1 H (.refl s1) e2⟩)
theorem pd_ixLX {φs : List Ty} (ha : PD ta σ G R (tL φs)) (hb : PD tb σ G R (tI i)) (hi : atI φs i = some φ) : PD (tOp (rIx K) ta tb) σ G R φ :=
  pd_op ha hb fun x y G1 H _ s1 hx hy Q q => by
    obtain ⟨a, vs, rfl, h1, h2⟩ := hx
    cases hy
    obtain ⟨v, e1, e2⟩ := at_of_all h2 hi
    exact .inl ⟨a, vs, i, v, rfl, rfl, .of (s1 _ _ h1), e1, q v G1 H (.refl s1) e2⟩
/-- an item of a list that still changes, by values -/
theorem pd_ixV {a : Addr} {vs : List V} {v : V} (ha : PD ta σ R R (tv (.ref a))) (hb : PD tb σ R R (tI i)) (hl : R a = some (.lst vs)) (hi : atI vs i = some v) : PD (tOp (rIx K) ta tb) σ R R (tv v) :=
  pd_op ha hb fun x y G1 H g1 s1 hx hy Q q => by
    cases hx
    cases hy
    exact .inl ⟨a, vs, i, v, rfl, rfl, .of (s1 _ _ (g1 _ _ hl)), hi, q v G1 H (.refl s1) rfl⟩
/-- len -/
theorem pd_lenT {φs : List Ty} (h : PD te σ G R (tT φs)) : PD (tCB (rLenX K) (tCons te tNil)) σ G R (tI (φs.length : Int)) :=
  pd_callB (ad_cons h ad_nil) fun vs G1 H _ s1 hv Q q => by
    cases hv with
    | cons h1 h2 =>
      cases h2
      obtain ⟨a, ws, rfl, h3, h4⟩ := h1
      exact ⟨.ref a, ws.length, rfl, .inr ⟨ws, .of (s1 _ _ h3), rfl⟩, q _ G1 H (.refl s1) (by rw [h4.length]; rfl)⟩
theorem pd_lenL {φs : List Ty} (h : PD te σ G R (tL φs)) : PD (tCB (rLenX K) (tCons te tNil)) σ G R (tI (φs.length : Int)) :=
  pd_callB (ad_cons h ad_nil) fun vs G1 H _ s1 hv Q q => by
    cases hv with
    | cons h1 h2 =>
      cases h2
      obtain ⟨a, ws, rfl, h3, h4⟩ := h1
      exact ⟨.ref a, ws.length, rfl, .inl ⟨ws, .of (s1 _ _ h3), rfl⟩, q _ G1 H (.refl s1) (by rw [h4.length]; rfl)⟩
theorem pd_max2 (ha : PD ta σ G R (tI i)) (hb : PD tb σ G R (tI j)) : PD (tCB rMax2 (tCons ta (tCons tb tNil))) σ G R (tI (max i j)) :=
  pd_callB (ad_cons ha (ad_cons hb ad_nil)) fun vs G1 H _ s1 hv Q q => by
    cases hv with
    | cons h1 h2 =>
      cases h2 with
      | cons h2 h3 =>
        cases h3
        cases h1
        cases h2
        refine ⟨i, j, rfl, q _ G1 H (.refl s1) ?_⟩
        show V.int _ = V.int _
        congr 1
        split <;> omega
theorem pd_min2 (ha : PD ta σ G R (tI i)) (hb : PD tb σ G R (tI j)) : PD (tCB rMin2 (tCons ta (tCons tb tNil))) σ G R (tI (min i j)) :=
  pd_callB (ad_cons ha (ad_cons hb ad_nil)) fun vs G1 H _ s1 hv Q q => by
    cases hv with
    | cons h1 h2 =>
      cases h2 with
      | cons h2 h3 =>
        cases h3
        cases h1
        cases h2
        refine ⟨i, j, rfl, q _ G1 H (.refl s1) ?_⟩
        show V.int _ = V.int _
        congr 1
        split <;> omega
theorem pd_listT {φs : List Ty} (h : PD te σ G R (tT φs)) : PD (tCB (rListOf K) (tCons te tNil)) σ G R (tL φs) :=
  pd_callB (ad_cons h ad_nil) fun vs G1 H _ s1 hv Q q => by
    cases hv with
    | cons h1 h2 =>
      cases h2
      obtain ⟨a, ws, rfl, h3, h4⟩ := h1
      refine ⟨a, ws, rfl, .inr (.of (s1 _ _ h3)), fun p hp => ?_⟩
      have g2 : Grow G1 H (upd G1 p (.lst ws)) (upd H p (.lst ws)) := .new s1 hp
      exact q _ _ _ g2 ⟨p, _, rfl, upd_same, h4.mono g2.g⟩
theorem pd_listL {φs : List Ty} (h : PD te σ G R (tL φs)) : PD (tCB (rListOf K) (tCons te tNil)) σ G R (tL φs) :=
  pd_callB (ad_cons h ad_nil) fun vs G1 H _ s1 hv Q q => by
    cases hv with
    | cons h1 h2 =>
      cases h2
      obtain ⟨a, ws, rfl, h3, h4⟩ := h1
      refine ⟨a, ws, rfl, .inl (.of (s1 _ _ h3)), fun p hp => ?_⟩
      have g2 : Grow G1 H (upd G1 p (.lst ws)) (upd H p (.lst ws)) := .new s1 hp
      exact q _ _ _ g2 ⟨p, _, rfl, upd_same, h4.mono g2.g⟩
theorem pd_tupL {φs : List Ty} (h : PD te σ G R (tL φs)) : PD (tCB (rTupOf K) (tCons te tNil)) σ G R (tT φs) :=
  pd_callB (ad_cons h ad_nil) fun vs G1 H _ s1 hv Q q => by
    cases hv with
    | cons h1 h2 =>
      cases h2
      obtain ⟨a, ws, rfl, h3, h4⟩ := h1
      refine ⟨a, ws, rfl, .inl ⟨.of (s1 _ _ h3), fun p hp => ?_⟩⟩
      have g2 : Grow G1 H (upd G1 p (.tup ws)) (upd H p (.tup ws)) := .new s1 hp
      exact q _ _ _ g2 ⟨p, _, rfl, upd_same, h4.mono g2.g⟩
/-- any, all of a list of bools -/
theorem all_bools {G : Hp} : ∀ {bs : List Bool} {vs : List V}, All G (bs.map tBo) vs → vs = bs.map V.bl
  | [], _, .nil => rfl
  | b :: bs, _, .cons h t => by
    cases h
    rw [all_bools t] <;> rfl
theorem all_ints {G : Hp} : ∀ {ns : List Int} {vs : List V}, All G (ns.map tI) vs → vs = ns.map V.int
  | [], _, .nil => rfl
  | b :: bs, _, .cons h t => by
    cases h
    rw [all_ints t] <;> rfl
theorem ints_all {G : Hp} : ∀ (ns : List Int), All G (ns.map tI) (ns.map V.int)
  | [] => .nil
  | n :: ns => .cons rfl (ints_all ns)
theorem pd_any {bs : List Bool} (h : PD te σ G R (tL (bs.map tBo))) : PD (tCB (rAny K) (tCons te tNil)) σ G R (tBo (bs.any id)) :=
  pd_callB (ad_cons h ad_nil) fun vs G1 H _ s1 hv Q q => by
    cases hv with
    | cons h1 h2 =>
      cases h2
      obtain ⟨a, ws, rfl, h3, h4⟩ := h1
      rw [all_bools h4] at h3
      exact ⟨a, bs, rfl, .of (s1 _ _ h3), q _ G1 H (.refl s1) rfl⟩
theorem pd_all {bs : List Bool} (h : PD te σ G R (tL (bs.map tBo))) : PD (tCB (rAll K) (tCons te tNil)) σ G R (tBo (bs.all id)) :=
  pd_callB (ad_cons h ad_nil) fun vs G1 H _ s1 hv Q q => by
    cases hv with
    | cons h1 h2 =>
      cases h2
      obtain ⟨a, ws, rfl, h3, h4⟩ := h1
      rw [all_bools h4] at h3
      exact ⟨a, bs, rfl, .of (s1 _ _ h3), q _ G1 H (.refl s1) rfl⟩
theorem pd_sum {ns : List Int} (h : PD te σ G R (tL (ns.map tI))) : PD (tCB (rSum K) (tCons te tNil)) σ G R (tI ns.sum) :=
  pd_callB (ad_cons h ad_nil) fun vs G1 H _ s1 hv Q q => by
    cases hv with
    | cons h1 h2 =>
      cases h2
      obtain ⟨a, ws, rfl, h3, h4⟩ := h1
      rw [all_ints h4] at h3
      exact ⟨a, ns, rfl, .of (s1 _ _ h3), q _ G1 H (.refl s1) rfl⟩
/-- slices -/
def cutT {α : Type} (xs : List α) (lo hi : Option Int) : List α := (xs.drop (HT.sIx xs.length 0 lo)).take (HT.sIx xs.length xs.length hi - HT.sIx xs.length 0 lo)
def OD (t : TO) (σ : St) (R : Hp) (o : Option Int) : Prop := ∀ H, Same R H → ∀ Q : Option Int → Hp → Prop, (∀ H', Same H H' → Q o H') → t σ H Q
theorem od_none : OD tNoPart σ R none := fun H _ Q q => q H (same_refl _)
theorem od_some (h : PD te σ R R (tI i)) : OD (tPart te) σ R (some i) := fun H sr Q q => h H sr sr _ fun v _ H1 g1 hv => ⟨i, hv, q H1 g1.h⟩
theorem All.cut {G : Hp} {φs : List Ty} {vs : List V} (h : All G φs vs) (lo hi : Option Int) : All G (cutT φs lo hi) (cutV vs lo hi) := by
  unfold cutT cutV
  rw [h.length]
  exact (h.drop _).take _
theorem pd_slT {φs : List Ty} {tl th : TO} {lo hi : Option Int} (h : PD te σ G R (tT φs)) (hl : OD tl σ R lo) (hh : OD th σ R hi) : PD (tSl (rSlX K) te tl th) σ G R (tT (cutT φs lo hi)) := fun H sr sg Q q =>
  h H sr sg _ fun v G1 H1 g1 hv => hl H1 (sr.trans g1.h) _ fun H2 e2 => hh H2 ((sr.trans g1.h).trans e2) _ fun H3 e3 => by
    obtain ⟨a, vs, rfl, h1, h2⟩ := hv
    have s3 : Same G1 H3 := (g1.s.trans e2).trans e3
    have g3 : Grow G H G1 H3 := g1.trans (.rest g1.s (e2.trans e3))
    refine .inr ⟨a, vs, rfl, .of (s3 _ _ h1), fun hw => q _ G1 H3 g3 ⟨a, vs, rfl, h1, ?_⟩, fun _ p hp => ?_⟩
    · have e : cutV vs lo hi = vs := by
        unfold cutV
        rw [hw.1, hw.2]
        simp
      have h3 := h2.cut lo hi
      rw [e] at h3
      exact h3
    · have g4 : Grow G1 H3 (upd G1 p (.tup (cutV vs lo hi))) (upd H3 p (.tup (cutV vs lo hi))) := .new s3 hp
      exact q _ _ _ (g3.trans g4) ⟨p, _, rfl, upd_same, (h2.cut lo hi).mono g4.g⟩
theorem pd_slL {φs : List Ty} {tl th : TO} {lo hi : Option Int} (h : PD te σ G R (tL φs)) (hl : OD tl σ R lo) (hh : OD th σ R hi) : PD (tSl (rSlX K) te tl th) σ G R (tL (cutT φs lo hi)) := fun H sr sg Q q =>
  h H sr sg _ fun v G1 H1 g1 hv => hl H1 (sr.trans g1.h) _ fun H2 e2 => hh H2 ((sr.trans g1.h).trans e2) _ fun H3 e3 => by
    obtain ⟨a, vs, rfl, h1, h2⟩ := hv
    have s3 : Same G1 H3 := (g1.s.trans e2).trans e3
    have g3 : Grow G H G1 H3 := g1.trans (.rest g1.s (e2.trans e3))
    refine .inl ⟨a, vs, rfl, .of (s3 _ _ h1), fun p hp => ?_⟩
    have g4 : Grow G1 H3 (upd G1 p (.lst (cutV vs lo hi))) (upd H3 p (.lst (cutV vs lo hi))) := .new s3 hp
    exact q _ _ _ (g3.trans g4) ⟨p, _, rfl, upd_same, (h2.cut lo hi).mono g4.g⟩
/-- a < b < c -/
theorem pd_chain {r r' : R2} {tc : TE} {x y z : V} {a b : Bool} (ha : PD ta σ G R (tv x)) (hb : PD tb σ G R (tv y)) (hc : PD tc σ G R (tv z)) (hr : ∀ H Q, Q (.bl a) H → r x y H Q) (hr' : ∀ H Q, Q (.bl b) H → r' y z H Q) :
    PD (tChain r r' ta tb tc) σ G R (tBo (a && b)) := fun H sr sg Q q =>
  ha H sr sg _ fun u G1 H1 g1 hu => (hb.mono g1.g (sr.trans g1.h)) H1 (same_refl _) g1.s _ fun v G2 H2 g2 hv => by
    cases hu
    cases hv
    have g12 := g1.trans g2
    refine hr H2 _ ⟨a, rfl, ?_⟩
    cases a with
    | true =>
      refine (hc.mono g12.g (sr.trans g12.h)) H2 (same_refl _) g2.s _ fun w G3 H3 g3 hw => ?_
      cases hw
      exact hr' H3 _ (q _ G3 H3 (g12.trans g3) (by simp [tv]))
    | false => exact q _ G2 H2 g12 rfl
end
end BR
/-! Own layer, third part: comprehensions and loops. -/
namespace BR
open PySem PySem.Spec PyProof.Rows L2
/-- a list or a tuple -/
def tSq (φs : List Ty) : Ty := ⟨fun G v => ∃ a vs, v = .ref a ∧ (G a = some (.lst vs) ∨ G a = some (.tup vs)) ∧ All G φs vs,
  fun _ _ _ s ⟨a, vs, e, h1, h2⟩ => ⟨a, vs, e, h1.imp (s _ _) (s _ _), h2.mono s⟩⟩
section
variable {K : Fg} {σ : St} {G R H : Hp} {te tl : TE} {φs : List Ty}
theorem PD.sqL (h : PD te σ G R (tL φs)) : PD te σ G R (tSq φs) := h.imp fun _ _ ⟨a, vs, e, h1, h2⟩ => ⟨a, vs, e, .inl h1, h2⟩
theorem PD.sqT (h : PD te σ G R (tT φs)) : PD te σ G R (tSq φs) := h.imp fun _ _ ⟨a, vs, e, h1, h2⟩ => ⟨a, vs, e, .inr h1, h2⟩
/-! ### targets -/
def GD (g : TG) (σ : St) (G : Hp) (x : V) (σ' : St) : Prop := ∀ H, Same G H → ∀ Q : St → Hp → Prop, Q σ' H → g x σ H Q
def GDs (g : TGs) (σ : St) (G : Hp) (xs : List V) (σ' : St) : Prop := ∀ H, Same G H → ∀ Q : St → Hp → Prop, Q σ' H → g xs σ H Q
theorem gd_name {j : Nat} {x : V} : GD (gName j) σ G x (σ.set j (some x)) := fun H _ Q q => q
theorem gds_nil : GDs gNil σ G [] σ := fun H _ Q q => ⟨rfl, q⟩
theorem gds_cons {t : TG} {u : TGs} {x : V} {xs : List V} {σ1 σ2 : St} (h : GD t σ G x σ1) (hr : GDs u σ1 G xs σ2) : GDs (gCons t u) σ G (x :: xs) σ2 := fun H s Q q =>
  ⟨x, xs, rfl, h H s _ (hr H s Q q)⟩
theorem gd_tup {n : Nat} {t : TGs} {a : Addr} {xs : List V} {σ' : St} (ha : G a = some (.tup xs)) (hn : xs.length = n) (h : GDs t σ G xs σ') : GD (gTup K n t) σ G (.ref a) σ' := fun H s Q q =>
  ⟨a, xs, rfl, .of (s _ _ ha), hn, h H s Q q⟩
theorem gd_2 {i j : Nat} {φ ψ : Ty} {x : V} (h : (tT [φ, ψ]).p G x) : ∃ v w, φ.p G v ∧ ψ.p G w ∧ GD (gTup K 2 (gCons (gName i) (gCons (gName j) gNil))) σ G x ((σ.set i (some v)).set j (some w)) := by
  obtain ⟨a, vs, rfl, h1, h2⟩ := h
  cases h2 with
  | cons p1 h2 =>
    cases h2 with
    | cons p2 h2 =>
      cases h2
      exact ⟨_, _, p1, p2, gd_tup h1 rfl (gds_cons gd_name (gds_cons gd_name gds_nil))⟩
theorem gd_3 {i j k : Nat} {φ ψ χ : Ty} {x : V} (h : (tT [φ, ψ, χ]).p G x) : ∃ v w u, φ.p G v ∧ ψ.p G w ∧ χ.p G u ∧
    GD (gTup K 3 (gCons (gName i) (gCons (gName j) (gCons (gName k) gNil)))) σ G x (((σ.set i (some v)).set j (some w)).set k (some u)) := by
  obtain ⟨a, vs, rfl, h1, h2⟩ := h
  cases h2 with
  | cons p1 h2 =>
    cases h2 with
    | cons p2 h2 =>
      cases h2 with
      | cons p3 h2 =>
        cases h2
        exact ⟨_, _, _, p1, p2, p3, gd_tup h1 rfl (gds_cons gd_name (gds_cons gd_name (gds_cons gd_name gds_nil)))⟩
theorem gd_4 {i j k l : Nat} {φ ψ χ θ : Ty} {x : V} (h : (tT [φ, ψ, χ, θ]).p G x) : ∃ v w u z, φ.p G v ∧ ψ.p G w ∧ χ.p G u ∧ θ.p G z ∧
    GD (gTup K 4 (gCons (gName i) (gCons (gName j) (gCons (gName k) (gCons (gName l) gNil))))) σ G x ((((σ.set i (some v)).set j (some w)).set k (some u)).set l (some z)) := by
  obtain ⟨a, vs, rfl, h1, h2⟩ := h
  cases h2 with
  | cons p1 h2 =>
    cases h2 with
    | cons p2 h2 =>
      cases h2 with
      | cons p3 h2 =>
        cases h2 with
        | cons p4 h2 =>
          cases h2
          exact ⟨_, _, _, _, p1, p2, p3, p4, gd_tup h1 rfl (gds_cons gd_name (gds_cons gd_name (gds_cons gd_name (gds_cons gd_name gds_nil))))⟩
theorem td_yes : TD tYes σ R true := fun H _ Q q => q H (same_refl _)
/-! ### one clause -/
/-- while a comprehension fills the list at D -/
def Cw (G1 H1 : Hp) (D : Addr) (φs : List Ty) (H : Hp) : Prop :=
  ∃ Gi vs, Same G1 Gi ∧ Same Gi H ∧ Same H1 H ∧ Gi D = none ∧ (∀ a, G1 a = none → Gi a ≠ none → H1 a = none) ∧ H D = some (.lst vs) ∧ All Gi φs vs
theorem same_upd {G H : Hp} {D : Addr} {o : HO} (s : Same G H) (h : G D = none) : Same G (upd H D o) := fun a u e => by
  rw [upd_ne (ne_of_none e h)]
  exact s a u e
theorem Cw.start {G1 H1 : Hp} {D : Addr} (s : Same G1 H1) (hD : H1 D = none) : Cw G1 H1 D [] (upd H1 D (.lst [])) :=
  ⟨G1, [], same_refl _, same_upd s (s.free hD), same_new hD, s.free hD, fun a h h' => absurd h h', upd_same, .nil⟩
theorem Cw.fin {G0 H0 G1 H1 H : Hp} {D : Addr} {φs : List Ty} (g : Grow G0 H0 G1 H1) (hD : H1 D = none) (c : Cw G1 H1 D φs H) : ∃ G', Grow G0 H0 G' H ∧ (tL φs).p G' (.ref D) := by
  obtain ⟨Gi, vs, a, b, c, d, e, f, h⟩ := c
  refine ⟨upd Gi D (.lst vs), ⟨(g.g.trans a).trans (same_new d), g.h.trans c, fun x o hx => ?_, fun x hx hy => ?_⟩, D, vs, rfl, upd_same, h.mono (same_new d)⟩
  · by_cases q : x = D
    · subst q
      rw [upd_same] at hx
      rw [f]
      exact hx
    · rw [upd_ne q] at hx
      exact b x o hx
  · by_cases q : x = D
    · subst q
      exact g.h.free hD
    · rw [upd_ne q] at hy
      by_cases z : G1 x = none
      · exact g.h.free (e x z hy)
      · exact g.f x hx z
theorem Cw.put {G1 H1 Gi H H2 G' : Hp} {D : Addr} {φs : List Ty} {ψ : Ty} {vs : List V} {v : V} (a : Same G1 Gi) (c : Same H1 H) (d : Gi D = none) (hD : H1 D = none) (e : ∀ a, G1 a = none → Gi a ≠ none → H1 a = none) (f : H D = some (.lst vs)) (h : All Gi φs vs)
    (g : Grow Gi H G' H2) (hv : ψ.p G' v) : Cw G1 H1 D (φs ++ [ψ]) (upd H2 D (.lst (vs ++ [v]))) := by
  have hG' : G' D = none := by
    cases q : G' D with
    | none => rfl
    | some o =>
      have z := g.f D d (by rw [q]; exact fun z => nomatch z)
      rw [f] at z
      cases z
  refine ⟨G', vs ++ [v], a.trans g.g, same_upd g.s hG', ?_, hG', fun x hx hy => ?_, upd_same, (h.mono g.g).append (.cons hv .nil)⟩
  · exact same_upd (c.trans g.h) hD
  · by_cases z : Gi x = none
    · exact c.free (g.f x z hy)
    · exact e x hx z
/-- one turn of a comprehension -/
theorem Cw.turn {α : Type} {G1 H1 H : Hp} {D : Addr} {tt : TT} {φs : List Ty} {σ2 : St} {b : Bool} {ψ : Ty} (hD : H1 D = none) (hz : φs.length < 100000) (c : Cw G1 H1 D φs H)
    (hb : ∀ Gi Ri, Same G1 Gi → Same H1 Ri → Same Gi Ri → TD tt σ2 Ri b ∧ (b = true → PD te σ2 Gi Ri ψ)) :
    tt σ2 H fun b H3 => if b = true then te σ2 H3 fun y H4 => ∃ acc, H4 D = some (.lst acc) ∧ acc.length < sizeLine ∧ Cw G1 H1 D (φs ++ [ψ]) (upd H4 D (.lst (acc ++ [y]))) else Cw G1 H1 D φs H3 := by
  obtain ⟨Gi, vs, a, b1, c, d, e, f, h⟩ := c
  obtain ⟨t1, t2⟩ := hb Gi H a c b1
  refine t1 H (same_refl _) _ fun H3 e3 => ?_
  cases b with
  | true =>
    rw [if_pos rfl]
    refine (t2 rfl) H3 e3 (b1.trans e3) _ fun v G' H4 g4 hv => ⟨vs, g4.h _ _ (e3 _ _ f), sz_lt (by rw [h.length]; exact hz), ?_⟩
    exact Cw.put a (c.trans e3) d hD e (e3 _ _ f) h g4 hv
  | false =>
    rw [if_neg (by decide)]
    exact ⟨Gi, vs, a, b1.trans e3, c.trans e3, d, e, e3 _ _ f, h⟩
theorem take_succ_of {α : Type} {xs : List α} {i : Nat} {a : α} (h : xs[i]? = some a) : xs.take (i + 1) = xs.take i ++ [a] := by
  rw [List.take_add_one, h] <;> rfl
theorem filter_map_take {α β : Type} {xs : List α} {i : Nat} {a : α} {c : α → Bool} {f : α → β} (h : xs[i]? = some a) :
    ((xs.take (i + 1)).filter c).map f = if c a = true then ((xs.take i).filter c).map f ++ [f a] else ((xs.take i).filter c).map f := by
  rw [take_succ_of h, List.filter_append, List.map_append]
  by_cases q : c a = true
  · rw [if_pos q]
    simp [q]
  · rw [if_neg q]
    simp [q]
/-- [e for x in xs if c]: by the items a of xs -/
theorem pd_lc {α : Type} {xs : List α} {φ ψ : α → Ty} {c : α → Bool} {g : TG} {tt : TT} {vs : List Nat} (h : PD tl σ G R (tSq (xs.map φ))) (hz : xs.length ≤ 100000)
    (hb : ∀ a ∈ xs, ∀ x Gi Ri, Same G Gi → Same R Ri → Same Gi Ri → (φ a).p Gi x → ∃ σ2, GD g (wipe σ vs) Gi x σ2 ∧ wipe σ2 vs = wipe σ vs ∧ TD tt σ2 Ri (c a) ∧ (c a = true → PD te σ2 Gi Ri (ψ a))) :
    PD (tLc (iSeq K tl) g tt te vs) σ G R (tL ((xs.filter c).map ψ)) := fun H sr sg Q q =>
  h H sr sg _ fun v G1 H1 g1 hv => by
    obtain ⟨l, us, rfl, hl, hus⟩ := hv
    have lenU : us.length = xs.length := by rw [hus.length, List.length_map]
    have step : ∀ (D : Addr), H1 D = none → ∀ (i : Nat) (x : V) (H2 : Hp), us[i]? = some x → Cw G1 H1 D (((xs.take i).filter c).map ψ) H2 →
        g x (wipe σ vs) H2 fun σ2 H3 => wipe σ2 vs = wipe σ vs ∧ tt σ2 H3 fun b H4 => if b = true then te σ2 H4 fun y H5 => ∃ acc, H5 D = some (.lst acc) ∧ acc.length < sizeLine ∧ Cw G1 H1 D (((xs.take (i + 1)).filter c).map ψ) (upd H5 D (.lst (acc ++ [y])))
          else Cw G1 H1 D (((xs.take (i + 1)).filter c).map ψ) H4 := by
      intro D hD i x H2 hx cw
      have hi : i < xs.length := by rw [← lenU]; exact (List.getElem?_eq_some_iff.mp hx).1
      obtain ⟨χ, hχ, hpx⟩ := hus.get' hx
      rw [List.getElem?_map] at hχ
      obtain ⟨a, ha, rfl⟩ := Option.map_eq_some_iff.mp hχ
      obtain ⟨Gi, ws, a1, b1, c1, d1, e1, f1, h1⟩ := id cw
      obtain ⟨σ2, k1, k2, k3, k4⟩ := hb a (List.mem_of_getElem? ha) x Gi H2 (g1.g.trans a1) ((sr.trans g1.h).trans c1) b1 ((φ a).m _ _ _ a1 hpx)
      refine k1 H2 b1 _ ⟨k2, ?_⟩
      rw [filter_map_take ha]
      have lz : (((xs.take i).filter c).map ψ).length < 100000 := by
        rw [List.length_map]
        have q1 := List.length_filter_le c (xs.take i)
        rw [List.length_take] at q1
        omega
      refine k3 H2 (same_refl _) _ fun H3 e3 => ?_
      cases hc : c a with
      | true =>
        rw [if_pos rfl]
        refine (k4 hc) H3 e3 (b1.trans e3) _ fun v G' H4 g4 hv => ⟨ws, g4.h _ _ (e3 _ _ f1), sz_lt (by rw [h1.length]; exact lz), ?_⟩
        rw [if_pos rfl]
        exact Cw.put a1 (c1.trans e3) d1 hD e1 (e3 _ _ f1) h1 g4 hv
      | false =>
        rw [if_neg (by decide), if_neg (by decide)]
        exact ⟨Gi, ws, a1, b1.trans e3, c1.trans e3, d1, e1, e3 _ _ f1, h1⟩
    have fin : ∀ (D : Addr), H1 D = none → ∀ H2, Cw G1 H1 D (((xs.take us.length).filter c).map ψ) H2 → Q (.ref D) H2 := by
      intro D hD H2 cw
      rw [lenU, List.take_length] at cw
      obtain ⟨G', g', hp⟩ := cw.fin g1 hD
      exact q _ G' H2 g' hp
    rcases hl with hl | hl
    · refine .inl ⟨l, rfl, ⟨us, .of (g1.s _ _ hl)⟩, fun D hD => ?_⟩
      refine lc_list (xs := us) (fun i => Cw G1 H1 D (((xs.take i).filter c).map ψ)) (by simpa using Cw.start g1.s hD) (fun i H2 _ cw => ?_) (step D hD) (fin D hD)
      obtain ⟨Gi, ws, a1, b1, _⟩ := cw
      exact .of (b1 _ _ (a1 _ _ hl))
    · refine .inr ⟨l, rfl, ⟨us, .of (g1.s _ _ hl)⟩, fun D hD => ?_⟩
      refine lc_tup (xs := us) (fun i => Cw G1 H1 D (((xs.take i).filter c).map ψ)) (by simpa using Cw.start g1.s hD) (fun i H2 _ cw => ?_) (step D hD) (fin D hD)
      obtain ⟨Gi, ws, a1, b1, _⟩ := cw
      exact .of (b1 _ _ (a1 _ _ hl))
/-- .. without a test -/
theorem pd_lcM {α : Type} {xs : List α} {φ ψ : α → Ty} {g : TG} {vs : List Nat} (h : PD tl σ G R (tSq (xs.map φ))) (hz : xs.length ≤ 100000)
    (hb : ∀ a ∈ xs, ∀ x Gi Ri, Same G Gi → Same R Ri → Same Gi Ri → (φ a).p Gi x → ∃ σ2, GD g (wipe σ vs) Gi x σ2 ∧ wipe σ2 vs = wipe σ vs ∧ PD te σ2 Gi Ri (ψ a)) :
    PD (tLc (iSeq K tl) g tYes te vs) σ G R (tL (xs.map ψ)) := by
  have k := pd_lc (K := K) (c := fun _ => true) (ψ := ψ) (tt := tYes) (te := te) (vs := vs) h hz (fun a ha x Gi Ri s1 s2 s3 hx => by
    obtain ⟨σ2, k1, k2, k3⟩ := hb a ha x Gi Ri s1 s2 s3 hx
    exact ⟨σ2, k1, k2, td_yes, fun _ => k3⟩)
  have e : xs.filter (fun _ => true) = xs := by simp
  rw [e] at k
  exact k
/-! ### loops -/
/-- for x in xs -/
theorem s_for {α : Type} {xs : List α} {φ : α → Ty} {g : TG} {tb : TS} {D : Ends} (h : PD tl σ G R (tSq (xs.map φ))) (sr : Same R H) (sg : Same G H) (Pv : Nat → St → Hp → Hp → Prop)
    (h0 : ∀ G1 H1, Grow G H G1 H1 → Pv 0 σ G1 H1)
    (hs : ∀ G1 H1, Grow G H G1 H1 → ∀ i a x σ' Gi Hi, xs[i]? = some a → Same G1 Gi → Same Gi Hi → (φ a).p Gi x → Pv i σ' Gi Hi →
      g x σ' Hi fun σ2 H2 => tb { D with nx := fun σ3 H3 => ∃ G3, Same G1 G3 ∧ Same G3 H3 ∧ Pv (i + 1) σ3 G3 H3, ct := fun σ3 H3 => ∃ G3, Same G1 G3 ∧ Same G3 H3 ∧ Pv (i + 1) σ3 G3 H3, bk := D.nx } σ2 H2)
    (hd : ∀ G1 H1, Grow G H G1 H1 → ∀ σ' Gi Hi, Same G1 Gi → Same Gi Hi → Pv xs.length σ' Gi Hi → D.nx σ' Hi) : tFor (iSeq K tl) g tb D σ H :=
  h H sr sg _ fun v G1 H1 g1 hv => by
    obtain ⟨l, us, rfl, hl, hus⟩ := hv
    have lenU : us.length = xs.length := by rw [hus.length, List.length_map]
    have step : ∀ (i : Nat) (x : V) (σ' : St) (H2 : Hp), us[i]? = some x → (∃ Gi, Same G1 Gi ∧ Same Gi H2 ∧ Pv i σ' Gi H2) →
        g x σ' H2 fun σ2 H2 => tb { D with nx := fun σ3 H3 => ∃ G3, Same G1 G3 ∧ Same G3 H3 ∧ Pv (i + 1) σ3 G3 H3, ct := fun σ3 H3 => ∃ G3, Same G1 G3 ∧ Same G3 H3 ∧ Pv (i + 1) σ3 G3 H3, bk := D.nx } σ2 H2 := by
      rintro i x σ' H2 hx ⟨Gi, a1, b1, p⟩
      obtain ⟨χ, hχ, hpx⟩ := hus.get' hx
      rw [List.getElem?_map] at hχ
      obtain ⟨a, ha, rfl⟩ := Option.map_eq_some_iff.mp hχ
      exact hs G1 H1 g1 i a x σ' Gi H2 ha a1 b1 ((φ a).m _ _ _ a1 hpx) p
    rcases hl with hl | hl
    · refine .inl ⟨l, rfl, ⟨us, .of (g1.s _ _ hl)⟩, ?_⟩
      refine for_list (xs := us) (fun i σ' H' => ∃ Gi, Same G1 Gi ∧ Same Gi H' ∧ Pv i σ' Gi H') ⟨G1, same_refl _, g1.s, h0 G1 H1 g1⟩ ?_ step ?_
      · rintro i σ' H2 _ ⟨Gi, a1, b1, _⟩
        exact .of (b1 _ _ (a1 _ _ hl))
      · rintro σ' H2 ⟨Gi, a1, b1, p⟩
        rw [lenU] at p
        exact hd G1 H1 g1 σ' Gi H2 a1 b1 p
    · refine .inr ⟨l, rfl, ⟨us, .of (g1.s _ _ hl)⟩, ?_⟩
      refine for_tup (xs := us) (fun i σ' H' => ∃ Gi, Same G1 Gi ∧ Same Gi H' ∧ Pv i σ' Gi H') ⟨G1, same_refl _, g1.s, h0 G1 H1 g1⟩ ?_ step ?_
      · rintro i σ' H2 _ ⟨Gi, a1, b1, _⟩
        exact .of (b1 _ _ (a1 _ _ hl))
      · rintro σ' H2 ⟨Gi, a1, b1, p⟩
        rw [lenU] at p
        exact hd G1 H1 g1 σ' Gi H2 a1 b1 p
/-- for k in range(n) -/
theorem s_range {n : Int} {ta : TA} {g : TG} {tb : TS} {D : Ends} (h : AD ta σ G R [tI n]) (sr : Same R H) (sg : Same G H) (hn : -(2 ^ 62) ≤ n ∧ n < 2 ^ 62) (Pv : Nat → St → Hp → Prop)
    (h0 : ∀ H1, Same H H1 → Pv 0 σ H1)
    (hs : ∀ (i : Nat) σ' Hi, (i : Int) < n → Pv i σ' Hi → g (.int (i : Int)) σ' Hi fun σ2 H2 => tb { D with nx := Pv (i + 1), ct := Pv (i + 1), bk := D.nx } σ2 H2)
    (hd : ∀ σ' Hi, Pv n.toNat σ' Hi → D.nx σ' Hi) : tFor (iRng1 ta) g tb D σ H :=
  h H sr sg _ fun vs G1 H1 g1 hv => by
    cases hv with
    | cons h1 h2 =>
      cases h2
      cases h1
      refine ⟨n, rfl, hn.1, hn.2, for_range (lo := 0) (n := n.toNat) Pv (h0 H1 g1.h) (fun i σ' H' hi p => ?_) hd⟩
      rw [Int.zero_add]
      exact hs i σ' H' (by omega) p
end
end BR
/-! Own layer, fourth part: data, ==, repr, isinstance, t[::-1]; a law's end. -/
namespace BR
open PySem PySem.Spec PyProof.Rows L2
/-! ### data -/
mutual
def dt : PyData → Ty
  | .none => tN
  | .bool b => tBo b
  | .int i => tI i
  | .str x => tSt x
  | .list ds => tL (dts ds)
  | .tuple ds => tT (dts ds)
  | .dict _ => ⟨fun G v => ∃ a ks, v = .ref a ∧ G a = some (.dK ks), fun _ _ _ s ⟨a, ks, e, h⟩ => ⟨a, ks, e, s _ _ h⟩⟩
def dts : List PyData → List Ty
  | [] => []
  | d :: ds => dt d :: dts ds
end
theorem dts_eq : ∀ ds : List PyData, dts ds = ds.map dt
  | [] => by simp [dts]
  | d :: ds => by simp [dts, dts_eq ds]
theorem dt_tuple (ds : List PyData) : dt (.tuple ds) = tT (ds.map dt) := by rw [← dts_eq]; simp [dt]
theorem dt_list (ds : List PyData) : dt (.list ds) = tL (ds.map dt) := by rw [← dts_eq]; simp [dt]
theorem dt_int (i : Int) : dt (.int i) = tI i := by simp [dt]
theorem dt_bool (b : Bool) : dt (.bool b) = tBo b := by simp [dt]
theorem dt_str (x : Str) : dt (.str x) = tSt x := by simp [dt]
theorem dt_none : dt .none = tN := by simp [dt]
mutual
theorem dt_dp {K : Fg} {G : Hp} : ∀ (d : PyData) (v : V), d.canLay0 = true → (dt d).p G v → Dp K G v d
  | .none, v, _, h => by rw [dt_none] at h; cases h; exact .non
  | .bool b, v, _, h => by rw [dt_bool] at h; cases h; exact .bl b
  | .int i, v, _, h => by rw [dt_int] at h; cases h; exact .int i
  | .str x, v, _, h => by rw [dt_str] at h; cases h; exact .str x
  | .list ds, v, c, h => by
    simp only [dt] at h
    obtain ⟨a, vs, rfl, h1, h2⟩ := h
    exact .lst (.of h1) (dts_dp ds vs (by simpa [PyData.canLay0] using c) h2)
  | .tuple ds, v, c, h => by
    simp only [dt] at h
    obtain ⟨a, vs, rfl, h1, h2⟩ := h
    exact .tup (.of h1) (dts_dp ds vs (by simpa [PyData.canLay0] using c) h2)
  | .dict _, v, c, h => by simp [PyData.canLay0] at c
theorem dts_dp {K : Fg} {G : Hp} : ∀ (ds : List PyData) (vs : List V), PyData.canLayAll0 ds = true → All G (dts ds) vs → DpAll K G vs ds
  | [], vs, _, h => by simp only [dts] at h; cases h; exact .nil
  | d :: ds, vs, c, h => by
    simp only [dts] at h
    simp only [PyData.canLayAll0, Bool.and_eq_true] at c
    cases h with
    | cons h1 h2 => exact .cons (dt_dp d _ c.1 h1) (dts_dp ds _ c.2 h2)
end
/-! ### == -/
def rEqX (K : Fg) : R2 := fun x y H Q => rEq x y H Q ∨ rEqD K x y H Q
def rNeX (K : Fg) : R2 := fun x y H Q => rNe x y H Q ∨ rNeD K x y H Q
theorem op_eqX {X : Cx} (hu : X.A.units + 64 < cLine) : OpR X (compareOp .Eq) (rEqX X.K) := op_eq.or (op_eqD hu)
theorem op_neX {X : Cx} (hu : X.A.units + 64 < cLine) : OpR X (compareOp .NotEq) (rNeX X.K) := op_ne.or (op_neD hu)
section
variable {K : Fg} {σ : St} {G R : Hp} {ta tb te : TE} {φ ψ χ : Ty}
theorem pd_eqD {d e : PyData} (ha : PD ta σ G R (dt d)) (hb : PD tb σ G R (dt e)) (hd : SeqAt.shaped d = true) (he : SeqAt.shaped e = true) : PD (tOp (rEqX K) ta tb) σ G R (tBo (PyData.eqv d e)) :=
  pd_op ha hb fun x y G1 H _ s1 hx hy Q q => .inr ⟨d, e, dt_dp d x (SeqAt.canLay_of_shaped hd) ((dt d).m _ _ _ s1 hx), dt_dp e y (SeqAt.canLay_of_shaped he) ((dt e).m _ _ _ s1 hy), hd, he, q _ G1 H (.refl s1) rfl⟩
theorem pd_neD {d e : PyData} (ha : PD ta σ G R (dt d)) (hb : PD tb σ G R (dt e)) (hd : SeqAt.shaped d = true) (he : SeqAt.shaped e = true) : PD (tOp (rNeX K) ta tb) σ G R (tBo (!PyData.eqv d e)) :=
  pd_op ha hb fun x y G1 H _ s1 hx hy Q q => .inr ⟨d, e, dt_dp d x (SeqAt.canLay_of_shaped hd) ((dt d).m _ _ _ s1 hx), dt_dp e y (SeqAt.canLay_of_shaped he) ((dt e).m _ _ _ s1 hy), hd, he, q _ G1 H (.refl s1) rfl⟩
theorem pd_eqv {x y : V} (ha : PD ta σ G R (tv x)) (hb : PD tb σ G R (tv y)) (hs : scal x y = true) : PD (tOp (rEqX K) ta tb) σ G R (tBo (decide (x = y))) := pd_opv ha hb fun H Q q => .inl ⟨hs, q⟩
theorem pd_nev {x y : V} (ha : PD ta σ G R (tv x)) (hb : PD tb σ G R (tv y)) (hs : scal x y = true) : PD (tOp (rNeX K) ta tb) σ G R (tBo (!decide (x = y))) := pd_opv ha hb fun H Q q => .inl ⟨hs, q⟩
theorem int_dec (i j : Int) : decide (V.int i = V.int j) = decide (i = j) := by
  by_cases h : i = j
  · subst h
    simp
  · simp [h]
theorem pd_eqI {i j : Int} (ha : PD ta σ G R (tI i)) (hb : PD tb σ G R (tI j)) : PD (tOp (rEqX K) ta tb) σ G R (tBo (decide (i = j))) := by
  rw [← int_dec]
  exact pd_eqv ha hb rfl
theorem pd_neI {i j : Int} (ha : PD ta σ G R (tI i)) (hb : PD tb σ G R (tI j)) : PD (tOp (rNeX K) ta tb) σ G R (tBo (!decide (i = j))) := by
  rw [← int_dec]
  exact pd_nev ha hb rfl
/-! ### isinstance -/
theorem pd_isi {t : Value} {n : String} {b : Bool} (h : PD te σ G R φ) (ht : ∀ G v, φ.p G v → TyX K G v t) (hk : PySem.W.kitOne K t (.type n) = some b) : PD (tCB (rIsi K) (tCons te (tCons (tC (.ty n)) tNil))) σ G R (tBo b) :=
  pd_callB (ad_cons h (ad_cons pd_c ad_nil)) fun vs G1 H _ s1 hv Q q => by
    cases hv with
    | cons h1 h2 =>
      cases h2 with
      | cons h2 h3 =>
        cases h3
        cases h2
        exact ⟨_, _, t, .type n, b, rfl, .ty n, ht H _ (φ.m _ _ _ s1 h1), hk, q _ G1 H (.refl s1) rfl⟩
def clsD : PyData → String
  | .none => "NoneType"
  | .bool _ => "bool"
  | .int _ => "int"
  | .str _ => "str"
  | .list _ => "list"
  | .tuple _ => "tuple"
  | .dict _ => "dict"
theorem tyx_dt : ∀ (d : PyData) (G : Hp) (v : V), (dt d).p G v → TyX K G v (.type (clsD d))
  | .none, G, v, h => by rw [dt_none] at h; cases h; exact .base .non
  | .bool b, G, v, h => by rw [dt_bool] at h; cases h; exact .base (.bl b)
  | .int i, G, v, h => by rw [dt_int] at h; cases h; exact .base (.int i)
  | .str x, G, v, h => by rw [dt_str] at h; cases h; exact .base (.str x)
  | .list ds, G, v, h => by
    simp only [dt] at h
    obtain ⟨a, vs, rfl, h1, h2⟩ := h
    exact .base (.lst h1)
  | .tuple ds, G, v, h => by
    simp only [dt] at h
    obtain ⟨a, vs, rfl, h1, h2⟩ := h
    exact .base (.tup h1)
  | .dict _, G, v, h => by
    simp only [dt] at h
    obtain ⟨a, vs, rfl, h1⟩ := h
    exact .base (.dK h1)
/-! ### repr of data in a list or a tuple -/
def rReprX (K : Fg) : List V → Hp → VK → Prop := fun xs H Q => ∃ a d, xs = [.ref a] ∧ Dp K H (.ref a) d ∧ d.showable = true ∧ d.hasDict = false ∧ d.shown.length ≤ sizeLine ∧ d.depth ≤ 64 ∧ Q (.str d.shown) H
theorem call_reprX {X : Cx} {k : Nat} (hr : Room k X.A) (hg : X.A.guards = some []) : CallR X (.builtin "repr") (rReprX X.K) := by
  intro pins s σ H xs us Q I r h
  obtain ⟨a, d, rfl, hd, h1, h2, h3, h4, q⟩ := h
  cases r with
  | cons r1 r2 =>
    cases r2
    obtain ⟨as, hrd⟩ := Dp.reads I d _ _ hd r1
    have r1' : _ = Value.ref a := r1
    subst r1'
    have hu := hr.un
    exact repr_of_reads' hrd h1 (fun z => by rw [h2] at z; cases z) hg (by omega) (fun _ _ e => e) (fun h' u tk hk => ⟨.str d.shown, H, I.kept hk, ⟨u, rfl⟩, q⟩) h3
theorem pd_repr {d : PyData} (h : PD te σ G R (dt d)) (hr : ∀ G v, (dt d).p G v → ∃ a, v = .ref a) (h0 : d.canLay0 = true) (h1 : d.showable = true) (h2 : d.hasDict = false) (h3 : d.shown.length ≤ sizeLine) (h4 : d.depth ≤ 64) :
    PD (tCB (rReprX K) (tCons te tNil)) σ G R (tSt d.shown) :=
  pd_callB (ad_cons h ad_nil) fun vs G1 H _ s1 hv Q q => by
    cases hv with
    | cons k1 k2 =>
      cases k2
      obtain ⟨a, rfl⟩ := hr _ _ k1
      exact ⟨a, d, rfl, dt_dp d _ h0 ((dt d).m _ _ _ s1 k1), h1, h2, h3, h4, q _ G1 H (.refl s1) rfl⟩
end
/-! ### t[::-1] -/
section
variable {prog : Program} {w : World} {A : Around} {E : Value → Shared → Prop} {s : Shared}
theorem adjust_back (n : Nat) : Builtin.Slice.sliceAdjust none none (-1) (n : Int) = ((n : Int) - 1, -1) := by
  unfold Builtin.Slice.sliceAdjust
  simp
theorem places_back (n : Nat) : Builtin.Slice.slicePlaces ((n : Int) - 1) (-1) (-1) = n := by
  unfold Builtin.Slice.slicePlaces
  have h1 : ¬ ((-1 : Int) > 0) := by omega
  simp only [h1, if_false]
  split
  · simp
  · omega
theorem applied_back {sl : Addr} {vk : Value} {n : Nat} {Q : Int × Int × Nat → Shared → Prop} (hs : s.heap.IsSliceOf sl .none .none vk) (pk : IsPart vk (some (-1)))
    (h : Q ((n : Int) - 1, -1, n) s) : wpAny (model prog w) A (Builtin.Slice.sliceApplied (.ref sl) (pure (n : Int))) Q E s := by
  obtain ⟨os, hos, hcs, hds⟩ := id hs
  unfold Builtin.Slice.sliceApplied Builtin.Slice.sliceFields
  refine wpAny_bind (wpAny_bind (wpAny_field hos hds (x := .none) rfl (wpAny_bind (wpAny_field hos hds (x := .none) rfl (wpAny_bind (wpAny_field hos hds (x := vk) rfl (wpAny_pure ?_)))))))
  refine wpAny_bind (HT.slicePart_ pk ?_)
  show wpAny _ _ (if ((-1 : Int) == 0) = true then _ else _) _ _ s
  rw [if_neg (by decide)]
  refine wpAny_bind (HT.slicePart_ .none (wpAny_bind (HT.slicePart_ .none (wpAny_bind (wpAny_pure ?_)))))
  show wpAny _ _ (match Builtin.Slice.sliceAdjust none none (-1) (n : Int) with | (lo, hi) => pure (lo, (-1 : Int), Builtin.Slice.slicePlaces lo hi (-1))) _ _ s
  rw [adjust_back n]
  show wpAny _ _ (pure ((n : Int) - 1, (-1 : Int), Builtin.Slice.slicePlaces ((n : Int) - 1) (-1) (-1))) _ _ s
  rw [places_back]
  exact wpAny_pure h
theorem fmap_congr {α β : Type} {f g : α → Option β} : ∀ (l : List α), (∀ x ∈ l, f x = g x) → l.filterMap f = l.filterMap g
  | [], _ => rfl
  | x :: l, h => by
    rw [List.filterMap_cons, List.filterMap_cons, h x List.mem_cons_self, fmap_congr l fun y hy => h y (List.mem_cons_of_mem _ hy)]
theorem pick_back (xs : Array Value) : ((List.range xs.size).filterMap fun (m : Nat) => xs[(((xs.size : Int) - 1) + (m : Int) * (-1)).toNat]?).toArray = xs.toList.reverse.toArray := by
  congr 1
  have e : (List.range xs.size).filterMap (fun (m : Nat) => xs[(((xs.size : Int) - 1) + (m : Int) * (-1)).toNat]?) = ((List.range xs.size).map fun k => xs.size - 1 - k).filterMap (xs[·]?) := by
    rw [List.filterMap_map]
    refine fmap_congr _ fun m hm => ?_
    have : (((xs.size : Int) - 1) + (m : Int) * (-1)).toNat = xs.size - 1 - m := by
      have := List.mem_range.mp hm
      omega
    rw [this] <;> rfl
  rw [e, PySem.W.krv_range, List.filterMap_reverse, PySem.W.krv_all]
theorem getItem_tuple_back {t sl : Addr} {items : Array Value} {vk : Value} {Q : Value → Shared → Prop} (ht : IsTup s.heap t items) (hs : s.heap.IsSliceOf sl .none .none vk) (pk : IsPart vk (some (-1)))
    (h : Q (.ref s.heap.objs.size) { s with heap := s.heap.push { cls := .type "tuple", data := .seq items.toList.reverse.toArray } })
    (hsz : items.size ≤ sizeLine) : wpAny (model prog w) A (getItem (.ref t) (.ref sl)) Q E s := by
  have htake : sizeOk (.seq items.toList.reverse.toArray) := by
    show items.toList.reverse.toArray.size ≤ sizeLine
    simpa using hsz
  obtain ⟨os, hos, hcs, hds⟩ := id hs
  have hTs : s.TypeIs (.ref sl) "slice" := ⟨os, hos, hcs⟩
  unfold getItem
  try with_reducible refine wpAny_holding ?_
  first | refine wpAny_bind (wpAny_pure ?_) | skip
  refine wpAny_bind (wpAny_sequenceKey ht.typeIs (by decide) ?_)
  refine wpAny_bind (wpAny_callSpecial?_slot (name := Str.ofString "__getitem__") ht.typeIs PyProof.Rows.slot_tuple_getitem
    (wpAny_call_entry PyProof.Rows.slot_tuple_getitem ht.typeIs entry_tuple_getitem ?_ (args_tuple_getitem _ _)))
  show wpAny _ _ (Builtin.Tuple.tupleItemsOf (.ref t) >>= _) _ _ s
  refine wpAny_bind (tupleItemsOf_ ht ?_)
  refine wpAny_bind (wpAny_typeOf hTs ?_)
  rw [if_pos (by decide)]
  refine wpAny_bind (applied_back hs pk ?_)
  have hno : ¬ ((((items.size : Int) - 1) == 0 && (-1 : Int) == 1 && items.size == items.size) = true) := by
    intro q
    rw [Bool.and_eq_true, Bool.and_eq_true] at q
    exact absurd q.1.2 (by decide)
  show wpAny _ _ (if (((items.size : Int) - 1) == 0 && (-1 : Int) == 1 && items.size == items.size) = true then _ else _) _ _ s
  rw [if_neg hno, pick_back]
  first
    | exact wpAny_bind (m := Builtin.Tuple.tupleExact _) (wpAny_newObj_type (wpAny_pure ⟨_, rfl, wpAny_pure h⟩) htake)
    | exact wpAny_bind (m := Builtin.Tuple.tupleExact _) (wpAny_newObj_type (wpAny_bind (wpAny_pure (wpAny_pure ⟨_, rfl, wpAny_pure h⟩))) htake)
    | exact wpAny_bind (wpAny_bind (m := Builtin.Tuple.tupleExact _) (wpAny_newObj_type (wpAny_pure (wpAny_pure ⟨_, rfl, wpAny_pure h⟩)) htake))
    | exact wpAny_bind (wpAny_bind (m := Builtin.Tuple.tupleExact _) (wpAny_newObj_type (wpAny_pure ⟨_, rfl, wpAny_pure h⟩) htake))
end
def tRevT (K : Fg) (te : TE) : TE := fun σ H Q => te σ H fun x H1 => ∃ a xs, x = .ref a ∧ SqT K H1 a xs ∧ ∀ p, H1 p = none → Q (.ref p) (upd H1 p (.tup xs.reverse))
theorem pe_revT {X : Cx} {e : Expr} {te : TE} {k : Nat} {p1 p2 p3 pos : Pos} (he : PE X e te) : PE X (.Subscript e (.Slice none none (some (.UnaryOp .USub (.Constant (.int 1) k p1) p2)) p3) pos) (tRevT X.K te) := by
  refine ⟨fun pins s σ H Q I h => ?_⟩
  refine Subscript_ (thn (he.run pins s σ H _ I h) ?_)
  rintro v s1 ⟨x, H1, I1, r1, a, xs, rfl, hx, q⟩
  cases r1
  have hst : PO X (some (.UnaryOp .USub (.Constant (.int 1) k p1) p2)) (tPart (tUn (rU fun i => .int (-i)) (tC (.int 1)))) := po_some (pe_un un_neg pe_int)
  refine wpAny_Slice (thn (po_none.run pins s1 σ H1 (fun o H2 => o = none ∧ H2 = H1) I1 ⟨rfl, rfl⟩) ?_)
  rintro vl s2 ⟨l, H2, I2, pl, rfl, rfl⟩
  refine thn (po_none.run pins s2 σ H2 (fun o H3 => o = none ∧ H3 = H2) I2 ⟨rfl, rfl⟩) ?_
  rintro vu s3 ⟨u, H3, I3, pu, rfl, rfl⟩
  refine thn (hst.run pins s3 σ H3 (fun o H4 => o = some (-1) ∧ H4 = H3) I3 ⟨1, rfl, -1, rfl, rfl, rfl⟩) ?_
  rintro vs s4 ⟨o, H4, I4, ps, rfl, rfl⟩
  cases pl
  cases pu
  have I5 : Inv X pins σ H4 { s4 with heap := s4.heap.push { cls := .type "slice", data := .fields #[.none, .none, vs] } } := I4.kept (t' := s4.toks) fun b ob q => Heap.get?_push_of_some _ q
  obtain ⟨its, r, ht, hz⟩ := I5.tuple hx
  have hlen := r.length
  show wpAny (model X.prog X.w) X.A (subscriptTail e (.Slice none none (some (.UnaryOp .USub (.Constant (.int 1) k p1) p2)) p3) (.ref a) (.ref s4.heap.objs.size)) (EP X pins σ Q) X.xe { s4 with heap := s4.heap.push { cls := .type "slice", data := .fields #[.none, .none, vs] } }
  refine tail_any (ops := [.ref a, .ref s4.heap.objs.size]) ht.typeIs (PyProof.Rows.slot_tuple_getitem.lookup) ?_ (by with_unfolding_all rfl)
  refine getItem_tuple_back ht (Heap.IsSliceOf.new _ .none .none vs) ps ?_ (by rw [List.size_toArray]; omega)
  refine ⟨.ref _, _, I5.laid (t' := s4.toks) (o := .tup xs.reverse) (fun b ob q => Heap.get?_push_of_some _ q) (Nat.le_refl _) ?_, rfl, q _ (I5.hok.fresh (Nat.le_refl _))⟩
  exact ⟨by rw [List.length_reverse]; exact hz, _, r.reverse, ⟨_, Heap.get?_push_size _ rfl, rfl, _, rfl⟩⟩
theorem pd_revT {K : Fg} {σ : St} {G R : Hp} {te : TE} {φs : List Ty} (h : PD te σ G R (tT φs)) : PD (tRevT K te) σ G R (tT φs.reverse) := fun H sr sg Q q =>
  h H sr sg _ fun v G1 H1 g1 hv => by
    obtain ⟨a, vs, rfl, h1, h2⟩ := hv
    refine ⟨a, vs, rfl, .of (g1.s _ _ h1), fun p hp => ?_⟩
    have g2 : Grow G1 H1 (upd G1 p (.tup vs.reverse)) (upd H1 p (.tup vs.reverse)) := .new g1.s hp
    exact q _ _ _ (g1.trans g2) ⟨p, _, rfl, upd_same, h2.reverse.mono g2.g⟩
/-! ### the pool of a law, and reading step by step -/
def PoolOk (c z : Int) : Prop := 0 ≤ c ∧ 0 ≤ z ∧ z < 2147483648
structure PI (p : Addr) (G H : Hp) : Prop where
  s : Same G H
  n : G p = none
  h : ∃ c z, H p = some (.lst [.int c, .int z]) ∧ PoolOk c z
theorem PI.grow {p : Addr} {G H G' H' : Hp} (i : PI p G H) (g : Grow G H G' H') : PI p G' H' := by
  obtain ⟨c, z, h, k⟩ := i.h
  refine ⟨g.s, ?_, c, z, g.h _ _ h, k⟩
  cases q : G' p with
  | none => rfl
  | some o =>
    have e := g.f p i.n (by rw [q]; exact fun z => nomatch z)
    rw [h] at e
    cases e
theorem PI.same {p : Addr} {G H H' : Hp} (i : PI p G H) (g : Same H H') : PI p G H' := by
  obtain ⟨c, z, h, k⟩ := i.h
  exact ⟨i.s.trans g, i.n, c, z, g _ _ h, k⟩
/-- what a draw leaves: all but the pool as it was -/
def SameBut (p : Addr) (H H' : Hp) : Prop := ∀ a o, a ≠ p → H a = some o → H' a = some o
theorem PI.but {p : Addr} {G H H' : Hp} (i : PI p G H) (g : SameBut p H H') {c z : Int} (h : H' p = some (.lst [.int c, .int z])) (k : PoolOk c z) : PI p G H' :=
  ⟨fun a o e => g a o (ne_of_none e i.n) (i.s a o e), i.n, c, z, h, k⟩
def sp_l_take : Sp := fun vs H Q _ => ∃ (p : Addr) (c z n : Int), vs = [.ref p, .int n] ∧ H p = some (.lst [.int c, .int z]) ∧ PoolOk c z ∧ 0 < n ∧ n < 2 ^ 200 ∧
  ∀ (r c' z' : Int) (H' : Hp), 0 ≤ r → r < n → PoolOk c' z' → SameBut p H H' → H' p = some (.lst [.int c', .int z']) → Q (.int r) H'
section
variable {K : Fg} {σ : St} {G R H : Hp} {ta tb te : TE} {φ ψ χ : Ty} {p : Addr} {Q : VK} {E : XK} {D : Ends} {tz tu : TS}
theorem k_pd (i : PI p G H) (h : PD te σ G G φ) (k : ∀ v G' H', Same G G' → PI p G' H' → φ.p G' v → Q v H') : te σ H Q :=
  h H i.s i.s _ fun v G' H' g hv => k v G' H' g.g (i.grow g) hv
/-- a known value: G stays -/
theorem k_pv {x : V} (i : PI p G H) (h : PD te σ G G (tv x)) (k : ∀ H', PI p G H' → Q x H') : te σ H Q :=
  h H i.s i.s _ fun v G' H' g hv => by
    cases hv
    exact k H' (i.same g.h)
theorem k_take {j : Nat} {n : Int} (i : PI p G H) (hp : σ[j]? = some (some (.ref p))) (hn : PD te σ G G (tI n)) (h0 : 0 < n) (h1 : n < 2 ^ 200) (k : ∀ r H', 0 ≤ r → r < n → PI p G H' → Q (.int r) H') :
    tCall sp_l_take [] E (tCons (tVar j) (tCons te tNil)) σ H Q :=
  ⟨_, hp, hn H i.s i.s _ fun v G' H' g hv => by
    cases hv
    obtain ⟨c, z, h, o⟩ := i.h
    exact ⟨p, c, z, n, rfl, g.h _ _ h, o, h0, h1, fun r c' z' H2 q1 q2 q3 q4 q5 => k r H2 q1 q2 ((i.same g.h).but q4 q5 q3)⟩⟩
theorem un_op {r : R2} (h : ta σ H fun x H1 => tb σ H1 fun y H2 => r x y H2 Q) : tOp r ta tb σ H Q := h
theorem un_tup {t : TA} (h : t σ H fun xs H1 => xs.length ≤ sizeLine ∧ ∀ q, H1 q = none → Q (.ref q) (upd H1 q (.tup xs))) : tTup t σ H Q := h
theorem un_lst {t : TA} (h : t σ H fun xs H1 => xs.length ≤ sizeLine ∧ ∀ q, H1 q = none → Q (.ref q) (upd H1 q (.lst xs))) : tLst t σ H Q := h
theorem un_cons {tr : TA} {Q : List V → Hp → Prop} (h : ta σ H fun x H1 => tr σ H1 fun xs H2 => Q (x :: xs) H2) : tCons ta tr σ H Q := h
theorem un_seq (h : tu { D with nx := tz D } σ H) : tSeq tu tz D σ H := h
theorem un_asg {g : TG} (h : te σ H fun x H1 => g x σ H1 D.nx) : tAsg te g D σ H := h
theorem un_asg2 {i : Nat} (h : te σ H fun x H1 => tz D (σ.set i (some x)) H1) : tSeq (tAsg te (gName i)) tz D σ H := h
theorem un_par2 {i j : Nat} {ta : TA} (h : ta σ H fun vs H1 => ∃ v w, vs = [v, w] ∧ tz D ((σ.set i (some v)).set j (some w)) H1) : tSeq (tPar i j ta) tz D σ H := h
theorem un_ret (h : te σ H D.rt) : tRet te D σ H := h
theorem un_drop (h : te σ H fun _ H1 => D.nx σ H1) : tDrop te D σ H := h
theorem un_drop2 (h : te σ H fun _ H1 => tz D σ H1) : tSeq (tDrop te) tz D σ H := h
end
/-! ### promises of pure defs -/
theorem lenT {pre : List Ty → Ty → Prop} {n : Nat} (h : ∀ φs φ, pre φs φ → φs.length = n) : ∀ vs H Q E, spT pre vs H Q E → vs.length = n := by
  rintro vs H Q E ⟨G, φs, φ, _, h2, h3, _⟩
  rw [h2.length]
  exact h φs φ h3
theorem pureT {pre : List Ty → Ty → Prop} {t : TS} {N : List Str}
    (h : ∀ G φs φ vs H, Same G H → All G φs vs → pre φs φ → ∀ D : Ends, (∀ v G' H', Grow G H G' H' → φ.p G' v → D.rt v H') → t D (L2.start N vs) H) :
    ∀ vs H (Q : VK) (E : XK), spT pre vs H Q E → t { nx := fun _ H' => Q .non H', rt := Q } (L2.start N vs) H := by
  rintro vs H Q E ⟨G, φs, φ, h1, h2, h3, h4⟩
  exact h G φs φ vs H h1 h2 h3 _ h4
/-! ### a law's end -/
theorem law_callG {P : Program} {w : World} {K : Fg} {mg mb : Str → Option Value} {CX : CXT} {k : Nat} {fa a : Addr} {nl x : Str} {sp : Sp} {s₁ : Shared} {vs : List Value} {ns : List Int}
    (KX : K.In s₁.heap) (hns : s₁.heap.Ns mainGlobals mg) (hb : s₁.heap.Ns builtinsNs mb) (hbb : ∀ x : Str, x ≠ "__name__" → mb x = bootBuiltins x) (hlim : s₁.heap.NoLimit) (hg : s₁.gens = #[])
    (ha : s₁.heap.get? a = some { cls := .type "list", data := .seq vs.toArray }) (hi : IntsAre vs ns) (hl : ns.length ≤ sizeLine) (hr : Room k callerA)
    (F : ∀ base : Heap, K.In base → base.Ns mainGlobals mg → Has P w K mg base CX k nl [x] sp) (hmg : mg nl = some (.ref fa))
    (hsp : ∀ H : Hp, Only H → SqL K H a (ns.map V.int) → sp [.ref a] H (fun v _ => v = .bl true) fun _ _ _ => False)
    (hCX : ∀ H e s', CX [] H s₁ (fun _ _ _ => False) e s' → False) :
    codeAny (model P w) callerA (.call (.ref fa) ⟨[.ref a], []⟩) (fun r s' => r = .ok (.ret (.bool true)) ∧ OldK s₁.heap s'.heap ∧ s'.os = s₁.os ∧ AllBare s'.gens) s₁ := by
  have rv := vals_ints hi
  have core : ∀ H : Hp, Only H → SqL K H a (ns.map V.int) → HOk P w H s₁.heap → (∀ b, H b ≠ none → b = a) → (H a ≠ none → K.lookup a = none) →
      codeAny (model P w) callerA (.call (.ref fa) ⟨[.ref a], []⟩) (fun r s' => r = .ok (.ret (.bool true)) ∧ OldK s₁.heap s'.heap ∧ s'.os = s₁.os ∧ AllBare s'.gens) s₁ := by
    intro H hO hS hok hA hK
    have noA : ∀ {b : Addr} {o : Obj} {es : Array DictEntry} {ep : Nat}, s₁.heap.get? b = some o → o.data = .dict es ep → H b = none := by
      intro b o es ep e d
      cases q : H b with
      | none => rfl
      | some u =>
        have e' := hA b (by rw [q]; exact fun z => nomatch z)
        rw [e', ha] at e
        cases e
        exact nomatch (show Data.seq vs.toArray _ = Data.dict es ep from d)
    have nsK : ∀ {b : Addr} {m : Str → Option Value}, s₁.heap.Ns b m → (hidT s₁.heap H).Ns b m := by
      rintro b m ⟨o, es, ep, e, d, r⟩
      exact ⟨o, es, ep, hidT_get e (noA e d), d, r⟩
    have hKb : K.In (hidT s₁.heap H) := by
      intro b o e
      refine hidT_get (KX b o e) ?_
      cases q : H b with
      | none => rfl
      | some u =>
        have e' := hA b (by rw [q]; exact fun z => nomatch z)
        have z := hK (by rw [← e', q]; exact fun z => nomatch z)
        rw [← e', e] at z
        cases z
    obtain ⟨mc, l1, l2⟩ := hlim
    have hM : Mod K mg (hidT s₁.heap H) := ⟨hKb, nsK hns, ⟨mb, nsK hb, hbb⟩, ⟨mc, nsK l1, l2⟩⟩
    have e0 : Env0 P w K mg (hidT s₁.heap H) callerA [] s₁ H :=
      ⟨rfl, hM, fun b o e => of_hidT e, Nat.le_of_eq (hidT_size _ _), trivial, fun b z => absurd (show b ∈ ([] : List Addr) from z) (by simp), hok, .of_eq hg⟩
    obtain ⟨f, fd, hm, _, hbi, FF⟩ := (F _ hKb (nsK hns)).ex
    rw [hmg] at hm
    cases hm
    refine codeAny_mono (FF.run callerA [] s₁ H ⟨[.ref a], []⟩ [.ref a] [.ref a] _ _ hr rfl e0 (hbi s₁ [.ref a] KX rfl) (.cons rfl .nil) (hsp H hO hS)) ?_
    intro r s' h
    match r, h with
    | .error e, h => exact (hCX H e s' h).elim
    | .ok (.ret u), ⟨v, H', os, bare, un, hok', r', q⟩ =>
      have q' : v = .bl true := q
      subst q'
      obtain rfl : u = Value.bool true := r'
      refine ⟨rfl, OldK.of_keep fun b o e => ?_, os, bare⟩
      rcases hO b with z | ⟨ob, xs, z⟩
      · exact un.keep b o e z (fun z => absurd (show b ∈ ([] : List Addr) from z) (by simp)) (by simp)
      · have e1 := (hok b _ z).1
        rw [e] at e1
        cases e1
        exact (hok' b _ (un.frzs b o _ z)).1
  have lenV := hi.length
  cases hk : K.lookup a with
  | some o =>
    have e := KX a o hk
    rw [ha] at e
    cases e
    refine core (fun _ => none) (fun _ => .inl rfl) (.inr ⟨_, vs.toArray, _, hk, rfl, rfl, rfl, by rw [List.size_toArray, lenV]; exact hl, by simpa using rv⟩) (fun b u z => nomatch (show (none : Option HO) = some u from z)) (fun b z => absurd rfl z) (fun z => absurd rfl z)
  | none =>
    have at1 : ∀ b, b = a → (if b = a then some (HO.frz { cls := .type "list", data := .seq vs.toArray } (.lst (ns.map V.int))) else none) = some (HO.frz { cls := .type "list", data := .seq vs.toArray } (.lst (ns.map V.int))) := fun b e => if_pos e
    refine core (fun b => if b = a then some (.frz { cls := .type "list", data := .seq vs.toArray } (.lst (ns.map V.int))) else none) (fun b => ?_) (.inl (.inr ⟨_, at1 a rfl⟩)) (fun b u z => ?_) (fun b z => ?_) (fun _ => hk)
    · by_cases q : b = a
      · exact .inr ⟨_, _, if_pos q⟩
      · exact .inl (if_neg q)
    · by_cases q : b = a
      · have z' := (if_pos q).symm.trans z
        cases z'
        rw [q]
        exact ⟨ha, by rw [List.length_map]; exact hl, vs, _, rv, ha⟩
      · exact nomatch ((if_neg q).symm.trans z)
    · exact Decidable.byContradiction fun q => z (if_neg q)
theorem walk_ofG {l : PySem.W.OpenLaw} {n k : Nat} {q : Program} {loose : List Str} {XP : (Str → Option Value) → Heap → Prop} {YP : World → Heap → Prop} {d : DefRec} {CX : CXT} {x : Str}
    (hn : l.most = some n) (hn2 : n ≤ sizeLine) (hdf : d.params.defaults = []) (hr : Room k callerA)
    (F : ∀ (w : World) (mg : Str → Option Value) (fa : Addr) (h : Heap), YP w h → h.Ns mainGlobals mg → mg d.name = some (.ref fa) →
      ∃ (K : Fg) (sp : Sp), K.In h ∧
        (∀ (H : Hp) (a : Addr) (ns : List Int), ns.length ≤ n → (∀ z ∈ ns, Builtin.Int.intBits z ≤ 1048576) → Only H → SqL K H a (ns.map V.int) → sp [.ref a] H (fun v _ => v = .bl true) fun _ _ _ => False) ∧
        ∀ base : Heap, K.In base → base.Ns mainGlobals mg → Has l.prog w K mg base CX k d.name [x] sp)
    (hCX : ∀ (H : Hp) (s : Shared) (e : Value) (s' : Shared), CX [] H s (fun _ _ _ => False) e s' → False) :
    PySem.W.WalkO q loose XP YP l.row.toRowW d [] (fun f vs => PySem.call f vs) := by
  refine Att.attach_callB hn hdf fun w s₀ s₁ mg mb fa o pm cd doc a vs ns G Y ho hd hcd hmg hobj hints hlen hbits hg => ?_
  obtain ⟨K, sp, KX, hsp, hF⟩ := F w mg fa _ Y G.T.g hmg
  exact law_callG KX G.T.g G.T.b G.T.builtins G.T.nolimit hg hobj hints (Nat.le_trans hlen hn2) hr hF hmg (fun H hO hS => hsp H a ns hlen hbits hO hS) fun H e s' => hCX H s₁ e s'
end BR
/-! Own layer, fifth part: how long a repr is; the script; cuts. -/
namespace BR
open PySem PySem.Spec PyProof.Rows L2
theorem piled_nil : piled [] = 0 := by simp [piled]
theorem listText_le (ts : List Str) : (listText ts).length ≤ piled ts + 2 := by
  unfold listText
  rw [Str.length_append]
  have e1 : ("[" : Str).length = 1 := by decide +kernel
  have e2 : ("]" : Str).length = 1 := by decide +kernel
  cases ts with
  | nil =>
    show ("[" : Str).length + _ ≤ _
    omega
  | cons t ts =>
    show (textFrom 1 (("[" : Str) ++ ((if 0 > 0 then ", " else "" : String) : Str) ++ t) ts).length + _ ≤ _
    rw [textFrom_length_pos ts 1 _ (by decide), Str.length_append, Str.length_append, piled_cons]
    have e3 : (((if 0 > 0 then ", " else "" : String) : Str)).length = 0 := by decide +kernel
    omega
theorem tupleText_le (ts : List Str) : (tupleText ts).length ≤ piled ts + 4 := by
  unfold tupleText
  rw [Str.length_append, Str.length_append]
  have e1 : ("(" : Str).length = 1 := by decide +kernel
  have e2 : ((if ts.length == 1 then ",)" else ")" : String) : Str).length ≤ 2 := by
    split
    · decide +kernel
    · decide +kernel
  cases ts with
  | nil =>
    have e3 : (Str.join ", " []).length = 0 := by decide +kernel
    omega
  | cons t ts =>
    have := join_length_add (t :: ts) (by simp)
    omega
mutual
def wt : PyData → Nat
  | .none => 4
  | .bool _ => 5
  | .int _ => 1921
  | .str x => (reprText x).length
  | .list xs => wts xs + 4
  | .tuple xs => wts xs + 4
  | .dict kvs => 0
def wts : List PyData → Nat
  | [] => 0
  | x :: xs => wt x + 2 + wts xs
end
mutual
theorem shown_le : ∀ d : PyData, d.showable = true → d.hasDict = false → d.shown.length ≤ wt d
  | .none, _, _ => by simp only [PyData.shown, wt]; decide +kernel
  | .bool b, _, _ => by
    simp only [PyData.shown, wt]
    cases b <;> decide +kernel
  | .int i, h, _ => by
    simp only [PyData.shown, wt]
    simp only [PyData.showable, decide_eq_true_eq] at h
    have e := int_text_length_le (k := 1920) (by decide) h
    rw [PySem.ofString_length]
    omega
  | .str x, _, _ => by simp only [PyData.shown, wt]; omega
  | .list xs, h, h' => by
    simp only [PyData.showable] at h
    simp only [PyData.hasDict] at h'
    simp only [PyData.shown, wt]
    have := shownAll_le xs h h'
    have := listText_le (PyData.shownAll xs)
    omega
  | .tuple xs, h, h' => by
    simp only [PyData.showable] at h
    simp only [PyData.hasDict] at h'
    simp only [PyData.shown, wt]
    have := shownAll_le xs h h'
    have := tupleText_le (PyData.shownAll xs)
    omega
  | .dict kvs, _, h => by simp [PyData.hasDict] at h
theorem shownAll_le : ∀ xs : List PyData, PyData.showableAll xs = true → PyData.hasDictAll xs = false → piled (PyData.shownAll xs) ≤ wts xs
  | [], _, _ => by simp only [PyData.shownAll, wts, piled_nil]; omega
  | x :: xs, h, h' => by
    simp only [PyData.showableAll, Bool.and_eq_true] at h
    simp only [PyData.hasDictAll, Bool.or_eq_false_iff] at h'
    simp only [PyData.shownAll, wts, piled_cons]
    have := shown_le x h.1 h'.1
    have := shownAll_le xs h.2 h'.2
    omega
end
/-- all that a repr asks of data -/
structure Shows (d : PyData) (n : Nat) : Prop where
  lay : d.canLay0 = true
  shw : d.showable = true
  nod : d.hasDict = false
  wt : wt d ≤ n
  dep : d.depth ≤ 60
theorem Shows.mono {d : PyData} {n m : Nat} (h : Shows d n) (k : n ≤ m) : Shows d m := ⟨h.lay, h.shw, h.nod, Nat.le_trans h.wt k, h.dep⟩
theorem Shows.len {d : PyData} {n : Nat} (h : Shows d n) (hn : n ≤ 16777216) : d.shown.length ≤ sizeLine := by
  have := shown_le d h.shw h.nod
  have := h.wt
  rw [sizeLine_eq]
  omega
structure ShowsAll (ds : List PyData) (n : Nat) : Prop where
  lay : PyData.canLayAll0 ds = true
  shw : PyData.showableAll ds = true
  nod : PyData.hasDictAll ds = false
  wt : wts ds ≤ n
  dep : PyData.depthAll ds ≤ 59
theorem showsAll_of {m : Nat} : ∀ ds : List PyData, (∀ d ∈ ds, Shows d m ∧ d.depth ≤ 59) → ShowsAll ds (ds.length * (m + 2))
  | [], _ => ⟨rfl, rfl, rfl, by simp [wts], by simp [PyData.depthAll]⟩
  | d :: ds, h => by
    obtain ⟨h1, h2⟩ := h d List.mem_cons_self
    have h3 := showsAll_of ds fun x hx => h x (List.mem_cons_of_mem _ hx)
    refine ⟨?_, ?_, ?_, ?_, ?_⟩
    · simp only [PyData.canLayAll0, h1.lay, h3.lay, Bool.and_true]
    · simp only [PyData.showableAll, h1.shw, h3.shw, Bool.and_true]
    · simp only [PyData.hasDictAll, h1.nod, h3.nod, Bool.or_false]
    · simp only [wts, List.length_cons, Nat.succ_mul]
      have := h1.wt
      have := h3.wt
      omega
    · simp only [PyData.depthAll]
      have := h3.dep
      omega
theorem shows_tuple {ds : List PyData} {n : Nat} (h : ShowsAll ds n) : Shows (.tuple ds) (n + 4) := by
  refine ⟨?_, ?_, ?_, ?_, ?_⟩
  · simp only [PyData.canLay0, h.lay]
  · simp only [PyData.showable, h.shw]
  · simp only [PyData.hasDict, h.nod]
  · simp only [wt]; have := h.wt; omega
  · simp only [PyData.depth]; have := h.dep; omega
theorem shows_list {ds : List PyData} {n : Nat} (h : ShowsAll ds n) : Shows (.list ds) (n + 4) := by
  refine ⟨?_, ?_, ?_, ?_, ?_⟩
  · simp only [PyData.canLay0, h.lay]
  · simp only [PyData.showable, h.shw]
  · simp only [PyData.hasDict, h.nod]
  · simp only [wt]; have := h.wt; omega
  · simp only [PyData.depth]; have := h.dep; omega
theorem shows_none : Shows .none 4 := ⟨rfl, rfl, rfl, by simp [wt], by simp [PyData.depth]⟩
theorem shows_bool (b : Bool) : Shows (.bool b) 5 := ⟨rfl, rfl, rfl, by simp [wt], by simp [PyData.depth]⟩
theorem shows_int {i : Int} (h : i.natAbs < 2 ^ 1900) : Shows (.int i) 1921 := by
  refine ⟨rfl, ?_, rfl, by simp [wt], by simp [PyData.depth]⟩
  simp only [PyData.showable, decide_eq_true_eq]
  have := PySem.Flt.log2_lt_of (show 0 < 1900 by decide) h
  omega
theorem shows_str {x : Str} (h : PyData.strOk x = true) : Shows (.str x) (reprText x).length := ⟨by simp only [PyData.canLay0, h], rfl, rfl, by simp [wt], by simp [PyData.depth]⟩
section
variable {K : Fg} {σ : St} {G R : Hp} {te tb : TE}
theorem pd_reprS {d : PyData} {n : Nat} (h : PD te σ G R (dt d)) (hr : ∀ G v, (dt d).p G v → ∃ a, v = .ref a) (hs : Shows d n) (hn : n ≤ 16777216) : PD (tCB (rReprX K) (tCons te tNil)) σ G R (tSt d.shown) :=
  pd_repr h hr hs.lay hs.shw hs.nod (hs.len hn) (Nat.le_trans hs.dep (by decide))
theorem ref_tuple {ds : List PyData} : ∀ G v, (dt (.tuple ds)).p G v → ∃ a, v = .ref a := by
  intro G v h
  rw [dt_tuple] at h
  obtain ⟨a, _, e, _⟩ := h
  exact ⟨a, e⟩
theorem ref_list {ds : List PyData} : ∀ G v, (dt (.list ds)).p G v → ∃ a, v = .ref a := by
  intro G v h
  rw [dt_list] at h
  obtain ⟨a, _, e, _⟩ := h
  exact ⟨a, e⟩
/-! the script: a list that is read alone -/
theorem pd_lenS {a : Addr} {xs : List V} (ha : PD te σ R R (tv (.ref a))) (h : SqL K R a xs) : PD (tCB (rLenX K) (tCons te tNil)) σ G R (tI (xs.length : Int)) := fun H sr sg Q q =>
  ha H sr sr _ fun v G1 H1 g1 hv => by
    cases hv
    exact ⟨.ref a, xs.length, rfl, .inl ⟨xs, sqL_mono (sr.trans g1.h) h, rfl⟩, q _ G H1 (.rest sg g1.h) rfl⟩
theorem pd_ixS {a : Addr} {xs : List V} {i : Int} {v : V} (ha : PD te σ R R (tv (.ref a))) (hb : PD tb σ R R (tI i)) (h : SqL K R a xs) (hi : atI xs i = some v) : PD (tOp (rIx K) te tb) σ G R (tv v) := fun H sr sg Q q =>
  ha H sr sr _ fun u G1 H1 g1 hu => (hb.mono (same_refl _) (sr.trans g1.h)) H1 (same_refl _) (sr.trans g1.h) _ fun w G2 H2 g2 hw => by
    cases hu
    cases hw
    have s2 : Same R H2 := (sr.trans g1.h).trans g2.h
    exact .inl ⟨a, xs, i, v, rfl, rfl, sqL_mono s2 h, hi, q v G H2 (.rest sg (g1.h.trans g2.h)) rfl⟩
theorem cutT_map {α β : Type} (f : α → β) (xs : List α) (lo hi : Option Int) : cutT (xs.map f) lo hi = (cutT xs lo hi).map f := by
  unfold cutT
  rw [List.length_map, List.map_take, List.map_drop]
theorem cutT_len {α : Type} (xs : List α) (lo hi : Option Int) : (cutT xs lo hi).length ≤ xs.length := by
  unfold cutT
  rw [List.length_take, List.length_drop]
  omega
theorem cutT_mem {α : Type} {xs : List α} {lo hi : Option Int} {x : α} (h : x ∈ cutT xs lo hi) : x ∈ xs := List.mem_of_mem_drop (List.mem_of_mem_take h)
theorem atI_nat {α : Type} {xs : List α} {i : Int} (h0 : 0 ≤ i) (h1 : i < (xs.length : Int)) : ∃ x, atI xs i = some x ∧ xs[i.toNat]? = some x := by
  have hi : i.toNat < xs.length := by omega
  refine ⟨xs[i.toNat], ?_, by simp [hi]⟩
  unfold atI ixN
  rw [if_pos h0, if_pos h1]
  simp [hi]
end
/-! ### the pool, made and drawn from -/
def sp_l_pool (K : Fg) : Sp := fun vs H Q _ => ∃ (a : Addr) (ns : List Int) (k : Int), vs = [.ref a, .int k] ∧ SqL K H a (ns.map V.int) ∧ 0 ≤ k ∧ k ≤ 100 ∧
  ∀ p c z H', PoolOk c z → H p = none → Same H H' → H' p = some (.lst [.int c, .int z]) → Q (.ref p) H'
def t_l_pool (K : Fg) : TS :=
  (tSeq (tAsg (tC (.int 0)) (gName 2))
  (tSeq (tIfS (tTest (tOp rLtI (tVar 1) (tCB (rLenX K) (tCons (tVar 0) tNil))))
  (tAsg (tOp (rIx K) (tVar 0) (tVar 1)) (gName 2))
  tNext)
  (tSeq (tAsg (tOp rModI (tOp rMulI (tOp (rAddX K) (tOp (rAddX K) (tOp rModI (tVar 2) (tC (.int 2147483629))) (tOp rMulI (tOp rMulI (tC (.int 7919)) (tVar 1)) (tVar 1))) (tC (.int 13))) (tC (.int 48271))) (tC (.int 2147483647))) (gName 3))
  (tSeq (tIfS (tTest (tOp rLtI (tVar 2) (tOp rPowI (tC (.int 10)) (tC (.int 18)))))
  (tAsg (tC (.int 0)) (gName 2))
  tNext)
  (tRet (tLst (tCons (tVar 2) (tCons (tOp (rAddX K) (tOp rModI (tOp rMulI (tVar 3) (tVar 3)) (tC (.int 2147483587))) (tC (.int 1))) tNil))))))))
def t_l_take (K : Fg) : TS :=
  (tSeq (tIfS (tTest (tOp rGtI (tOp (rIx K) (tVar 0) (tC (.int 0))) (tC (.int 0))))
  (tSeq (tAsg (tOp rModI (tOp (rIx K) (tVar 0) (tC (.int 0))) (tVar 1)) (gName 2))
  (tSeq (tAsg (tOp rDivI (tOp (rIx K) (tVar 0) (tC (.int 0))) (tVar 1)) (gSub (tVar 0) (tC (.int 0)) rSetL))
  (tRet (tVar 2))))
  tNext)
  (tSeq (tAsg (tOp rModI (tOp (rAddX K) (tOp rMulI (tOp (rIx K) (tVar 0) (tC (.int 1))) (tC (.int 48271))) (tC (.int 11))) (tC (.int 2147483647))) (gSub (tVar 0) (tC (.int 1)) rSetL))
  (tRet (tOp rModI (tOp rDivI (tOp rModI (tOp rMulI (tOp (rIx K) (tVar 0) (tC (.int 1))) (tOp (rIx K) (tVar 0) (tC (.int 1)))) (tC (.int 2147483629))) (tC (.int 64))) (tVar 1)))))
theorem mulW_small {i j : Int} (h1 : i.natAbs < 2 ^ 250) (h2 : j.natAbs < 2 ^ 250) : CMulW i j := wide_mul h1 h2 (by decide) (by decide) (by decide)
theorem small_of {i : Int} {n : Nat} (h : i.natAbs < 2 ^ n) (hn : n ≤ 250) : i.natAbs < 2 ^ 250 := Nat.lt_of_lt_of_le h (Nat.pow_le_pow_right (by decide) hn)
theorem small64 {i : Int} (h : i.natAbs < 2 ^ 64) : i.natAbs < 2 ^ 250 := small_of h (by decide)
section
variable {K : Fg}
theorem pure_l_take : ∀ vs H (Q : VK) (E : XK), sp_l_take vs H Q E → t_l_take K { nx := fun _ H' => Q .non H', rt := Q } (L2.start ["_law_pool_here", "_law_sides", "_law_found"] vs) H := by
  rintro vs H Q E ⟨p, c, z, n, rfl, hp, ⟨o1, o2, o3⟩, n0, n1, k⟩
  have cN : CDivW c n := wide_div n0 (b := 200) (by omega) (by decide) (by decide)
  refine q_if (R := H) (b := decide (0 < c)) (td_test (pd_gt (pd_ixV (pd_var rfl rfl) pd_c hp rfl) pd_c)) (same_refl _) (fun hb H1 s1 => ?_) (fun hb H1 s1 => ?_)
  · have hc : 0 < c := of_decide_eq_true hb
    have hp1 := s1 _ _ hp
    refine un_asg2 (pd_mod (pd_ixV (pd_var rfl rfl) pd_c hp1 rfl) (pd_var rfl rfl) n0 H1 (same_refl _) (same_refl _) _ fun v _ H2 g2 hv => ?_)
    cases hv
    have hp2 := g2.h _ _ hp1
    refine un_seq (un_asg (pd_div (pd_ixV (pd_var rfl rfl) pd_c hp2 rfl) (pd_var rfl rfl) cN H2 (same_refl _) (same_refl _) _ fun v _ H3 g3 hv => ?_))
    cases hv
    have hp3 := g3.h _ _ hp2
    refine ⟨_, rfl, p, _, 0, 0, rfl, rfl, hp3, rfl, _, rfl, ?_⟩
    refine k _ (c / n) z _ (Int.emod_nonneg _ (by omega)) (Int.emod_lt_of_pos _ n0) ⟨Int.ediv_nonneg o1 (by omega), o2, o3⟩ (fun a o ha e => ?_) upd_same
    rw [upd_ne ha]
    exact g3.h _ _ (g2.h _ _ (s1 _ _ e))
  · have hp1 := s1 _ _ hp
    have hz : z.natAbs < 2 ^ 250 := small64 (by omega)
    refine un_seq (un_asg (pd_mod (pd_add (pd_mul (pd_ixV (pd_var rfl rfl) pd_c hp1 rfl) pd_c (mulW_small hz (by decide))) pd_c) pd_c (by decide) H1 (same_refl _) (same_refl _) _ fun v _ H2 g2 hv => ?_))
    cases hv
    have hp2 := g2.h _ _ hp1
    generalize hz' : (z * 48271 + 11) % 2147483647 = z'
    have z0 : 0 ≤ z' ∧ z' < 2147483647 := by
      rw [← hz']
      exact ⟨Int.emod_nonneg _ (by decide), Int.emod_lt_of_pos _ (by decide)⟩
    refine ⟨_, rfl, p, _, 1, 1, rfl, rfl, hp2, rfl, ?_⟩
    have hz2 : z'.natAbs < 2 ^ 250 := small64 (by omega)
    have hp3 : upd H2 p (.lst ([V.int c, V.int z].set 1 (V.int z'))) p = some (.lst [V.int c, V.int z']) := upd_same
    refine un_ret (pd_mod (pd_div (pd_mod (pd_mul (pd_ixV (pd_var rfl rfl) pd_c hp3 rfl) (pd_ixV (pd_var rfl rfl) pd_c hp3 rfl) (mulW_small hz2 hz2)) pd_c (by decide)) pd_c (wide_div (b := 10) (by decide) (by decide) (by decide) (by decide))) (pd_var rfl rfl) n0 _ (same_refl _) (same_refl _) _ fun v _ H4 g4 hv => ?_)
    cases hv
    refine k _ c z' H4 (Int.emod_nonneg _ (by omega)) (Int.emod_lt_of_pos _ n0) ⟨o1, z0.1, by omega⟩ (fun a o ha e => g4.h _ _ ?_) (g4.h _ _ hp3)
    rw [upd_ne ha]
    exact g2.h _ _ (s1 _ _ e)
theorem len_l_take : ∀ vs H Q E, sp_l_take vs H Q E → vs.length = (["_law_pool_here", "_law_sides"] : List Str).length := by
  rintro vs H Q E ⟨p, c, z, n, rfl, _⟩
  rfl
theorem pure_l_pool : ∀ vs H (Q : VK) (E : XK), sp_l_pool K vs H Q E → t_l_pool K { nx := fun _ H' => Q .non H', rt := Q } (L2.start ["_law_script", "_law_k", "_law_cell", "_law_seed"] vs) H := by
  rintro vs H Q E ⟨a, ns, k, rfl, hS, k0, k1, kk⟩
  refine un_asg2 ?_
  show tSeq _ _ _ [some (.ref a), some (.int k), some (.int 0), none] H
  have rest : ∀ (c : Int) (H1 : Hp), Same H H1 → (tSeq (tAsg (tOp rModI (tOp rMulI (tOp (rAddX K) (tOp (rAddX K) (tOp rModI (tVar 2) (tC (.int 2147483629))) (tOp rMulI (tOp rMulI (tC (.int 7919)) (tVar 1)) (tVar 1))) (tC (.int 13))) (tC (.int 48271))) (tC (.int 2147483647))) (gName 3))
      (tSeq (tIfS (tTest (tOp rLtI (tVar 2) (tOp rPowI (tC (.int 10)) (tC (.int 18)))))
      (tAsg (tC (.int 0)) (gName 2))
      tNext)
      (tRet (tLst (tCons (tVar 2) (tCons (tOp (rAddX K) (tOp rModI (tOp rMulI (tVar 3) (tVar 3)) (tC (.int 2147483587))) (tC (.int 1))) tNil)))))) { nx := fun _ H' => Q .non H', rt := Q } [some (.ref a), some (.int k), some (.int c), none] H1 := by
    intro c H1 s1
    have b1 : 0 ≤ c % 2147483629 ∧ c % 2147483629 < 2147483629 := ⟨Int.emod_nonneg _ (by decide), Int.emod_lt_of_pos _ (by decide)⟩
    have b2 : 0 ≤ 7919 * k ∧ 7919 * k ≤ 791900 := by omega
    have b3 : 0 ≤ 7919 * k * k ∧ 7919 * k * k ≤ 791900 * 100 := ⟨Int.mul_nonneg b2.1 k0, Int.mul_le_mul b2.2 k1 k0 (by decide)⟩
    refine un_asg2 (pd_mod (pd_mul (pd_add (pd_add (pd_mod (pd_var rfl rfl) pd_c (by decide)) (pd_mul (pd_mul pd_c (pd_var rfl rfl) (mulW_small (by decide) (small64 (by omega)))) (pd_var rfl rfl) (mulW_small (small64 (by omega)) (small64 (by omega))))) pd_c) pd_c (mulW_small (small64 (by omega)) (by decide))) pd_c (by decide)
      H1 (same_refl _) (same_refl _) _ fun v _ H2 g2 hv => ?_)
    cases hv
    generalize hz' : (c % 2147483629 + 7919 * k * k + 13) * 48271 % 2147483647 = z
    have z0 : 0 ≤ z ∧ z < 2147483647 := by
      rw [← hz']
      exact ⟨Int.emod_nonneg _ (by decide), Int.emod_lt_of_pos _ (by decide)⟩
    show tSeq _ _ _ [some (.ref a), some (.int k), some (.int c), some (.int z)] H2
    have fin : ∀ (c' : Int) (H3 : Hp), 0 ≤ c' → Same H H3 → tRet (tLst (tCons (tVar 2) (tCons (tOp (rAddX K) (tOp rModI (tOp rMulI (tVar 3) (tVar 3)) (tC (.int 2147483587))) (tC (.int 1))) tNil))) { nx := fun _ H' => Q .non H', rt := Q } [some (.ref a), some (.int k), some (.int c'), some (.int z)] H3 := by
      intro c' H3 hc s3
      have hz2 : z.natAbs < 2 ^ 250 := small64 (by omega)
      refine un_ret (un_lst (un_cons ⟨_, rfl, un_cons ?_⟩))
      refine pd_add (pd_mod (pd_mul (pd_var rfl rfl) (pd_var rfl rfl) (mulW_small hz2 hz2)) pd_c (by decide)) pd_c H3 (same_refl _) (same_refl _) _ fun v _ H4 g4 hv => ?_
      cases hv
      refine ⟨by show 2 ≤ sizeLine; decide, fun p hp => ?_⟩
      have m0 : 0 ≤ z * z % 2147483587 ∧ z * z % 2147483587 < 2147483587 := ⟨Int.emod_nonneg _ (by decide), Int.emod_lt_of_pos _ (by decide)⟩
      exact kk p c' _ _ ⟨hc, by omega, by omega⟩ ((s3.trans g4.h).free hp) ((s3.trans g4.h).trans (same_new hp)) upd_same
    refine q_if (R := H2) (b := decide (c < 10 ^ 18)) (td_test (pd_lt (pd_var rfl rfl) (pd_pow (i := 10) (j := 18) pd_c pd_c ⟨by decide, by decide, by decide⟩))) (same_refl _) (fun hb H3 s3 => ?_) (fun hb H3 s3 => ?_)
    · exact fin 0 H3 (by decide) ((s1.trans g2.h).trans s3)
    · have : ¬ (c < 10 ^ 18) := of_decide_eq_false hb
      exact fin c H3 (by omega) ((s1.trans g2.h).trans s3)
  have hlen : PD (tCB (rLenX K) (tCons (tVar 0) tNil)) [some (.ref a), some (.int k), some (.int 0), none] H H (tI (ns.length : Int)) := by
    have q := pd_lenS (K := K) (te := tVar 0) (σ := [some (.ref a), some (.int k), some (.int 0), none]) (G := H) (R := H) (pd_var rfl rfl) hS
    rw [List.length_map] at q
    exact q
  refine q_if (R := H) (b := decide (k < (ns.length : Int))) (td_test (pd_lt (pd_var rfl rfl) hlen)) (same_refl _) (fun hb H1 s1 => ?_) (fun hb H1 s1 => ?_)
  · have hk : k < (ns.length : Int) := of_decide_eq_true hb
    obtain ⟨c, e1, e2⟩ := atI_nat k0 hk
    have e3 : atI (ns.map V.int) k = some (.int c) := by
      obtain ⟨x, f1, f2⟩ := atI_nat (xs := ns.map V.int) k0 (by rw [List.length_map]; exact hk)
      rw [List.getElem?_map, e2] at f2
      cases f2
      exact f1
    refine un_asg (pd_ixS (K := K) (pd_var rfl rfl) (pd_var rfl rfl) (sqL_mono s1 hS) e3 H1 (same_refl _) (same_refl _) _ fun v _ H2 g2 hv => ?_)
    cases hv
    exact rest c H2 (s1.trans g2.h)
  · exact rest 0 H1 s1
theorem len_l_pool : ∀ vs H Q E, sp_l_pool K vs H Q E → vs.length = (["_law_script", "_law_k"] : List Str).length := by
  rintro vs H Q E ⟨a, ns, k, rfl, _⟩
  rfl
end
end BR
/-! Own layer, sixth part: draws out of lists, a loop over a range inside a block. -/
namespace BR
open PySem PySem.Spec PyProof.Rows L2
section
variable {K : Fg} {σ : St} {G R H : Hp} {ta tb te tl tn : TE} {φ ψ χ : Ty} {p : Addr} {Q : VK} {E : XK} {D : Ends} {tz tu : TS}
theorem at_map {α β : Type} {xs : List α} {f : α → β} {i : Int} {x : α} (h : atI xs i = some x) : atI (xs.map f) i = some (f x) := by
  unfold atI at h ⊢
  rw [List.length_map]
  cases q : ixN xs.length i with
  | none =>
    rw [q] at h
    cases h
  | some m =>
    rw [q] at h
    show (xs.map f)[m]? = _
    rw [List.getElem?_map, show xs[m]? = some x from h] <;> rfl
/-- [a, b, ..][take(pool, n)] -/
theorem k_pick {α : Type} {xs : List α} {f : α → Ty} {j : Nat} {n : Int} (i : PI p G H) (hl : PD tl σ G G (tL (xs.map f))) (hp : σ[j]? = some (some (.ref p))) (hn : ∀ G', Same G G' → PD tn σ G' G' (tI n)) (hz : n = (xs.length : Int)) (h0 : 0 < n) (h1 : n < 2 ^ 200)
    (k : ∀ x ∈ xs, ∀ v G' H', Same G G' → PI p G' H' → (f x).p G' v → Q v H') : tOp (rIx K) tl (tCall sp_l_take [] E (tCons (tVar j) (tCons tn tNil))) σ H Q := by
  refine un_op (k_pd i hl fun v G1 H1 s1 i1 hv => k_take i1 hp (hn G1 s1) h0 h1 fun r H2 r0 r1 i2 => ?_)
  obtain ⟨a, vs, rfl, b, c⟩ := hv
  obtain ⟨x, e1, e2⟩ := atI_nat (xs := xs) r0 (by omega)
  obtain ⟨u, g1, g2⟩ := at_of_all c (at_map e1)
  exact .inl ⟨a, vs, r, u, rfl, rfl, .of (i2.s _ _ b), g1, k x (List.mem_of_getElem? e2) u G1 H2 s1 i2 g2⟩
/-- .. of known values -/
theorem k_pickV {vs : List V} {j : Nat} {n : Int} (i : PI p G H) (hl : PD tl σ G G (tL (vs.map tv))) (hp : σ[j]? = some (some (.ref p))) (hn : ∀ G', Same G G' → PD tn σ G' G' (tI n)) (hz : n = (vs.length : Int)) (h0 : 0 < n) (h1 : n < 2 ^ 200)
    (k : ∀ x ∈ vs, ∀ H', PI p G H' → Q x H') : tOp (rIx K) tl (tCall sp_l_take [] E (tCons (tVar j) (tCons tn tNil))) σ H Q :=
  k_pick i hl hp hn hz h0 h1 fun x hx v G' H' s' i' hv => by
    cases hv
    exact k x hx H' ⟨s'.trans i'.s, s'.free i'.n, i'.h⟩
theorem PI.less {G' : Hp} (i : PI p G' H) (s : Same G G') : PI p G H := ⟨s.trans i.s, s.free i.n, i.h⟩
theorem PI.new {o : HO} {q : Addr} (i : PI p G H) (h : H q = none) : PI p (upd G q o) (upd H q o) := i.grow (.new i.s h)
theorem q_range {n : Int} {ta : TA} {g : TG} {tb : TS} (h : AD ta σ G R [tI n]) (sr : Same R H) (sg : Same G H) (hn : -(2 ^ 62) ≤ n ∧ n < 2 ^ 62) (Pv : Nat → St → Hp → Prop)
    (h0 : ∀ H1, Same H H1 → Pv 0 σ H1)
    (hs : ∀ (i : Nat) σ' Hi, (i : Int) < n → Pv i σ' Hi → g (.int (i : Int)) σ' Hi fun σ2 H2 => tb { D with nx := Pv (i + 1), ct := Pv (i + 1), bk := tz D } σ2 H2)
    (hd : ∀ σ' Hi, Pv n.toNat σ' Hi → tz D σ' Hi) : tSeq (tFor (iRng1 ta) g tb) tz D σ H :=
  s_range (D := { D with nx := tz D }) h sr sg hn Pv h0 hs hd
theorem q_for {α : Type} {xs : List α} {φ : α → Ty} {g : TG} {tb : TS} (h : PD tl σ G R (tSq (xs.map φ))) (sr : Same R H) (sg : Same G H) (Pv : Nat → St → Hp → Hp → Prop)
    (h0 : ∀ G1 H1, Grow G H G1 H1 → Pv 0 σ G1 H1)
    (hs : ∀ G1 H1, Grow G H G1 H1 → ∀ i a x σ' Gi Hi, xs[i]? = some a → Same G1 Gi → Same Gi Hi → (φ a).p Gi x → Pv i σ' Gi Hi →
      g x σ' Hi fun σ2 H2 => tb { D with nx := fun σ3 H3 => ∃ G3, Same G1 G3 ∧ Same G3 H3 ∧ Pv (i + 1) σ3 G3 H3, ct := fun σ3 H3 => ∃ G3, Same G1 G3 ∧ Same G3 H3 ∧ Pv (i + 1) σ3 G3 H3, bk := tz D } σ2 H2)
    (hd : ∀ G1 H1, Grow G H G1 H1 → ∀ σ' Gi Hi, Same G1 Gi → Same Gi Hi → Pv xs.length σ' Gi Hi → tz D σ' Hi) : tSeq (tFor (iSeq K tl) g tb) tz D σ H :=
  s_for (D := { D with nx := tz D }) h sr sg Pv h0 hs hd
theorem pd_dict : PD tDNewK σ G R (dt (.dict [])) := fun H sr sg Q q p hp => by
  refine q _ (upd G p (.dK [])) _ (.new sg hp) ?_
  simp only [dt]
  exact ⟨p, [], rfl, upd_same⟩
theorem pd_notB {a b : Bool} (ha : PD ta σ G R (tBo a)) (hb : PD tb σ G R (tBo b)) : PD (tOp rNotB ta tb) σ G R (tBo (!decide (a = b))) := pd_opv ha hb fun H Q q => ⟨a, b, rfl, rfl, q⟩
theorem pd_isB {a b : Bool} (ha : PD ta σ G R (tBo a)) (hb : PD tb σ G R (tBo b)) : PD (tOp rIsB ta tb) σ G R (tBo (decide (a = b))) := pd_opv ha hb fun H Q q => ⟨a, b, rfl, rfl, q⟩
/-- the law's turns: max(1, min(len(script), n)) -/
theorem pd_turns {a : Addr} {ns : List Int} {j : Nat} {n : Int} (hj : σ[j]? = some (some (.ref a))) (h : SqL K R a (ns.map V.int)) :
    PD (tCB rMax2 (tCons (tC (.int 1)) (tCons (tCB rMin2 (tCons (tCB (rLenX K) (tCons (tVar j) tNil)) (tCons (tC (.int n)) tNil))) tNil))) σ G R (tI (max 1 (min (ns.length : Int) n))) := by
  refine pd_max2 pd_c (pd_min2 ?_ pd_c)
  have q := pd_lenS (K := K) (te := tVar j) (σ := σ) (G := G) (R := R) (pd_var hj rfl) h
  rw [List.length_map] at q
  exact q
end
end BR
/-! Own layer, seventh part: sorted({e for .. in .. for .. in ..}), ints, any number (below 4,095). -/
namespace BR
open PySem PySem.Spec PyProof.Rows L2
/-! ### sorted of a set of ints, any number -/
section
variable {P : Program} {w : World} {A : Around} {E : Value → Shared → Prop} {s : Shared} {a : Addr}
theorem sorted_setX {S : Int → Bool} {n : Nat} {Q : Value → Shared → Prop} (R : SetR w s.heap a S n) (hh : A.handled = none)
    (hQ : ∀ s' p (out : List Value) (c : Nat) (ns : List Int), (∀ b o, s.heap.get? b = some o → s'.heap.get? b = some o) → s'.gens = s.gens → s'.os = s.os → s.heap.objs.size ≤ p →
      s'.heap.get? p = some (seqObj "list" out.toArray c) → IntsAre out ns → ns.Pairwise (· < ·) → (∀ k, k ∈ ns ↔ S k = true) → ns.length = n → Q (.ref p) s') :
    wpAny (model P w) A (call (.builtin "sorted") [.ref a]) Q E s := by
  obtain ⟨o, es, ep, t, ho, hex, hd, g, nd, hm, hb, hf, hn, hr, hl⟩ := R
  refine Calls.call_function_entry kind_sorted plain_sorted entry_sorted (args_sorted1 _) ?_
  unfold Builtin.«sorted»
  refine wpAny_bind (m := checkCount "sorted" 1 1 _) (wpAny_pure ?_)
  refine wpAny_bind (collect_set (A := A.in1) hh ⟨o, ho, hex.1, hd⟩ hf hb hr hl ?_)
  intro s1 vs k1 hz g1 o1 pm
  have hvl : vs.length = n := (pm.length_eq.trans (by rw [List.length_map, Array.length_toList])).trans hn
  have hI : IntsAre vs (vs.map SrtO.iv) := SrtO.ints_iv fun v hv => by
    obtain ⟨e, he, q⟩ := List.mem_map.mp (pm.mem_iff.mp hv)
    obtain ⟨k, tk, h1, _⟩ := g e he
    exact ⟨k, tk, q.symm.trans h1⟩
  have ivk : ∀ e ∈ es.toList, SrtO.iv e.2 = keyOf e := fun e he => by
    obtain ⟨k, tk, h1, _⟩ := g e he
    unfold keyOf
    rw [h1] <;> rfl
  have pk : (vs.map SrtO.iv).Perm (es.toList.map keyOf) := by
    have q := pm.map SrtO.iv
    rw [List.map_map] at q
    have e2 : es.toList.map (SrtO.iv ∘ fun e => e.2) = es.toList.map keyOf := List.map_congr_left ivk
    rw [← e2]
    exact q
  have hsz : vs.length ≤ sizeLine := by
    rw [hvl, ← hn, sizeLine_eq]
    have : es.size < 4096 := hb
    omega
  refine wpAny_bind (wpAny_newList ?_ hsz)
  have hoL : (s1.heap.push (seqObj "list" vs.toArray 0)).get? s1.heap.objs.size = some (seqObj "list" vs.toArray 0) := Heap.get?_push_size _ rfl
  refine wpAny_bind (wpAny_holding (wpAny_call_entry slot_list_sort ⟨_, hoL, rfl⟩ entry_list_sort (SrtO.list_sort_ord SrtO.swo_int hoL hsz (fun h2 => SrtO.ints_sortable hI h2) ?_) (args_list_sort _)))
  intro out h1 h2
  refine ⟨_, rfl, ?_⟩
  obtain ⟨a1, a2, a3⟩ := SrtO.ints_out hI h1 h2
  obtain ⟨c, hc⟩ := sortedHeap_at (vs := vs) (out := out.toArray) hoL
  have pn : (out.map SrtO.iv).Perm (es.toList.map keyOf) := a2.trans pk
  refine wpAny_pure ⟨_, rfl, hQ _ s1.heap.objs.size out c _ (fun b u e => ?_) g1 o1 hz hc a1 (lt_of_le_nodup _ a3 (pn.nodup_iff.mpr nd)) (fun k => by rw [pn.mem_iff, ← hm k]) ?_⟩
  · have q := k1 b u e
    have hlt := Heap.lt_size q
    show (sortedHeap (s1.heap.push (seqObj "list" vs.toArray 0)) s1.heap.objs.size vs out.toArray).get? b = some u
    rw [sortedHeap_old (Nat.ne_of_lt hlt) (by rw [size_push']; exact Nat.lt_succ_of_lt hlt)]
    exact Heap.get?_push_of_some _ q
  · rw [pn.length_eq, List.length_map, Array.length_toList]
    exact hn
end
def rSortedSetX (w : World) : List V → Hp → VK → Prop := fun vs H Q => ∃ (a : Addr) (S : Int → Bool) (n : Nat), vs = [V.ref a] ∧ H a = some (SetO w a S n) ∧ n ≤ 5000 ∧
  ∀ (ns : List Int) (p : Addr), ns.Pairwise (· < ·) → (∀ k : Int, k ∈ ns ↔ S k = true) → ns.length = n → H p = none → Q (.ref p) (upd H p (.lst (ns.map V.int)))
theorem cr_sortedSetX {X : Cx} (hc : X.calm = true) : CallR X (.builtin "sorted") (rSortedSetX X.w) := by
  intro pins s σ H vs us Q I r h
  obtain ⟨a, S, n, rfl, ha, h5, q⟩ := h
  rw [Vals.ref1 r]
  refine sorted_setX (setO_get I ha) (I.ok.hd hc) ?_
  intro s' p out c ns k g o hp hg hi hs hm hl
  have hlen : (ns.map V.int).length ≤ sizeLine := by
    rw [List.length_map, hl, sizeLine_eq]
    omega
  have hn : H p = none := I.hok.fresh hp
  have J := I.call' (ch := []) (s' := s') (H' := upd H p (.lst (ns.map V.int))) o (Un.laid k hp hn) (I.hok.laid k hp ⟨hlen, out, c, vals_of_ints hi, hg⟩) (by rw [g]; exact I.bare) (fun _ z => nomatch z)
  exact ⟨.ref p, _, J, rfl, q ns p hs hm hl hn⟩
/-! ### a set comprehension of two clauses -/
section
variable {prog : Program} {w : World} {A : Around} {R : Result → Shared → Prop} {s : Shared} {elt t0 i0 t1 i1 : Expr} {ifs0 ifs1 : List Expr} {scope : Scope} {pos : Pos} {it acc : Value} {env : Env}
abbrev sc2 (elt t0 i0 t1 i1 : Expr) (ifs0 ifs1 : List Expr) (scope : Scope) (pos : Pos) : Expr := .SetComp elt [⟨t0, i0, ifs0, 0⟩, ⟨t1, i1, ifs1, 0⟩] scope pos
abbrev oks (env : Env) (ifs : List Expr) : Sem Bool := forIn ifs true fun c r => if r = true then do let ok ← isTrue c env (eval c env); pure (ForInStep.yield ok) else pure (ForInStep.yield r)
theorem turnS_out : compTurn (sc2 elt t0 i0 t1 i1 ifs0 ifs1 scope pos) 0 it acc env = (do
    standAt i0.pos
    match ← pyNext it with
    | none => pure (.done .next)
    | some v =>
      letOwnedTupleGo t0 it v
      assign t0 env v
      let mut ok := true
      for c in ifs0 do
        if ok then ok ← isTrue c env (eval c env)
      if ok then
        let x ← eval i1 env
        standAt i1.pos
        let x ← foldedSetIterable i1 env x
        let _ ← runOwn (.compStart (sc2 elt t0 i0 t1 i1 ifs0 ifs1 scope pos) 1 (← holding [x] (pyIter x)) acc env) env
      again (.compLoop (sc2 elt t0 i0 t1 i1 ifs0 ifs1 scope pos) 0 it acc env)) := by rfl
theorem turnS_in : compTurn (sc2 elt t0 i0 t1 i1 ifs0 ifs1 scope pos) 1 it acc env = (do
    standAt i1.pos
    match ← pyNext it with
    | none => pure (.done .next)
    | some v =>
      letOwnedTupleGo t1 it v
      assign t1 env v
      let mut ok := true
      for c in ifs1 do
        if ok then ok ← isTrue c env (eval c env)
      if ok then
        (do let v ← eval elt env; standAt elt.pos; let _ ← call (.builtin "set.add") [acc, v])
      again (.compLoop (sc2 elt t0 i0 t1 i1 ifs0 ifs1 scope pos) 1 it acc env)) := by rfl
/-- no exception is wished for -/
abbrev nw {α : Type} (prog : Program) (w : World) (A : Around) (t : Sem α) (Q : α → Shared → Prop) (s : Shared) : Prop := wpAny (model prog w) A t Q (fun _ _ => False) s
theorem nwm {α : Type} {t : Sem α} {Q Q' : α → Shared → Prop} {E : Value → Shared → Prop} {s : Shared} (h : nw prog w A t Q s) (hQ : ∀ a s, Q a s → Q' a s) : wpAny (model prog w) A t Q' E s :=
  wpAny_mono h hQ (fun _ _ z => z.elim)
theorem loopS_out (hs : ∀ x, foldedSetIterable i1 env x = pure x) (I : Nat → Shared → Prop)
    (turn : ∀ n s, I n s → nw prog w A (pyNext it) (fun r s1 => match r with
      | none => R (.ok .next) s1
      | some v => nw prog w A (letOwnedTupleGo t0 it v) (fun _ s2 => nw prog w A (assign t0 env v) (fun _ s3 => nw prog w A (oks env ifs0) (fun ok s4 =>
          if ok = true then nw prog w A (eval i1 env) (fun x s5 => nw prog w A (pyIter x) (fun it1 s6 =>
              codeAny (model prog w) A (.compStart (sc2 elt t0 i0 t1 i1 ifs0 ifs1 scope pos) 1 it1 acc env) (fun r s' => match r with
                | .ok _ => ∃ m, m < n ∧ I m s'
                | .error _ => False) s6) s5) s4
          else ∃ m, m < n ∧ I m s4) s3) s2) s1) s)
    (n : Nat) (h : I n s) : codeAny (model prog w) A (.compLoop (sc2 elt t0 i0 t1 i1 ifs0 ifs1 scope pos) 0 it acc env) R s := by
  refine codeAny_loop rfl I ?_ n h
  intro n s hI
  show wpAny _ A ((compTurn (sc2 elt t0 i0 t1 i1 ifs0 ifs1 scope pos) 0 it acc env).onRaise (fun x => do noteFrame x env; theTreesLotGoes x)) _ _ s
  refine wpAny_noted ?_
  rw [turnS_out]
  refine wpAny_bind (wpAny_standAt (wpAny_bind (nwm (turn n s hI) ?_)))
  intro r s1 h1
  cases r with
  | none => exact wpAny_pure h1
  | some v =>
    refine wpAny_bind (nwm h1 fun _ s2 h2 => wpAny_bind (nwm h2 fun _ s3 h3 => wpAny_bind (nwm h3 fun ok s4 h4 => ?_)))
    cases ok with
    | false => exact wpAny_pure ⟨rfl, h4⟩
    | true =>
      refine wpAny_bind (nwm h4 fun x s5 h5 => wpAny_bind (wpAny_standAt (wpAny_bind (wpAny_of_eq (hs x) (wpAny_bind (wpAny_holding (nwm h5 fun it1 s6 h6 => ?_)))))))
      refine wpAny_bind (wpAny_runOwn ?_)
      rw [Around.mark_none]
      refine codeAny_mono h6 ?_
      intro r s' hr
      cases r with
      | ok f => first | exact wpAny_pure ⟨rfl, hr⟩ | exact wpAny_bind (wpAny_pure (wpAny_pure ⟨rfl, hr⟩))
      | error e => exact hr.elim
theorem loopS_in (I : Nat → Shared → Prop)
    (turn : ∀ n s, I n s → nw prog w A (pyNext it) (fun r s1 => match r with
      | none => R (.ok .next) s1
      | some v => nw prog w A (letOwnedTupleGo t1 it v) (fun _ s2 => nw prog w A (assign t1 env v) (fun _ s3 => nw prog w A (oks env ifs1) (fun ok s4 =>
          if ok = true then nw prog w A (eval elt env) (fun x s5 => nw prog w A (call (.builtin "set.add") [acc, x]) (fun _ s6 => ∃ m, m < n ∧ I m s6) s5) s4
          else ∃ m, m < n ∧ I m s4) s3) s2) s1) s)
    (n : Nat) (h : I n s) : codeAny (model prog w) A (.compLoop (sc2 elt t0 i0 t1 i1 ifs0 ifs1 scope pos) 1 it acc env) R s := by
  refine codeAny_loop rfl I ?_ n h
  intro n s hI
  show wpAny _ A ((compTurn (sc2 elt t0 i0 t1 i1 ifs0 ifs1 scope pos) 1 it acc env).onRaise (fun x => do noteFrame x env; theTreesLotGoes x)) _ _ s
  refine wpAny_noted ?_
  rw [turnS_in]
  refine wpAny_bind (wpAny_standAt (wpAny_bind (nwm (turn n s hI) ?_)))
  intro r s1 h1
  cases r with
  | none => exact wpAny_pure h1
  | some v =>
    refine wpAny_bind (nwm h1 fun _ s2 h2 => wpAny_bind (nwm h2 fun _ s3 h3 => wpAny_bind (nwm h3 fun ok s4 h4 => ?_)))
    cases ok with
    | false => exact wpAny_pure ⟨rfl, h4⟩
    | true => exact wpAny_bind (wpAny_bind (nwm h4 fun x s5 h5 => wpAny_bind (wpAny_standAt (wpAny_bind (nwm h5 fun _ s6 h6 => wpAny_pure (wpAny_pure ⟨rfl, h6⟩))))))
theorem startS1 (h0 : codeAny (model prog w) A (.compLoop (sc2 elt t0 i0 t1 i1 ifs0 ifs1 scope pos) 1 it acc env) R s)
    (h : nw prog w A (pyIter it) (fun it' s' => codeAny (model prog w) A (.compLoop (sc2 elt t0 i0 t1 i1 ifs0 ifs1 scope pos) 1 it' acc env) R s') s) :
    codeAny (model prog w) A (.compStart (sc2 elt t0 i0 t1 i1 ifs0 ifs1 scope pos) 1 it acc env) R s := by
  refine codeAny_of_tree ?_
  show wpAny _ _ ((compStart (sc2 elt t0 i0 t1 i1 ifs0 ifs1 scope pos) 1 it acc env).onRaise (fun x => do noteFrame x env; standAt theWindowsPlace)) _ _ s
  refine wpAny_notedAt ?_
  unfold compStart
  show wpAny _ _ (ask >>= _) _ _ s
  refine wpAny_bind (wpAny_askSetting (wpAny_ite ?_))
  split
  · first | exact wpAny_bind (wpAny_pure (wpAny_pure ⟨rfl, h0⟩)) | exact wpAny_pure ⟨rfl, h0⟩
  · first
    | exact wpAny_bind (wpAny_rule (wpAny_bind (wpAny_standAt (wpAny_bind (nwm h fun it' s' h' => wpAny_pure ⟨rfl, h'⟩)))))
    | (refine wpAny_bind (wpAny_rule ?_); show wpAny _ _ (standAt i1.pos >>= _) _ _ s; exact wpAny_bind (wpAny_standAt (wpAny_bind (nwm h fun it' s' h' => wpAny_pure ⟨rfl, h'⟩))))
end
section
variable {X : Cx}
/-- {e for .. for ..}, e an int; so: how the set at D is held -/
def tSc2 (so : Addr → (Int → Bool) → Nat → HO) (wi : TI) (g : TG) (tt : TT) (wi1 : TI) (g1 : TG) (tt1 : TT) (te : TE) (vs vs1 : List Nat) : TE := fun σ H Q => wi σ H fun J H1 => ∀ D, H1 D = none → ∃ W : Nat → Nat → Hp → Prop, (∃ m, W 0 m (upd H1 D (so D (fun _ => false) 0))) ∧
  ∀ i m H, W i m H → (J.stop i H ∧ Q (.ref D) H) ∨ (J.go i H ∧ ∃ Nx : Hp → Prop, (∀ H', Nx H' → ∃ m', m' < m ∧ W (i + 1) m' H') ∧
    ∀ x H', J.yld i H x H' → g x (wipe σ vs) H' fun σ2 H2 => wipe σ2 vs = wipe σ vs ∧ tt σ2 H2 fun b H3 =>
      if b = true then wi1 σ2 H3 fun J1 H4 => ∃ W1 : Nat → Nat → Hp → Prop, (∃ m, W1 0 m H4) ∧ ∀ j k H, W1 j k H →
        (J1.stop j H ∧ Nx H) ∨ (J1.go j H ∧ ∃ Nx1 : Hp → Prop, (∀ H', Nx1 H' → ∃ k', k' < k ∧ W1 (j + 1) k' H') ∧
          ∀ x H', J1.yld j H x H' → g1 x (wipe σ2 vs1) H' fun σ3 H5 => wipe σ3 vs1 = wipe σ2 vs1 ∧ tt1 σ3 H5 fun b H6 =>
            if b = true then te σ3 H6 fun y H7 => ∃ (c : Int) (S : Int → Bool) (n : Nat), y = .int c ∧ H7 D = some (so D S n) ∧ n + 1 < scanBound ∧ Nx1 (upd H7 D (so D (fun j => S j || decide (j = c)) (if S c = true then n else n + 1)))
            else Nx1 H6)
      else Nx H3)
theorem addS_ok {pins : List (Addr × Obj)} {σ : St} {H : Hp} {s : Shared} {E : Value → Shared → Prop} {D : Addr} {S : Int → Bool} {n : Nat} {c : Int} {u : Value} {Q : Value → Shared → Prop} (I : Inv X pins σ H s) (hD : H D = some (SetO X.w D S n)) (room : n + 1 < scanBound)
    (hu : RelV (.int c) u) (h : ∀ v s', Inv X pins σ (upd H D (SetO X.w D (fun j => S j || decide (j = c)) (if S c = true then n else n + 1))) s' → Q v s') : wpAny (model X.prog X.w) X.A (call (.builtin "set.add") [.ref D, u]) Q E s := by
  obtain ⟨tk, rfl⟩ := hu
  refine setR_add (setO_get I hD) room ?_
  intro h' sb new
  have ⟨o, _, _, _, ho, _⟩ := new
  exact h _ _ (I.write (t' := s.toks + 1) (e := D) (by rw [hD]; trivial) (.inl rfl) (fun b q hb e => (sb.2 b hb).trans e) ⟨o, ho⟩ (setO_new new))
theorem pe_sc2 {elt tg iter tg1 iter1 : Expr} {ifs ifs1 : List Expr} {scope : Scope} {own : List (Str × Nat)} {vs1 : List Nat} {pos : Pos} {wi wi1 : TI} {g g1 : TG} {tt tt1 : TT} {te : TE} (hc : X.calm = true) (hN : X.N.Nodup)
    (hi : L2.PI X tg iter wi) (ok : BlkOk X.N X.env.scope scope own) (hv : ∀ i ∈ vs1, i ∈ own.map (·.2))
    (hg : ∀ (s : Shared) (H : Hp) (C : Addr) (cl : List (Str × Addr)) (fp : List Addr), PG (X.blk s H scope (compEnvC scope cl C X.env) fp) tg g)
    (ht : ∀ (s : Shared) (H : Hp) (C : Addr) (cl : List (Str × Addr)) (fp : List Addr), PTs (X.blk s H scope (compEnvC scope cl C X.env) fp) ifs tt)
    (hi1 : ∀ (s : Shared) (H : Hp) (C : Addr) (cl : List (Str × Addr)) (fp : List Addr), L2.PI (X.blk s H scope (compEnvC scope cl C X.env) fp) tg1 iter1 wi1)
    (hg1 : ∀ (s : Shared) (H : Hp) (C : Addr) (cl : List (Str × Addr)) (fp : List Addr), PG (X.blk s H scope (compEnvC scope cl C X.env) fp) tg1 g1)
    (ht1 : ∀ (s : Shared) (H : Hp) (C : Addr) (cl : List (Str × Addr)) (fp : List Addr), PTs (X.blk s H scope (compEnvC scope cl C X.env) fp) ifs1 tt1)
    (he : ∀ (s : Shared) (H : Hp) (C : Addr) (cl : List (Str × Addr)) (fp : List Addr), PE (X.blk s H scope (compEnvC scope cl C X.env) fp) elt te)
    (hs : ∀ x, foldedSetIterable iter X.env x = pure x := by intro _; rfl) (hs1 : ∀ env x, foldedSetIterable iter1 env x = pure x := by intro _ _; rfl) :
    PE X (sc2 elt tg iter tg1 iter1 ifs ifs1 scope pos) (tSc2 (SetO X.w) wi g tt wi1 g1 tt1 te (own.map (·.2)) vs1) := by
  refine ⟨fun pins s σ H Q I h => ?_⟩
  rw [PpSet.eval_SetComp]
  have hfree : ∀ y ∈ scope.names, y.2 = .free → ∃ c, X.env.cells.lookup y.1 = some c := fun y hy e => (ok.free y hy e).elim (fun k => I.ok.has _ (.inl k)) (fun k => I.ok.has _ (.inr k))
  refine wpAny_comprehension_free (use := none) rfl hs (closure_ok hfree) ok.kind (fun y hy e => by rw [ok.uniq y hy, e]) (thn (hi.run pins s σ H _ I h) ?_)
  intro xv s1 hx
  refine thn hx ?_
  rintro itv s2 ⟨it, fp, tn, J, H2, rfl, I2, T, st2, f2, q⟩
  refine PpSet.newSet_ok (newEnv_comp ?_)
  generalize hD : s2.heap.objs.size = D
  have hDn : H2 D = none := I2.hok.fresh (Nat.le_of_eq hD)
  obtain ⟨W, ⟨m0, w0⟩, turn⟩ := q D hDn
  generalize hs3 : ({ s2 with heap := s2.heap.push { cls := .type "set", dict := none, data := .set #[] 0 (.fresh 0 0 (!X.w.params.followText "set-order")) } } : Shared) = s3
  have h3 : s3.heap = s2.heap.push { cls := .type "set", dict := none, data := .set #[] 0 (.fresh 0 0 (!X.w.params.followText "set-order")) } := by rw [← hs3]
  generalize hH3 : upd H2 D (SetO X.w D (fun _ => false) 0) = H3 at w0
  have I3 : Inv X pins σ H3 s3 := by
    rw [← hs3, ← hH3]
    refine I2.laid (t' := s2.toks) (fun b o e => Heap.get?_push_of_some _ e) (Nat.le_of_eq hD) ?_
    rw [← hD]
    exact setO_new (setR_fresh X.w)
  have f3 : ∀ b ∈ fp, FpOk X pins H3 b ∧ b < s3.heap.objs.size := by
    intro b hb
    obtain ⟨o, e, _⟩ := T.obj _ _ st2 b hb
    have hlt : b < s2.heap.objs.size := Heap.lt_size e
    refine ⟨⟨?_, (f2 b hb).2⟩, by rw [h3, Heap.size_push]; exact Nat.lt_succ_of_lt hlt⟩
    rw [← hH3, upd_ne (by rw [← hD]; exact Nat.ne_of_lt hlt)]
    exact (f2 b hb).1
  have st3 : tn 0 s3.heap := T.keep _ _ _ st2 fun b _ o e => by rw [h3]; exact Heap.get?_push_of_some _ e
  have I4 := block_start I3 ok hN f3
  generalize hcl : cellsFrom (s3.heap.objs.size + 1) scope.names (cloFrom X.env.cells scope.names []) = cl at I4 ⊢
  have pg := hg s3 H3 s3.heap.objs.size cl fp
  have pt := ht s3 H3 s3.heap.objs.size cl fp
  have pe := he s3 H3 s3.heap.objs.size cl fp
  have pi1 := hi1 s3 H3 s3.heap.objs.size cl fp
  have pg1 := hg1 s3 H3 s3.heap.objs.size cl fp
  have pt1 := ht1 s3 H3 s3.heap.objs.size cl fp
  show codeAny _ _ (.compStart (sc2 elt tg iter tg1 iter1 ifs ifs1 scope pos) 0 (.ref it) (.ref D) (compEnvC scope cl s3.heap.objs.size X.env))
    (compPost (model X.prog X.w) X.A X.xe none (EP X pins σ Q) (.ref D) s3.heap.objs.size) { s3 with heap := pushCells (s3.heap.push { cls := .type "dict", data := .dict #[] }) scope.names }
  have nfp : ∀ b ∈ fp, H3 b = none := fun b hb => (f3 b hb).1.1
  generalize hce : compEnvC scope cl s3.heap.objs.size X.env = ce at I4 pg pt pe pi1 pg1 pt1 ⊢
  have cL : ce.locals = s3.heap.objs.size := by subst hce; rfl
  generalize hs4 : ({ s3 with heap := pushCells (s3.heap.push { cls := .type "dict", data := .dict #[] }) scope.names } : Shared) = s4 at I4 ⊢
  have st4 : tn 0 s4.heap := T.keep _ _ _ st3 fun b _ o e => by rw [← hs4]; exact pushCells_keeps _ _ _ _ (Heap.get?_push_of_some _ e)
  generalize hY : X.blk s3 H3 scope ce fp = Y at I4 pg pt pe pi1 pg1 pt1
  have yP : Y.prog = X.prog ∧ Y.w = X.w ∧ Y.K = X.K ∧ Y.calm = true ∧ Y.A = X.A ∧ Y.xe = (fun _ _ => False) ∧ Y.env = ce ∧ Y.ex = fp ∧ Y.pn = [] := by
    rw [← hY]
    exact ⟨rfl, rfl, rfl, hc, rfl, rfl, rfl, rfl, rfl⟩
  obtain ⟨y1, y2, y3, y4, y5, y6, y7, y8, y9⟩ := yP
  have stat : ∀ {σ' : St} {H' : Hp} {s' : Shared}, Inv Y [] σ' H' s' → (∀ b ∈ fp, H' b = none) → ∀ b ∈ fp, FpOk Y [] H' b := by
    intro σ' H' s' I' hn b hb
    have hb' : b ∈ Y.ex := by rw [y8]; exact hb
    refine ⟨hn b hb, (I'.ok.exf b hb').1, I'.ok.exfs b hb', .inl hb', fun x c e => (I'.ok.exf b hb').2 x c e, fun p hp => ?_⟩
    rw [y9] at hp
    exact absurd hp (by simp)
  -- what the two loops reach when one turn of the first is over
  have loop : codeAny (model X.prog X.w) X.A (.compLoop (sc2 elt tg iter tg1 iter1 ifs ifs1 scope pos) 0 (.ref it) (.ref D) ce) (compPost (model X.prog X.w) X.A X.xe none (EP X pins σ Q) (.ref D) s3.heap.objs.size) s4 := by
    refine loopS_out (hs1 ce) (fun n s' => ∃ i H', Inv Y [] (wipe σ (own.map (·.2))) H' s' ∧ tn i s'.heap ∧ (∀ b ∈ fp, H' b = none) ∧ W i n H') ?_ m0 ⟨0, H3, I4, st4, nfp, w0⟩
    rintro n s5 ⟨i, H5, I5, st5, n5, w5⟩
    rcases turn i n H5 w5 with ⟨stop, qq⟩ | ⟨go, Nx, hNx, step⟩
    · have td := T.done Y y1 y2 y3 y4 i [] s5 _ H5 (fun _ _ => False) I5 (stat I5 n5) st5 stop
      rw [y5] at td
      refine nwm td ?_
      rintro r s6 ⟨rfl, I6⟩
      have I6' : Inv (X.blk s3 H3 scope ce fp) [] (wipe σ (own.map (·.2))) H5 s6 := by rw [hY]; exact I6
      have I7 : Inv X pins σ H5 s6 := I3.call' (ch := fp) I6'.os I6'.base I6'.hok I6'.bare fun b hb => ⟨(f3 b hb).1.2.2.2.1, (f3 b hb).1.2.1, (f3 b hb).1.2.2.2.2.1, (f3 b hb).1.2.2.2.2.2⟩
      have z : H5 Y.env.locals = none := I6.free
      obtain ⟨m, hn, _⟩ := I6.loc
      rw [y7, cL] at z hn
      refine ⟨m, hn, fun h'' sb => ?_⟩
      obtain ⟨f0, f1, f2', f3', f4, f5⟩ := I3.fpOk (H' := H5) (Nat.le_refl _) z
      exact ⟨.ref D, H5, I7.turned (t' := s6.toks) (fun b o hb e => (sb.2 b hb).trans e) f0 f1 f3' f4 f5, rfl, qq⟩
    · have ti := T.item Y y1 y2 y3 y4 i [] s5 _ H5 (fun _ _ => False) I5 (stat I5 n5) st5 go
      rw [y5] at ti
      refine nwm ti ?_
      rintro r s6 ⟨u, rfl, h6⟩
      refine nwm h6 ?_
      rintro _ s7 ⟨x, H7, I7, r7, yld7, st7, n7⟩
      have I7' := I7.pinned (stat I7 n7) (T.obj _ _ st7)
      have r1 := pg.run _ s7 _ H7 x u _ I7' r7 (step x H7 yld7)
      rw [y1, y2, y5, y6, y7] at r1
      refine nwm r1 ?_
      rintro _ s8 ⟨σ8, H8, I8, hw8, q8⟩
      have r2 := pt.run _ s8 σ8 H8 _ I8 q8
      rw [y1, y2, y5, y6, y7] at r2
      refine nwm r2 ?_
      rintro b s9 ⟨H9, I9, q9⟩
      have fin : ∀ {σ9 : St} {s' : Shared} {H' : Hp}, Inv Y ([] ++ pinsAt fp s7.heap) σ9 H' s' → (wipe σ (own.map (·.2))).length = σ9.length →
          (∀ (j : Nat) v, (wipe σ (own.map (·.2)))[j]? = some (some v) → σ9[j]? = some (some v)) → Nx H' →
          ∃ m, m < n ∧ ∃ i H', Inv Y [] (wipe σ (own.map (·.2))) H' s' ∧ tn i s'.heap ∧ (∀ b ∈ fp, H' b = none) ∧ W i m H' := by
        intro σ9 s' H' I' hl hk nx
        obtain ⟨m', hm, w'⟩ := hNx H' nx
        have pin' : ∀ b ∈ fp, ∀ o, s7.heap.get? b = some o → s'.heap.get? b = some o ∧ H' b = none := fun b hb o e =>
          (I'.pin (b, o) (List.mem_append_right _ (List.mem_append_right _ (mem_pinsAt hb e)))).imp id (fun z => z.1)
        refine ⟨m', hm, i + 1, H', (I'.unpinned (pins := [])).weak hl hk, T.keep _ _ _ st7 fun b hb o e => (pin' b hb o e).1, fun b hb => ?_, w'⟩
        obtain ⟨o, e, _⟩ := T.obj _ _ st7 b hb
        exact (pin' b hb o e).2
      have hl8 : (wipe σ (own.map (·.2))).length = σ8.length := by rw [← hw8, wipe_length]
      cases b with
      | false =>
        simp only [Bool.false_eq_true, if_false] at q9 ⊢
        refine fin I9 hl8 (fun j v e => ?_) q9
        rw [← hw8] at e
        exact (wipe_some e).1
      | true =>
        simp only [if_true] at q9 ⊢
        have r3 := pi1.run _ s9 σ8 H9 _ I9 q9
        rw [y1, y2, y5, y6, y7] at r3
        refine nwm r3 fun xv s10 hx => nwm hx ?_
        rintro itv s11 ⟨it1, fp1, tn1, J1, H11, rfl, I11, T1, st11, f11, W1, ⟨m1, w1⟩, turn1⟩
        rw [y1, y2, y3] at T1
        have stat1 : ∀ {H' : Hp}, (∀ b ∈ fp1, H' b = none) → ∀ b ∈ fp1, FpOk Y ([] ++ pinsAt fp s7.heap) H' b := fun hn b hb => ⟨hn b hb, (f11 b hb).2⟩
        have loop1 : codeAny (model X.prog X.w) X.A (.compLoop (sc2 elt tg iter tg1 iter1 ifs ifs1 scope pos) 1 (.ref it1) (.ref D) ce)
            (fun r s' => match r with
              | .ok _ => ∃ m, m < n ∧ ∃ i H', Inv Y [] (wipe σ (own.map (·.2))) H' s' ∧ tn i s'.heap ∧ (∀ b ∈ fp, H' b = none) ∧ W i m H'
              | .error _ => False) s11 := by
          refine loopS_in (fun k s' => ∃ j H', Inv Y ([] ++ pinsAt fp s7.heap) (wipe σ8 vs1) H' s' ∧ tn1 j s'.heap ∧ (∀ b ∈ fp1, H' b = none) ∧ W1 j k H') ?_ m1
            ⟨0, H11, I11.weak (wipe_length _ _) (fun j v e => (wipe_some e).1), st11, fun b hb => (f11 b hb).1, w1⟩
          rintro k s12 ⟨j, H12, I12, st12, n12, w12⟩
          rcases turn1 j k H12 w12 with ⟨stop1, nx1⟩ | ⟨go1, Nx1, hNx1, step1⟩
          · have td := T1.done Y y1 y2 y3 y4 j _ s12 (wipe σ8 vs1) H12 (fun _ _ => False) I12 (stat1 n12) st12 stop1
            rw [y5] at td
            refine nwm td ?_
            rintro r s13 ⟨rfl, I13⟩
            refine fin I13 (hl8.trans (wipe_length σ8 vs1).symm) (fun j v e => ?_) nx1
            rw [← hw8] at e
            obtain ⟨e1, e2⟩ := wipe_some e
            rw [wipe_out fun z => e2 (hv j z)]
            exact e1
          · have ti := T1.item Y y1 y2 y3 y4 j _ s12 (wipe σ8 vs1) H12 (fun _ _ => False) I12 (stat1 n12) st12 go1
            rw [y5] at ti
            refine nwm ti ?_
            rintro r s13 ⟨u1, rfl, h13⟩
            refine nwm h13 ?_
            rintro _ s14 ⟨x1, H14, I14, r14, y14, st14, n14⟩
            have I14' := I14.pinned (stat1 n14) (T1.obj _ _ st14)
            have r4 := pg1.run _ s14 (wipe σ8 vs1) H14 x1 u1 _ I14' r14 (step1 x1 H14 y14)
            rw [y1, y2, y5, y6, y7] at r4
            refine nwm r4 ?_
            rintro _ s15 ⟨σ15, H15, I15, hw15, q15⟩
            have r5 := pt1.run _ s15 σ15 H15 _ I15 q15
            rw [y1, y2, y5, y6, y7] at r5
            refine nwm r5 ?_
            rintro b1 s16 ⟨H16, I16, q16⟩
            have fin1 : ∀ {s' : Shared} {H' : Hp}, Inv Y (([] ++ pinsAt fp s7.heap) ++ pinsAt fp1 s14.heap) σ15 H' s' → Nx1 H' →
                ∃ m, m < k ∧ ∃ j H', Inv Y ([] ++ pinsAt fp s7.heap) (wipe σ8 vs1) H' s' ∧ tn1 j s'.heap ∧ (∀ b ∈ fp1, H' b = none) ∧ W1 j m H' := by
              intro s' H' I' nx
              obtain ⟨m', hm, w'⟩ := hNx1 H' nx
              have pin' : ∀ b ∈ fp1, ∀ o, s14.heap.get? b = some o → s'.heap.get? b = some o ∧ H' b = none := fun b hb o e =>
                (I'.pin (b, o) (List.mem_append_right _ (List.mem_append_right _ (mem_pinsAt hb e)))).imp id (fun z => z.1)
              refine ⟨m', hm, j + 1, H', I'.unpinned.weak (by rw [← hw15, wipe_length]) (fun j v e => by rw [← hw15] at e; exact (wipe_some e).1), T1.keep _ _ _ st14 fun b hb o e => (pin' b hb o e).1, fun b hb => ?_, w'⟩
              obtain ⟨o, e, _⟩ := T1.obj _ _ st14 b hb
              exact (pin' b hb o e).2
            cases b1 with
            | false =>
              simp only [Bool.false_eq_true, if_false] at q16 ⊢
              exact fin1 I16 q16
            | true =>
              simp only [if_true] at q16 ⊢
              have r6 := pe.run _ s16 σ15 H16 _ I16 q16
              rw [y1, y2, y5, y6, y7] at r6
              refine nwm r6 ?_
              rintro z s17 ⟨yv, H17, I17, r17, c, S, nn, rfl, hD17, room, nx⟩
              rw [← y2] at hD17 nx
              have ad := addS_ok (X := Y) (E := fun _ _ => False) (Q := fun _ s6 => ∃ m, m < k ∧ ∃ j H', Inv Y ([] ++ pinsAt fp s7.heap) (wipe σ8 vs1) H' s6 ∧ tn1 j s6.heap ∧ (∀ b ∈ fp1, H' b = none) ∧ W1 j m H') I17 hD17 room r17 fun _ s18 I18 => fin1 I18 nx
              rw [y1, y2, y5] at ad
              exact ad
        have sf := T1.self X.A 0 _ (fun it' s' => codeAny (model X.prog X.w) X.A (.compLoop (sc2 elt tg iter tg1 iter1 ifs ifs1 scope pos) 1 it' (.ref D) ce)
            (fun r s' => match r with
              | .ok _ => ∃ m, m < n ∧ ∃ i H', Inv Y [] (wipe σ (own.map (·.2))) H' s' ∧ tn i s'.heap ∧ (∀ b ∈ fp, H' b = none) ∧ W i m H'
              | .error _ => False) s') (fun _ _ => False) st11 loop1
        exact startS1 loop1 sf
  exact PpSet.codeAny_compStart_set loop (T.self X.A 0 _ _ _ st4 loop)
theorem PE.weak {e : Expr} {t t' : TE} (h : PE X e t) (f : ∀ σ H Q, t' σ H Q → t σ H Q) : PE X e t' := ⟨fun pins s σ H Q I hw => h.run pins s σ H Q I (f σ H Q hw)⟩
/-- sorted({e for .. for ..}) -/
def tSort2 (wi : TI) (g : TG) (tt : TT) (wi1 : TI) (g1 : TG) (tt1 : TT) (te : TE) (vs vs1 : List Nat) : TE := fun σ H Q => ∀ so : Addr → (Int → Bool) → Nat → HO,
  tSc2 so wi g tt wi1 g1 tt1 te vs vs1 σ H fun v H1 => ∃ (a : Addr) (S : Int → Bool) (n : Nat), v = .ref a ∧ H1 a = some (so a S n) ∧ n ≤ 5000 ∧
    ∀ (ns : List Int) (p : Addr), ns.Pairwise (· < ·) → (∀ k : Int, k ∈ ns ↔ S k = true) → ns.length = n → H1 p = none → Q (.ref p) (upd H1 p (.lst (ns.map V.int)))
theorem tSc2_mono {so : Addr → (Int → Bool) → Nat → HO} {wi : TI} {g : TG} {tt : TT} {wi1 : TI} {g1 : TG} {tt1 : TT} {te : TE} {vs vs1 : List Nat} {σ : St} {H : Hp} {Q Q' : VK} (wm : ∀ σ H R R', (∀ J H1, R J H1 → R' J H1) → wi σ H R → wi σ H R')
    (f : ∀ v H, Q v H → Q' v H) (h : tSc2 so wi g tt wi1 g1 tt1 te vs vs1 σ H Q) : tSc2 so wi g tt wi1 g1 tt1 te vs vs1 σ H Q' := by
  refine wm _ _ _ _ (fun J H1 k D hD => ?_) h
  obtain ⟨W, h0, t⟩ := k D hD
  exact ⟨W, h0, fun i m H w => (t i m H w).imp (fun z => ⟨z.1, f _ _ z.2⟩) id⟩
theorem pe_sort2 {elt tg iter tg1 iter1 : Expr} {ifs ifs1 : List Expr} {scope : Scope} {own : List (Str × Nat)} {vs1 : List Nat} {p pos pos1 : Pos} {wi wi1 : TI} {g g1 : TG} {tt tt1 : TT} {te : TE}
    (hm : X.mg "sorted" = none) (hgl : Gl X "sorted") (hc : X.calm = true) (h : PE X (sc2 elt tg iter tg1 iter1 ifs ifs1 scope pos1) (tSc2 (SetO X.w) wi g tt wi1 g1 tt1 te (own.map (·.2)) vs1)) :
    PE X (.Call (.Name "sorted" p) [sc2 elt tg iter tg1 iter1 ifs ifs1 scope pos1] [] pos) (tSort2 wi g tt wi1 g1 tt1 te (own.map (·.2)) vs1) := by
  have k : PE X (.Call (.Name "sorted" p) [sc2 elt tg iter tg1 iter1 ifs ifs1 scope pos1] [] pos) (tCB (rSortedSetX X.w) (tCons (tSc2 (SetO X.w) wi g tt wi1 g1 tt1 te (own.map (·.2)) vs1) tNil)) :=
    pe_callB (cr_sortedSetX hc) hgl hm (by decide +kernel) (pa_cons h pa_nil)
  refine PE.weak k fun σ H Q hq => ?_
  have hq' := hq (SetO X.w)
  show tSc2 (SetO X.w) wi g tt wi1 g1 tt1 te (own.map (·.2)) vs1 σ H fun x H1 => rSortedSetX X.w [x] H1 Q
  have e : (fun (v : V) (H1 : Hp) => ∃ (a : Addr) (S : Int → Bool) (n : Nat), v = .ref a ∧ H1 a = some (SetO X.w a S n) ∧ n ≤ 5000 ∧
    ∀ (ns : List Int) (p : Addr), ns.Pairwise (· < ·) → (∀ k : Int, k ∈ ns ↔ S k = true) → ns.length = n → H1 p = none → Q (.ref p) (upd H1 p (.lst (ns.map V.int)))) = fun x H1 => rSortedSetX X.w [x] H1 Q := by
    funext x H1
    unfold rSortedSetX
    simp only [List.cons.injEq, and_true]
  rw [← e]
  exact hq'
end
end BR
/-! Own layer, eighth part: what sorted({..}) gives; zip; two clauses. -/
namespace BR
open PySem PySem.Spec PyProof.Rows L2
/-! ### strictly rising lists -/
def ins (x : Int) : List Int → List Int
  | [] => [x]
  | y :: ys => if x < y then x :: y :: ys else if x = y then y :: ys else y :: ins x ys
def sd : List Int → List Int
  | [] => []
  | x :: xs => ins x (sd xs)
theorem mem_ins {x k : Int} : ∀ {l : List Int}, k ∈ ins x l ↔ k = x ∨ k ∈ l
  | [] => by simp [ins]
  | y :: ys => by
    unfold ins
    split
    · simp
    · split
      · rename_i h
        subst h
        simp
      · simp only [List.mem_cons, mem_ins (l := ys)]
        constructor
        · rintro (h | h | h)
          · exact .inr (.inl h)
          · exact .inl h
          · exact .inr (.inr h)
        · rintro (h | h | h)
          · exact .inr (.inl h)
          · exact .inl h
          · exact .inr (.inr h)
theorem mem_sd {k : Int} : ∀ {l : List Int}, k ∈ sd l ↔ k ∈ l
  | [] => by simp [sd]
  | x :: xs => by
    unfold sd
    rw [mem_ins, mem_sd (l := xs), List.mem_cons]
theorem ins_rise {x : Int} : ∀ {l : List Int}, l.Pairwise (· < ·) → (ins x l).Pairwise (· < ·)
  | [], _ => by simp [ins]
  | y :: ys, h => by
    obtain ⟨h1, h2⟩ := List.pairwise_cons.mp h
    unfold ins
    split
    · rename_i hxy
      refine List.pairwise_cons.mpr ⟨fun z hz => ?_, h⟩
      rcases List.mem_cons.mp hz with rfl | hz
      · exact hxy
      · have := h1 z hz
        omega
    · split
      · exact h
      · rename_i hxy hne
        refine List.pairwise_cons.mpr ⟨fun z hz => ?_, ins_rise h2⟩
        rcases mem_ins.mp hz with rfl | hz
        · omega
        · exact h1 z hz
theorem sd_rise : ∀ l : List Int, (sd l).Pairwise (· < ·)
  | [] => .nil
  | x :: xs => ins_rise (sd_rise xs)
theorem rise_inj : ∀ {l m : List Int}, l.Pairwise (· < ·) → m.Pairwise (· < ·) → (∀ k, k ∈ l ↔ k ∈ m) → l = m
  | [], [], _, _, _ => rfl
  | [], y :: ys, _, _, h => absurd ((h y).mpr List.mem_cons_self) (by simp)
  | x :: xs, [], _, _, h => absurd ((h x).mp List.mem_cons_self) (by simp)
  | x :: xs, y :: ys, h1, h2, h => by
    obtain ⟨a1, a2⟩ := List.pairwise_cons.mp h1
    obtain ⟨b1, b2⟩ := List.pairwise_cons.mp h2
    have e : x = y := by
      rcases List.mem_cons.mp ((h x).mp List.mem_cons_self) with e | e
      · exact e
      · rcases List.mem_cons.mp ((h y).mpr List.mem_cons_self) with e' | e'
        · exact e'.symm
        · have := a1 y e'
          have := b1 x e
          omega
    subst e
    congr 1
    refine rise_inj a2 b2 fun k => ⟨fun hk => ?_, fun hk => ?_⟩
    · rcases List.mem_cons.mp ((h k).mp (List.mem_cons_of_mem _ hk)) with e | e
      · have := a1 k hk
        omega
      · exact e
    · rcases List.mem_cons.mp ((h k).mpr (List.mem_cons_of_mem _ hk)) with e | e
      · have := b1 k hk
        omega
      · exact e
theorem ins_len (x : Int) : ∀ l : List Int, (ins x l).length ≤ l.length + 1
  | [] => by simp [ins]
  | y :: ys => by
    unfold ins
    split
    · simp
    · split
      · simp
      · have := ins_len x ys
        simp only [List.length_cons]
        omega
theorem sd_len : ∀ l : List Int, (sd l).length ≤ l.length
  | [] => by simp [sd]
  | x :: xs => by
    unfold sd
    have := ins_len x (sd xs)
    have := sd_len xs
    simp only [List.length_cons]
    omega
/-! ### walks -/
theorem it_list {K : Fg} {a : Addr} {xs : List V} {B : (Hp → Prop) → V → Hp → Prop} {Z : Hp → Prop} {Hs : Hp} (Pv : Nat → Hp → Prop) (h0 : Pv 0 Hs) (hl : ∀ i H, i ≤ xs.length → Pv i H → SqL K H a xs)
    (hs : ∀ i x H, xs[i]? = some x → Pv i H → B (Pv (i + 1)) x H) (hd : ∀ H, Pv xs.length H → Z H) :
    ∃ W : Nat → Nat → Hp → Prop, (∃ m, W 0 m Hs) ∧ ∀ i m H, W i m H → ((Itl K a).stop i H ∧ Z H) ∨ ((Itl K a).go i H ∧ ∃ Nx : Hp → Prop, (∀ H', Nx H' → ∃ m', m' < m ∧ W (i + 1) m' H') ∧ ∀ x H', (Itl K a).yld i H x H' → B Nx x H') := by
  refine ⟨fun i m H => m = xs.length - i ∧ i ≤ xs.length ∧ Pv i H, ⟨xs.length, by simp, Nat.zero_le _, h0⟩, ?_⟩
  rintro i m H ⟨rfl, hi, p⟩
  have q := hl i H hi p
  rcases Nat.lt_or_ge i xs.length with hlt | hge
  · refine .inr ⟨⟨xs, xs[i], q, by simp [hlt]⟩, Pv (i + 1), fun H' p' => ⟨xs.length - (i + 1), by omega, rfl, hlt, p'⟩, ?_⟩
    rintro x H' ⟨rfl, y⟩
    exact hs i x _ (y xs q) p
  · have e : i = xs.length := Nat.le_antisymm hi hge
    subst e
    exact .inl ⟨⟨xs, q, Nat.le_refl _⟩, hd H p⟩
theorem it_tup {K : Fg} {a : Addr} {xs : List V} {B : (Hp → Prop) → V → Hp → Prop} {Z : Hp → Prop} {Hs : Hp} (Pv : Nat → Hp → Prop) (h0 : Pv 0 Hs) (hl : ∀ i H, i ≤ xs.length → Pv i H → SqT K H a xs)
    (hs : ∀ i x H, xs[i]? = some x → Pv i H → B (Pv (i + 1)) x H) (hd : ∀ H, Pv xs.length H → Z H) :
    ∃ W : Nat → Nat → Hp → Prop, (∃ m, W 0 m Hs) ∧ ∀ i m H, W i m H → ((Itt K a).stop i H ∧ Z H) ∨ ((Itt K a).go i H ∧ ∃ Nx : Hp → Prop, (∀ H', Nx H' → ∃ m', m' < m ∧ W (i + 1) m' H') ∧ ∀ x H', (Itt K a).yld i H x H' → B Nx x H') := by
  refine ⟨fun i m H => m = xs.length - i ∧ i ≤ xs.length ∧ Pv i H, ⟨xs.length, by simp, Nat.zero_le _, h0⟩, ?_⟩
  rintro i m H ⟨rfl, hi, p⟩
  have q := hl i H hi p
  rcases Nat.lt_or_ge i xs.length with hlt | hge
  · refine .inr ⟨⟨xs, xs[i], q, by simp [hlt]⟩, Pv (i + 1), fun H' p' => ⟨xs.length - (i + 1), by omega, rfl, hlt, p'⟩, ?_⟩
    rintro x H' ⟨rfl, y⟩
    exact hs i x _ (y xs q) p
  · have e : i = xs.length := Nat.le_antisymm hi hge
    subst e
    exact .inl ⟨⟨xs, q, Nat.le_refl _⟩, hd H p⟩
/-! ### sorted({..}) -/
/-- while a comprehension fills the set at D -/
def Sw (so : Addr → (Int → Bool) → Nat → HO) (G1 H1 : Hp) (D : Addr) (ks : List Int) (H : Hp) : Prop :=
  ∃ Gi S n, Same G1 Gi ∧ Same Gi H ∧ Same H1 H ∧ Gi D = none ∧ (∀ a, G1 a = none → Gi a ≠ none → H1 a = none) ∧ H D = some (so D S n) ∧ (∀ k, S k = true ↔ k ∈ ks) ∧ n ≤ ks.length
theorem yes_if {σ : St} {H : Hp} {A B : Hp → Prop} (h : A H) : tYes σ H fun b H4 => if b = true then A H4 else B H4 := by
  show if true = true then A H else B H
  rw [if_pos rfl]
  exact h
def era (H : Hp) (D : Addr) : Hp := fun a => if a = D then none else H a
theorem era_at {H : Hp} {D : Addr} : era H D D = none := by simp [era]
theorem era_le {H : Hp} {D : Addr} : Same (era H D) H := fun a o e => by
  unfold era at e
  split at e
  · cases e
  · exact e
theorem le_era {G H : Hp} {D : Addr} (s : Same G H) (h : G D = none) : Same G (era H D) := fun a o e => by
  unfold era
  rw [if_neg (ne_of_none e h)]
  exact s a o e
/-- .. within the second clause -/
def Sx (so : Addr → (Int → Bool) → Nat → HO) (G1 H1 : Hp) (D : Addr) (G2 Rb : Hp) (ks : List Int) (H : Hp) : Prop :=
  ∃ Gj S n, Same G2 Gj ∧ Same Gj H ∧ Same Rb H ∧ Same H1 H ∧ Gj D = none ∧ (∀ a, G1 a = none → Gj a ≠ none → H1 a = none) ∧ H D = some (so D S n) ∧ (∀ k, S k = true ↔ k ∈ ks) ∧ n ≤ ks.length
section
variable {K : Fg} {σ : St} {G R : Hp} {tl tl1 te : TE} {so : Addr → (Int → Bool) → Nat → HO}
theorem Sw.grow {G1 H1 Gi H H2 G' : Hp} {D : Addr} {S : Int → Bool} {n : Nat} {ks : List Int} (a : Same G1 Gi) (c : Same H1 H) (d : Gi D = none) (e : ∀ a, G1 a = none → Gi a ≠ none → H1 a = none) (f : H D = some (so D S n)) (hS : ∀ k, S k = true ↔ k ∈ ks) (hn : n ≤ ks.length)
    (g : Grow Gi H G' H2) : Same G1 G' ∧ Same G' H2 ∧ Same H1 H2 ∧ G' D = none ∧ (∀ a, G1 a = none → G' a ≠ none → H1 a = none) ∧ H2 D = some (so D S n) := by
  refine ⟨a.trans g.g, g.s, c.trans g.h, ?_, fun x hx hy => ?_, g.h _ _ f⟩
  · cases q : G' D with
    | none => rfl
    | some o =>
      have z := g.f D d (by rw [q]; exact fun z => nomatch z)
      rw [f] at z
      cases z
  · by_cases z : Gi x = none
    · exact c.free (g.f x z hy)
    · exact e x hx z
theorem pd_sort2 {α β : Type} {xs : List α} {φ : α → Ty} {bs : α → List β} {ψ : α → β → Ty} {val : α → β → Int} {g g1 : TG} {vs vs1 : List Nat}
    (h : PD tl σ G R (tSq (xs.map φ))) (hz : (xs.flatMap fun a => (bs a).map (val a)).length ≤ 4000)
    (hb : ∀ a ∈ xs, ∀ x Gi Ri, Same G Gi → Same R Ri → Same Gi Ri → (φ a).p Gi x → ∃ σ2, GD g (wipe σ vs) Gi x σ2 ∧ wipe σ2 vs = wipe σ vs ∧ PD tl1 σ2 Gi Ri (tSq ((bs a).map (ψ a))) ∧
      ∀ b ∈ bs a, ∀ y Gj Rj, Same Gi Gj → Same Ri Rj → Same Gj Rj → (ψ a b).p Gj y → ∃ σ3, GD g1 (wipe σ2 vs1) Gj y σ3 ∧ wipe σ3 vs1 = wipe σ2 vs1 ∧ PD te σ3 Gj Rj (tI (val a b))) :
    PD (tSort2 (iSeq K tl) g tYes (iSeq K tl1) g1 tYes te vs vs1) σ G R (tL ((sd (xs.flatMap fun a => (bs a).map (val a))).map tI)) := by
  intro H sr sg Q q so
  refine h H sr sg _ fun v G1 H1 g1' hv => ?_
  obtain ⟨l, us, rfl, hl, hus⟩ := hv
  have lenU : us.length = xs.length := by rw [hus.length, List.length_map]
  -- the values of the first i items
  let ks : Nat → List Int := fun i => (xs.take i).flatMap fun a => (bs a).map (val a)
  have ksl : ∀ i, (ks i).length ≤ 4000 := fun i => by
    have e : xs.flatMap (fun a => (bs a).map (val a)) = ks i ++ (xs.drop i).flatMap fun a => (bs a).map (val a) := by
      rw [← List.flatMap_append, List.take_append_drop]
    rw [e, List.length_append] at hz
    omega
  have inner : ∀ (D : Addr), H1 D = none → ∀ (i : Nat) (x : V) (H2 : Hp), us[i]? = some x → Sw so G1 H1 D (ks i) H2 →
      g x (wipe σ vs) H2 fun σ2 H3 => wipe σ2 vs = wipe σ vs ∧ tYes σ2 H3 fun b H4 => if b = true then iSeq K tl1 σ2 H4 fun J1 H5 => ∃ W1 : Nat → Nat → Hp → Prop, (∃ m, W1 0 m H5) ∧ ∀ j k H, W1 j k H →
        (J1.stop j H ∧ Sw so G1 H1 D (ks (i + 1)) H) ∨ (J1.go j H ∧ ∃ Nx1 : Hp → Prop, (∀ H', Nx1 H' → ∃ k', k' < k ∧ W1 (j + 1) k' H') ∧
          ∀ x H', J1.yld j H x H' → g1 x (wipe σ2 vs1) H' fun σ3 H6 => wipe σ3 vs1 = wipe σ2 vs1 ∧ tYes σ3 H6 fun b H7 =>
            if b = true then te σ3 H7 fun y H8 => ∃ (c : Int) (S : Int → Bool) (n : Nat), y = .int c ∧ H8 D = some (so D S n) ∧ n + 1 < scanBound ∧ Nx1 (upd H8 D (so D (fun j => S j || decide (j = c)) (if S c = true then n else n + 1)))
            else Nx1 H7)
      else Sw so G1 H1 D (ks (i + 1)) H4 := by
    intro D hD i x H2 hx sw
    obtain ⟨χ, hχ, hpx⟩ := hus.get' hx
    rw [List.getElem?_map] at hχ
    obtain ⟨a, ha, rfl⟩ := Option.map_eq_some_iff.mp hχ
    obtain ⟨Gi, S, n, a1, b1, c1, d1, e1, f1, h1, n1⟩ := sw
    have rR : Same R (era H2 D) := le_era ((sr.trans g1'.h).trans c1) ((sr.trans g1'.h).free hD)
    obtain ⟨σ2, k1, k2, k3, k4⟩ := hb a (List.mem_of_getElem? ha) x Gi (era H2 D) (g1'.g.trans a1) rR (le_era b1 d1) ((φ a).m _ _ _ a1 hpx)
    refine k1 H2 b1 _ ⟨k2, yes_if ?_⟩
    refine k3 H2 era_le b1 _ fun w G2 H3 g2 hw => ?_
    obtain ⟨l2, us2, rfl, hl2, hus2⟩ := hw
    obtain ⟨a2, b2, c2, d2, e2, f2⟩ := Sw.grow a1 c1 d1 e1 f1 h1 n1 g2
    have ksn : ks (i + 1) = ks i ++ (bs a).map (val a) := by
      show (xs.take (i + 1)).flatMap _ = _
      rw [take_succ_of ha, List.flatMap_append]
      simp [ks]
    have len2 : us2.length = (bs a).length := by rw [hus2.length, List.length_map]
    have step : ∀ (j : Nat) (y : V) (H4 : Hp), us2[j]? = some y → Sx so G1 H1 D G2 (era H2 D) (ks i ++ ((bs a).map (val a)).take j) H4 →
        g1 y (wipe σ2 vs1) H4 fun σ3 H6 => wipe σ3 vs1 = wipe σ2 vs1 ∧ tYes σ3 H6 fun b H7 => if b = true then te σ3 H7 fun y H8 => ∃ (c : Int) (S : Int → Bool) (n : Nat), y = .int c ∧ H8 D = some (so D S n) ∧ n + 1 < scanBound ∧
          Sx so G1 H1 D G2 (era H2 D) (ks i ++ ((bs a).map (val a)).take (j + 1)) (upd H8 D (so D (fun j => S j || decide (j = c)) (if S c = true then n else n + 1)))
        else Sx so G1 H1 D G2 (era H2 D) (ks i ++ ((bs a).map (val a)).take (j + 1)) H7 := by
      rintro j y H4 hy ⟨Gj, S, n, p1, p2, p3, p4, p5, p6, p7, p8, p9⟩
      obtain ⟨χ, hχ, hpy⟩ := hus2.get' hy
      rw [List.getElem?_map] at hχ
      obtain ⟨b, hbb, rfl⟩ := Option.map_eq_some_iff.mp hχ
      obtain ⟨σ3, m1, m2, m3⟩ := k4 b (List.mem_of_getElem? hbb) y Gj (era H4 D) (g2.g.trans p1) (le_era p3 era_at) (le_era p2 p5) ((ψ a b).m _ _ _ p1 hpy)
      refine m1 H4 p2 _ ⟨m2, yes_if ?_⟩
      refine m3 H4 era_le p2 _ fun v G5 H5 g5 hv => ?_
      cases hv
      have hG5 : G5 D = none := by
        cases q : G5 D with
        | none => rfl
        | some o =>
          have z := g5.f D p5 (by rw [q]; exact fun z => nomatch z)
          rw [p7] at z
          cases z
      have tk : ((bs a).map (val a)).take (j + 1) = ((bs a).map (val a)).take j ++ [val a b] := take_succ_of (by rw [List.getElem?_map, hbb] <;> rfl)
      have kl := ksl (i + 1)
      rw [ksn, List.length_append] at kl
      have tl' : (((bs a).map (val a)).take j).length ≤ ((bs a).map (val a)).length := by rw [List.length_take]; omega
      rw [List.length_append] at p9
      refine ⟨val a b, S, n, rfl, g5.h _ _ p7, ?_, G5, _, _, p1.trans g5.g, same_upd g5.s hG5, same_upd (p3.trans g5.h) era_at, same_upd (p4.trans g5.h) hD, hG5, fun z hz hw => ?_, upd_same, fun k => ?_, ?_⟩
      · show n + 1 < 4096
        omega
      · by_cases q : Gj z = none
        · exact p4.free (g5.f z q hw)
        · exact p6 z hz q
      · rw [Bool.or_eq_true, decide_eq_true_eq, p8 k, tk, ← List.append_assoc, List.mem_append (s := ks i ++ _), List.mem_singleton]
      · rw [tk, ← List.append_assoc, List.length_append (as := ks i ++ _), List.length_append]
        simp only [List.length_singleton]
        split <;> omega
    have st0 : Sx so G1 H1 D G2 (era H2 D) (ks i ++ ((bs a).map (val a)).take 0) H3 := ⟨G2, S, n, same_refl _, b2, era_le.trans g2.h, c2, d2, e2, f2, fun k => by rw [h1 k]; simp, by simp; exact n1⟩
    have stE : ∀ H, Sx so G1 H1 D G2 (era H2 D) (ks i ++ ((bs a).map (val a)).take us2.length) H → Sw so G1 H1 D (ks (i + 1)) H := by
      rintro H ⟨Gj, S, n, p1, p2, p3, p4, p5, p6, p7, p8, p9⟩
      rw [len2, ← List.length_map (f := val a), List.take_length, ← ksn] at p8 p9
      exact ⟨Gj, S, n, a2.trans p1, p2, p4, p5, p6, p7, p8, p9⟩
    rcases hl2 with hl2 | hl2
    · refine .inl ⟨l2, rfl, ⟨us2, .of (b2 _ _ hl2)⟩, ?_⟩
      refine it_list (xs := us2) (fun j => Sx so G1 H1 D G2 (era H2 D) (ks i ++ ((bs a).map (val a)).take j)) st0 ?_ step stE
      rintro j H _ ⟨Gj, S, n, p1, p2, _⟩
      exact .of (p2 _ _ (p1 _ _ hl2))
    · refine .inr ⟨l2, rfl, ⟨us2, .of (b2 _ _ hl2)⟩, ?_⟩
      refine it_tup (xs := us2) (fun j => Sx so G1 H1 D G2 (era H2 D) (ks i ++ ((bs a).map (val a)).take j)) st0 ?_ step stE
      rintro j H _ ⟨Gj, S, n, p1, p2, _⟩
      exact .of (p2 _ _ (p1 _ _ hl2))
  have fin : ∀ (D : Addr), H1 D = none → ∀ H2, Sw so G1 H1 D (ks us.length) H2 → ∃ (a : Addr) (S : Int → Bool) (n : Nat), V.ref D = .ref a ∧ H2 a = some (so a S n) ∧ n ≤ 5000 ∧
      ∀ (ns : List Int) (p : Addr), ns.Pairwise (· < ·) → (∀ k : Int, k ∈ ns ↔ S k = true) → ns.length = n → H2 p = none → Q (.ref p) (upd H2 p (.lst (ns.map V.int))) := by
    intro D hD H2 sw
    obtain ⟨Gi, S, n, a1, b1, c1, d1, e1, f1, h1, n1⟩ := sw
    have kl := ksl us.length
    refine ⟨D, S, n, rfl, f1, by omega, fun ns p hr hm hn hp => ?_⟩
    have e : ns = sd (xs.flatMap fun a => (bs a).map (val a)) := by
      refine rise_inj hr (sd_rise _) fun k => ?_
      rw [hm k, h1 k, mem_sd]
      show k ∈ (xs.take us.length).flatMap _ ↔ _
      rw [lenU, List.take_length]
    have g2 : Grow Gi H2 (upd Gi p (.lst (ns.map V.int))) (upd H2 p (.lst (ns.map V.int))) := .new b1 hp
    have g0 : Grow G1 H1 Gi H2 := ⟨a1, c1, b1, e1⟩
    refine q _ _ _ ((g1'.trans g0).trans g2) ⟨p, _, rfl, upd_same, ?_⟩
    rw [e]
    exact ints_all _
  rcases hl with hl | hl
  · refine .inl ⟨l, rfl, ⟨us, .of (g1'.s _ _ hl)⟩, fun D hD => ?_⟩
    refine it_list (xs := us) (fun i => Sw so G1 H1 D (ks i)) ⟨G1, _, 0, same_refl _, same_upd g1'.s (g1'.s.free hD), same_new hD, g1'.s.free hD, fun a h h' => absurd h h', upd_same, fun k => by simp [ks], Nat.zero_le _⟩ ?_ (inner D hD) (fin D hD)
    rintro i H2 _ ⟨Gi, S, n, a1, b1, _⟩
    exact .of (b1 _ _ (a1 _ _ hl))
  · refine .inr ⟨l, rfl, ⟨us, .of (g1'.s _ _ hl)⟩, fun D hD => ?_⟩
    refine it_tup (xs := us) (fun i => Sw so G1 H1 D (ks i)) ⟨G1, _, 0, same_refl _, same_upd g1'.s (g1'.s.free hD), same_new hD, g1'.s.free hD, fun a h h' => absurd h h', upd_same, fun k => by simp [ks], Nat.zero_le _⟩ ?_ (inner D hD) (fin D hD)
    rintro i H2 _ ⟨Gi, S, n, a1, b1, _⟩
    exact .of (b1 _ _ (a1 _ _ hl))
end
end BR
/-! Own layer, ninth part: zip, sorted pairs, list comprehensions of two clauses, min and max. -/
namespace BR
open PySem PySem.Spec PyProof.Rows L2
/-! ### zip -/
section
variable {K : Fg} {σ : St} {G R H : Hp} {te tl tl1 : TE} {D : Ends} {tz tb : TS}
theorem s_zip {α β : Type} {xs : List α} {ys : List β} {φ : α → Ty} {ψ : β → Ty} {ta : TA} {n1 n2 : Nat} (h : AD ta σ G R [tL (xs.map φ), tL (ys.map ψ)]) (sr : Same R H) (sg : Same G H) (Pv : Nat → St → Hp → Hp → Prop)
    (h0 : ∀ G1 H1, Grow G H G1 H1 → Pv 0 σ G1 H1)
    (hs : ∀ G1 H1, Grow G H G1 H1 → ∀ i a b x y σ' Gi Hi H2, xs[i]? = some a → ys[i]? = some b → Same G1 Gi → Same Gi Hi → (φ a).p Gi x → (ψ b).p Gi y → Pv i σ' Gi Hi → Same Hi H2 → (∀ c, Hi c = none → Gi c = none) →
      tb { D with nx := fun σ3 H3 => ∃ G3, Same G1 G3 ∧ Same G3 H3 ∧ Pv (i + 1) σ3 G3 H3, ct := fun σ3 H3 => ∃ G3, Same G1 G3 ∧ Same G3 H3 ∧ Pv (i + 1) σ3 G3 H3, bk := D.nx } ((σ'.set n1 (some x)).set n2 (some y)) H2)
    (hd : ∀ G1 H1, Grow G H G1 H1 → ∀ σ' Gi Hi, Same G1 Gi → Same Gi Hi → Pv (min xs.length ys.length) σ' Gi Hi → D.nx σ' Hi) :
    tFor (iZip K ta) (gTup K 2 (gCons (gName n1) (gCons (gName n2) gNil))) tb D σ H :=
  h H sr sg _ fun vs G1 H1 g1 hv => by
    cases hv with
    | cons p1 hv =>
      cases hv with
      | cons p2 hv =>
        cases hv
        obtain ⟨a, us, rfl, ha, hus⟩ := p1
        obtain ⟨b, ws, rfl, hb, hws⟩ := p2
        have lu : us.length = xs.length := by rw [hus.length, List.length_map]
        have lw : ws.length = ys.length := by rw [hws.length, List.length_map]
        refine ⟨a, b, us, ws, rfl, .of (g1.s _ _ ha), .of (g1.s _ _ hb), ?_⟩
        refine ⟨fun i m σ' H' => m = min xs.length ys.length - i ∧ i ≤ min xs.length ys.length ∧ ∃ Gi, Same G1 Gi ∧ Same Gi H' ∧ Pv i σ' Gi H', ⟨_, rfl, Nat.zero_le _, G1, same_refl _, g1.s, h0 G1 H1 g1⟩, ?_⟩
        rintro i m σ' Hi ⟨rfl, hi, Gi, s1, s2, p⟩
        have qa : SqL K Hi a us := .of (s2 _ _ (s1 _ _ ha))
        have qb : SqL K Hi b ws := .of (s2 _ _ (s1 _ _ hb))
        rcases Nat.lt_or_ge i (min xs.length ys.length) with hlt | hge
        · have h1 : i < us.length := by omega
          have h2 : i < ws.length := by omega
          refine .inr ⟨⟨us, ws, us[i], ws[i], qa, qb, by simp [h1], by simp [h2]⟩, fun σ3 H3 => ∃ G3, Same G1 G3 ∧ Same G3 H3 ∧ Pv (i + 1) σ3 G3 H3, fun σ3 H3 ⟨G3, k1, k2, k3⟩ => ⟨min xs.length ys.length - (i + 1), by omega, rfl, hlt, G3, k1, k2, k3⟩, ?_⟩
          rintro _ H' ⟨T, x, y, rfl, hT, rfl, ex, ey⟩
          have ex' := ex us qa
          have ey' := ey ws qb
          obtain ⟨χ, hχ, hpx⟩ := hus.get' ex'
          rw [List.getElem?_map] at hχ
          obtain ⟨c, hc, rfl⟩ := Option.map_eq_some_iff.mp hχ
          obtain ⟨χ', hχ', hpy⟩ := hws.get' ey'
          rw [List.getElem?_map] at hχ'
          obtain ⟨d, hd', rfl⟩ := Option.map_eq_some_iff.mp hχ'
          refine ⟨T, [x, y], rfl, .of upd_same, rfl, x, [y], rfl, y, [], rfl, rfl, ?_⟩
          exact hs G1 H1 g1 i c d x y σ' Gi Hi _ hc hd' s1 s2 ((φ c).m _ _ _ s1 hpx) ((ψ d).m _ _ _ s1 hpy) p (same_new hT) (fun z hz => s2.free hz)
        · have e : i = min xs.length ys.length := Nat.le_antisymm hi hge
          refine .inl ⟨⟨us, ws, qa, qb, by omega⟩, ?_⟩
          subst e
          exact hd G1 H1 g1 σ' Gi Hi s1 s2 p
theorem q_zip {α β : Type} {xs : List α} {ys : List β} {φ : α → Ty} {ψ : β → Ty} {ta : TA} {n1 n2 : Nat} (h : AD ta σ G R [tL (xs.map φ), tL (ys.map ψ)]) (sr : Same R H) (sg : Same G H) (Pv : Nat → St → Hp → Hp → Prop)
    (h0 : ∀ G1 H1, Grow G H G1 H1 → Pv 0 σ G1 H1)
    (hs : ∀ G1 H1, Grow G H G1 H1 → ∀ i a b x y σ' Gi Hi H2, xs[i]? = some a → ys[i]? = some b → Same G1 Gi → Same Gi Hi → (φ a).p Gi x → (ψ b).p Gi y → Pv i σ' Gi Hi → Same Hi H2 → (∀ c, Hi c = none → Gi c = none) →
      tb { D with nx := fun σ3 H3 => ∃ G3, Same G1 G3 ∧ Same G3 H3 ∧ Pv (i + 1) σ3 G3 H3, ct := fun σ3 H3 => ∃ G3, Same G1 G3 ∧ Same G3 H3 ∧ Pv (i + 1) σ3 G3 H3, bk := tz D } ((σ'.set n1 (some x)).set n2 (some y)) H2)
    (hd : ∀ G1 H1, Grow G H G1 H1 → ∀ σ' Gi Hi, Same G1 Gi → Same Gi Hi → Pv (min xs.length ys.length) σ' Gi Hi → tz D σ' Hi) :
    tSeq (tFor (iZip K ta) (gTup K 2 (gCons (gName n1) (gCons (gName n2) gNil))) tb) tz D σ H :=
  s_zip (D := { D with nx := tz D }) h sr sg Pv h0 hs hd
end
/-! ### pairs of ints -/
abbrev Pr := Int × Int
def tP (p : Pr) : Ty := tT [tI p.1, tI p.2]
def leP (p q : Pr) : Prop := p.1 < q.1 ∨ (p.1 = q.1 ∧ p.2 ≤ q.2)
instance (p q : Pr) : Decidable (leP p q) := by unfold leP; infer_instance
theorem leP_total (p q : Pr) : leP p q ∨ leP q p := by unfold leP; omega
theorem leP_anti {p q : Pr} (h1 : leP p q) (h2 : leP q p) : p = q := by
  unfold leP at h1 h2
  exact Prod.ext (by omega) (by omega)
theorem leP_trans {p q r : Pr} (h1 : leP p q) (h2 : leP q r) : leP p r := by unfold leP at *; omega
def insP (p : Pr) : List Pr → List Pr
  | [] => [p]
  | q :: l => if leP p q then p :: q :: l else q :: insP p l
def srt : List Pr → List Pr
  | [] => []
  | p :: l => insP p (srt l)
theorem insP_perm (p : Pr) : ∀ l : List Pr, (insP p l).Perm (p :: l)
  | [] => .refl _
  | q :: l => by
    unfold insP
    split
    · exact .refl _
    · exact ((insP_perm p l).cons q).trans (.swap p q l)
theorem srt_perm : ∀ l : List Pr, (srt l).Perm l
  | [] => .refl _
  | p :: l => (insP_perm p (srt l)).trans ((srt_perm l).cons p)
theorem insP_sorted (p : Pr) : ∀ {l : List Pr}, l.Pairwise leP → (insP p l).Pairwise leP
  | [], _ => by simp [insP]
  | q :: l, h => by
    obtain ⟨h1, h2⟩ := List.pairwise_cons.mp h
    unfold insP
    split
    · rename_i hpq
      refine List.pairwise_cons.mpr ⟨fun z hz => ?_, h⟩
      rcases List.mem_cons.mp hz with rfl | hz
      · exact hpq
      · exact leP_trans hpq (h1 z hz)
    · rename_i hpq
      refine List.pairwise_cons.mpr ⟨fun z hz => ?_, insP_sorted p h2⟩
      rcases List.mem_cons.mp ((insP_perm p l).mem_iff.mp hz) with rfl | hz
      · exact (leP_total _ _).resolve_left hpq
      · exact h1 z hz
theorem srt_sorted : ∀ l : List Pr, (srt l).Pairwise leP
  | [] => .nil
  | p :: l => insP_sorted p (srt_sorted l)
theorem sorted_uniq : ∀ {l m : List Pr}, l.Pairwise leP → m.Pairwise leP → l.Perm m → l = m
  | [], m, _, _, h => h.symm.eq_nil.symm
  | x :: l, [], _, _, h => h.eq_nil
  | x :: l, y :: m, h1, h2, h => by
    obtain ⟨a1, a2⟩ := List.pairwise_cons.mp h1
    obtain ⟨b1, b2⟩ := List.pairwise_cons.mp h2
    have e : x = y := by
      rcases List.mem_cons.mp (h.mem_iff.mp List.mem_cons_self) with e | e
      · exact e
      · rcases List.mem_cons.mp (h.mem_iff.mpr List.mem_cons_self) with e' | e'
        · exact e'.symm
        · exact leP_anti (a1 y e') (b1 x e)
    subst e
    rw [sorted_uniq a2 b2 h.cons_inv]
def kOf (G : Hp) : V → Pr
  | .ref a => match G a with
    | some (.tup [.int i, .int j]) => (i, j)
    | _ => (0, 0)
  | _ => (0, 0)
theorem tP_get {G : Hp} {p : Pr} {v : V} (h : (tP p).p G v) : ∃ t, v = .ref t ∧ G t = some (.tup [.int p.1, .int p.2]) ∧ kOf G v = p := by
  obtain ⟨a, vs, rfl, h1, h2⟩ := h
  cases h2 with
  | cons e1 h2 =>
    cases h2 with
    | cons e2 h2 =>
      cases h2
      cases e1
      cases e2
      exact ⟨a, rfl, h1, by simp [kOf, h1]⟩
theorem tP_of {G : Hp} {p : Pr} {t : Addr} (h : G t = some (.tup [.int p.1, .int p.2])) : (tP p).p G (.ref t) := ⟨t, _, rfl, h, .cons rfl (.cons rfl .nil)⟩
theorem all_pairs {G : Hp} : ∀ {ps : List Pr} {vs : List V}, All G (ps.map tP) vs → vs.map (kOf G) = ps
  | [], _, .nil => rfl
  | p :: ps, _, .cons h t => by
    obtain ⟨_, _, _, e⟩ := tP_get h
    rw [List.map_cons, e, all_pairs t]
theorem pairs_all {G : Hp} : ∀ {vs : List V}, (∀ v ∈ vs, ∃ t, v = V.ref t ∧ G t = some (.tup [.int (kOf G v).1, .int (kOf G v).2])) → All G ((vs.map (kOf G)).map tP) vs
  | [], _ => .nil
  | v :: vs, h => by
    obtain ⟨t, rfl, e⟩ := h v List.mem_cons_self
    exact .cons (tP_of e) (pairs_all fun w hw => h w (List.mem_cons_of_mem _ hw))
theorem all_mem {G : Hp} {φs : List Ty} {vs : List V} (h : All G φs vs) {v : V} (hv : v ∈ vs) : ∃ φ ∈ φs, φ.p G v := by
  obtain ⟨i, hi⟩ := List.getElem?_of_mem hv
  obtain ⟨φ, e, p⟩ := h.get' hi
  exact ⟨φ, List.mem_of_getElem? e, p⟩
section
variable {K : Fg} {σ : St} {G R H : Hp} {te tl tl1 : TE}
theorem pd_sortedP {ps : List Pr} (h : PD te σ G R (tL (ps.map tP))) : PD (tCB (rSortedPO K) (tCons te tNil)) σ G R (tL ((srt ps).map tP)) :=
  pd_callB (ad_cons h ad_nil) fun vs G1 H1 _ s1 hv Q q => by
    cases hv with
    | cons h1 h2 =>
      cases h2
      obtain ⟨a, ws, rfl, h3, h4⟩ := h1
      have hx : ∀ x ∈ ws, ∃ t, x = V.ref t ∧ G1 t = some (.tup [.int (kOf G1 x).1, .int (kOf G1 x).2]) := by
        intro x hx
        obtain ⟨φ, hφ, hp⟩ := all_mem h4 hx
        obtain ⟨p, _, rfl⟩ := List.mem_map.mp hφ
        obtain ⟨t, e1, e2, e3⟩ := tP_get hp
        exact ⟨t, e1, by rw [e3]; exact e2⟩
      refine ⟨a, ws, kOf G1, rfl, .of (s1 _ _ h3), fun x hx' => ?_, fun ys p srtd stb hp => ?_⟩
      · obtain ⟨t, e1, e2⟩ := hx x hx'
        exact ⟨t, e1, s1 _ _ e2⟩
      · have g2 : Grow G1 H1 (upd G1 p (.lst ys)) (upd H1 p (.lst ys)) := .new s1 hp
        refine q _ _ _ g2 ⟨p, ys, rfl, upd_same, ?_⟩
        have e : ys.map (kOf G1) = srt ps := by
          refine sorted_uniq ?_ (srt_sorted _) ?_
          · refine List.pairwise_map.mpr (srtd.imp ?_)
            intro x y hxy
            have := SrtO.lexB_no.mp hxy
            unfold leP
            omega
          · rw [← all_pairs h4] at *
            exact (stb.perm.map _).trans (srt_perm _).symm
        rw [← e]
        exact (pairs_all fun v hv' => hx v (stb.perm.mem_iff.mp hv')).mono g2.g
/-! ### min, max of a list of ints -/
def lMin : List Int → Int
  | [] => 0
  | [x] => x
  | x :: xs => min x (lMin xs)
def lMax : List Int → Int
  | [] => 0
  | [x] => x
  | x :: xs => max x (lMax xs)
theorem lMin_mem : ∀ {l : List Int}, l ≠ [] → lMin l ∈ l
  | [], h => absurd rfl h
  | [x], _ => by simp [lMin]
  | x :: y :: l, _ => by
    have := lMin_mem (l := y :: l) (by simp)
    show min x (lMin (y :: l)) ∈ x :: y :: l
    rcases Int.le_total x (lMin (y :: l)) with h | h
    · rw [Int.min_eq_left h]
      exact List.mem_cons_self
    · rw [Int.min_eq_right h]
      exact List.mem_cons_of_mem _ this
theorem lMin_le : ∀ {l : List Int} {x : Int}, x ∈ l → lMin l ≤ x
  | [y], x, h => by
    rw [List.mem_singleton.mp h]
    exact Int.le_refl _
  | y :: z :: l, x, h => by
    show min y (lMin (z :: l)) ≤ x
    rcases List.mem_cons.mp h with rfl | h
    · omega
    · have := lMin_le h
      omega
theorem lMax_mem : ∀ {l : List Int}, l ≠ [] → lMax l ∈ l
  | [], h => absurd rfl h
  | [x], _ => by simp [lMax]
  | x :: y :: l, _ => by
    have := lMax_mem (l := y :: l) (by simp)
    show max x (lMax (y :: l)) ∈ x :: y :: l
    rcases Int.le_total x (lMax (y :: l)) with h | h
    · rw [Int.max_eq_right h]
      exact List.mem_cons_of_mem _ this
    · rw [Int.max_eq_left h]
      exact List.mem_cons_self
theorem le_lMax : ∀ {l : List Int} {x : Int}, x ∈ l → x ≤ lMax l
  | [y], x, h => by
    rw [List.mem_singleton.mp h]
    exact Int.le_refl _
  | y :: z :: l, x, h => by
    show x ≤ max y (lMax (z :: l))
    rcases List.mem_cons.mp h with rfl | h
    · omega
    · have := le_lMax h
      omega
theorem pd_minL {ns : List Int} (h : PD te σ G R (tL (ns.map tI))) (h0 : ns ≠ []) : PD (tCB (rMin K) (tCons te tNil)) σ G R (tI (lMin ns)) :=
  pd_callB (ad_cons h ad_nil) fun vs G1 H1 _ s1 hv Q q => by
    cases hv with
    | cons h1 h2 =>
      cases h2
      obtain ⟨a, ws, rfl, h3, h4⟩ := h1
      rw [all_ints h4] at h3
      refine ⟨a, ns, rfl, .of (s1 _ _ h3), List.length_pos_iff.mpr h0, fun m hm hle => q _ G1 H1 (.refl s1) ?_⟩
      have e : m = lMin ns := Int.le_antisymm (hle _ (lMin_mem h0)) (lMin_le hm)
      rw [e] <;> rfl
theorem pd_maxL {ns : List Int} (h : PD te σ G R (tL (ns.map tI))) (h0 : ns ≠ []) : PD (tCB (rMax K) (tCons te tNil)) σ G R (tI (lMax ns)) :=
  pd_callB (ad_cons h ad_nil) fun vs G1 H1 _ s1 hv Q q => by
    cases hv with
    | cons h1 h2 =>
      cases h2
      obtain ⟨a, ws, rfl, h3, h4⟩ := h1
      rw [all_ints h4] at h3
      refine ⟨a, ns, rfl, .of (s1 _ _ h3), List.length_pos_iff.mpr h0, fun m hm hle => q _ G1 H1 (.refl s1) ?_⟩
      have e : m = lMax ns := Int.le_antisymm (le_lMax hm) (hle _ (lMax_mem h0))
      rw [e] <;> rfl
/-! ### [e for .. in .. for .. in ..] -/
def Lx (G1 H1 : Hp) (D : Addr) (G2 Rb : Hp) (φs : List Ty) (H : Hp) : Prop :=
  ∃ Gj ws, Same G2 Gj ∧ Same Gj H ∧ Same Rb H ∧ Same H1 H ∧ Gj D = none ∧ (∀ a, G1 a = none → Gj a ≠ none → H1 a = none) ∧ H D = some (.lst ws) ∧ All Gj φs ws
theorem pd_lc2 {α β : Type} {xs : List α} {φ : α → Ty} {bs : α → List β} {ψ χ : α → β → Ty} {g g1 : TG} {vs vs1 : List Nat}
    (h : PD tl σ G R (tSq (xs.map φ))) (hz : (xs.flatMap fun a => (bs a).map (χ a)).length ≤ 90000)
    (hb : ∀ a ∈ xs, ∀ x Gi Ri, Same G Gi → Same R Ri → Same Gi Ri → (φ a).p Gi x → ∃ σ2, GD g (wipe σ vs) Gi x σ2 ∧ wipe σ2 vs = wipe σ vs ∧ PD tl1 σ2 Gi Ri (tSq ((bs a).map (ψ a))) ∧
      ∀ b ∈ bs a, ∀ y Gj Rj, Same Gi Gj → Same Ri Rj → Same Gj Rj → (ψ a b).p Gj y → ∃ σ3, GD g1 (wipe σ2 vs1) Gj y σ3 ∧ wipe σ3 vs1 = wipe σ2 vs1 ∧ PD te σ3 Gj Rj (χ a b)) :
    PD (tLc2 (iSeq K tl) g tYes (iSeq K tl1) g1 tYes te vs vs1) σ G R (tL (xs.flatMap fun a => (bs a).map (χ a))) := by
  intro H sr sg Q q
  refine h H sr sg _ fun v G1 H1 g1' hv => ?_
  obtain ⟨l, us, rfl, hl, hus⟩ := hv
  have lenU : us.length = xs.length := by rw [hus.length, List.length_map]
  let ks : Nat → List Ty := fun i => (xs.take i).flatMap fun a => (bs a).map (χ a)
  have ksl : ∀ i, (ks i).length ≤ 90000 := fun i => by
    have e : xs.flatMap (fun a => (bs a).map (χ a)) = ks i ++ (xs.drop i).flatMap fun a => (bs a).map (χ a) := by
      rw [← List.flatMap_append, List.take_append_drop]
    rw [e, List.length_append] at hz
    omega
  have inner : ∀ (D : Addr), H1 D = none → ∀ (i : Nat) (x : V) (H2 : Hp), us[i]? = some x → Cw G1 H1 D (ks i) H2 →
      g x (wipe σ vs) H2 fun σ2 H3 => wipe σ2 vs = wipe σ vs ∧ tYes σ2 H3 fun b H4 => if b = true then iSeq K tl1 σ2 H4 fun J1 H5 => ∃ W1 : Nat → Nat → Hp → Prop, (∃ m, W1 0 m H5) ∧ ∀ j k H, W1 j k H →
        (J1.stop j H ∧ Cw G1 H1 D (ks (i + 1)) H) ∨ (J1.go j H ∧ ∃ Nx1 : Hp → Prop, (∀ H', Nx1 H' → ∃ k', k' < k ∧ W1 (j + 1) k' H') ∧
          ∀ x H', J1.yld j H x H' → g1 x (wipe σ2 vs1) H' fun σ3 H6 => wipe σ3 vs1 = wipe σ2 vs1 ∧ tYes σ3 H6 fun b H7 =>
            if b = true then te σ3 H7 fun y H8 => ∃ acc, H8 D = some (.lst acc) ∧ acc.length < sizeLine ∧ Nx1 (upd H8 D (.lst (acc ++ [y])))
            else Nx1 H7)
      else Cw G1 H1 D (ks (i + 1)) H4 := by
    intro D hD i x H2 hx sw
    obtain ⟨χ', hχ, hpx⟩ := hus.get' hx
    rw [List.getElem?_map] at hχ
    obtain ⟨a, ha, rfl⟩ := Option.map_eq_some_iff.mp hχ
    obtain ⟨Gi, ws, a1, b1, c1, d1, e1, f1, h1⟩ := sw
    have rR : Same R (era H2 D) := le_era ((sr.trans g1'.h).trans c1) ((sr.trans g1'.h).free hD)
    obtain ⟨σ2, k1, k2, k3, k4⟩ := hb a (List.mem_of_getElem? ha) x Gi (era H2 D) (g1'.g.trans a1) rR (le_era b1 d1) ((φ a).m _ _ _ a1 hpx)
    refine k1 H2 b1 _ ⟨k2, yes_if ?_⟩
    refine k3 H2 era_le b1 _ fun w G2 H3 g2 hw => ?_
    obtain ⟨l2, us2, rfl, hl2, hus2⟩ := hw
    have d2 : G2 D = none := by
      cases q : G2 D with
      | none => rfl
      | some o =>
        have z := g2.f D d1 (by rw [q]; exact fun z => nomatch z)
        rw [f1] at z
        cases z
    have e2 : ∀ z, G1 z = none → G2 z ≠ none → H1 z = none := fun z hz hw => by
      by_cases q : Gi z = none
      · exact c1.free (g2.f z q hw)
      · exact e1 z hz q
    have ksn : ks (i + 1) = ks i ++ (bs a).map (χ a) := by
      show (xs.take (i + 1)).flatMap _ = _
      rw [take_succ_of ha, List.flatMap_append]
      simp [ks]
    have len2 : us2.length = (bs a).length := by rw [hus2.length, List.length_map]
    have step : ∀ (j : Nat) (y : V) (H4 : Hp), us2[j]? = some y → Lx G1 H1 D G2 (era H2 D) (ks i ++ ((bs a).map (χ a)).take j) H4 →
        g1 y (wipe σ2 vs1) H4 fun σ3 H6 => wipe σ3 vs1 = wipe σ2 vs1 ∧ tYes σ3 H6 fun b H7 => if b = true then te σ3 H7 fun y H8 => ∃ acc, H8 D = some (.lst acc) ∧ acc.length < sizeLine ∧
          Lx G1 H1 D G2 (era H2 D) (ks i ++ ((bs a).map (χ a)).take (j + 1)) (upd H8 D (.lst (acc ++ [y])))
        else Lx G1 H1 D G2 (era H2 D) (ks i ++ ((bs a).map (χ a)).take (j + 1)) H7 := by
      rintro j y H4 hy ⟨Gj, ws, p1, p2, p3, p4, p5, p6, p7, p8⟩
      obtain ⟨χ', hχ, hpy⟩ := hus2.get' hy
      rw [List.getElem?_map] at hχ
      obtain ⟨b, hbb, rfl⟩ := Option.map_eq_some_iff.mp hχ
      obtain ⟨σ3, m1, m2, m3⟩ := k4 b (List.mem_of_getElem? hbb) y Gj (era H4 D) (g2.g.trans p1) (le_era p3 era_at) (le_era p2 p5) ((ψ a b).m _ _ _ p1 hpy)
      refine m1 H4 p2 _ ⟨m2, yes_if ?_⟩
      refine m3 H4 era_le p2 _ fun v G5 H5 g5 hv => ?_
      have hG5 : G5 D = none := by
        cases q : G5 D with
        | none => rfl
        | some o =>
          have z := g5.f D p5 (by rw [q]; exact fun z => nomatch z)
          rw [p7] at z
          cases z
      have tk : ((bs a).map (χ a)).take (j + 1) = ((bs a).map (χ a)).take j ++ [χ a b] := take_succ_of (by rw [List.getElem?_map, hbb] <;> rfl)
      have kl := ksl (i + 1)
      rw [ksn, List.length_append] at kl
      have tl' : (((bs a).map (χ a)).take j).length ≤ ((bs a).map (χ a)).length := by rw [List.length_take]; omega
      have wl := p8.length
      rw [List.length_append] at wl
      refine ⟨ws, g5.h _ _ p7, sz_lt (by omega), G5, _, p1.trans g5.g, same_upd g5.s hG5, same_upd (p3.trans g5.h) era_at, same_upd (p4.trans g5.h) hD, hG5, fun z hz hw => ?_, upd_same, ?_⟩
      · by_cases q : Gj z = none
        · exact p4.free (g5.f z q hw)
        · exact p6 z hz q
      · rw [tk, ← List.append_assoc]
        exact (p8.mono g5.g).append (.cons hv .nil)
    have st0 : Lx G1 H1 D G2 (era H2 D) (ks i ++ ((bs a).map (χ a)).take 0) H3 := ⟨G2, ws, same_refl _, g2.s, era_le.trans g2.h, c1.trans g2.h, d2, e2, g2.h _ _ f1, by simpa using h1.mono g2.g⟩
    have stE : ∀ H, Lx G1 H1 D G2 (era H2 D) (ks i ++ ((bs a).map (χ a)).take us2.length) H → Cw G1 H1 D (ks (i + 1)) H := by
      rintro H ⟨Gj, ws, p1, p2, p3, p4, p5, p6, p7, p8⟩
      rw [len2, ← List.length_map (f := χ a), List.take_length, ← ksn] at p8
      exact ⟨Gj, ws, (a1.trans g2.g).trans p1, p2, p4, p5, p6, p7, p8⟩
    rcases hl2 with hl2 | hl2
    · refine .inl ⟨l2, rfl, ⟨us2, .of (g2.s _ _ hl2)⟩, ?_⟩
      refine it_list (xs := us2) (fun j => Lx G1 H1 D G2 (era H2 D) (ks i ++ ((bs a).map (χ a)).take j)) st0 ?_ step stE
      rintro j H _ ⟨Gj, ws, p1, p2, _⟩
      exact .of (p2 _ _ (p1 _ _ hl2))
    · refine .inr ⟨l2, rfl, ⟨us2, .of (g2.s _ _ hl2)⟩, ?_⟩
      refine it_tup (xs := us2) (fun j => Lx G1 H1 D G2 (era H2 D) (ks i ++ ((bs a).map (χ a)).take j)) st0 ?_ step stE
      rintro j H _ ⟨Gj, ws, p1, p2, _⟩
      exact .of (p2 _ _ (p1 _ _ hl2))
  have fin : ∀ (D : Addr), H1 D = none → ∀ H2, Cw G1 H1 D (ks us.length) H2 → Q (.ref D) H2 := by
    intro D hD H2 cw
    have e : ks us.length = xs.flatMap fun a => (bs a).map (χ a) := by
      show (xs.take us.length).flatMap _ = _
      rw [lenU, List.take_length]
    rw [e] at cw
    obtain ⟨G', g', hp⟩ := cw.fin g1' hD
    exact q _ G' H2 g' hp
  rcases hl with hl | hl
  · refine .inl ⟨l, rfl, ⟨us, .of (g1'.s _ _ hl)⟩, fun D hD => ?_⟩
    refine it_list (xs := us) (fun i => Cw G1 H1 D (ks i)) (by simpa [ks] using Cw.start g1'.s hD) ?_ (inner D hD) (fin D hD)
    rintro i H2 _ ⟨Gi, ws, a1, b1, _⟩
    exact .of (b1 _ _ (a1 _ _ hl))
  · refine .inr ⟨l, rfl, ⟨us, .of (g1'.s _ _ hl)⟩, fun D hD => ?_⟩
    refine it_tup (xs := us) (fun i => Cw G1 H1 D (ks i)) (by simpa [ks] using Cw.start g1'.s hD) ?_ (inner D hD) (fin D hD)
    rintro i H2 _ ⟨Gi, ws, a1, b1, _⟩
    exact .of (b1 _ _ (a1 _ _ hl))
end
end BR
/-! The program's defs on spans and slabs as plain functions; a list that a def fills. -/
namespace BR
open PySem PySem.Spec PyProof.Rows L2
/-! ### mirrors -/
def mstep (f : List Pr) (p : Pr) : List Pr := match f.getLast? with
  | some q => if p.1 ≤ q.2 then f.dropLast ++ [(q.1, max p.2 q.2)] else f ++ [p]
  | none => [p]
def merged (ps : List Pr) : List Pr := (srt ps).foldl mstep []
def cov (sp : List Pr) (n : Int) : Bool := sp.any fun s => decide (s.1 ≤ n) && decide (n < s.2)
inductive Wd | or | and | either | less deriving DecidableEq
def Wd.str : Wd → Str
  | .or => "or"
  | .and => "and"
  | .either => "either"
  | .less => "less"
def wanted (w : Wd) (a b : Bool) : Bool := match w with
  | .or => a || b
  | .and => a && b
  | .either => a != b
  | .less => a && !b
def ends (sp : List Pr) : List Int := sp.flatMap fun s => [s.1, s.2]
def nxt (l : List Int) : List Pr := l.zip l.tail
def combined (one other : List Pr) (w : Wd) : List Pr := merged ((nxt (sd (ends (one ++ other)))).filter fun p => wanted w (cov one p.1) (cov other p.1))
abbrev Sl := Int × Int × List Pr
def spansAt (f : List Sl) (x : Int) : List Pr := match f.find? fun s => decide (s.1 ≤ x) && decide (x < s.2.1) with
  | some s => s.2.2
  | none => []
def tstep (f : List Sl) (s : Sl) : List Sl := match f.getLast? with
  | some q => if q.2.1 = s.1 ∧ q.2.2 = s.2.2 then f.dropLast ++ [(q.1, s.2.1, s.2.2)] else if s.2.2 ≠ [] then f ++ [s] else f
  | none => if s.2.2 ≠ [] then [s] else []
def tidy (f : List Sl) : List Sl := f.foldl tstep []
def cutsOf (f : List Sl) : List Int := sd (f.flatMap fun s => [s.1, s.2.1])
abbrev Bx := Int × Int × Int × Int
def slabsOf (bs : List Bx) : List Sl := tidy ((nxt (sd (bs.flatMap fun b => [b.1, b.2.2.1]))).map fun p => (p.1, p.2, merged ((bs.filter fun b => decide (b.1 ≤ p.1) && decide (p.1 < b.2.2.1)).map fun b => (b.2.1, b.2.2.2))))
def boxesOf (f : List Sl) : List Bx := f.flatMap fun s => s.2.2.map fun p => (s.1, p.1, s.2.1, p.2)
def mixed (one other : List Sl) (w : Wd) : List Sl := tidy ((nxt (cutsOf (one ++ other))).map fun p => (p.1, p.2, combined (spansAt one p.1) (spansAt other p.1) w))
def frameOf (f : List Sl) : Option Bx := if f = [] then none else some ((f.headD (0, 0, [])).1, lMin (f.map fun s => (s.2.2.headD (0, 0)).1), (f.getLastD (0, 0, [])).2.1, lMax (f.map fun s => (s.2.2.getLastD (0, 0)).2))
def addedBox (b o : Bx) : Bx := (b.1 + o.1, b.2.1 + o.2.1, b.2.2.1 + o.2.2.1 - 1, b.2.2.2 + o.2.2.2 - 1)
def opposite (b : Bx) : Bx := (1 - b.2.2.1, 1 - b.2.2.2, 1 - b.1, 1 - b.2.1)
def grown (f : List Sl) (b : Bx) : List Sl := slabsOf ((boxesOf f).map fun o => addedBox o b)
def shrunk (f : List Sl) (b : Bx) : List Sl := if f = [] then [] else
  let places := grown f (0 - b.1, 0 - b.2.1, 1 - b.1, 1 - b.2.1)
  let missing := mixed (slabsOf [addedBox ((frameOf places).getD (0, 0, 0, 0)) b]) f .less
  mixed places (grown missing (opposite b)) .less
/-! ### their data -/
def dP (p : Pr) : PyData := .tuple [.int p.1, .int p.2]
def dSp (sp : List Pr) : PyData := .tuple (sp.map dP)
def dSl (s : Sl) : PyData := .tuple [.int s.1, .int s.2.1, dSp s.2.2]
def dForm (f : List Sl) : PyData := .tuple (f.map dSl)
def dB (b : Bx) : PyData := .tuple [.int b.1, .int b.2.1, .int b.2.2.1, .int b.2.2.2]
def tSp (sp : List Pr) : Ty := tT (sp.map tP)
def tSlb (s : Sl) : Ty := tT [tI s.1, tI s.2.1, tSp s.2.2]
def tForm (f : List Sl) : Ty := tT (f.map tSlb)
def tB4 (b : Bx) : Ty := tT [tI b.1, tI b.2.1, tI b.2.2.1, tI b.2.2.2]
theorem dt_P (p : Pr) : dt (dP p) = tP p := by
  unfold dP tP
  rw [dt_tuple]
  simp only [List.map_cons, List.map_nil, dt_int]
theorem dt_Sp (sp : List Pr) : dt (dSp sp) = tSp sp := by
  unfold dSp tSp
  rw [dt_tuple, List.map_map]
  have q : sp.map (dt ∘ dP) = sp.map tP := List.map_congr_left fun p _ => dt_P p
  rw [q]
theorem dt_Sl (s : Sl) : dt (dSl s) = tSlb s := by
  unfold dSl tSlb
  rw [dt_tuple]
  simp only [List.map_cons, List.map_nil, dt_int, dt_Sp]
theorem dt_Form (f : List Sl) : dt (dForm f) = tForm f := by
  unfold dForm tForm
  rw [dt_tuple, List.map_map]
  have q : f.map (dt ∘ dSl) = f.map tSlb := List.map_congr_left fun p _ => dt_Sl p
  rw [q]
theorem dt_B (b : Bx) : dt (dB b) = tB4 b := by
  unfold dB tB4
  rw [dt_tuple]
  simp only [List.map_cons, List.map_nil, dt_int]
theorem lay_all {n : Nat} : ∀ {ds : List PyData}, (∀ d ∈ ds, d.canLay0 = true ∧ d.depth ≤ n) → PyData.canLayAll0 ds = true ∧ PyData.depthAll ds ≤ n + 1
  | [], _ => ⟨rfl, by simp [PyData.depthAll]⟩
  | d :: ds, h => by
    obtain ⟨h1, h2⟩ := h d List.mem_cons_self
    obtain ⟨h3, h4⟩ := lay_all fun x hx => h x (List.mem_cons_of_mem _ hx)
    refine ⟨by simp only [PyData.canLayAll0, h1, h3, Bool.and_true], ?_⟩
    simp only [PyData.depthAll]
    omega
def Lay (d : PyData) (n : Nat) : Prop := d.canLay0 = true ∧ d.depth ≤ n
theorem Lay.tuple {n : Nat} {ds : List PyData} (h : ∀ d ∈ ds, Lay d n) : Lay (.tuple ds) (n + 2) := by
  obtain ⟨h1, h2⟩ := lay_all h
  refine ⟨by simp only [PyData.canLay0, h1], ?_⟩
  simp only [PyData.depth]
  omega
theorem Lay.list {n : Nat} {ds : List PyData} (h : ∀ d ∈ ds, Lay d n) : Lay (.list ds) (n + 2) := by
  obtain ⟨h1, h2⟩ := lay_all h
  refine ⟨by simp only [PyData.canLay0, h1], ?_⟩
  simp only [PyData.depth]
  omega
theorem Lay.mono {d : PyData} {n m : Nat} (h : Lay d n) (k : n ≤ m) : Lay d m := ⟨h.1, Nat.le_trans h.2 k⟩
theorem Lay.int (i : Int) : Lay (.int i) 1 := ⟨rfl, by simp [PyData.depth]⟩
theorem Lay.bool (i : Bool) : Lay (.bool i) 1 := ⟨rfl, by simp [PyData.depth]⟩
theorem lay_P (p : Pr) : Lay (dP p) 3 := .tuple fun d hd => by
  simp only [List.mem_cons, List.not_mem_nil, or_false] at hd
  rcases hd with rfl | rfl <;> exact .int _
theorem lay_Sp (sp : List Pr) : Lay (dSp sp) 5 := .tuple fun d hd => by
  obtain ⟨p, _, rfl⟩ := List.mem_map.mp hd
  exact lay_P p
theorem lay_Sl (s : Sl) : Lay (dSl s) 7 := .tuple fun d hd => by
  simp only [List.mem_cons, List.not_mem_nil, or_false] at hd
  rcases hd with rfl | rfl | rfl
  · exact (Lay.int _).mono (by decide)
  · exact (Lay.int _).mono (by decide)
  · exact lay_Sp _
theorem lay_Form (f : List Sl) : Lay (dForm f) 9 := .tuple fun d hd => by
  obtain ⟨p, _, rfl⟩ := List.mem_map.mp hd
  exact lay_Sl p
theorem lay_B (b : Bx) : Lay (dB b) 3 := .tuple fun d hd => by
  simp only [List.mem_cons, List.not_mem_nil, or_false] at hd
  rcases hd with rfl | rfl | rfl | rfl <;> exact .int _
theorem Lay.shaped {d : PyData} {n : Nat} (h : Lay d n) (hn : n ≤ 64) : SeqAt.shaped d = true := by
  unfold SeqAt.shaped
  rw [h.1, decide_eq_true (Nat.le_trans h.2 hn)] <;> rfl
/-! equality of such data -/
theorem eqv_P (p q : Pr) : PyData.eqv (dP p) (dP q) = decide (p = q) := by
  obtain ⟨a, b⟩ := p
  obtain ⟨c, d⟩ := q
  simp only [dP, PyData.eqv, PyData.eqvAll, Bool.and_true]
  by_cases h1 : a = c <;> by_cases h2 : b = d <;> simp [h1, h2]
theorem eqvAll_map {α : Type} [DecidableEq α] {f : α → PyData} (hf : ∀ x y, PyData.eqv (f x) (f y) = decide (x = y)) : ∀ xs ys : List α, PyData.eqvAll (xs.map f) (ys.map f) = decide (xs = ys)
  | [], [] => by simp [PyData.eqvAll]
  | [], _ :: _ => by simp [PyData.eqvAll]
  | _ :: _, [] => by simp [PyData.eqvAll]
  | x :: xs, y :: ys => by
    simp only [List.map_cons, PyData.eqvAll, hf, eqvAll_map hf xs ys]
    by_cases h1 : x = y <;> by_cases h2 : xs = ys <;> simp [h1, h2]
theorem eqv_Sp (s t : List Pr) : PyData.eqv (dSp s) (dSp t) = decide (s = t) := by
  simp only [dSp, PyData.eqv]
  exact eqvAll_map eqv_P s t
theorem eqv_Sl (s t : Sl) : PyData.eqv (dSl s) (dSl t) = decide (s = t) := by
  obtain ⟨a, b, c⟩ := s
  obtain ⟨a', b', c'⟩ := t
  simp only [dSl, PyData.eqv, PyData.eqvAll, Bool.and_true, eqv_Sp]
  by_cases h1 : a = a' <;> by_cases h2 : b = b' <;> by_cases h3 : c = c' <;> simp [h1, h2, h3]
theorem eqv_Form (s t : List Sl) : PyData.eqv (dForm s) (dForm t) = decide (s = t) := by
  simp only [dForm, PyData.eqv]
  exact eqvAll_map eqv_Sl s t
theorem eqv_B (s t : Bx) : PyData.eqv (dB s) (dB t) = decide (s = t) := by
  obtain ⟨a, b, c, d⟩ := s
  obtain ⟨a', b', c', d'⟩ := t
  simp only [dB, PyData.eqv, PyData.eqvAll, Bool.and_true]
  by_cases h1 : a = a' <;> by_cases h2 : b = b' <;> by_cases h3 : c = c' <;> by_cases h4 : d = d' <;> simp [h1, h2, h3, h4]
/-! ### a list that a def fills -/
structure Fnd (q : Addr) (G H : Hp) (φs : List Ty) : Prop where
  s : Same G H
  n : G q = none
  h : ∃ vs, H q = some (.lst vs) ∧ All G φs vs
section
variable {K : Fg} {σ : St} {G R H : Hp} {te ta tb : TE} {D : Ends} {tz tu : TS} {q : Addr} {φs : List Ty} {φ : Ty}
theorem Fnd.grow {G' H' : Hp} (i : Fnd q G H φs) (g : Grow G H G' H') : Fnd q G' H' φs := by
  obtain ⟨vs, h, k⟩ := i.h
  refine ⟨g.s, ?_, vs, g.h _ _ h, k.mono g.g⟩
  cases e : G' q with
  | none => rfl
  | some o =>
    have z := g.f q i.n (by rw [e]; exact fun z => nomatch z)
    rw [h] at z
    cases z
theorem Fnd.same {H' : Hp} (i : Fnd q G H φs) (g : Same H H') : Fnd q G H' φs := by
  obtain ⟨vs, h, k⟩ := i.h
  exact ⟨i.s.trans g, i.n, vs, g _ _ h, k⟩
theorem Fnd.new (s : Same G H) (h : H q = none) : Fnd q G (upd H q (.lst [])) [] := ⟨same_upd s (s.free h), s.free h, [], upd_same, .nil⟩
/-- the list read as a whole -/
theorem Fnd.data (i : Fnd q G H φs) : (tL φs).p H (.ref q) := by
  obtain ⟨vs, h, k⟩ := i.h
  exact ⟨q, vs, rfl, h, k.mono i.s⟩
/-- handed out: it is data from now on -/
theorem Fnd.fin {G0 H0 : Hp} (i : Fnd q G H φs) (g : Same G0 G) (h : Same H0 H) (f : ∀ a, G0 a = none → G a ≠ none → H0 a = none) (hq : H0 q = none) : ∃ G', Grow G0 H0 G' H ∧ (tL φs).p G' (.ref q) := by
  obtain ⟨vs, e, k⟩ := i.h
  refine ⟨upd G q (.lst vs), ⟨g.trans (same_new i.n), h, fun x o hx => ?_, fun x hx hy => ?_⟩, q, vs, rfl, upd_same, k.mono (same_new i.n)⟩
  · by_cases z : x = q
    · subst z
      rw [upd_same] at hx
      rw [e]
      exact hx
    · rw [upd_ne z] at hx
      exact i.s x o hx
  · by_cases z : x = q
    · subst z
      exact hq
    · rw [upd_ne z] at hy
      exact f x hx hy
theorem app_step {j : Nat} (i : Fnd q G H φs) (hj : σ[j]? = some (some (.ref q))) (hl : φs.length < 100000) (h : PD te σ G H φ) (k : ∀ G' H', Grow G H G' H' → ∀ v, φ.p G' v → Fnd q G' (upd H' q (.lst (v :: []))) [φ] → ∀ H2, Fnd q G' H2 (φs ++ [φ]) → SameBut q H' H2 → D.nx σ H2) :
    tDrop (tBM K "list" rAppend (tVar j) (tCons te tNil)) D σ H := by
  obtain ⟨vs, hq, hall⟩ := i.h
  refine ⟨_, hj, .inl ⟨rfl, _, SqL.of hq⟩, h H (same_refl _) i.s _ fun v G' H' g hv => ?_⟩
  have hq' := g.h _ _ hq
  have i' := i.grow g
  refine ⟨q, vs, v, rfl, rfl, hq', sz_lt (by rw [hall.length]; exact hl), ?_⟩
  refine k G' H' g v hv ⟨same_upd g.s i'.n, i'.n, [v], upd_same, .cons hv .nil⟩ _ ⟨same_upd g.s i'.n, i'.n, _, upd_same, (hall.mono g.g).append (.cons hv .nil)⟩ (fun a o ha e => ?_)
  rw [upd_ne ha]
  exact e
/-- found.append(e) -/
theorem s_app {j : Nat} (i : Fnd q G H φs) (hj : σ[j]? = some (some (.ref q))) (hl : φs.length < 100000) (h : PD te σ G H φ) (k : ∀ G' H' H2, Grow G H G' H' → Fnd q G' H2 (φs ++ [φ]) → SameBut q H' H2 → D.nx σ H2) :
    tDrop (tBM K "list" rAppend (tVar j) (tCons te tNil)) D σ H := app_step i hj hl h fun G' H' g v _ _ H2 f b => k G' H' H2 g f b
/-- found[-1] = e -/
theorem s_last {j : Nat} {ψ : Ty} (i : Fnd q G H (φs ++ [ψ])) (hj : σ[j]? = some (some (.ref q))) (h : PD te σ G H φ) (k : ∀ G' H' H2, Grow G H G' H' → Fnd q G' H2 (φs ++ [φ]) → SameBut q H' H2 → D.nx σ H2) :
    tAsg te (gSub (tVar j) (tUn rNegI (tC (.int 1))) rSetL) D σ H := by
  obtain ⟨vs, hq, hall⟩ := i.h
  have hl := hall.length
  rw [List.length_append] at hl
  refine h H (same_refl _) i.s _ fun v G' H' g hv => ?_
  have hq' := g.h _ _ hq
  have i' := i.grow g
  refine ⟨_, hj, 1, rfl, q, vs, -1, φs.length, rfl, rfl, hq', ?_, ?_⟩
  · simp only [List.length_singleton] at hl
    unfold ixN
    rw [if_neg (by decide), if_pos (by omega)]
    congr 1
    omega
  · refine k G' H' _ g ⟨same_upd g.s i'.n, i'.n, _, upd_same, ?_⟩ (fun a o ha e => by rw [upd_ne ha]; exact e)
    have e := All.set (φ := φ) (v := v) hv φs.length (hall.mono g.g)
    have e2 : (φs ++ [ψ]).set φs.length φ = φs ++ [φ] := by simp
    rw [e2] at e
    exact e
theorem at_last {α : Type} {xs : List α} {x : α} : atI (xs ++ [x]) (-1) = some x := by
  unfold atI ixN
  rw [if_neg (by decide), if_pos (by simp; omega)]
  have : ((-1 : Int) + ((xs ++ [x]).length : Int)).toNat = xs.length := by simp; omega
  show (xs ++ [x])[((-1 : Int) + ((xs ++ [x]).length : Int)).toNat]? = some x
  rw [this]
  simp
/-- xs != [], xs == () .. -/
theorem pd_neNil {ds : List PyData} (ha : PD ta σ G R (tL (ds.map dt))) (hd : SeqAt.shaped (.list ds) = true) : PD (tOp (rNeX K) ta (tLst tNil)) σ G R (tBo (!ds.isEmpty)) := by
  have k := pd_neD (K := K) (d := .list ds) (e := .list []) (ta := ta) (tb := tLst tNil) (σ := σ) (G := G) (R := R) (by rw [dt_list]; exact ha) (by rw [dt_list]; exact pd_lst ad_nil (by simp)) hd rfl
  have e : PyData.eqv (.list ds) (.list []) = ds.isEmpty := by
    cases ds with
    | nil => simp [PyData.eqv, PyData.eqvAll]
    | cons x xs => simp [PyData.eqv, PyData.eqvAll]
  rw [e] at k
  exact k
end
end BR
/-! The program's defs on spans and slabs: promises and walks. -/
namespace BR
open PySem PySem.Spec PyProof.Rows L2
theorem all1 {G : Hp} {a : Ty} {vs : List V} (h : All G [a] vs) : ∃ x, vs = [x] ∧ a.p G x := by
  cases h with
  | cons h1 h2 =>
    cases h2
    exact ⟨_, rfl, h1⟩
theorem all2 {G : Hp} {a b : Ty} {vs : List V} (h : All G [a, b] vs) : ∃ x y, vs = [x, y] ∧ a.p G x ∧ b.p G y := by
  cases h with
  | cons h1 h2 =>
    obtain ⟨y, rfl, h3⟩ := all1 h2
    exact ⟨_, _, rfl, h1, h3⟩
theorem all3 {G : Hp} {a b c : Ty} {vs : List V} (h : All G [a, b, c] vs) : ∃ x y z, vs = [x, y, z] ∧ a.p G x ∧ b.p G y ∧ c.p G z := by
  cases h with
  | cons h1 h2 =>
    obtain ⟨y, z, rfl, h3, h4⟩ := all2 h2
    exact ⟨_, _, _, rfl, h1, h3, h4⟩
theorem all4 {G : Hp} {a b c d : Ty} {vs : List V} (h : All G [a, b, c, d] vs) : ∃ x y z u, vs = [x, y, z, u] ∧ a.p G x ∧ b.p G y ∧ c.p G z ∧ d.p G u := by
  cases h with
  | cons h1 h2 =>
    obtain ⟨y, z, u, rfl, h3, h4, h5⟩ := all3 h2
    exact ⟨_, _, _, _, rfl, h1, h3, h4, h5⟩
/-! ### a list being filled, from the def's start on -/
structure Fil (q : Addr) (G0 H0 G H : Hp) (φs : List Ty) : Prop where
  i : Fnd q G H φs
  g : Same G0 G
  h : Same H0 H
  f : ∀ a, G0 a = none → G a ≠ none → H0 a = none
  z : H0 q = none
section
variable {K : Fg} {σ : St} {G0 H0 G R H : Hp} {te ta tb : TE} {D : Ends} {tz tu : TS} {q : Addr} {φs : List Ty} {φ : Ty}
theorem Fil.grow {G' H' : Hp} (i : Fil q G0 H0 G H φs) (g : Grow G H G' H') : Fil q G0 H0 G' H' φs :=
  ⟨i.i.grow g, i.g.trans g.g, i.h.trans g.h, fun a h1 h2 => by
    by_cases e : G a = none
    · exact i.h.free (g.f a e h2)
    · exact i.f a h1 e, i.z⟩
theorem Fil.same {H' : Hp} (i : Fil q G0 H0 G H φs) (g : Same H H') : Fil q G0 H0 G H' φs := ⟨i.i.same g, i.g, i.h.trans g, i.f, i.z⟩
theorem Fil.start (s : Same G0 H0) (h : H0 q = none) : Fil q G0 H0 G0 (upd H0 q (.lst [])) [] := ⟨.new s h, same_refl _, same_new h, fun a h1 h2 => absurd h1 h2, h⟩
theorem Fil.after {G' H' H2 : Hp} {ψs : List Ty} (i : Fil q G0 H0 G H φs) (g : Grow G H G' H') (n : Fnd q G' H2 ψs) (b : SameBut q H' H2) : Fil q G0 H0 G' H2 ψs :=
  have j := i.grow g
  ⟨n, j.g, fun a o e => b a o (fun z => by subst z; rw [i.z] at e; cases e) (j.h a o e), j.f, j.z⟩
theorem Fil.fin (i : Fil q G0 H0 G H φs) : ∃ G', Grow G0 H0 G' H ∧ (tL φs).p G' (.ref q) := i.i.fin i.g i.h i.f i.z
/-- found.append(e) -/
theorem f_app {j : Nat} (i : Fil q G0 H0 G H φs) (hj : σ[j]? = some (some (.ref q))) (hl : φs.length < 100000) (h : PD te σ G H φ) (k : ∀ G' H2, Same G G' → Fil q G0 H0 G' H2 (φs ++ [φ]) → D.nx σ H2) :
    tDrop (tBM K "list" rAppend (tVar j) (tCons te tNil)) D σ H := s_app i.i hj hl h fun G' H' H2 g n b => k G' H2 g.g (i.after g n b)
/-- found[-1] = e -/
theorem f_last {j : Nat} {ψ : Ty} (i : Fil q G0 H0 G H (φs ++ [ψ])) (hj : σ[j]? = some (some (.ref q))) (h : PD te σ G H φ) (k : ∀ G' H2, Same G G' → Fil q G0 H0 G' H2 (φs ++ [φ]) → D.nx σ H2) :
    tAsg te (gSub (tVar j) (tUn rNegI (tC (.int 1))) rSetL) D σ H := s_last i.i hj h fun G' H' H2 g n b => k G' H2 g.g (i.after g n b)
/-- return tuple(found) -/
theorem f_tup {j : Nat} (i : Fil q G0 H0 G H φs) (hj : σ[j]? = some (some (.ref q))) (k : ∀ v G' H', Grow G0 H0 G' H' → (tT φs).p G' v → D.rt v H') :
    tRet (tCB (rTupOf K) (tCons (tVar j) tNil)) D σ H := by
  obtain ⟨vs, hq, hall⟩ := i.i.h
  refine ⟨_, hj, q, vs, rfl, .inl ⟨SqL.of hq, fun l hl => ?_⟩⟩
  have g2 : Grow G H (upd G l (.tup vs)) (upd H l (.tup vs)) := .new i.i.s hl
  have j2 := i.grow g2
  refine k _ _ _ ⟨j2.g, j2.h, g2.s, j2.f⟩ ⟨l, vs, rfl, upd_same, hall.mono g2.g⟩
/-- found = [] -/
theorem q_new {j : Nat} (s : Same G0 H0) (k : ∀ q, Fil q G0 H0 G0 (upd H0 q (.lst [])) [] → tz D (σ.set j (some (.ref q))) (upd H0 q (.lst []))) : tSeq (tAsg (tLst tNil) (gName j)) tz D σ H0 :=
  ⟨by decide, fun q hq => k q (.start s hq)⟩
/-- the list that is being filled, read where it stands -/
theorem Fil.var {j : Nat} (i : Fil q G0 H0 G H φs) (hj : σ[j]? = some (some (.ref q))) : PD (tVar j) σ H H (tL φs) := pd_var hj i.i.data
end
/-! ### promises -/
def sp_merged : Sp := spT fun φs φ => ∃ ps : List Pr, ps.length ≤ 50000 ∧ φs = [tL (ps.map tP)] ∧ φ = tSp (merged ps)
def sp_is_covered : Sp := spT fun φs φ => ∃ (sp : List Pr) (n : Int), sp.length ≤ 50000 ∧ φs = [tSp sp, tI n] ∧ φ = tBo (cov sp n)
def sp_is_wanted : Sp := spT fun φs φ => ∃ (a b : Bool) (w : Wd), φs = [tBo a, tBo b, tSt w.str] ∧ φ = tBo (wanted w a b)
def sp_combined : Sp := spT fun φs φ => ∃ (one other : List Pr) (w : Wd), one.length + other.length ≤ 2000 ∧ φs = [tSp one, tSp other, tSt w.str] ∧ φ = tSp (combined one other w)
def sp_spans_at : Sp := spT fun φs φ => ∃ (f : List Sl) (x : Int), φs = [tForm f, tI x] ∧ φ = tSp (spansAt f x)
def sp_tidy : Sp := spT fun φs φ => ∃ f : List Sl, f.length ≤ 50000 ∧ φs = [tL (f.map tSlb)] ∧ φ = tForm (tidy f)
def sp_cuts_of : Sp := spT fun φs φ => ∃ f : List Sl, f.length ≤ 2000 ∧ φs = [tForm f] ∧ φ = tL ((cutsOf f).map tI)
def sp_slabs_of : Sp := spT fun φs φ => ∃ bs : List Bx, bs.length ≤ 2000 ∧ φs = [tL (bs.map tB4)] ∧ φ = tForm (slabsOf bs)
def sp_boxes_of : Sp := spT fun φs φ => ∃ f : List Sl, (boxesOf f).length ≤ 50000 ∧ φs = [tForm f] ∧ φ = tL ((boxesOf f).map tB4)
def Small (f : List Sl) : Prop := f.length ≤ 1000 ∧ ∀ s ∈ f, s.2.2.length ≤ 1000
def sp_mixed : Sp := spT fun φs φ => ∃ (one other : List Sl) (w : Wd), Small one ∧ Small other ∧ φs = [tForm one, tForm other, tSt w.str] ∧ φ = tForm (mixed one other w)
def tOB : Option Bx → Ty
  | some b => tB4 b
  | none => tN
def sp_frame_of : Sp := spT fun φs φ => ∃ f : List Sl, f.length ≤ 50000 ∧ (∀ s ∈ f, s.2.2 ≠ []) ∧ φs = [tForm f] ∧ φ = tOB (frameOf f)
def sp_added_box : Sp := spT fun φs φ => ∃ b o : Bx, φs = [tB4 b, tB4 o] ∧ φ = tB4 (addedBox b o)
def sp_opposite : Sp := spT fun φs φ => ∃ b : Bx, φs = [tB4 b] ∧ φ = tB4 (opposite b)
def sp_grown : Sp := spT fun φs φ => ∃ (f : List Sl) (b : Bx), (boxesOf f).length ≤ 2000 ∧ φs = [tForm f, tB4 b] ∧ φ = tForm (grown f b)
/-- what shrunk needs -/
structure ShOk (f : List Sl) (b : Bx) : Prop where
  s : Small f
  n : (boxesOf f).length ≤ 2000
  p : Small (grown f (0 - b.1, 0 - b.2.1, 1 - b.1, 1 - b.2.1))
  e : ∀ s ∈ grown f (0 - b.1, 0 - b.2.1, 1 - b.1, 1 - b.2.1), s.2.2 ≠ []
  o : f ≠ [] → grown f (0 - b.1, 0 - b.2.1, 1 - b.1, 1 - b.2.1) ≠ []
  m : (boxesOf (mixed (slabsOf [addedBox ((frameOf (grown f (0 - b.1, 0 - b.2.1, 1 - b.1, 1 - b.2.1))).getD (0, 0, 0, 0)) b]) f .less)).length ≤ 2000
  g : Small (grown (mixed (slabsOf [addedBox ((frameOf (grown f (0 - b.1, 0 - b.2.1, 1 - b.1, 1 - b.2.1))).getD (0, 0, 0, 0)) b]) f .less) (opposite b))
def sp_shrunk : Sp := spT fun φs φ => ∃ (f : List Sl) (b : Bx), ShOk f b ∧ φs = [tForm f, tB4 b] ∧ φ = tForm (shrunk f b)

def t_merged (K : Fg) : TS :=
  (tSeq (tAsg (tLst tNil) (gName 1))
  (tSeq (tFor (iSeq K (tCB (rSortedPO K) (tCons (tVar 0) tNil))) (gTup K 2 (gCons (gName 2) (gCons (gName 3) gNil)))
  (tIfS (tAnd (tTest (tOp (rNeX K) (tVar 1) (tLst tNil))) (tTest (tOp rLeI (tVar 2) (tOp (rIx K) (tOp (rIx K) (tVar 1) (tUn rNegI (tC (.int 1)))) (tC (.int 1))))))
  (tAsg (tTup (tCons (tOp (rIx K) (tOp (rIx K) (tVar 1) (tUn rNegI (tC (.int 1)))) (tC (.int 0))) (tCons (tCB rMax2 (tCons (tVar 3) (tCons (tOp (rIx K) (tOp (rIx K) (tVar 1) (tUn rNegI (tC (.int 1)))) (tC (.int 1))) tNil))) tNil))) (gSub (tVar 1) (tUn rNegI (tC (.int 1))) rSetL))
  (tDrop (tBM K "list" rAppend (tVar 1) (tCons (tTup (tCons (tVar 2) (tCons (tVar 3) tNil))) tNil)))))
  (tRet (tCB (rTupOf K) (tCons (tVar 1) tNil)))))
def t_is_covered (K : Fg) : TS :=
  (tRet (tCB (rAny K) (tCons (tLc (iSeq K (tVar 0)) (gTup K 2 (gCons (gName 2) (gCons (gName 3) gNil))) tYes (tChain rLeI rLtI (tVar 2) (tVar 1) (tVar 3)) [2, 3]) tNil)))
def t_is_wanted (K : Fg) : TS :=
  (tSeq (tIfS (tTest (tOp (rEqX K) (tVar 2) (tC (.str ("or" : Str)))))
  (tRet (tOrV (tVar 0) (tVar 1)))
  tNext)
  (tSeq (tIfS (tTest (tOp (rEqX K) (tVar 2) (tC (.str ("and" : Str)))))
  (tRet (tAndV (tVar 0) (tVar 1)))
  tNext)
  (tRet (tIf (tTest (tOp (rEqX K) (tVar 2) (tC (.str ("either" : Str))))) (tOp (rNeX K) (tVar 0) (tVar 1)) (tAndV (tVar 0) (tNotV (tVar 1)))))))
def t_combined (K : Fg) : TS :=
  (tSeq (tAsg (tSort2 (iSeq K (tOp (rAddX K) (tVar 0) (tVar 1))) (gName 7) tYes (iSeq K (tVar 7)) (gName 8) tYes (tVar 8) [7, 8] [8]) (gName 3))
  (tSeq (tAsg (tLst tNil) (gName 4))
  (tSeq (tFor (iZip K (tCons (tVar 3) (tCons (tSl (rSlX K) (tVar 3) (tPart (tC (.int 1))) tNoPart) tNil))) (gTup K 2 (gCons (gName 5) (gCons (gName 6) gNil)))
  (tIfS (tB (tCall sp_is_wanted [] E0 (tCons (tCall sp_is_covered [] E0 (tCons (tVar 0) (tCons (tVar 5) tNil))) (tCons (tCall sp_is_covered [] E0 (tCons (tVar 1) (tCons (tVar 5) tNil))) (tCons (tVar 2) tNil)))))
  (tDrop (tBM K "list" rAppend (tVar 4) (tCons (tTup (tCons (tVar 5) (tCons (tVar 6) tNil))) tNil)))
  tNext))
  (tRet (tCall sp_merged [] E0 (tCons (tVar 4) tNil))))))
def t_spans_at (K : Fg) : TS :=
  (tSeq (tFor (iSeq K (tVar 0)) (gTup K 3 (gCons (gName 2) (gCons (gName 3) (gCons (gName 4) gNil))))
  (tIfS (tTest (tChain rLeI rLtI (tVar 2) (tVar 1) (tVar 3)))
  (tRet (tVar 4))
  tNext))
  (tRet (tTup tNil)))
def t_tidy (K : Fg) : TS :=
  (tSeq (tAsg (tLst tNil) (gName 1))
  (tSeq (tFor (iSeq K (tVar 0)) (gTup K 3 (gCons (gName 2) (gCons (gName 3) (gCons (gName 4) gNil))))
  (tIfS (tAnd (tTest (tOp (rNeX K) (tVar 1) (tLst tNil))) (tAnd (tTest (tOp (rEqX K) (tOp (rIx K) (tOp (rIx K) (tVar 1) (tUn rNegI (tC (.int 1)))) (tC (.int 1))) (tVar 2))) (tTest (tOp (rEqX K) (tOp (rIx K) (tOp (rIx K) (tVar 1) (tUn rNegI (tC (.int 1)))) (tC (.int 2))) (tVar 4)))))
  (tAsg (tTup (tCons (tOp (rIx K) (tOp (rIx K) (tVar 1) (tUn rNegI (tC (.int 1)))) (tC (.int 0))) (tCons (tVar 3) (tCons (tVar 4) tNil)))) (gSub (tVar 1) (tUn rNegI (tC (.int 1))) rSetL))
  (tIfS (tTest (tOp (rNeX K) (tVar 4) (tTup tNil)))
  (tDrop (tBM K "list" rAppend (tVar 1) (tCons (tTup (tCons (tVar 2) (tCons (tVar 3) (tCons (tVar 4) tNil)))) tNil)))
  tNext)))
  (tRet (tCB (rTupOf K) (tCons (tVar 1) tNil)))))
def t_cuts_of (K : Fg) : TS :=
  (tRet (tSort2 (iSeq K (tVar 0)) (gTup K 3 (gCons (gName 1) (gCons (gName 2) (gCons (gName 3) gNil)))) tYes (iSeq K (tTup (tCons (tVar 1) (tCons (tVar 2) tNil)))) (gName 4) tYes (tVar 4) [1, 2, 3, 4] [4]))
def t_slabs_of (K : Fg) : TS :=
  (tSeq (tAsg (tSort2 (iSeq K (tVar 0)) (gTup K 4 (gCons (gName 6) (gCons (gName 7) (gCons (gName 8) (gCons (gName 9) gNil))))) tYes (iSeq K (tTup (tCons (tVar 6) (tCons (tVar 8) tNil)))) (gName 10) tYes (tVar 10) [6, 7, 8, 9, 10] [10]) (gName 1))
  (tSeq (tAsg (tLst tNil) (gName 2))
  (tSeq (tFor (iZip K (tCons (tVar 1) (tCons (tSl (rSlX K) (tVar 1) (tPart (tC (.int 1))) tNoPart) tNil))) (gTup K 2 (gCons (gName 3) (gCons (gName 4) gNil)))
  (tSeq (tAsg (tCall sp_merged [] E0 (tCons (tLc (iSeq K (tVar 0)) (gTup K 4 (gCons (gName 6) (gCons (gName 7) (gCons (gName 8) (gCons (gName 9) gNil))))) (tTest (tChain rLeI rLtI (tVar 6) (tVar 3) (tVar 8))) (tTup (tCons (tVar 7) (tCons (tVar 9) tNil))) [6, 7, 8, 9]) tNil)) (gName 5))
  (tDrop (tBM K "list" rAppend (tVar 2) (tCons (tTup (tCons (tVar 3) (tCons (tVar 4) (tCons (tVar 5) tNil)))) tNil)))))
  (tRet (tCall sp_tidy [] E0 (tCons (tVar 2) tNil))))))
def t_boxes_of (K : Fg) : TS :=
  (tRet (tLc2 (iSeq K (tVar 0)) (gTup K 3 (gCons (gName 1) (gCons (gName 2) (gCons (gName 3) gNil)))) tYes (iSeq K (tVar 3)) (gTup K 2 (gCons (gName 4) (gCons (gName 5) gNil))) tYes (tTup (tCons (tVar 1) (tCons (tVar 4) (tCons (tVar 2) (tCons (tVar 5) tNil))))) [1, 2, 3, 4, 5] [4, 5]))
def t_mixed (K : Fg) : TS :=
  (tSeq (tAsg (tCall sp_cuts_of [] E0 (tCons (tOp (rAddX K) (tVar 0) (tVar 1)) tNil)) (gName 3))
  (tSeq (tAsg (tLst tNil) (gName 4))
  (tSeq (tFor (iZip K (tCons (tVar 3) (tCons (tSl (rSlX K) (tVar 3) (tPart (tC (.int 1))) tNoPart) tNil))) (gTup K 2 (gCons (gName 5) (gCons (gName 6) gNil)))
  (tDrop (tBM K "list" rAppend (tVar 4) (tCons (tTup (tCons (tVar 5) (tCons (tVar 6) (tCons (tCall sp_combined [] E0 (tCons (tCall sp_spans_at [] E0 (tCons (tVar 0) (tCons (tVar 5) tNil))) (tCons (tCall sp_spans_at [] E0 (tCons (tVar 1) (tCons (tVar 5) tNil))) (tCons (tVar 2) tNil)))) tNil)))) tNil))))
  (tRet (tCall sp_tidy [] E0 (tCons (tVar 4) tNil))))))
def t_frame_of (K : Fg) : TS :=
  (tSeq (tIfS (tTest (tOp (rEqX K) (tVar 0) (tTup tNil)))
  (tRet (tC .non))
  tNext)
  (tSeq (tAsg (tCB (rMin K) (tCons (tLc (iSeq K (tVar 0)) (gTup K 3 (gCons (gName 3) (gCons (gName 4) (gCons (gName 5) gNil)))) tYes (tOp (rIx K) (tOp (rIx K) (tVar 5) (tC (.int 0))) (tC (.int 0))) [3, 4, 5]) tNil)) (gName 1))
  (tSeq (tAsg (tCB (rMax K) (tCons (tLc (iSeq K (tVar 0)) (gTup K 3 (gCons (gName 3) (gCons (gName 4) (gCons (gName 5) gNil)))) tYes (tOp (rIx K) (tOp (rIx K) (tVar 5) (tUn rNegI (tC (.int 1)))) (tC (.int 1))) [3, 4, 5]) tNil)) (gName 2))
  (tRet (tTup (tCons (tOp (rIx K) (tOp (rIx K) (tVar 0) (tC (.int 0))) (tC (.int 0))) (tCons (tVar 1) (tCons (tOp (rIx K) (tOp (rIx K) (tVar 0) (tUn rNegI (tC (.int 1)))) (tC (.int 1))) (tCons (tVar 2) tNil)))))))))
def t_added_box (K : Fg) : TS :=
  (tRet (tTup (tCons (tOp (rAddX K) (tOp (rIx K) (tVar 0) (tC (.int 0))) (tOp (rIx K) (tVar 1) (tC (.int 0)))) (tCons (tOp (rAddX K) (tOp (rIx K) (tVar 0) (tC (.int 1))) (tOp (rIx K) (tVar 1) (tC (.int 1)))) (tCons (tOp rSubI (tOp (rAddX K) (tOp (rIx K) (tVar 0) (tC (.int 2))) (tOp (rIx K) (tVar 1) (tC (.int 2)))) (tC (.int 1))) (tCons (tOp rSubI (tOp (rAddX K) (tOp (rIx K) (tVar 0) (tC (.int 3))) (tOp (rIx K) (tVar 1) (tC (.int 3)))) (tC (.int 1))) tNil))))))
def t_opposite (K : Fg) : TS :=
  (tRet (tTup (tCons (tOp rSubI (tC (.int 1)) (tOp (rIx K) (tVar 0) (tC (.int 2)))) (tCons (tOp rSubI (tC (.int 1)) (tOp (rIx K) (tVar 0) (tC (.int 3)))) (tCons (tOp rSubI (tC (.int 1)) (tOp (rIx K) (tVar 0) (tC (.int 0)))) (tCons (tOp rSubI (tC (.int 1)) (tOp (rIx K) (tVar 0) (tC (.int 1)))) tNil))))))
def t_grown (K : Fg) : TS :=
  (tRet (tCall sp_slabs_of [] E0 (tCons (tLc (iSeq K (tCall sp_boxes_of [] E0 (tCons (tVar 0) tNil))) (gName 2) tYes (tCall sp_added_box [] E0 (tCons (tVar 2) (tCons (tVar 1) tNil))) [2]) tNil)))
def t_shrunk (K : Fg) : TS :=
  (tSeq (tIfS (tTest (tOp (rEqX K) (tVar 0) (tTup tNil)))
  (tRet (tTup tNil))
  tNext)
  (tSeq (tAsg (tTup (tCons (tOp rSubI (tC (.int 0)) (tOp (rIx K) (tVar 1) (tC (.int 0)))) (tCons (tOp rSubI (tC (.int 0)) (tOp (rIx K) (tVar 1) (tC (.int 1)))) (tCons (tOp rSubI (tC (.int 1)) (tOp (rIx K) (tVar 1) (tC (.int 0)))) (tCons (tOp rSubI (tC (.int 1)) (tOp (rIx K) (tVar 1) (tC (.int 1)))) tNil))))) (gName 2))
  (tSeq (tAsg (tCall sp_grown [] E0 (tCons (tVar 0) (tCons (tVar 2) tNil))) (gName 3))
  (tSeq (tAsg (tCall sp_mixed [] E0 (tCons (tCall sp_slabs_of [] E0 (tCons (tLst (tCons (tCall sp_added_box [] E0 (tCons (tCall sp_frame_of [] E0 (tCons (tVar 3) tNil)) (tCons (tVar 1) tNil))) tNil)) tNil)) (tCons (tVar 0) (tCons (tC (.str ("less" : Str))) tNil)))) (gName 4))
  (tRet (tCall sp_mixed [] E0 (tCons (tVar 3) (tCons (tCall sp_grown [] E0 (tCons (tVar 4) (tCons (tCall sp_opposite [] E0 (tCons (tVar 1) tNil)) tNil))) (tCons (tC (.str ("less" : Str))) tNil)))))))))
section
variable {K : Fg}
theorem wd_eq (w : Wd) (x : Str) : scal (.str w.str) (.str x) = true := rfl
theorem pure_is_covered : ∀ vs H (Q : VK) (E : XK), sp_is_covered vs H Q E → t_is_covered K { nx := fun _ H' => Q .non H', rt := Q } (L2.start ["spans", "number", "a", "b"] vs) H := by
  refine pureT ?_
  rintro G φs φ vs H s1 hv ⟨sp, n, hz, rfl, rfl⟩ D k
  obtain ⟨v0, v1, rfl, h0, h1⟩ := all2 hv
  cases h1
  refine s_ret (G := G) (R := G) (φ := tBo (cov sp n)) ?_ s1 s1 k
  have e : cov sp n = ((sp.map fun s => decide (s.1 ≤ n) && decide (n < s.2))).any id := by
    rw [List.any_map]
    rfl
  rw [e]
  refine pd_any ?_
  rw [List.map_map]
  refine pd_lcM (xs := sp) (φ := tP) (PD.sqT (pd_var rfl h0)) (Nat.le_trans hz (by decide)) ?_
  intro a ha x Gi Ri s1 s2 s3 hx
  obtain ⟨v, w, p1, p2, gd⟩ := gd_2 (K := K) (i := 2) (j := 3) (σ := wipe (L2.start ["spans", "number", "a", "b"] [v0, .int n]) [2, 3]) hx
  cases p1
  cases p2
  exact ⟨_, gd, rfl, pd_chain (pd_var rfl rfl) (pd_var rfl rfl) (pd_var rfl rfl) (fun H Q q => ⟨_, _, rfl, rfl, q⟩) (fun H Q q => ⟨_, _, rfl, rfl, q⟩)⟩
theorem len_is_covered : ∀ vs H Q E, sp_is_covered vs H Q E → vs.length = (["spans", "number"] : List Str).length := lenT (by rintro φs φ ⟨_, _, _, rfl, _⟩; rfl)
theorem pure_is_wanted : ∀ vs H (Q : VK) (E : XK), sp_is_wanted vs H Q E → t_is_wanted K { nx := fun _ H' => Q .non H', rt := Q } (L2.start ["in_one", "in_other", "word"] vs) H := by
  refine pureT ?_
  rintro G φs φ vs H s1 hv ⟨a, b, w, rfl, rfl⟩ D k
  obtain ⟨v0, v1, v2, rfl, h0, h1, h2⟩ := all3 hv
  cases h0
  cases h1
  cases h2
  refine q_when (R := H) (b := decide (V.str w.str = V.str "or")) (td_test (pd_eqv (pd_var rfl rfl) pd_c rfl)) (same_refl _) (fun q H1 g1 => ?_) (fun q H1 g1 => ?_)
  · have e : w = .or := by cases w <;> first | rfl | (revert q; decide)
    subst e
    exact s_ret (G := G) (R := H1) (pd_orV (a := a) (b := b) (pd_var rfl rfl) fun _ => pd_var rfl rfl) (same_refl _) (s1.trans g1) fun v G' H' g hv => k v G' H' ((Grow.rest s1 g1).trans g) hv
  refine q_when (R := H1) (b := decide (V.str w.str = V.str "and")) (td_test (pd_eqv (pd_var rfl rfl) pd_c rfl)) (same_refl _) (fun q2 H2 g2 => ?_) (fun q2 H2 g2 => ?_)
  · have e : w = .and := by cases w <;> first | rfl | (revert q2; decide)
    subst e
    exact s_ret (G := G) (R := H2) (pd_andV (a := a) (b := b) (pd_var rfl rfl) fun _ => pd_var rfl rfl) (same_refl _) (s1.trans (g1.trans g2)) fun v G' H' g hv => k v G' H' ((Grow.rest s1 (g1.trans g2)).trans g) hv
  refine s_ret (G := G) (R := H2) (φ := tBo (wanted w a b)) (pd_if (b := decide (V.str w.str = V.str "either")) (td_test (pd_eqv (pd_var rfl rfl) pd_c rfl)) (fun q3 => ?_) (fun q3 => ?_)) (same_refl _) (s1.trans (g1.trans g2)) fun v G' H' g hv => k v G' H' ((Grow.rest s1 (g1.trans g2)).trans g) hv
  · have e : w = .either := by cases w <;> first | rfl | (revert q3; decide)
    subst e
    refine PD.is (pd_nev (x := .bl a) (y := .bl b) (pd_var rfl rfl) (pd_var rfl rfl) rfl) ?_
    cases a <;> cases b <;> rfl
  · have e : w = .less := by
      cases w
      · exact absurd q (by decide)
      · exact absurd q2 (by decide)
      · exact absurd q3 (by decide)
      · rfl
    subst e
    exact pd_andV (pd_var rfl rfl) fun _ => pd_notV (pd_var rfl rfl)
theorem len_is_wanted : ∀ vs H Q E, sp_is_wanted vs H Q E → vs.length = (["in_one", "in_other", "word"] : List Str).length := lenT (by rintro φs φ ⟨_, _, _, rfl, _⟩; rfl)
theorem b4_0 {σ : St} {G R : Hp} {j : Nat} {v : V} {b : Bx} (hj : σ[j]? = some (some v)) (h : (tB4 b).p G v) : PD (tOp (rIx K) (tVar j) (tC (.int 0))) σ G R (tI b.1) := pd_ixTX (φs := [tI b.1, tI b.2.1, tI b.2.2.1, tI b.2.2.2]) (pd_var hj h) pd_c rfl
theorem b4_1 {σ : St} {G R : Hp} {j : Nat} {v : V} {b : Bx} (hj : σ[j]? = some (some v)) (h : (tB4 b).p G v) : PD (tOp (rIx K) (tVar j) (tC (.int 1))) σ G R (tI b.2.1) := pd_ixTX (φs := [tI b.1, tI b.2.1, tI b.2.2.1, tI b.2.2.2]) (pd_var hj h) pd_c rfl
theorem b4_2 {σ : St} {G R : Hp} {j : Nat} {v : V} {b : Bx} (hj : σ[j]? = some (some v)) (h : (tB4 b).p G v) : PD (tOp (rIx K) (tVar j) (tC (.int 2))) σ G R (tI b.2.2.1) := pd_ixTX (φs := [tI b.1, tI b.2.1, tI b.2.2.1, tI b.2.2.2]) (pd_var hj h) pd_c rfl
theorem b4_3 {σ : St} {G R : Hp} {j : Nat} {v : V} {b : Bx} (hj : σ[j]? = some (some v)) (h : (tB4 b).p G v) : PD (tOp (rIx K) (tVar j) (tC (.int 3))) σ G R (tI b.2.2.2) := pd_ixTX (φs := [tI b.1, tI b.2.1, tI b.2.2.1, tI b.2.2.2]) (pd_var hj h) pd_c rfl
theorem pd_b4 {σ : St} {G R : Hp} {a b c d : TE} {i j k l : Int} (h1 : PD a σ G R (tI i)) (h2 : PD b σ G R (tI j)) (h3 : PD c σ G R (tI k)) (h4 : PD d σ G R (tI l)) : PD (tTup (tCons a (tCons b (tCons c (tCons d tNil))))) σ G R (tB4 (i, j, k, l)) :=
  pd_tup (φs := [tI i, tI j, tI k, tI l]) (ad_cons h1 (ad_cons h2 (ad_cons h3 (ad_cons h4 ad_nil)))) (by simp)
theorem pure_added_box : ∀ vs H (Q : VK) (E : XK), sp_added_box vs H Q E → t_added_box K { nx := fun _ H' => Q .non H', rt := Q } (L2.start ["box", "other"] vs) H := by
  refine pureT ?_
  rintro G φs φ vs H s1 hv ⟨b, o, rfl, rfl⟩ D k
  obtain ⟨v0, v1, rfl, h0, h1⟩ := all2 hv
  refine s_ret (G := G) (R := G) (φ := tB4 (addedBox b o)) ?_ s1 s1 k
  refine pd_b4 (i := b.1 + o.1) (j := b.2.1 + o.2.1) (k := b.2.2.1 + o.2.2.1 - 1) (l := b.2.2.2 + o.2.2.2 - 1) ?_ ?_ ?_ ?_
  · exact pd_add (b4_0 rfl h0) (b4_0 rfl h1)
  · exact pd_add (b4_1 rfl h0) (b4_1 rfl h1)
  · exact pd_sub (pd_add (b4_2 rfl h0) (b4_2 rfl h1)) pd_c
  · exact pd_sub (pd_add (b4_3 rfl h0) (b4_3 rfl h1)) pd_c
theorem len_added_box : ∀ vs H Q E, sp_added_box vs H Q E → vs.length = (["box", "other"] : List Str).length := lenT (by rintro φs φ ⟨_, _, rfl, _⟩; rfl)
theorem pure_opposite : ∀ vs H (Q : VK) (E : XK), sp_opposite vs H Q E → t_opposite K { nx := fun _ H' => Q .non H', rt := Q } (L2.start ["box"] vs) H := by
  refine pureT ?_
  rintro G φs φ vs H s1 hv ⟨b, rfl, rfl⟩ D k
  obtain ⟨v0, rfl, h0⟩ := all1 hv
  refine s_ret (G := G) (R := G) (φ := tB4 (opposite b)) ?_ s1 s1 k
  refine pd_b4 (i := 1 - b.2.2.1) (j := 1 - b.2.2.2) (k := 1 - b.1) (l := 1 - b.2.1) ?_ ?_ ?_ ?_
  · exact pd_sub pd_c (b4_2 rfl h0)
  · exact pd_sub pd_c (b4_3 rfl h0)
  · exact pd_sub pd_c (b4_0 rfl h0)
  · exact pd_sub pd_c (b4_1 rfl h0)
theorem len_opposite : ∀ vs H Q E, sp_opposite vs H Q E → vs.length = (["box"] : List Str).length := lenT (by rintro φs φ ⟨_, rfl, _⟩; rfl)
theorem pure_boxes_of : ∀ vs H (Q : VK) (E : XK), sp_boxes_of vs H Q E → t_boxes_of K { nx := fun _ H' => Q .non H', rt := Q } (L2.start ["slabs", "x1", "x2", "spans", "y1", "y2"] vs) H := by
  refine pureT ?_
  rintro G φs φ vs H s1 hv ⟨f, hz, rfl, rfl⟩ D k
  obtain ⟨v0, rfl, h0⟩ := all1 hv
  refine s_ret (G := G) (R := G) (φ := tL ((boxesOf f).map tB4)) ?_ s1 s1 k
  have e : (boxesOf f).map tB4 = f.flatMap fun s => s.2.2.map fun p => tB4 (s.1, p.1, s.2.1, p.2) := by
    unfold boxesOf
    rw [List.map_flatMap]
    congr 1
    funext s
    rw [List.map_map]
    rfl
  have hz' : (f.flatMap fun s => s.2.2.map fun p => tB4 (s.1, p.1, s.2.1, p.2)).length ≤ 90000 := by
    rw [← e, List.length_map]
    exact Nat.le_trans hz (by decide)
  rw [e]
  refine pd_lc2 (xs := f) (φ := tSlb) (bs := fun s => s.2.2) (ψ := fun _ p => tP p) (χ := fun s p => tB4 (s.1, p.1, s.2.1, p.2)) (PD.sqT (pd_var rfl h0)) hz' ?_
  intro s hs x Gi Ri s1 s2 s3 hx
  obtain ⟨a, b, c, p1, p2, p3, gd⟩ := gd_3 (K := K) (i := 1) (j := 2) (k := 3) (σ := [some v0, none, none, none, none, none]) hx
  cases p1
  cases p2
  refine ⟨[some v0, some (.int s.1), some (.int s.2.1), some c, none, none], gd, rfl, PD.sqT (pd_var rfl p3), ?_⟩
  intro p hp y Gj Rj s4 s5 s6 hy
  obtain ⟨a', b', q1, q2, gd'⟩ := gd_2 (K := K) (i := 4) (j := 5) (σ := [some v0, some (.int s.1), some (.int s.2.1), some c, none, none]) hy
  cases q1
  cases q2
  exact ⟨[some v0, some (.int s.1), some (.int s.2.1), some c, some (.int p.1), some (.int p.2)], gd', rfl, pd_b4 (pd_var rfl rfl) (pd_var rfl rfl) (pd_var rfl rfl) (pd_var rfl rfl)⟩
theorem len_boxes_of : ∀ vs H Q E, sp_boxes_of vs H Q E → vs.length = (["slabs"] : List Str).length := lenT (by rintro φs φ ⟨_, _, rfl, _⟩; rfl)
theorem pure_cuts_of : ∀ vs H (Q : VK) (E : XK), sp_cuts_of vs H Q E → t_cuts_of K { nx := fun _ H' => Q .non H', rt := Q } (L2.start ["slabs", "x1", "x2", "spans", "x"] vs) H := by
  refine pureT ?_
  rintro G φs φ vs H s1 hv ⟨f, hz, rfl, rfl⟩ D k
  obtain ⟨v0, rfl, h0⟩ := all1 hv
  refine s_ret (G := G) (R := G) (φ := tL ((cutsOf f).map tI)) ?_ s1 s1 k
  have e : cutsOf f = sd (f.flatMap fun s => ([s.1, s.2.1].map fun i : Int => i)) := by
    unfold cutsOf
    simp only [List.map_cons, List.map_nil]
  have hz' : (f.flatMap fun s => ([s.1, s.2.1].map fun i : Int => i)).length ≤ 4000 := by
    have : ∀ f : List Sl, (f.flatMap fun s => ([s.1, s.2.1].map fun i : Int => i)).length = 2 * f.length := by
      intro f
      induction f with
      | nil => rfl
      | cons x xs ih => rw [List.flatMap_cons, List.length_append, ih]; simp; omega
    rw [this]
    omega
  rw [e]
  refine pd_sort2 (xs := f) (φ := tSlb) (bs := fun s => [s.1, s.2.1]) (ψ := fun _ i => tI i) (val := fun _ i => i) (PD.sqT (pd_var rfl h0)) hz' ?_
  intro s hs x Gi Ri s1 s2 s3 hx
  obtain ⟨a, b, c, p1, p2, p3, gd⟩ := gd_3 (K := K) (i := 1) (j := 2) (k := 3) (σ := [some v0, none, none, none, none]) hx
  cases p1
  cases p2
  refine ⟨[some v0, some (.int s.1), some (.int s.2.1), some c, none], gd, rfl, PD.sqT (pd_tup (φs := [tI s.1, tI s.2.1]) (ad_cons (pd_var rfl rfl) (ad_cons (pd_var rfl rfl) ad_nil)) (by simp)), ?_⟩
  intro i hi y Gj Rj s4 s5 s6 hy
  cases hy
  exact ⟨[some v0, some (.int s.1), some (.int s.2.1), some c, some (.int i)], gd_name, rfl, pd_var rfl rfl⟩
theorem len_cuts_of : ∀ vs H Q E, sp_cuts_of vs H Q E → vs.length = (["slabs"] : List Str).length := lenT (by rintro φs φ ⟨_, _, rfl, _⟩; rfl)
end
end BR
/-! The program's defs with loops: walks. -/
namespace BR
open PySem PySem.Spec PyProof.Rows L2
section
variable {K : Fg}
theorem foldl_take {α β : Type} {f : β → α → β} {b : β} {xs : List α} {i : Nat} {a : α} (h : xs[i]? = some a) : (xs.take (i + 1)).foldl f b = f ((xs.take i).foldl f b) a := by
  rw [take_succ_of h, List.foldl_append]
  rfl
theorem mstep_len (f : List Pr) (p : Pr) : (mstep f p).length ≤ f.length + 1 := by
  unfold mstep
  split
  · split
    · simp
    · simp
  · simp
theorem foldl_len {α β : Type} {f : List β → α → List β} (h : ∀ x a, (f x a).length ≤ x.length + 1) : ∀ (xs : List α) (b : List β), (xs.foldl f b).length ≤ b.length + xs.length
  | [], b => by simp
  | x :: xs, b => by
    have := foldl_len h xs (f b x)
    have := h b x
    simp only [List.foldl_cons, List.length_cons]
    omega
theorem tP_map_dt (ps : List Pr) : ps.map tP = (ps.map dP).map dt := by
  rw [List.map_map]
  exact List.map_congr_left fun p _ => (dt_P p).symm
theorem shaped_L (ps : List Pr) : SeqAt.shaped (.list (ps.map dP)) = true := (Lay.list (n := 3) fun d hd => by
  obtain ⟨p, _, rfl⟩ := List.mem_map.mp hd
  exact lay_P p).shaped (by decide)
theorem isEmpty_map {α β : Type} {f : α → β} (l : List α) : (l.map f).isEmpty = l.isEmpty := by cases l <;> rfl
/-- found[-1][c] -/
theorem last_of {α : Type} {xs : List α} {x : α} (h : xs.getLast? = some x) : xs = xs.dropLast ++ [x] := by
  rcases List.eq_nil_or_concat xs with rfl | ⟨ys, y, rfl⟩
  · cases h
  · simp only [List.concat_eq_append, List.getLast?_append, List.getLast?_singleton, Option.some_or, Option.some.injEq] at h
    rw [h]
    simp
theorem getLast_none {α : Type} {xs : List α} (h : xs.getLast? = none) : xs = [] := by simpa using h
theorem pure_merged : ∀ vs H (Q : VK) (E : XK), sp_merged vs H Q E → t_merged K { nx := fun _ H' => Q .non H', rt := Q } (L2.start ["pairs", "found", "a", "b"] vs) H := by
  refine pureT ?_
  rintro G φs φ vs H s1 hv ⟨ps, hz, rfl, rfl⟩ D k
  obtain ⟨v0, rfl, h0⟩ := all1 hv
  refine q_new s1 fun q F0 => ?_
  refine q_for (xs := srt ps) (φ := tP) (σ := [some v0, some (.ref q), none, none]) (G := G) (R := G) (PD.sqL (pd_sortedP (pd_var rfl h0))) F0.i.s F0.i.s
    (fun i σ' Gi Hi => ∃ x y, σ' = [some v0, some (.ref q), x, y] ∧ Fil q G H Gi Hi ((((srt ps).take i).foldl mstep []).map tP)) (fun G1 H1 g1 => ⟨none, none, rfl, F0.grow g1⟩) ?_ ?_
  · rintro G1 H1 g1 i a x σ' Gi Hi hi sg sh hx ⟨x', y', rfl, F⟩
    obtain ⟨v, w, p1, p2, gd⟩ := gd_2 (K := K) (i := 2) (j := 3) (σ := [some v0, some (.ref q), x', y']) hx
    cases p1
    cases p2
    refine gd Hi sh _ ?_
    show tIfS _ _ _ _ [some v0, some (.ref q), some (.int a.1), some (.int a.2)] Hi
    generalize hf : ((srt ps).take i).foldl mstep [] = f at F
    have hl : f.length < 100000 := by
      rw [← hf]
      have := foldl_len mstep_len ((srt ps).take i) []
      have := (srt_perm ps).length_eq
      simp only [List.length_take, List.length_nil] at *
      omega
    have next : ∀ G' H2, Same Gi G' → Fil q G H G' H2 ((mstep f a).map tP) → ∃ G3, Same G1 G3 ∧ Same G3 H2 ∧ ∃ x y, [some v0, some (V.ref q), some (.int a.1), some (.int a.2)] = [some v0, some (.ref q), x, y] ∧ Fil q G H G3 H2 ((((srt ps).take (i + 1)).foldl mstep []).map tP) := fun G' H2 s2 F2 =>
      ⟨G', sg.trans s2, F2.i.s, _, _, rfl, by rw [foldl_take hi, hf]; exact F2⟩
    have vl : ∀ {R : Hp}, Same Hi R → PD (tVar 1) [some v0, some (.ref q), some (.int a.1), some (.int a.2)] R R (tL (f.map tP)) := fun s => (F.same s).var rfl
    have nn : TD (tTest (tOp (rNeX K) (tVar 1) (tLst tNil))) [some v0, some (.ref q), some (.int a.1), some (.int a.2)] Hi (!f.isEmpty) := by
      have z := vl (same_refl Hi)
      rw [tP_map_dt] at z
      have y := pd_neNil (K := K) z (shaped_L f)
      rw [isEmpty_map] at y
      exact td_test y
    cases hg : f.getLast? with
    | none =>
      have e := getLast_none hg
      refine s_if (b := false) (R := Hi) (TD.is (td_and (b := false) nn fun z => ?_) ?_) (same_refl _) (fun z => nomatch z) fun _ H2 s2 => ?_
      · rw [e] at z
        cases z
      · rw [e]
        rfl
      · refine f_app (F.same s2) rfl (by rw [List.length_map]; exact hl) (φ := tP a) (pd_tup (φs := [tI a.1, tI a.2]) (ad_cons (pd_var rfl rfl) (ad_cons (pd_var rfl rfl) ad_nil)) (by simp)) fun G' H3 s3 F3 => next G' H3 s3 ?_
        have e2 : mstep f a = f ++ [a] := by
          rw [e]
          rfl
        rw [e2, List.map_append]
        exact F3
    | some l =>
      have e := last_of hg
      have hm : f.map tP = f.dropLast.map tP ++ [tP l] := by
        conv => lhs; rw [e, List.map_append]
        rfl
      have ix1 : ∀ {R : Hp}, Same Hi R → PD (tOp (rIx K) (tOp (rIx K) (tVar 1) (tUn rNegI (tC (.int 1)))) (tC (.int 1))) [some v0, some (.ref q), some (.int a.1), some (.int a.2)] R R (tI l.2) := fun s => by
        have z := vl s
        rw [hm] at z
        exact pd_ixTX (φs := [tI l.1, tI l.2]) (i := 1) (pd_ixLX (φ := tP l) z (pd_neg pd_c) at_last) pd_c rfl
      have ix0 : ∀ {R : Hp}, Same Hi R → PD (tOp (rIx K) (tOp (rIx K) (tVar 1) (tUn rNegI (tC (.int 1)))) (tC (.int 0))) [some v0, some (.ref q), some (.int a.1), some (.int a.2)] R R (tI l.1) := fun s => by
        have z := vl s
        rw [hm] at z
        exact pd_ixTX (φs := [tI l.1, tI l.2]) (i := 0) (pd_ixLX (φ := tP l) z (pd_neg pd_c) at_last) pd_c rfl
      refine s_if (b := decide (a.1 ≤ l.2)) (R := Hi) (TD.is (td_and nn fun z => td_test (pd_le (pd_var rfl rfl) (ix1 (same_refl _)))) ?_) (same_refl _) (fun z H2 s2 => ?_) fun z H2 s2 => ?_
      · have : f.isEmpty = false := by
          rw [e]
          simp
        rw [this] <;> rfl
      · have F2 := F.same s2
        rw [hm] at F2
        refine f_last F2 rfl (φ := tP (l.1, max a.2 l.2)) (pd_tup (φs := [tI l.1, tI (max a.2 l.2)]) (ad_cons ((ix0 s2).val) (ad_cons (pd_max2 (pd_var rfl rfl) (ix1 s2).val) ad_nil)) (by simp)) fun G' H3 s3 F3 => next G' H3 s3 ?_
        have e2 : mstep f a = f.dropLast ++ [(l.1, max a.2 l.2)] := by
          unfold mstep
          rw [hg]
          exact if_pos (of_decide_eq_true z)
        rw [e2, List.map_append]
        exact F3
      · refine f_app (F.same s2) rfl (by rw [List.length_map]; exact hl) (φ := tP a) (pd_tup (φs := [tI a.1, tI a.2]) (ad_cons (pd_var rfl rfl) (ad_cons (pd_var rfl rfl) ad_nil)) (by simp)) fun G' H3 s3 F3 => next G' H3 s3 ?_
        have e2 : mstep f a = f ++ [a] := by
          unfold mstep
          rw [hg]
          exact if_neg (of_decide_eq_false z)
        rw [e2, List.map_append]
        exact F3
  · rintro G1 H1 g1 σ' Gi Hi sg sh ⟨x, y, rfl, F⟩
    rw [List.take_length] at F
    exact f_tup F rfl k
theorem len_merged : ∀ vs H Q E, sp_merged vs H Q E → vs.length = (["pairs"] : List Str).length := lenT (by rintro φs φ ⟨_, _, rfl, _⟩; rfl)
theorem pure_spans_at : ∀ vs H (Q : VK) (E : XK), sp_spans_at vs H Q E → t_spans_at K { nx := fun _ H' => Q .non H', rt := Q } (L2.start ["slabs", "x", "x1", "x2", "spans"] vs) H := by
  refine pureT ?_
  rintro G φs φ vs H s1 hv ⟨f, n, rfl, rfl⟩ D k
  obtain ⟨v0, v1, rfl, h0, h1⟩ := all2 hv
  cases h1
  refine q_for (xs := f) (φ := tSlb) (σ := [some v0, some (.int n), none, none, none]) (G := G) (R := G) (PD.sqT (pd_var rfl h0)) s1 s1
    (fun i σ' Gi Hi => (∃ x y z, σ' = [some v0, some (.int n), x, y, z]) ∧ Same G Gi ∧ Same H Hi ∧ (∀ a, G a = none → Gi a ≠ none → H a = none) ∧ ∀ s ∈ f.take i, (decide (s.1 ≤ n) && decide (n < s.2.1)) = false)
    (fun G1 H1 g1 => ⟨⟨none, none, none, rfl⟩, g1.g, g1.h, g1.f, by simp⟩) ?_ ?_
  · rintro G1 H1 g1 i a x σ' Gi Hi hi sg sh hx ⟨⟨x', y', z', rfl⟩, i1, i2, i3, i4⟩
    obtain ⟨v, w, u, p1, p2, p3, gd⟩ := gd_3 (K := K) (i := 2) (j := 3) (k := 4) (σ := [some v0, some (.int n), x', y', z']) hx
    cases p1
    cases p2
    refine gd Hi sh _ ?_
    show tIfS _ _ _ _ [some v0, some (.int n), some (.int a.1), some (.int a.2.1), some u] Hi
    refine s_when (b := decide (a.1 ≤ n) && decide (n < a.2.1)) (R := Hi) (td_test (pd_chain (pd_var rfl rfl) (pd_var rfl rfl) (pd_var rfl rfl) (fun H Q q => ⟨_, _, rfl, rfl, q⟩) (fun H Q q => ⟨_, _, rfl, rfl, q⟩))) (same_refl _) (fun z H2 s2 => ?_) (fun z H2 s2 => ?_)
    · have e : spansAt f n = a.2.2 := by
        unfold spansAt
        have : f.find? (fun s => decide (s.1 ≤ n) && decide (n < s.2.1)) = some a := by
          rw [List.find?_eq_some_iff_getElem]
          obtain ⟨hl, he⟩ := List.getElem?_eq_some_iff.mp hi
          refine ⟨z, i, hl, he, fun j hj => ?_⟩
          have := i4 f[j] (by
            rw [List.mem_take_iff_getElem]
            exact ⟨j, by omega, rfl⟩)
          simp only [this]
          rfl
        rw [this]
      rw [e] at k
      exact s_ret (G := Gi) (R := H2) (φ := tSp a.2.2) (pd_var rfl p3) (same_refl _) (sh.trans s2) fun v G' H' g hv => k v G' H' ⟨i1.trans g.g, (i2.trans s2).trans g.h, g.s, fun c c1 c2 => by
        by_cases e : Gi c = none
        · exact (i2.trans s2).free (g.f c e c2)
        · exact i3 c c1 e⟩ hv
    · refine ⟨Gi, sg, sh.trans s2, ⟨_, _, _, rfl⟩, i1, i2.trans s2, i3, fun s hs => ?_⟩
      rw [take_succ_of hi, List.mem_append] at hs
      rcases hs with hs | hs
      · exact i4 s hs
      · rw [List.mem_singleton.mp hs]
        exact z
  · rintro G1 H1 g1 σ' Gi Hi sg sh ⟨⟨x, y, z, rfl⟩, i1, i2, i3, i4⟩
    rw [List.take_length] at i4
    have e : spansAt f n = [] := by
      unfold spansAt
      have : f.find? (fun s => decide (s.1 ≤ n) && decide (n < s.2.1)) = none := by
        rw [List.find?_eq_none]
        intro s hs
        rw [i4 s hs]
        decide
      rw [this]
    rw [e] at k
    exact s_ret (G := Gi) (R := Hi) (φ := tSp []) (pd_tup (φs := []) ad_nil (by simp)) (same_refl _) sh fun v G' H' g hv => k v G' H' ⟨i1.trans g.g, i2.trans g.h, g.s, fun c c1 c2 => by
        by_cases e : Gi c = none
        · exact i2.free (g.f c e c2)
        · exact i3 c c1 e⟩ hv
theorem len_spans_at : ∀ vs H Q E, sp_spans_at vs H Q E → vs.length = (["slabs", "x"] : List Str).length := lenT (by rintro φs φ ⟨_, _, rfl, _⟩; rfl)
end
end BR
/-! The program's defs with loops: walks. -/
namespace BR
open PySem PySem.Spec PyProof.Rows L2
section
variable {K : Fg}
theorem tstep_len (f : List Sl) (p : Sl) : (tstep f p).length ≤ f.length + 1 := by
  unfold tstep
  split
  · split
    · simp
    · split <;> simp
  · split <;> simp
theorem tSlb_map_dt (f : List Sl) : f.map tSlb = (f.map dSl).map dt := by
  rw [List.map_map]
  exact List.map_congr_left fun p _ => (dt_Sl p).symm
theorem shaped_Sl (f : List Sl) : SeqAt.shaped (.list (f.map dSl)) = true := (Lay.list (n := 7) fun d hd => by
  obtain ⟨p, _, rfl⟩ := List.mem_map.mp hd
  exact lay_Sl p).shaped (by decide)
theorem pd_eqSp {σ : St} {G R : Hp} {ta tb : TE} {s t : List Pr} (ha : PD ta σ G R (tSp s)) (hb : PD tb σ G R (tSp t)) : PD (tOp (rEqX K) ta tb) σ G R (tBo (decide (s = t))) := by
  have k := pd_eqD (K := K) (d := dSp s) (e := dSp t) (ta := ta) (tb := tb) (σ := σ) (G := G) (R := R) (by rw [dt_Sp]; exact ha) (by rw [dt_Sp]; exact hb) ((lay_Sp s).shaped (by decide)) ((lay_Sp t).shaped (by decide))
  rw [eqv_Sp] at k
  exact k
theorem pd_neSp {σ : St} {G R : Hp} {ta tb : TE} {s t : List Pr} (ha : PD ta σ G R (tSp s)) (hb : PD tb σ G R (tSp t)) : PD (tOp (rNeX K) ta tb) σ G R (tBo (!decide (s = t))) := by
  have k := pd_neD (K := K) (d := dSp s) (e := dSp t) (ta := ta) (tb := tb) (σ := σ) (G := G) (R := R) (by rw [dt_Sp]; exact ha) (by rw [dt_Sp]; exact hb) ((lay_Sp s).shaped (by decide)) ((lay_Sp t).shaped (by decide))
  rw [eqv_Sp] at k
  exact k
theorem pd_eqForm {σ : St} {G R : Hp} {ta tb : TE} {s t : List Sl} (ha : PD ta σ G R (tForm s)) (hb : PD tb σ G R (tForm t)) : PD (tOp (rEqX K) ta tb) σ G R (tBo (decide (s = t))) := by
  have k := pd_eqD (K := K) (d := dForm s) (e := dForm t) (ta := ta) (tb := tb) (σ := σ) (G := G) (R := R) (by rw [dt_Form]; exact ha) (by rw [dt_Form]; exact hb) ((lay_Form s).shaped (by decide)) ((lay_Form t).shaped (by decide))
  rw [eqv_Form] at k
  exact k
theorem pd_slb {σ : St} {G R : Hp} {a b c : TE} {i j : Int} {sp : List Pr} (h1 : PD a σ G R (tI i)) (h2 : PD b σ G R (tI j)) (h3 : PD c σ G R (tSp sp)) : PD (tTup (tCons a (tCons b (tCons c tNil)))) σ G R (tSlb (i, j, sp)) :=
  pd_tup (φs := [tI i, tI j, tSp sp]) (ad_cons h1 (ad_cons h2 (ad_cons h3 ad_nil))) (by simp)
theorem pd_pr {σ : St} {G R : Hp} {a b : TE} {i j : Int} (h1 : PD a σ G R (tI i)) (h2 : PD b σ G R (tI j)) : PD (tTup (tCons a (tCons b tNil))) σ G R (tP (i, j)) :=
  pd_tup (φs := [tI i, tI j]) (ad_cons h1 (ad_cons h2 ad_nil)) (by simp)
theorem pd_nilT {σ : St} {G R : Hp} : PD (tTup tNil) σ G R (tSp []) := pd_tup (φs := []) ad_nil (by simp)
theorem pd_nilF {σ : St} {G R : Hp} : PD (tTup tNil) σ G R (tForm []) := pd_tup (φs := []) ad_nil (by simp)
theorem pure_tidy : ∀ vs H (Q : VK) (E : XK), sp_tidy vs H Q E → t_tidy K { nx := fun _ H' => Q .non H', rt := Q } (L2.start ["slabs", "found", "x1", "x2", "spans"] vs) H := by
  refine pureT ?_
  rintro G φs φ vs H s1 hv ⟨ps, hz, rfl, rfl⟩ D k
  obtain ⟨v0, rfl, h0⟩ := all1 hv
  refine q_new s1 fun q F0 => ?_
  refine q_for (xs := ps) (φ := tSlb) (σ := [some v0, some (.ref q), none, none, none]) (G := G) (R := G) (PD.sqL (pd_var rfl h0)) F0.i.s F0.i.s
    (fun i σ' Gi Hi => ∃ x y z, σ' = [some v0, some (.ref q), x, y, z] ∧ Fil q G H Gi Hi (((ps.take i).foldl tstep []).map tSlb)) (fun G1 H1 g1 => ⟨none, none, none, rfl, F0.grow g1⟩) ?_ ?_
  · rintro G1 H1 g1 i a x σ' Gi Hi hi sg sh hx ⟨x', y', z', rfl, F⟩
    obtain ⟨v, w, u, p1, p2, p3, gd⟩ := gd_3 (K := K) (i := 2) (j := 3) (k := 4) (σ := [some v0, some (.ref q), x', y', z']) hx
    cases p1
    cases p2
    refine gd Hi sh _ ?_
    show tIfS _ _ _ _ [some v0, some (.ref q), some (.int a.1), some (.int a.2.1), some u] Hi
    generalize hσ : [some v0, some (V.ref q), some (V.int a.1), some (V.int a.2.1), some u] = σ2
    have e1 : σ2[1]? = some (some (.ref q)) := by rw [← hσ]; rfl
    have e2 : σ2[2]? = some (some (.int a.1)) := by rw [← hσ]; rfl
    have e3 : σ2[3]? = some (some (.int a.2.1)) := by rw [← hσ]; rfl
    have e4 : σ2[4]? = some (some u) := by rw [← hσ]; rfl
    generalize hf : (ps.take i).foldl tstep [] = f at F
    have hl : f.length < 100000 := by
      rw [← hf]
      have := foldl_len tstep_len (ps.take i) []
      simp only [List.length_take, List.length_nil] at *
      omega
    have next : ∀ G' H2, Same Gi G' → Fil q G H G' H2 ((tstep f a).map tSlb) → ∃ G3, Same G1 G3 ∧ Same G3 H2 ∧ ∃ x y z, σ2 = [some v0, some (.ref q), x, y, z] ∧ Fil q G H G3 H2 (((ps.take (i + 1)).foldl tstep []).map tSlb) := fun G' H2 s2 F2 =>
      ⟨G', sg.trans s2, F2.i.s, _, _, _, hσ.symm, by rw [foldl_take hi, hf]; exact F2⟩
    have vl : ∀ {R : Hp}, Same Hi R → PD (tVar 1) σ2 R R (tL (f.map tSlb)) := fun s => (F.same s).var e1
    have nn : TD (tTest (tOp (rNeX K) (tVar 1) (tLst tNil))) σ2 Hi (!f.isEmpty) := by
      have z := vl (same_refl Hi)
      rw [tSlb_map_dt] at z
      have y := pd_neNil (K := K) z (shaped_Sl f)
      rw [isEmpty_map] at y
      exact td_test y
    have sp4 : ∀ {G2 R : Hp}, Same Gi G2 → PD (tVar 4) σ2 G2 R (tSp a.2.2) := fun s => pd_var e4 ((tSp a.2.2).m _ _ _ s p3)
    have app : ∀ H2, Same Hi H2 → tstep f a = (if a.2.2 ≠ [] then f ++ [a] else f) → tIfS (tTest (tOp (rNeX K) (tVar 4) (tTup tNil))) (tDrop (tBM K "list" rAppend (tVar 1) (tCons (tTup (tCons (tVar 2) (tCons (tVar 3) (tCons (tVar 4) tNil)))) tNil))) tNext
        { D with nx := fun σ3 H3 => ∃ G3, Same G1 G3 ∧ Same G3 H3 ∧ ∃ x y z, σ3 = [some v0, some (.ref q), x, y, z] ∧ Fil q G H G3 H3 (((ps.take (i + 1)).foldl tstep []).map tSlb), ct := fun σ3 H3 => ∃ G3, Same G1 G3 ∧ Same G3 H3 ∧ ∃ x y z, σ3 = [some v0, some (.ref q), x, y, z] ∧ Fil q G H G3 H3 (((ps.take (i + 1)).foldl tstep []).map tSlb), bk := fun σ' H' => tRet (tCB (rTupOf K) (tCons (tVar 1) tNil)) D σ' H' } σ2 H2 := by
      intro H2 s2 ht
      refine s_when (b := !decide (a.2.2 = [])) (R := H2) (td_test (pd_neSp (sp4 (sh.trans s2)) pd_nilT)) (same_refl _) (fun z H3 s3 => ?_) (fun z H3 s3 => ?_)
      · refine f_app (F.same (s2.trans s3)) e1 (by rw [List.length_map]; exact hl) (φ := tSlb a) (pd_slb (pd_var e2 rfl) (pd_var e3 rfl) (sp4 (same_refl _))) fun G' H3 s3 F3 => next G' H3 s3 ?_
        have : a.2.2 ≠ [] := by simpa using z
        rw [ht, if_pos this, List.map_append]
        exact F3
      · have : a.2.2 = [] := by simpa using z
        refine next Gi H3 (same_refl _) ?_
        rw [ht, if_neg (by simp [this])]
        exact F.same (s2.trans s3)
    cases hg : f.getLast? with
    | none =>
      have e := getLast_none hg
      refine s_if (b := false) (R := Hi) (TD.is (td_and (b := false) nn fun z => ?_) ?_) (same_refl _) (fun z => nomatch z) fun _ H2 s2 => ?_
      · rw [e] at z
        cases z
      · rw [e]
        rfl
      · refine app H2 s2 ?_
        unfold tstep
        rw [hg, e]
        rfl
    | some l =>
      have e := last_of hg
      have hm : f.map tSlb = f.dropLast.map tSlb ++ [tSlb l] := by
        conv => lhs; rw [e, List.map_append]
        rfl
      have ixl : ∀ {R : Hp}, Same Hi R → PD (tOp (rIx K) (tVar 1) (tUn rNegI (tC (.int 1)))) σ2 R R (tT [tI l.1, tI l.2.1, tSp l.2.2]) := fun s => by
        have z := vl s
        rw [hm] at z
        exact pd_ixLX (φ := tSlb l) z (pd_neg pd_c) at_last
      refine s_if (b := decide (l.2.1 = a.1) && decide (l.2.2 = a.2.2)) (R := Hi) (TD.is (td_and nn fun z => td_and (td_test (pd_eqI (pd_ixTX (i := 1) (ixl (same_refl _)) pd_c rfl) (pd_var e2 rfl))) fun z2 => td_test (pd_eqSp (pd_ixTX (i := 2) (ixl (same_refl _)) pd_c rfl) (sp4 sh))) ?_) (same_refl _) (fun z H2 s2 => ?_) fun z H2 s2 => ?_
      · have : f.isEmpty = false := by
          rw [e]
          simp
        rw [this] <;> rfl
      · have F2 := F.same s2
        rw [hm] at F2
        refine f_last F2 e1 (φ := tSlb (l.1, a.2.1, a.2.2)) (pd_slb ((pd_ixTX (i := 0) (ixl s2) pd_c rfl).val) (pd_var e3 rfl) (sp4 (same_refl _))) fun G' H3 s3 F3 => next G' H3 s3 ?_
        have e2 : tstep f a = f.dropLast ++ [(l.1, a.2.1, a.2.2)] := by
          unfold tstep
          rw [hg]
          exact if_pos (by simpa using z)
        rw [e2, List.map_append]
        exact F3
      · refine app H2 s2 ?_
        unfold tstep
        rw [hg]
        refine if_neg (fun w => ?_)
        simp [w.1, w.2] at z
  · rintro G1 H1 g1 σ' Gi Hi sg sh ⟨x, y, z, rfl, F⟩
    rw [List.take_length] at F
    exact f_tup F rfl k
theorem len_tidy : ∀ vs H Q E, sp_tidy vs H Q E → vs.length = (["slabs"] : List Str).length := lenT (by rintro φs φ ⟨_, _, rfl, _⟩; rfl)
/-! pairs of neighbours -/
theorem cut1 {α : Type} (l : List α) : cutT l (some 1) none = l.tail := by
  unfold cutT HT.sIx
  cases l with
  | nil => rfl
  | cons x xs => simp
theorem nxt_len (l : List Int) : (nxt l).length = min l.length l.tail.length := by simp [nxt]
theorem nxt_at {l : List Int} {i : Nat} {a b : Int} (h1 : l[i]? = some a) (h2 : l.tail[i]? = some b) : (nxt l)[i]? = some (a, b) := by
  unfold nxt
  rw [List.getElem?_zip_eq_some]
  exact ⟨h1, h2⟩
theorem nxt_le (l : List Int) : (nxt l).length ≤ l.length := by simp [nxt]
theorem cutsOf_len (f : List Sl) : (cutsOf f).length ≤ 2 * f.length := by
  refine Nat.le_trans (sd_len _) ?_
  induction f with
  | nil => simp
  | cons x xs ih => rw [List.flatMap_cons, List.length_append]; simp only [List.length_cons, List.length_nil] at *; omega
theorem ends_len (f : List Pr) : (ends f).length = 2 * f.length := by
  unfold ends
  induction f with
  | nil => simp
  | cons x xs ih => rw [List.flatMap_cons, List.length_append]; simp only [List.length_cons, List.length_nil] at *; omega
theorem spansAt_len {f : List Sl} {n : Nat} (h : ∀ s ∈ f, s.2.2.length ≤ n) (x : Int) : (spansAt f x).length ≤ n := by
  unfold spansAt
  split
  · next s e => exact h s (List.mem_of_find?_eq_some e)
  · simp
theorem pure_combined : ∀ vs H (Q : VK) (E : XK), sp_combined vs H Q E → t_combined K { nx := fun _ H' => Q .non H', rt := Q } (L2.start ["one", "other", "word", "ends", "found", "a", "b", "span", "end"] vs) H := by
  refine pureT ?_
  rintro G φs φ vs H s1 hv ⟨one, other, w, hz, rfl, rfl⟩ D k
  obtain ⟨v0, v1, v2, rfl, h0, h1, h2⟩ := all3 hv
  cases h2
  have hcat : one.map tP ++ other.map tP = (one ++ other).map tP := by rw [List.map_append]
  refine q_asg (G := G) (R := G) (φ := tL ((sd (ends (one ++ other))).map tI)) (σ := [some v0, some v1, some (.str w.str), none, none, none, none, none, none]) ?_ s1 s1 fun v3 G1 H1 g1 h3 => ?_
  · have e : ends (one ++ other) = (one ++ other).flatMap fun s => ([s.1, s.2].map fun i : Int => i) := by
      unfold ends
      simp only [List.map_cons, List.map_nil]
    have hl := ends_len (one ++ other)
    rw [e] at hl ⊢
    refine pd_sort2 (xs := one ++ other) (φ := tP) (bs := fun s => [s.1, s.2]) (ψ := fun _ i => tI i) (val := fun _ i => i) (PD.sqT ?_) (by rw [hl, List.length_append]; omega) ?_
    · rw [← hcat]
      exact pd_catT (pd_var rfl h0) (pd_var rfl h1) (by simp only [List.length_map]; omega)
    · intro s hs x Gi Ri s1 s2 s3 hx
      refine ⟨[some v0, some v1, some (.str w.str), none, none, none, none, some x, none], gd_name, rfl, PD.sqT (pd_var (φ := tT ([s.1, s.2].map tI)) rfl hx), ?_⟩
      intro i hi y Gj Rj s4 s5 s6 hy
      cases hy
      exact ⟨[some v0, some v1, some (.str w.str), none, none, none, none, some x, some (.int i)], gd_name, rfl, pd_var rfl rfl⟩
  generalize hc : sd (ends (one ++ other)) = cuts at h3
  have hcl : cuts.length ≤ 4000 := by
    rw [← hc]
    have := sd_len (ends (one ++ other))
    have := ends_len (one ++ other)
    rw [List.length_append] at this
    omega
  refine q_new (σ := [some v0, some v1, some (.str w.str), some v3, none, none, none, none, none]) g1.s fun q F0 => ?_
  refine q_zip (xs := cuts) (ys := cuts.tail) (φ := tI) (ψ := tI) (σ := [some v0, some v1, some (.str w.str), some v3, some (.ref q), none, none, none, none]) (G := G1) (R := G1) (ad_cons (pd_var rfl h3) (ad_cons ?_ ad_nil)) F0.i.s F0.i.s
    (fun i σ' Gi Hi => ∃ x y, σ' = [some v0, some v1, some (.str w.str), some v3, some (.ref q), x, y, none, none] ∧ Fil q G1 H1 Gi Hi ((((nxt cuts).take i).filter fun p => wanted w (cov one p.1) (cov other p.1)).map tP)) (fun G2 H2 g2 => ⟨none, none, rfl, F0.grow g2⟩) ?_ ?_
  · have := pd_slL (K := K) (φs := cuts.map tI) (te := tVar 3) (σ := [some v0, some v1, some (.str w.str), some v3, some (.ref q), none, none, none, none]) (G := G1) (R := G1) (pd_var rfl h3) (od_some (i := 1) pd_c) od_none
    rw [cutT_map, cut1] at this
    exact this
  · rintro G2 H2 g2 i a b x y σ' Gi Hi H3 ha hb sg sh hx hy ⟨x', y', rfl, F⟩ s3 _
    cases hx
    cases hy
    have hn := nxt_at ha hb
    show tIfS _ _ _ _ [some v0, some v1, some (.str w.str), some v3, some (.ref q), some (.int a), some (.int b), none, none] H3
    have F3 := F.same s3
    have gG : Same G Gi := g1.g.trans (g2.g.trans sg)
    refine s_when (b := wanted w (cov one a) (cov other a)) (R := H3) (td_B (pd_call (φs := [tBo (cov one a), tBo (cov other a), tSt w.str]) (ad_cons (pd_call (φs := [tSp one, tI a]) (ad_cons (pd_var rfl ((tSp one).m _ _ _ (gG.trans (sh.trans s3)) h0)) (ad_cons (pd_var rfl rfl) ad_nil)) ⟨one, a, by omega, rfl, rfl⟩)
      (ad_cons (pd_call (φs := [tSp other, tI a]) (ad_cons (pd_var rfl ((tSp other).m _ _ _ (gG.trans (sh.trans s3)) h1)) (ad_cons (pd_var rfl rfl) ad_nil)) ⟨other, a, by omega, rfl, rfl⟩) (ad_cons (pd_var rfl rfl) ad_nil))) ⟨_, _, w, rfl, rfl⟩)) (same_refl _) (fun z H4 s4 => ?_) (fun z H4 s4 => ?_)
    · refine f_app (F3.same s4) rfl ?_ (φ := tP (a, b)) (pd_pr (pd_var rfl rfl) (pd_var rfl rfl)) fun G' H5 s5 F5 => ⟨G', sg.trans s5, F5.i.s, _, _, rfl, ?_⟩
      · rw [List.length_map]
        have := List.length_filter_le (fun p : Pr => wanted w (cov one p.1) (cov other p.1)) ((nxt cuts).take i)
        have := nxt_le cuts
        simp only [List.length_take] at *
        omega
      · rw [take_succ_of hn, List.filter_append, List.map_append]
        have : List.filter (fun p : Pr => wanted w (cov one p.1) (cov other p.1)) [(a, b)] = [(a, b)] := by
          rw [List.filter_cons]
          simp only [z, if_true, List.filter_nil]
        rw [this]
        exact F5
    · refine ⟨Gi, sg, (F3.same s4).i.s, _, _, rfl, ?_⟩
      rw [take_succ_of hn, List.filter_append, List.map_append]
      have : List.filter (fun p : Pr => wanted w (cov one p.1) (cov other p.1)) [(a, b)] = [] := by
        rw [List.filter_cons]
        simp [z]
      rw [this, List.map_nil, List.append_nil]
      exact F3.same s4
  · rintro G2 H2 g2 σ' Gi Hi sg sh ⟨x, y, rfl, F⟩
    rw [← nxt_len, List.take_length] at F
    obtain ⟨G3, g3, hq⟩ := F.fin
    have e : combined one other w = merged ((nxt cuts).filter fun p => wanted w (cov one p.1) (cov other p.1)) := by
      unfold combined
      rw [hc]
    rw [e] at k
    refine s_ret (G := G3) (R := Hi) (pd_call (φs := [tL (((nxt cuts).filter fun p => wanted w (cov one p.1) (cov other p.1)).map tP)]) (ad_cons (pd_var rfl hq) ad_nil) ⟨_, ?_, rfl, rfl⟩) (same_refl _) g3.s fun v G' H' g hv => k v G' H' ((g1.trans g3).trans g) hv
    have := List.length_filter_le (fun p : Pr => wanted w (cov one p.1) (cov other p.1)) (nxt cuts)
    have := nxt_le cuts
    omega
theorem len_combined : ∀ vs H Q E, sp_combined vs H Q E → vs.length = (["one", "other", "word"] : List Str).length := lenT (by rintro φs φ ⟨_, _, _, _, rfl, _⟩; rfl)
end
end BR
/-! The program's defs with loops: walks. -/
namespace BR
open PySem PySem.Spec PyProof.Rows L2
section
variable {K : Fg}
theorem xcuts_len (bs : List Bx) : (sd (bs.flatMap fun b => [b.1, b.2.2.1])).length ≤ 2 * bs.length := by
  refine Nat.le_trans (sd_len _) ?_
  induction bs with
  | nil => simp
  | cons x xs ih => rw [List.flatMap_cons, List.length_append]; simp only [List.length_cons, List.length_nil] at *; omega
theorem pure_slabs_of : ∀ vs H (Q : VK) (E : XK), sp_slabs_of vs H Q E → t_slabs_of K { nx := fun _ H' => Q .non H', rt := Q } (L2.start ["boxes", "cuts", "found", "a", "b", "spans", "x1", "y1", "x2", "y2", "x"] vs) H := by
  refine pureT ?_
  rintro G φs φ vs H s1 hv ⟨bs, hz, rfl, rfl⟩ D k
  obtain ⟨v0, rfl, h0⟩ := all1 hv
  refine q_asg (G := G) (R := G) (φ := tL ((sd (bs.flatMap fun b => [b.1, b.2.2.1])).map tI)) (σ := [some v0, none, none, none, none, none, none, none, none, none, none]) ?_ s1 s1 fun v1 G1 H1 g1 h1 => ?_
  · have e : (bs.flatMap fun b => [b.1, b.2.2.1]) = bs.flatMap fun s => ([s.1, s.2.2.1].map fun i : Int => i) := by
      simp only [List.map_cons, List.map_nil]
    have hl : (bs.flatMap fun b => [b.1, b.2.2.1]).length ≤ 4000 := by
      have : ∀ bs : List Bx, (bs.flatMap fun b => [b.1, b.2.2.1]).length = 2 * bs.length := fun bs => by
        induction bs with
        | nil => simp
        | cons x xs ih => rw [List.flatMap_cons, List.length_append]; simp only [List.length_cons, List.length_nil] at *; omega
      rw [this]
      omega
    rw [e] at hl ⊢
    refine pd_sort2 (xs := bs) (φ := tB4) (bs := fun s => [s.1, s.2.2.1]) (ψ := fun _ i => tI i) (val := fun _ i => i) (PD.sqL (pd_var rfl h0)) hl ?_
    intro s hs x Gi Ri s1 s2 s3 hx
    obtain ⟨a, b, c, d, p1, p2, p3, p4, gd⟩ := gd_4 (K := K) (i := 6) (j := 7) (k := 8) (l := 9) (σ := [some v0, none, none, none, none, none, none, none, none, none, none]) hx
    cases p1
    cases p2
    cases p3
    cases p4
    refine ⟨[some v0, none, none, none, none, none, some (.int s.1), some (.int s.2.1), some (.int s.2.2.1), some (.int s.2.2.2), none], gd, rfl, PD.sqT (pd_tup (φs := [tI s.1, tI s.2.2.1]) (ad_cons (pd_var rfl rfl) (ad_cons (pd_var rfl rfl) ad_nil)) (by simp)), ?_⟩
    intro i hi y Gj Rj s4 s5 s6 hy
    cases hy
    exact ⟨[some v0, none, none, none, none, none, some (.int s.1), some (.int s.2.1), some (.int s.2.2.1), some (.int s.2.2.2), some (.int i)], gd_name, rfl, pd_var rfl rfl⟩
  generalize hc : sd (bs.flatMap fun b => [b.1, b.2.2.1]) = cuts at h1
  have hcl : cuts.length ≤ 4000 := by
    rw [← hc]
    have := xcuts_len bs
    omega
  let mk : Pr → Sl := fun p => (p.1, p.2, merged ((bs.filter fun b => decide (b.1 ≤ p.1) && decide (p.1 < b.2.2.1)).map fun b => (b.2.1, b.2.2.2)))
  refine q_new (σ := [some v0, some v1, none, none, none, none, none, none, none, none, none]) g1.s fun q F0 => ?_
  refine q_zip (xs := cuts) (ys := cuts.tail) (φ := tI) (ψ := tI) (σ := [some v0, some v1, some (.ref q), none, none, none, none, none, none, none, none]) (G := G1) (R := G1) (ad_cons (pd_var rfl h1) (ad_cons ?_ ad_nil)) F0.i.s F0.i.s
    (fun i σ' Gi Hi => ∃ x y z, σ' = [some v0, some v1, some (.ref q), x, y, z, none, none, none, none, none] ∧ Fil q G1 H1 Gi Hi ((((nxt cuts).take i).map mk).map tSlb)) (fun G2 H2 g2 => ⟨none, none, none, rfl, F0.grow g2⟩) ?_ ?_
  · have := pd_slL (K := K) (φs := cuts.map tI) (te := tVar 1) (σ := [some v0, some v1, some (.ref q), none, none, none, none, none, none, none, none]) (G := G1) (R := G1) (pd_var rfl h1) (od_some (i := 1) pd_c) od_none
    rw [cutT_map, cut1] at this
    exact this
  · rintro G2 H2 g2 i a b x y σ' Gi Hi H3 ha hb sg sh hx hy ⟨x', y', z', rfl, F⟩ s3 _
    cases hx
    cases hy
    have hn := nxt_at ha hb
    have F3 := F.same s3
    have gG : Same G Gi := g1.g.trans (g2.g.trans sg)
    show tSeq _ _ _ [some v0, some v1, some (.ref q), some (.int a), some (.int b), z', none, none, none, none, none] H3
    refine q_asg (G := Gi) (R := H3) (φ := tSp (mk (a, b)).2.2) ?_ (same_refl _) (sh.trans s3) fun v5 G4 H4 g4 h5 => ?_
    · refine pd_call (φs := [tL (((bs.filter fun b => decide (b.1 ≤ a) && decide (a < b.2.2.1)).map fun b => (b.2.1, b.2.2.2)).map tP)]) (ad_cons ?_ ad_nil) ⟨_, ?_, rfl, rfl⟩
      · rw [List.map_map]
        refine pd_lc (xs := bs) (φ := tB4) (PD.sqL (pd_var rfl ((tL (bs.map tB4)).m _ _ _ gG h0))) (by omega) ?_
        intro s hs x Gi Ri s1 s2 s3 hx
        obtain ⟨a', b', c', d', p1, p2, p3, p4, gd⟩ := gd_4 (K := K) (i := 6) (j := 7) (k := 8) (l := 9) (σ := [some v0, some v1, some (.ref q), some (.int a), some (.int b), z', none, none, none, none, none]) hx
        cases p1
        cases p2
        cases p3
        cases p4
        exact ⟨[some v0, some v1, some (.ref q), some (.int a), some (.int b), z', some (.int s.1), some (.int s.2.1), some (.int s.2.2.1), some (.int s.2.2.2), none], gd, rfl,
          td_test (pd_chain (pd_var rfl rfl) (pd_var rfl rfl) (pd_var rfl rfl) (fun H Q q => ⟨_, _, rfl, rfl, q⟩) (fun H Q q => ⟨_, _, rfl, rfl, q⟩)), fun _ => pd_pr (pd_var rfl rfl) (pd_var rfl rfl)⟩
      · rw [List.length_map]
        have := List.length_filter_le (fun b : Bx => decide (b.1 ≤ a) && decide (a < b.2.2.1)) bs
        omega
    · refine f_app (σ := [some v0, some v1, some (.ref q), some (.int a), some (.int b), some v5, none, none, none, none, none]) (F3.grow g4) rfl ?_ (φ := tSlb (mk (a, b))) (pd_slb (pd_var rfl rfl) (pd_var rfl rfl) (pd_var rfl h5)) fun G' H5 s5 F5 => ⟨G', sg.trans (g4.g.trans s5), F5.i.s, _, _, _, rfl, ?_⟩
      · simp only [List.length_map]
        have := nxt_le cuts
        simp only [List.length_take] at *
        omega
      · rw [take_succ_of hn, List.map_append, List.map_append]
        exact F5
  · rintro G2 H2 g2 σ' Gi Hi sg sh ⟨x, y, z, rfl, F⟩
    rw [← nxt_len, List.take_length] at F
    obtain ⟨G3, g3, hq⟩ := F.fin
    have e : slabsOf bs = tidy ((nxt cuts).map mk) := by
      unfold slabsOf
      rw [hc]
    rw [e] at k
    refine s_ret (G := G3) (R := Hi) (pd_call (φs := [tL (((nxt cuts).map mk).map tSlb)]) (ad_cons (pd_var rfl hq) ad_nil) ⟨_, ?_, rfl, rfl⟩) (same_refl _) g3.s fun v G' H' g hv => k v G' H' ((g1.trans g3).trans g) hv
    rw [List.length_map]
    have := nxt_le cuts
    omega
theorem len_slabs_of : ∀ vs H Q E, sp_slabs_of vs H Q E → vs.length = (["boxes"] : List Str).length := lenT (by rintro φs φ ⟨_, _, rfl, _⟩; rfl)
theorem pure_mixed : ∀ vs H (Q : VK) (E : XK), sp_mixed vs H Q E → t_mixed K { nx := fun _ H' => Q .non H', rt := Q } (L2.start ["one", "other", "word", "cuts", "found", "a", "b"] vs) H := by
  refine pureT ?_
  rintro G φs φ vs H s1 hv ⟨one, other, w, hz1, hz2, rfl, rfl⟩ D k
  obtain ⟨v0, v1, v2, rfl, h0, h1, h2⟩ := all3 hv
  cases h2
  obtain ⟨z1, z2⟩ := hz1
  obtain ⟨z3, z4⟩ := hz2
  refine q_asg (G := G) (R := G) (φ := tL ((cutsOf (one ++ other)).map tI)) (σ := [some v0, some v1, some (.str w.str), none, none, none, none]) ?_ s1 s1 fun v3 G1 H1 g1 h3 => ?_
  · refine pd_call (φs := [tForm (one ++ other)]) (ad_cons ?_ ad_nil) ⟨one ++ other, by rw [List.length_append]; omega, rfl, rfl⟩
    have := pd_catT (K := K) (φs := one.map tSlb) (ψs := other.map tSlb) (ta := tVar 0) (tb := tVar 1) (σ := [some v0, some v1, some (.str w.str), none, none, none, none]) (G := G) (R := G) (pd_var rfl h0) (pd_var rfl h1) (by simp only [List.length_map]; omega)
    rw [← List.map_append] at this
    exact this
  generalize hc : cutsOf (one ++ other) = cuts at h3
  have hcl : cuts.length ≤ 4000 := by
    rw [← hc]
    have := cutsOf_len (one ++ other)
    rw [List.length_append] at this
    omega
  let mk : Pr → Sl := fun p => (p.1, p.2, combined (spansAt one p.1) (spansAt other p.1) w)
  refine q_new (σ := [some v0, some v1, some (.str w.str), some v3, none, none, none]) g1.s fun q F0 => ?_
  refine q_zip (xs := cuts) (ys := cuts.tail) (φ := tI) (ψ := tI) (σ := [some v0, some v1, some (.str w.str), some v3, some (.ref q), none, none]) (G := G1) (R := G1) (ad_cons (pd_var rfl h3) (ad_cons ?_ ad_nil)) F0.i.s F0.i.s
    (fun i σ' Gi Hi => ∃ x y, σ' = [some v0, some v1, some (.str w.str), some v3, some (.ref q), x, y] ∧ Fil q G1 H1 Gi Hi ((((nxt cuts).take i).map mk).map tSlb)) (fun G2 H2 g2 => ⟨none, none, rfl, F0.grow g2⟩) ?_ ?_
  · have := pd_slL (K := K) (φs := cuts.map tI) (te := tVar 3) (σ := [some v0, some v1, some (.str w.str), some v3, some (.ref q), none, none]) (G := G1) (R := G1) (pd_var rfl h3) (od_some (i := 1) pd_c) od_none
    rw [cutT_map, cut1] at this
    exact this
  · rintro G2 H2 g2 i a b x y σ' Gi Hi H3 ha hb sg sh hx hy ⟨x', y', rfl, F⟩ s3 _
    cases hx
    cases hy
    have hn := nxt_at ha hb
    have F3 := F.same s3
    have gG : Same G Gi := g1.g.trans (g2.g.trans sg)
    show tDrop _ _ [some v0, some v1, some (.str w.str), some v3, some (.ref q), some (.int a), some (.int b)] H3
    refine f_app F3 rfl ?_ (φ := tSlb (mk (a, b))) (pd_slb (pd_var rfl rfl) (pd_var rfl rfl) (pd_call (φs := [tSp (spansAt one a), tSp (spansAt other a), tSt w.str]) (ad_cons (pd_call (φs := [tForm one, tI a]) (ad_cons (pd_var rfl ((tForm one).m _ _ _ gG h0)) (ad_cons (pd_var rfl rfl) ad_nil)) ⟨one, a, rfl, rfl⟩)
      (ad_cons (pd_call (φs := [tForm other, tI a]) (ad_cons (pd_var rfl ((tForm other).m _ _ _ gG h1)) (ad_cons (pd_var rfl rfl) ad_nil)) ⟨other, a, rfl, rfl⟩) (ad_cons (pd_var rfl rfl) ad_nil))) ⟨_, _, w, ?_, rfl, rfl⟩)) fun G' H5 s5 F5 => ⟨G', sg.trans s5, F5.i.s, _, _, rfl, ?_⟩
    · simp only [List.length_map]
      have := nxt_le cuts
      simp only [List.length_take] at *
      omega
    · have := spansAt_len z2 a
      have := spansAt_len z4 a
      omega
    · rw [take_succ_of hn, List.map_append, List.map_append]
      exact F5
  · rintro G2 H2 g2 σ' Gi Hi sg sh ⟨x, y, rfl, F⟩
    rw [← nxt_len, List.take_length] at F
    obtain ⟨G3, g3, hq⟩ := F.fin
    have e : mixed one other w = tidy ((nxt cuts).map mk) := by
      unfold mixed
      rw [hc]
    rw [e] at k
    refine s_ret (G := G3) (R := Hi) (pd_call (φs := [tL (((nxt cuts).map mk).map tSlb)]) (ad_cons (pd_var rfl hq) ad_nil) ⟨_, ?_, rfl, rfl⟩) (same_refl _) g3.s fun v G' H' g hv => k v G' H' ((g1.trans g3).trans g) hv
    rw [List.length_map]
    have := nxt_le cuts
    omega
theorem len_mixed : ∀ vs H Q E, sp_mixed vs H Q E → vs.length = (["one", "other", "word"] : List Str).length := lenT (by rintro φs φ ⟨_, _, _, _, _, rfl, _⟩; rfl)
theorem at_head {α β : Type} {xs : List α} {d : α} {f : α → β} (h : xs ≠ []) : atI (xs.map f) 0 = some (f (xs.headD d)) := by
  cases xs with
  | nil => exact absurd rfl h
  | cons x xs => simp [atI, ixN]
theorem at_end {α β : Type} {xs : List α} {d : α} {f : α → β} (h : xs ≠ []) : atI (xs.map f) (-1) = some (f (xs.getLastD d)) := by
  rcases List.eq_nil_or_concat xs with rfl | ⟨ys, y, rfl⟩
  · exact absurd rfl h
  · rw [List.concat_eq_append, List.map_append]
    have : (ys ++ [y]).getLastD d = y := by simp [List.getLastD_eq_getLast?]
    rw [this]
    exact at_last
theorem pure_frame_of : ∀ vs H (Q : VK) (E : XK), sp_frame_of vs H Q E → t_frame_of K { nx := fun _ H' => Q .non H', rt := Q } (L2.start ["slabs", "least", "greatest", "x1", "x2", "spans"] vs) H := by
  refine pureT ?_
  rintro G φs φ vs H s1 hv ⟨f, hz, hne, rfl, rfl⟩ D k
  obtain ⟨v0, rfl, h0⟩ := all1 hv
  refine q_when (b := decide (f = [])) (R := G) (σ := [some v0, none, none, none, none, none]) (td_test (pd_eqForm (pd_var rfl h0) pd_nilF)) s1 (fun z H1 s2 => ?_) (fun z H1 s2 => ?_)
  · have e : f = [] := by simpa using z
    subst e
    exact s_ret (G := G) (R := G) (φ := tN) pd_c (s1.trans s2) (s1.trans s2) fun v G' H' g hv => k v G' H' ((Grow.rest s1 s2).trans g) hv
  have e : f ≠ [] := by simpa using z
  have low : ∀ (σ : St) {G1 : Hp}, σ[0]? = some (some v0) → σ.length = 6 → wipe σ [3, 4, 5] = σ → Same G G1 → PD (tLc (iSeq K (tVar 0)) (gTup K 3 (gCons (gName 3) (gCons (gName 4) (gCons (gName 5) gNil)))) tYes (tOp (rIx K) (tOp (rIx K) (tVar 5) (tC (.int 0))) (tC (.int 0))) [3, 4, 5]) σ G1 G1 (tL ((f.map fun s => (s.2.2.headD (0, 0)).1).map tI)) := by
    intro σ G1 hσ hl hw sG
    rw [List.map_map]
    refine pd_lcM (xs := f) (φ := tSlb) (PD.sqT (pd_var hσ ((tForm f).m _ _ _ sG h0))) (by omega) ?_
    intro s hs x Gi Ri s1 s2 s3 hx
    obtain ⟨a, b, c, p1, p2, p3, gd⟩ := gd_3 (K := K) (i := 3) (j := 4) (k := 5) (σ := wipe σ [3, 4, 5]) hx
    match σ, hl with
    | [x0, x1, x2, x3, x4, x5], _ => exact ⟨[x0, x1, x2, some a, some b, some c], gd, rfl, pd_ixTX (φs := [tI (s.2.2.headD (0, 0)).1, tI (s.2.2.headD (0, 0)).2]) (pd_ixTX (φs := s.2.2.map tP) (pd_var rfl p3) pd_c (at_head (hne s hs))) pd_c rfl⟩
  have high : ∀ (σ : St) {G1 : Hp}, σ[0]? = some (some v0) → σ.length = 6 → wipe σ [3, 4, 5] = σ → Same G G1 → PD (tLc (iSeq K (tVar 0)) (gTup K 3 (gCons (gName 3) (gCons (gName 4) (gCons (gName 5) gNil)))) tYes (tOp (rIx K) (tOp (rIx K) (tVar 5) (tUn rNegI (tC (.int 1)))) (tC (.int 1))) [3, 4, 5]) σ G1 G1 (tL ((f.map fun s => (s.2.2.getLastD (0, 0)).2).map tI)) := by
    intro σ G1 hσ hl hw sG
    rw [List.map_map]
    refine pd_lcM (xs := f) (φ := tSlb) (PD.sqT (pd_var hσ ((tForm f).m _ _ _ sG h0))) (by omega) ?_
    intro s hs x Gi Ri s1 s2 s3 hx
    obtain ⟨a, b, c, p1, p2, p3, gd⟩ := gd_3 (K := K) (i := 3) (j := 4) (k := 5) (σ := wipe σ [3, 4, 5]) hx
    match σ, hl with
    | [x0, x1, x2, x3, x4, x5], _ => exact ⟨[x0, x1, x2, some a, some b, some c], gd, rfl, pd_ixTX (φs := [tI (s.2.2.getLastD (0, 0)).1, tI (s.2.2.getLastD (0, 0)).2]) (pd_ixTX (φs := s.2.2.map tP) (pd_var rfl p3) (pd_neg pd_c) (at_end (hne s hs))) pd_c rfl⟩
  have ef : frameOf f = some ((f.headD (0, 0, [])).1, lMin (f.map fun s => (s.2.2.headD (0, 0)).1), (f.getLastD (0, 0, [])).2.1, lMax (f.map fun s => (s.2.2.getLastD (0, 0)).2)) := if_neg e
  rw [ef] at k
  have low' := pd_minL (K := K) (low [some v0, none, none, none, none, none] rfl rfl rfl (same_refl _)) (by simpa using e)
  generalize lMin (f.map fun s => (s.2.2.headD (0, 0)).1) = lo at k low'
  refine q_asg (G := G) (R := G) (φ := tI lo) (σ := [some v0, none, none, none, none, none]) low' (s1.trans s2) (s1.trans s2) fun v1 G1 H2 g1 h1 => ?_
  cases h1
  have high' := pd_maxL (K := K) (high [some v0, some (.int lo), none, none, none, none] rfl rfl rfl g1.g) (by simpa using e)
  generalize lMax (f.map fun s => (s.2.2.getLastD (0, 0)).2) = hi at k high'
  refine q_asg (G := G1) (R := G1) (φ := tI hi) (σ := [some v0, some (.int lo), none, none, none, none]) high' g1.s g1.s fun v2 G2 H3 g2 h2 => ?_
  cases h2
  have h02 := (tForm f).m _ _ _ (g1.g.trans g2.g) h0
  refine s_ret (G := G2) (R := G2) (σ := [some v0, some (.int lo), some (.int hi), none, none, none]) (φ := tB4 ((f.headD (0, 0, [])).1, lo, (f.getLastD (0, 0, [])).2.1, hi)) (pd_b4 ?_ (pd_var rfl rfl) ?_ (pd_var rfl rfl)) g2.s g2.s fun v G' H' g hv => k v G' H' ((((Grow.rest s1 s2).trans g1).trans g2).trans g) hv
  · exact pd_ixTX (φs := [tI (f.headD (0, 0, [])).1, tI (f.headD (0, 0, [])).2.1, tSp (f.headD (0, 0, [])).2.2]) (pd_ixTX (φs := f.map tSlb) (pd_var rfl h02) pd_c (at_head e)) pd_c rfl
  · exact pd_ixTX (φs := [tI (f.getLastD (0, 0, [])).1, tI (f.getLastD (0, 0, [])).2.1, tSp (f.getLastD (0, 0, [])).2.2]) (pd_ixTX (φs := f.map tSlb) (pd_var rfl h02) (pd_neg pd_c) (at_end e)) pd_c rfl
theorem len_frame_of : ∀ vs H Q E, sp_frame_of vs H Q E → vs.length = (["slabs"] : List Str).length := lenT (by rintro φs φ ⟨_, _, _, rfl, _⟩; rfl)
theorem pure_grown : ∀ vs H (Q : VK) (E : XK), sp_grown vs H Q E → t_grown K { nx := fun _ H' => Q .non H', rt := Q } (L2.start ["slabs", "box", "one"] vs) H := by
  refine pureT ?_
  rintro G φs φ vs H s1 hv ⟨f, b, hz, rfl, rfl⟩ D k
  obtain ⟨v0, v1, rfl, h0, h1⟩ := all2 hv
  refine s_ret (G := G) (R := G) (σ := [some v0, some v1, none]) (φ := tForm (grown f b)) (pd_call (φs := [tL (((boxesOf f).map fun o => addedBox o b).map tB4)]) (ad_cons ?_ ad_nil) ⟨_, by rw [List.length_map]; exact hz, rfl, rfl⟩) s1 s1 k
  rw [List.map_map]
  refine pd_lcM (xs := boxesOf f) (φ := tB4) (PD.sqL (pd_call (φs := [tForm f]) (ad_cons (pd_var rfl h0) ad_nil) ⟨f, by omega, rfl, rfl⟩)) (by omega) ?_
  intro s hs x Gi Ri s1 s2 s3 hx
  exact ⟨[some v0, some v1, some x], gd_name, rfl, pd_call (φs := [tB4 s, tB4 b]) (ad_cons (pd_var rfl hx) (ad_cons (pd_var rfl ((tB4 b).m _ _ _ s1 h1)) ad_nil)) ⟨s, b, rfl, rfl⟩⟩
theorem len_grown : ∀ vs H Q E, sp_grown vs H Q E → vs.length = (["slabs", "box"] : List Str).length := lenT (by rintro φs φ ⟨_, _, _, rfl, _⟩; rfl)
theorem pure_shrunk : ∀ vs H (Q : VK) (E : XK), sp_shrunk vs H Q E → t_shrunk K { nx := fun _ H' => Q .non H', rt := Q } (L2.start ["slabs", "box", "corner", "places", "missing"] vs) H := by
  refine pureT ?_
  rintro G φs φ vs H s1 hv ⟨f, b, hz, rfl, rfl⟩ D k
  obtain ⟨v0, v1, rfl, h0, h1⟩ := all2 hv
  refine q_when (b := decide (f = [])) (R := G) (σ := [some v0, some v1, none, none, none]) (td_test (pd_eqForm (pd_var rfl h0) pd_nilF)) s1 (fun z H1 s2 => ?_) (fun z H1 s2 => ?_)
  · have e : f = [] := by simpa using z
    subst e
    exact s_ret (G := G) (R := G) (φ := tForm []) pd_nilF (s1.trans s2) (s1.trans s2) fun v G' H' g hv => k v G' H' ((Grow.rest s1 s2).trans g) hv
  have e : f ≠ [] := by simpa using z
  have es : shrunk f b = (let places := grown f (0 - b.1, 0 - b.2.1, 1 - b.1, 1 - b.2.1)
      let missing := mixed (slabsOf [addedBox ((frameOf places).getD (0, 0, 0, 0)) b]) f .less
      mixed places (grown missing (opposite b)) .less) := if_neg e
  rw [es] at k
  obtain ⟨z1, z2, z3, z4, z5, z6, z7⟩ := hz
  generalize hp : grown f (0 - b.1, 0 - b.2.1, 1 - b.1, 1 - b.2.1) = places at *
  dsimp only at k
  generalize hm : mixed (slabsOf [addedBox ((frameOf places).getD (0, 0, 0, 0)) b]) f .less = missing at *
  refine q_asg (G := G) (R := G) (φ := tB4 (0 - b.1, 0 - b.2.1, 1 - b.1, 1 - b.2.1)) (σ := [some v0, some v1, none, none, none]) (pd_b4 (pd_sub pd_c (b4_0 rfl h1)) (pd_sub pd_c (b4_1 rfl h1)) (pd_sub pd_c (b4_0 rfl h1)) (pd_sub pd_c (b4_1 rfl h1))) (s1.trans s2) (s1.trans s2) fun v2 G1 H2 g1 h2 => ?_
  refine q_asg (G := G1) (R := G1) (φ := tForm places) (σ := [some v0, some v1, some v2, none, none]) (pd_call (φs := [tForm f, tB4 (0 - b.1, 0 - b.2.1, 1 - b.1, 1 - b.2.1)]) (ad_cons (pd_var rfl ((tForm f).m _ _ _ g1.g h0)) (ad_cons (pd_var rfl h2) ad_nil)) ⟨f, _, z2, rfl, by rw [hp]⟩) g1.s g1.s fun v3 G2 H3 g2 h3 => ?_
  have gg := g1.g.trans g2.g
  have ef : ∃ fr, frameOf places = some fr := by
    unfold frameOf
    rw [if_neg (z5 e)]
    exact ⟨_, rfl⟩
  obtain ⟨fr, ef⟩ := ef
  rw [ef] at hm
  refine q_asg (G := G2) (R := G2) (φ := tForm missing) (σ := [some v0, some v1, some v2, some v3, none]) (pd_call (φs := [tForm (slabsOf [addedBox fr b]), tForm f, tSt Wd.less.str]) (ad_cons (pd_call (φs := [tL ([addedBox fr b].map tB4)]) (ad_cons (pd_lst (φs := [tB4 (addedBox fr b)]) (ad_cons (pd_call (φs := [tB4 fr, tB4 b]) (ad_cons (pd_call (φs := [tForm places]) (ad_cons (pd_var rfl h3) ad_nil) ⟨places, by have := z3.1; omega, z4, rfl, by rw [ef]; rfl⟩) (ad_cons (pd_var rfl ((tB4 b).m _ _ _ gg h1)) ad_nil)) ⟨fr, b, rfl, rfl⟩) ad_nil) (by simp)) ad_nil) ⟨_, by simp, rfl, rfl⟩)
    (ad_cons (pd_var rfl ((tForm f).m _ _ _ gg h0)) (ad_cons pd_c ad_nil))) ⟨_, _, .less, ?_, z1, rfl, by rw [← hm]; rfl⟩) g2.s g2.s fun v4 G3 H4 g3 h4 => ?_
  · have : ∀ x : Bx, Small (slabsOf [x]) := fun x => by
      have hx : ∀ (ps : List Sl), (∀ s ∈ ps, s.2.2.length ≤ 1000) → ∀ b : List Sl, (∀ s ∈ b, s.2.2.length ≤ 1000) → ∀ s ∈ ps.foldl tstep b, s.2.2.length ≤ 1000 := by
        intro ps
        induction ps with
        | nil => exact fun _ b hb => hb
        | cons p ps ih =>
          intro h1 b hb
          rw [List.foldl_cons]
          refine ih (fun s hs => h1 s (List.mem_cons_of_mem _ hs)) _ fun s hs => ?_
          have hp := h1 p List.mem_cons_self
          unfold tstep at hs
          split at hs
          · split at hs
            · rcases List.mem_append.mp hs with h | h
              · exact hb s ((List.dropLast_sublist _).subset h)
              · rw [List.mem_singleton.mp h]
                exact hp
            · split at hs
              · rcases List.mem_append.mp hs with h | h
                · exact hb s h
                · rw [List.mem_singleton.mp h]
                  exact hp
              · exact hb s hs
          · split at hs
            · rw [List.mem_singleton.mp hs]
              exact hp
            · cases hs
      constructor
      · unfold slabsOf tidy
        have l1 := foldl_len tstep_len ((nxt (sd ([x].flatMap fun b => [b.1, b.2.2.1]))).map fun p => (p.1, p.2, merged (([x].filter fun b => decide (b.1 ≤ p.1) && decide (p.1 < b.2.2.1)).map fun b => (b.2.1, b.2.2.2)))) []
        have l2 := nxt_le (sd ([x].flatMap fun b => [b.1, b.2.2.1]))
        have l3 := xcuts_len [x]
        simp only [List.length_map, List.length_nil, List.length_cons] at l1 l3
        omega
      · unfold slabsOf tidy
        refine hx _ (fun s hs => ?_) [] (fun s hs => nomatch hs)
        obtain ⟨p, _, rfl⟩ := List.mem_map.mp hs
        have l1 := foldl_len mstep_len (srt (([x].filter fun b => decide (b.1 ≤ p.1) && decide (p.1 < b.2.2.1)).map fun b => (b.2.1, b.2.2.2))) []
        have l2 := (srt_perm (([x].filter fun b => decide (b.1 ≤ p.1) && decide (p.1 < b.2.2.1)).map fun b => (b.2.1, b.2.2.2))).length_eq
        have l3 := List.length_filter_le (fun b : Bx => decide (b.1 ≤ p.1) && decide (p.1 < b.2.2.1)) [x]
        show (merged _).length ≤ _
        unfold merged
        simp only [List.length_map, List.length_nil, List.length_cons] at *
        omega
    exact this _
  have gg := gg.trans g3.g
  exact s_ret (G := G3) (R := G3) (σ := [some v0, some v1, some v2, some v3, some v4]) (φ := tForm (mixed places (grown missing (opposite b)) .less)) (pd_call (φs := [tForm places, tForm (grown missing (opposite b)), tSt Wd.less.str]) (ad_cons (pd_var rfl ((tForm places).m _ _ _ g3.g h3)) (ad_cons (pd_call (φs := [tForm missing, tB4 (opposite b)]) (ad_cons (pd_var rfl h4) (ad_cons (pd_call (φs := [tB4 b]) (ad_cons (pd_var rfl ((tB4 b).m _ _ _ gg h1)) ad_nil) ⟨b, rfl, rfl⟩) ad_nil)) ⟨missing, _, z6, rfl, rfl⟩) (ad_cons pd_c ad_nil))) ⟨_, _, .less, z3, z7, rfl, rfl⟩) g3.s g3.s fun v G' H' g hv => k v G' H' (((((Grow.rest s1 s2).trans g1).trans g2).trans g3).trans g) hv
theorem len_shrunk : ∀ vs H Q E, sp_shrunk vs H Q E → vs.length = (["slabs", "box"] : List Str).length := lenT (by rintro φs φ ⟨_, _, _, rfl, _⟩; rfl)
end
end BR
namespace BR
open PySem PySem.Spec PyProof.Rows L2
/-! ### the judgements of squares and boxes -/
def isI : PyData → Bool
  | .int _ => true
  | _ => false
def areI (d : PyData) (n : Int) : Bool := match d with
  | .tuple ds => decide ((ds.length : Int) = n) && ds.all isI
  | _ => false
def iv : PyData → Int
  | .int i => i
  | _ => 0
def isBx (d : PyData) : Bool := areI d 4 && (match d with
  | .tuple [.int a, .int b, .int c, .int e] => decide (a < c) && decide (b < e)
  | _ => false)
def sp_is_integer : Sp := spT fun φs φ => ∃ d, φs = [dt d] ∧ φ = tBo (isI d)
def sp_are_integers : Sp := spT fun φs φ => ∃ d n, φs = [dt d, tI n] ∧ (∀ ds, d = .tuple ds → ds.length ≤ 100000) ∧ φ = tBo (areI d n)
def sp_is_square : Sp := spT fun φs φ => ∃ d, (∀ ds, d = .tuple ds → ds.length ≤ 100000) ∧ φs = [dt d] ∧ φ = tBo (areI d 2)
def sp_is_box : Sp := spT fun φs φ => ∃ d, (∀ ds, d = .tuple ds → ds.length ≤ 100000) ∧ φs = [dt d] ∧ φ = tBo (isBx d)

def t_is_integer (K : Fg) : TS :=
  (tRet (tAndV (tCB (rIsi K) (tCons (tVar 0) (tCons (tC (.ty "int")) tNil))) (tNotV (tCB (rIsi K) (tCons (tVar 0) (tCons (tC (.ty "bool")) tNil))))))
def t_are_integers (K : Fg) : TS :=
  (tRet (tAndV (tCB (rIsi K) (tCons (tVar 0) (tCons (tC (.ty "tuple")) tNil))) (tAndV (tOp (rEqX K) (tCB (rLenX K) (tCons (tVar 0) tNil)) (tVar 1)) (tCB (rAll K) (tCons (tLc (iSeq K (tVar 0)) (gName 2) tYes (tCall sp_is_integer [] E0 (tCons (tVar 2) tNil)) [2]) tNil)))))
def t_is_square (K : Fg) : TS :=
  (tRet (tCall sp_are_integers [] E0 (tCons (tVar 0) (tCons (tC (.int 2)) tNil))))
def t_is_box (K : Fg) : TS :=
  (tRet (tAndV (tCall sp_are_integers [] E0 (tCons (tVar 0) (tCons (tC (.int 4)) tNil))) (tAndV (tOp rLtI (tOp (rIx K) (tVar 0) (tC (.int 0))) (tOp (rIx K) (tVar 0) (tC (.int 2)))) (tOp rLtI (tOp (rIx K) (tVar 0) (tC (.int 1))) (tOp (rIx K) (tVar 0) (tC (.int 3)))))))

theorem kitB_of {a b : String} {r : Bool} {K : Fg} (h : kitB a b = some r) : PySem.W.kitOne K (.type a) (.type b) = some r := kit_ty h
theorem kit_int (d : PyData) : kitB (clsD d) "int" = some (match d with | .int _ => true | .bool _ => true | _ => false) := by
  cases d with
  | none => exact (by decide +kernel : kitB "NoneType" "int" = some false)
  | bool _ => exact (by decide +kernel : kitB "bool" "int" = some true)
  | int _ => exact (by decide +kernel : kitB "int" "int" = some true)
  | str _ => exact (by decide +kernel : kitB "str" "int" = some false)
  | list _ => exact (by decide +kernel : kitB "list" "int" = some false)
  | tuple _ => exact (by decide +kernel : kitB "tuple" "int" = some false)
  | dict _ => exact (by decide +kernel : kitB "dict" "int" = some false)
theorem kit_bool (d : PyData) : kitB (clsD d) "bool" = some (match d with | .bool _ => true | _ => false) := by
  cases d with
  | none => exact (by decide +kernel : kitB "NoneType" "bool" = some false)
  | bool _ => exact (by decide +kernel : kitB "bool" "bool" = some true)
  | int _ => exact (by decide +kernel : kitB "int" "bool" = some false)
  | str _ => exact (by decide +kernel : kitB "str" "bool" = some false)
  | list _ => exact (by decide +kernel : kitB "list" "bool" = some false)
  | tuple _ => exact (by decide +kernel : kitB "tuple" "bool" = some false)
  | dict _ => exact (by decide +kernel : kitB "dict" "bool" = some false)
theorem kit_tuple (d : PyData) : kitB (clsD d) "tuple" = some (match d with | .tuple _ => true | _ => false) := by
  cases d with
  | none => exact (by decide +kernel : kitB "NoneType" "tuple" = some false)
  | bool _ => exact (by decide +kernel : kitB "bool" "tuple" = some false)
  | int _ => exact (by decide +kernel : kitB "int" "tuple" = some false)
  | str _ => exact (by decide +kernel : kitB "str" "tuple" = some false)
  | list _ => exact (by decide +kernel : kitB "list" "tuple" = some false)
  | tuple _ => exact (by decide +kernel : kitB "tuple" "tuple" = some true)
  | dict _ => exact (by decide +kernel : kitB "dict" "tuple" = some false)
section
variable {K : Fg}
theorem pure_is_integer : ∀ vs H (Q : VK) (E : XK), sp_is_integer vs H Q E → t_is_integer K { nx := fun _ H' => Q .non H', rt := Q } (L2.start ["thing"] vs) H := by
  refine pureT ?_
  rintro G φs φ vs H s1 hv ⟨d, rfl, rfl⟩ D k
  cases hv with
  | cons h1 h2 =>
    cases h2
    refine s_ret (G := G) (R := G) (φ := tBo (isI d)) ?_ s1 s1 k
    have v0 : ∀ {R : Hp}, PD (tVar 0) (L2.start ["thing"] [_]) G R (dt d) := pd_var rfl h1
    refine PD.is (pd_andV (pd_isi v0 (tyx_dt d) (kit_ty (kit_int d))) (fun _ => pd_notV (pd_isi v0 (tyx_dt d) (kit_ty (kit_bool d))))) ?_
    cases d <;> rfl
theorem len_is_integer : ∀ vs H Q E, sp_is_integer vs H Q E → vs.length = (["thing"] : List Str).length := lenT (by rintro φs φ ⟨d, rfl, _⟩; rfl)
theorem areI_other {d : PyData} {n : Int} (h : (match d with | .tuple _ => true | _ => false) = false) : areI d n = false := by
  cases d <;> first | rfl | cases h
theorem pure_are_integers : ∀ vs H (Q : VK) (E : XK), sp_are_integers vs H Q E → t_are_integers K { nx := fun _ H' => Q .non H', rt := Q } (L2.start ["thing", "count", "number"] vs) H := by
  refine pureT ?_
  rintro G φs φ vs H s1 hv ⟨d, n, rfl, hz, rfl⟩ D k
  cases hv with
  | cons h1 h2 =>
    cases h2 with
    | cons h2 h3 =>
      cases h3
      cases h2
      rename_i v
      refine s_ret (G := G) (R := G) (φ := tBo (areI d n)) ?_ s1 s1 k
      have v0 : PD (tVar 0) (L2.start ["thing", "count", "number"] [v, .int n]) G G (dt d) := pd_var rfl h1
      have a0 := pd_isi v0 (tyx_dt (K := K) d) (kit_ty (kit_tuple d))
      cases hd : d with
      | tuple ds =>
        subst hd
        rw [dt_tuple] at v0
        refine PD.is (pd_andV a0 fun _ => pd_andV (b := ds.all isI) (pd_eqI (pd_lenT v0) (pd_var rfl rfl)) fun _ => ?_) ?_
        · have e : ds.all isI = (ds.map isI).all id := by rw [List.all_map] <;> rfl
          rw [e]
          refine pd_all ?_
          rw [List.map_map]
          refine pd_lcM (xs := ds) (φ := dt) v0.sqT (hz ds rfl) ?_
          intro a ha x Gi Ri s1 s2 s3 hx
          exact ⟨_, gd_name, rfl, pd_call (ad_cons (pd_var rfl hx) ad_nil) ⟨a, rfl, rfl⟩⟩
        · rw [List.length_map] <;> rfl
      | _ =>
        subst hd
        exact PD.is (pd_andV (b := false) a0 fun q => nomatch q) rfl
theorem len_are_integers : ∀ vs H Q E, sp_are_integers vs H Q E → vs.length = (["thing", "count"] : List Str).length := lenT (by rintro φs φ ⟨d, n, rfl, _⟩; rfl)
theorem pure_is_square : ∀ vs H (Q : VK) (E : XK), sp_is_square vs H Q E → t_is_square K { nx := fun _ H' => Q .non H', rt := Q } (L2.start ["thing"] vs) H := by
  refine pureT ?_
  rintro G φs φ vs H s1 hv ⟨d, hz, rfl, rfl⟩ D k
  cases hv with
  | cons h1 h2 =>
    cases h2
    exact s_ret (G := G) (R := G) (pd_call (ad_cons (pd_var rfl h1) (ad_cons pd_c ad_nil)) ⟨d, 2, rfl, hz, rfl⟩) s1 s1 k
theorem len_is_square : ∀ vs H Q E, sp_is_square vs H Q E → vs.length = (["thing"] : List Str).length := lenT (by rintro φs φ ⟨d, _, rfl, _⟩; rfl)
theorem areI_4 {d : PyData} (h : areI d 4 = true) : ∃ a b c e, d = .tuple [.int a, .int b, .int c, .int e] := by
  cases d with
  | tuple ds =>
    simp only [areI, Bool.and_eq_true, decide_eq_true_eq] at h
    obtain ⟨h1, h2⟩ := h
    match ds, h1, h2 with
    | [x, y, z, w], _, h2 =>
      simp only [List.all_cons, List.all_nil, Bool.and_eq_true, Bool.and_true] at h2
      obtain ⟨a1, a2, a3, a4⟩ := h2
      cases x <;> first | cases a1 | skip
      cases y <;> first | cases a2 | skip
      cases z <;> first | cases a3 | skip
      cases w <;> first | cases a4 | skip
      exact ⟨_, _, _, _, rfl⟩
    | [], h1, _ => simp at h1
    | [_], h1, _ => simp at h1
    | [_, _], h1, _ => simp at h1
    | [_, _, _], h1, _ => simp at h1
    | _ :: _ :: _ :: _ :: _ :: l, h1, _ => simp at h1; omega
  | _ => cases h
theorem isBx_eq {a b c e : Int} : isBx (.tuple [.int a, .int b, .int c, .int e]) = (true && (decide (a < c) && decide (b < e))) := rfl
theorem pure_is_box : ∀ vs H (Q : VK) (E : XK), sp_is_box vs H Q E → t_is_box K { nx := fun _ H' => Q .non H', rt := Q } (L2.start ["thing"] vs) H := by
  refine pureT ?_
  rintro G φs φ vs H s1 hv ⟨d, hz, rfl, rfl⟩ D k
  cases hv with
  | cons h1 h2 =>
    cases h2
    rename_i v
    refine s_ret (G := G) (R := G) (φ := tBo (isBx d)) ?_ s1 s1 k
    have a0 : PD (tCall sp_are_integers [] E0 (tCons (tVar 0) (tCons (tC (.int 4)) tNil))) (L2.start ["thing"] [v]) G G (tBo (areI d 4)) := pd_call (ad_cons (pd_var rfl h1) (ad_cons pd_c ad_nil)) ⟨d, 4, rfl, hz, rfl⟩
    by_cases h4 : areI d 4 = true
    · obtain ⟨a, b, c, e, rfl⟩ := areI_4 h4
      rw [isBx_eq]
      have v0 : PD (tVar 0) (L2.start ["thing"] [v]) G G (tT [tI a, tI b, tI c, tI e]) := by
        have q : PD (tVar 0) (L2.start ["thing"] [v]) G G (dt (.tuple [.int a, .int b, .int c, .int e])) := pd_var rfl h1
        rw [dt_tuple] at q
        simpa only [List.map_cons, List.map_nil, dt_int] using q
      exact pd_andV a0 fun _ => pd_andV (pd_lt (pd_ixTX v0 pd_c rfl) (pd_ixTX v0 pd_c rfl)) fun _ => pd_lt (pd_ixTX v0 pd_c rfl) (pd_ixTX v0 pd_c rfl)
    · have h4' : areI d 4 = false := by simpa using h4
      rw [h4'] at a0
      refine PD.is (pd_andV (b := false) a0 fun q => nomatch q) ?_
      unfold isBx
      rw [h4'] <;> rfl
theorem len_is_box : ∀ vs H Q E, sp_is_box vs H Q E → vs.length = (["thing"] : List Str).length := lenT (by rintro φs φ ⟨d, _, rfl, _⟩; rfl)
end
end BR
/-! Own layer: operators of an own class, its property, static and class methods. -/
namespace BR
open PySem PySem.Spec PyProof.Rows L2
section
variable {X : Cx} {CX : CXT} {n : Nat} {C f : Addr} {sp : Sp} {E : XK} {A : Around} {pins : List (Addr × Obj)} {σ : St} {H : Hp} {s : Shared} {Q : VK}
theorem run_sub {us : List Value} {vs : List V} (sb : Sub X n A) (F : FnR X.prog X.w X.K X.mg X.base CX n f sp) (hx : Passes CX X E) (I : Inv X pins σ H s) (r : Vals vs us) (h : sp vs H Q E) : wpAny (model X.prog X.w) A (call (.ref f) us) (EP X pins σ Q) X.xe s := by
  have e0 : Env0 X.prog X.w X.K X.mg X.base A X.stack s H := by
    have e := I.env0
    exact ⟨by rw [sb.fr]; exact e.frames, e.mod, e.bs, e.bsz, e.funs, e.frf, e.hok, e.bare⟩
  refine wpAny_call (codeAny_mono (F A X.stack s H us vs Q E sb.room e0 r h) fun r s' hq => ?_)
  cases r with
  | error e => exact hx pins σ H s e s' I hq
  | ok fl =>
    cases fl with
    | ret w => exact I.after hq
    | next => exact False.elim hq
    | brk => exact False.elim hq
    | cont => exact False.elim hq
theorem noNot {v : V} {u : Value} (r : RelV v u) : u ≠ .notImplemented := by
  cases v <;> (intro z; subst z; first | (obtain ⟨_, e⟩ := r; cases e) | cases r)
theorem cmpBack {P : Value → Shared → Prop} {u : Value} {s' : Shared} (h : u ≠ .notImplemented) (k : P u s') : PySem.W.CmpBack P u s' := by
  cases u <;> first | exact k | exact absurd rfl h
/-- an instance of the class at C -/
def IsC (C : Addr) (H : Hp) (x : V) : Prop := ∃ a dx fs, x = .ref a ∧ H a = some (.ins C dx fs)
theorem IsC.at {x : V} {u : Value} (h : IsC C H x) (I : Inv X pins σ H s) (r : RelV x u) : ∃ a od, x = .ref a ∧ u = .ref a ∧ ∃ dx, PySem.W.InstAt s.heap a (PySem.W.instObj C dx) C (some od) := by
  obtain ⟨a, dx, fs, rfl, e⟩ := h
  cases r
  obtain ⟨mA, O, _⟩ := ins_get I.hok e
  obtain ⟨od, J, _⟩ := O.look
  exact ⟨a, od, rfl, rfl, dx, J⟩
theorem va1 {a : Addr} : Vals [V.ref a] [Value.ref a] := .cons rfl .nil
theorem va2 {a : Addr} {y : V} {u : Value} (r : RelV y u) : Vals [V.ref a, y] [Value.ref a, u] := .cons rfl (.cons r .nil)
/-- a method of the class that an operator reaches -/
structure OpM (K : Fg) (C : Addr) (m : Str) (f : Addr) : Prop where
  at_ : PySem.W.findIn K (.ref C) m = some (some (.ref f))
  fn : PySem.W.isFn K (.ref f) = true
/-- x op y, two instances of the class -/
def rOwn2 (C : Addr) (sp : Sp) (E : XK) : R2 := fun x y H Q => IsC C H x ∧ IsC C H y ∧ sp [x, y] H Q E
theorem op_own {op : Operator} (F : FnR X.prog X.w X.K X.mg X.base CX n f sp) (hr : Room n X.A) (hx : Passes CX X E) (hc : PySem.W.selfFirst X.K C = true) (m : OpM X.K C (PySem.dunder op.info.2) f) : OpR X (binaryOp op) (rOwn2 C sp E) := by
  rintro pins s σ H x y v u Q I rx ry ⟨hx1, hy1, h⟩
  obtain ⟨a, od, rfl, rfl, dx, J⟩ := hx1.at I rx
  obtain ⟨b, od', rfl, rfl, dy, J'⟩ := hy1.at I ry
  obtain ⟨m', hF⟩ := I.fr
  refine PySem.W.binop_K hF I.ok.mod.kin J J'.type hc m.at_ m.fn ?_
  refine thn (run_sub ⟨hr, rfl⟩ F hx I (va2 (y := .ref b) rfl) h) fun w s' ⟨z, H', I', rz, q⟩ => ?_
  exact cmpBack (noNot rz) ⟨z, H', I', rz, q⟩
theorem looks_tup {b : Addr} {ys : List V} (I : Inv X pins σ H s) (hb : H b = some (.tup ys)) : PySem.W.Looks (model X.prog X.w) s.heap (typeOf (.ref b)) (.type "tuple") := by
  obtain ⟨_, _, _, o, h1, h2, _⟩ := (show ObjOk X.prog X.w H s.heap b (.tup ys) from I.hok b _ hb)
  rw [← h2]
  exact (PySem.W.Looks.ld (part := none) h1).andThen .now
/-- x op t, t a tuple -/
def rOwnT (C : Addr) (sp : Sp) (E : XK) : R2 := fun x y H Q => IsC C H x ∧ (∃ b ys, y = .ref b ∧ H b = some (.tup ys)) ∧ sp [x, y] H Q E
/-- a tuple has no number slot of that name -/
structure OpT (K : Fg) (nm : String) : Prop where
  ex : ∃ fo ro, PySem.W.findIn K (.type "tuple") (PySem.dunder nm) = some fo ∧ PySem.W.findIn K (.type "tuple") (PySem.dunderR nm) = some ro ∧ ((fo.isSome && !isSeqSlot fo) || (ro.isSome && !isSeqSlot ro)) = false
theorem fills_T {M : Model} {h : Heap} {K : Fg} {nm : String} (X : K.In h) (t : OpT K nm) : PySem.W.Looks M h (fillsNumberSlot (.type "tuple") nm) false := by
  obtain ⟨fo, ro, h1, h2, hn⟩ := t.ex
  intro A Q E s k q
  unfold fillsNumberSlot
  refine wpAny_bind (PySem.W.looks_findIn X h1 A _ E s k ?_)
  refine wpAny_bind (PySem.W.looks_findIn X h2 A _ E s k ?_)
  refine wpAny_pure ?_
  rw [hn]
  exact q
theorem binop_KT {prog : Program} {w : World} {K : Fg} {A : Around} {E : Value → Shared → Prop} {s : Shared} {x L : Addr} {h₀ : Heap} {m : Str → Option Value} {ox : Obj} {od : Option Obj} {op : Operator} {b : Value} {Q : Value → Shared → Prop} (F : Fr h₀ L s.heap m) (X₀ : K.In h₀) (I : PySem.W.InstAt s.heap x ox C od)
    (hb : PySem.W.Looks (model prog w) s.heap (typeOf b) (.type "tuple")) (hc : PySem.W.selfFirst K C = true) (t : OpT K op.info.2)
    (hs : PySem.W.findIn K (.ref C) (PySem.dunder op.info.2) = some (some (.ref f))) (hf : PySem.W.isFn K (.ref f) = true)
    (h : wpAny (model prog w) A (call (.ref f) [.ref x, b]) (PySem.W.CmpBack Q) E s) : wpAny (model prog w) A (binaryOp op (.ref x) b) Q E s := by
  have X := X₀.keeps F.keep
  obtain ⟨cd, hcd, hm⟩ := PySem.W.any_some hc
  obtain ⟨rest, hm⟩ : ∃ rest, cd.mro = .ref C :: rest := by
    cases q : cd.mro with
    | nil => rw [q] at hm; cases hm
    | cons a r => rw [q] at hm; exact ⟨r, by rw [List.head?_cons] at hm; cases (beq_iff_eq.mp hm); rfl⟩
  unfold binaryOp
  refine wpAny_holding (wpAny_bind ?_)
  unfold binaryOp1
  refine wpAny_bind (I.type.here (wpAny_bind (hb.here (wpAny_bind ((PySem.W.fills_K X hcd hm hs).here ?_)))))
  have ne : (Value.ref C == Value.type "tuple") = false := by
    rw [beq_eq_false_iff_ne]
    exact fun z => nomatch z
  rw [if_neg (by rw [ne]; decide)]
  refine wpAny_bind ((fills_T X t).here ?_)
  simp only [Bool.and_false, Bool.false_eq_true, if_false, Bool.false_and]
  refine wpAny_bind (wpAny_pure ?_)
  simp only [Bool.and_false, Bool.false_eq_true, if_false, Bool.false_and, if_true]
  refine wpAny_bind (m := tryMethod (.ref x) _ b) ?_
  unfold tryMethod
  refine wpAny_bind (PySem.W.special_fn X I hs (beq_iff_eq.mp hf) (wpAny_mono h (fun v s' hv => ?_) fun _ _ e => e))
  cases v <;> first | exact hv.elim | exact wpAny_pure (wpAny_pure (wpAny_pure hv))
theorem op_ownT {op : Operator} (F : FnR X.prog X.w X.K X.mg X.base CX n f sp) (hr : Room n X.A) (hx : Passes CX X E) (hc : PySem.W.selfFirst X.K C = true) (m : OpM X.K C (PySem.dunder op.info.2) f) (t : OpT X.K op.info.2) : OpR X (binaryOp op) (rOwnT C sp E) := by
  rintro pins s σ H x y v u Q I rx ry ⟨hx1, ⟨b, ys, rfl, hb⟩, h⟩
  obtain ⟨a, od, rfl, rfl, dx, J⟩ := hx1.at I rx
  cases ry
  obtain ⟨m', hF⟩ := I.fr
  have tb : PySem.W.Looks (model X.prog X.w) s.heap (typeOf (.ref b)) (.type "tuple") := looks_tup I hb
  refine binop_KT hF I.ok.mod.kin J tb hc t m.at_ m.fn ?_
  refine thn (run_sub ⟨hr, rfl⟩ F hx I (va2 (y := .ref b) rfl) h) fun w s' ⟨z, H', I', rz, q⟩ => ?_
  exact cmpBack (noNot rz) ⟨z, H', I', rz, q⟩
/-- ~x -/
def rInv (C : Addr) (sp : Sp) (E : XK) : V → Hp → VK → Prop := fun x H Q => IsC C H x ∧ sp [x] H Q E
theorem un_inv (F : FnR X.prog X.w X.K X.mg X.base CX n f sp) (hr : Room n X.A) (hx : Passes CX X E) (m : OpM X.K C "__invert__" f) : UnR X (unaryOp .Invert) (rInv C sp E) := by
  rintro pins s σ H x v Q I rx ⟨hx1, h⟩
  obtain ⟨a, od, rfl, rfl, dx, J⟩ := hx1.at I rx
  obtain ⟨m', hF⟩ := I.fr
  exact PySem.W.ksp_inv hF I.ok.mod.kin J m.at_ m.fn (run_sub ⟨hr, rfl⟩ F hx I va1 h)
/-- y in x -/
def rInO (C : Addr) (sp : Sp) (E : XK) : R2 := fun y x H Q => IsC C H x ∧ sp [x, y] H (fun r H' => ∃ b, r = .bl b ∧ Q (.bl b) H') E
theorem op_inO (F : FnR X.prog X.w X.K X.mg X.base CX n f sp) (hr : Room n X.A) (hx : Passes CX X E) (m : OpM X.K C "__contains__" f) : OpR X (compareOp .In) (rInO C sp E) := by
  rintro pins s σ H y x u v Q I ry rx ⟨hx1, h⟩
  obtain ⟨a, od, rfl, rfl, dx, J⟩ := hx1.at I rx
  obtain ⟨m', hF⟩ := I.fr
  refine PySem.W.in_K hF I.ok.mod.kin J m.at_ m.fn ?_
  refine thn (run_sub ⟨hr, rfl⟩ F hx I (va2 ry) h) ?_
  rintro w s' ⟨z, H', I', rz, b, rfl, q⟩
  cases rz
  exact wpAny_truthy_bool ⟨.bl b, H', I', rfl, q⟩
def rNInO (C : Addr) (sp : Sp) (E : XK) : R2 := fun y x H Q => IsC C H x ∧ sp [x, y] H (fun r H' => ∃ b, r = .bl b ∧ Q (.bl (!b)) H') E
theorem op_nInO (F : FnR X.prog X.w X.K X.mg X.base CX n f sp) (hr : Room n X.A) (hx : Passes CX X E) (m : OpM X.K C "__contains__" f) : OpR X (compareOp .NotIn) (rNInO C sp E) := by
  rintro pins s σ H y x u v Q I ry rx ⟨hx1, h⟩
  obtain ⟨a, od, rfl, rfl, dx, J⟩ := hx1.at I rx
  obtain ⟨m', hF⟩ := I.fr
  refine PySem.W.notIn_K hF I.ok.mod.kin J m.at_ m.fn ?_
  refine thn (run_sub ⟨hr, rfl⟩ F hx I (va2 ry) h) ?_
  rintro w s' ⟨z, H', I', rz, b, rfl, q⟩
  cases rz
  exact wpAny_truthy_bool ⟨.bl (!b), H', I', rfl, q⟩
/-- x == y, x an instance; y of a type that is none of its subclasses -/
def rEqO (K : Fg) (C : Addr) (sp : Sp) (E : XK) : R2 := fun x y H Q => IsC C H x ∧ (∃ t, TyX K H y t ∧ PySem.W.notFirst K C t = true) ∧ sp [x, y] H Q E
theorem looks_ty {x : V} {u t : Value} (I : Inv X pins σ H s) (rx : RelV x u) (ty : TyX X.K H x t) : PySem.W.Looks (model X.prog X.w) s.heap (typeOf u) t := by
  cases ty with
  | base b =>
    cases b with
    | non => cases rx; exact PySem.W.Looks.of_pure rfl
    | bl y => cases rx; exact PySem.W.Looks.of_pure rfl
    | int i => obtain ⟨t, q⟩ := rx; cases q; exact PySem.W.Looks.of_pure rfl
    | str y => obtain ⟨t, q⟩ := rx; cases q; exact PySem.W.Looks.of_pure rfl
    | flt y => obtain ⟨t, q⟩ := rx; cases q; exact PySem.W.Looks.of_pure rfl
    | @lst a xs ea =>
      cases rx
      obtain ⟨_, _, n, _, h1⟩ := (show ObjOk X.prog X.w H s.heap a (.lst xs) from I.hok a _ ea)
      exact (PySem.W.Looks.ld (part := none) h1).andThen .now
    | @frz a ob xs ea =>
      cases rx
      obtain ⟨_, _, _, n, _, h1⟩ := (show ObjOk X.prog X.w H s.heap a (.frz ob (.lst xs)) from I.hok a _ ea)
      exact (PySem.W.Looks.ld (part := none) h1).andThen .now
    | @tup a xs ea =>
      cases rx
      obtain ⟨_, _, _, o, h1, h2, _⟩ := (show ObjOk X.prog X.w H s.heap a (.tup xs) from I.hok a _ ea)
      rw [← h2]
      exact (PySem.W.Looks.ld (part := none) h1).andThen .now
    | @dK a kvs ea =>
      cases rx
      obtain ⟨_, _, vs, _, o, es, ep, h1, h2, _⟩ := (show ObjOk X.prog X.w H s.heap a (.dK kvs) from I.hok a _ ea)
      rw [← h2.1]
      exact (PySem.W.Looks.ld (part := none) h1).andThen .now
    | @dT a kvs ea =>
      cases rx
      obtain ⟨_, _, xs, _, o, es, ep, h1, h2, _⟩ := (show ObjOk X.prog X.w H s.heap a (.dT kvs) from I.hok a _ ea)
      rw [← h2.1]
      exact (PySem.W.Looks.ld (part := none) h1).andThen .now
    | @ins a C dx fs ea cl ha hn htk hm =>
      cases rx
      obtain ⟨mA, O, _⟩ := ins_get I.hok ea
      obtain ⟨od, J, _⟩ := O.look
      exact J.type
  | byt y => obtain ⟨t, q⟩ := rx; cases q; exact PySem.W.Looks.of_pure rfl
  | @set a S n ea =>
    cases rx
    obtain ⟨o, _, _, _, e, ex, _⟩ := I.hok a _ ea
    rw [← ex.1]
    exact (PySem.W.Looks.ld (part := none) e).andThen .now
  | @kList a o e c =>
    cases rx
    rw [← c]
    exact (PySem.W.Looks.ld (part := none) (I.kIn a o e)).andThen .now
  | @kTuple a o e c =>
    cases rx
    rw [← c]
    exact (PySem.W.Looks.ld (part := none) (I.kIn a o e)).andThen .now
  | @kDict a o e c =>
    cases rx
    rw [← c]
    exact (PySem.W.Looks.ld (part := none) (I.kIn a o e)).andThen .now
  | @fTuple a ob xs ea =>
    cases rx
    obtain ⟨_, _, _, _, o, h1, h2, _⟩ := (show ObjOk X.prog X.w H s.heap a (.frz ob (.tup xs)) from I.hok a _ ea)
    rw [← h2]
    exact (PySem.W.Looks.ld (part := none) h1).andThen .now
  | @fDict a ob kvs ea =>
    cases rx
    obtain ⟨_, _, _, vs, _, o, es, ep, h1, h2, _⟩ := (show ObjOk X.prog X.w H s.heap a (.frz ob (.dK kvs)) from I.hok a _ ea)
    rw [← h2.1]
    exact (PySem.W.Looks.ld (part := none) h1).andThen .now
theorem op_eqO (F : FnR X.prog X.w X.K X.mg X.base CX n f sp) (hr : Room n X.A) (hx : Passes CX X E) (m : OpM X.K C "__eq__" f) : OpR X (compareOp .Eq) (rEqO X.K C sp E) := by
  rintro pins s σ H x y v u Q I rx ry ⟨hx1, ⟨t, ty, hn⟩, h⟩
  obtain ⟨a, od, rfl, rfl, dx, J⟩ := hx1.at I rx
  obtain ⟨m', hF⟩ := I.fr
  show wpAny (model X.prog X.w) X.A (richCompare .Eq (.ref a) u) (EP X pins σ Q) X.xe s
  refine PySem.W.cmp_K (op := .Eq) hr.units0 hF I.ok.mod.kin J (looks_ty I ry ty) hn m.at_ m.fn ?_
  refine thn (run_sub ⟨hr, rfl⟩ F hx I (va2 ry) h) fun w s' ⟨z, H', I', rz, q⟩ => ?_
  exact cmpBack (noNot rz) ⟨z, H', I', rz, q⟩
/-- x != y: what == says, turned round -/
structure NeM (K : Fg) (C : Addr) : Prop where
  at_ : PySem.W.findIn K (.ref C) "__ne__" = some (some (.builtin "object.__ne__"))
  ob : PySem.W.subIn K (.ref C) (.type "object") = some true
def rNeO (K : Fg) (C : Addr) (sp : Sp) (E : XK) : R2 := fun x y H Q => IsC C H x ∧ (∃ t, TyX K H y t ∧ PySem.W.notFirst K C t = true) ∧ sp [x, y] H (fun r H' => ∃ b, r = .bl b ∧ Q (.bl (!b)) H') E
theorem ifBound_bi {M : Model} {K : Fg} {x : Addr} {ox : Obj} {od : Option Obj} {id : String} {name : Str} {args : List Value} {A : Around} {s : Shared} {E : Value → Shared → Prop} {Q : Option Value → Shared → Prop} (X : K.In s.heap) (I : PySem.W.InstAt s.heap x ox C od)
    (hs : PySem.W.findIn K (.ref C) name = some (some (.builtin id))) (hb : ∀ self, bindSpecial (.builtin id) self = pure (.builtin id, [self]))
    (h : wpAny M A (call (.builtin id) (.ref x :: args)) (fun v => Q (some v)) E s) : wpAny M A (callSpecialIfBound? (.ref x) name args) Q E s := by
  simp only [callSpecialIfBound?, bindSpecialIfBound?]
  refine wpAny_holding (wpAny_bind (wpAny_bind (wpAny_bind (I.type.here ((PySem.W.looks_findIn X hs).here ?_)))))
  refine wpAny_bind (wpAny_askSetting (wpAny_ite ?_))
  have fin : wpAny M A (call (.builtin id) ([.ref x] ++ args) >>= fun v => pure (some v)) Q E s := wpAny_bind (wpAny_mono h (fun v s' h' => wpAny_pure h') fun _ _ h' => h')
  rw [hb]
  split
  · exact wpAny_bind (wpAny_pure (wpAny_pure (by exact fin)))
  · exact wpAny_tryCatch (wpAny_bind (wpAny_pure (wpAny_pure (by exact fin))))
theorem check_own {M : Model} {K : Fg} {x : Addr} {ox : Obj} {od : Option Obj} {id owner n : String} {rest : List Value} {A : Around} {s : Shared} {E : Value → Shared → Prop} {Q : Unit → Shared → Prop} (X : K.In s.heap) (I : PySem.W.InstAt s.heap x ox C od)
    (hk : builtinKind id = some .slot) (hs : splitId id = some (owner, n)) (ha : argsOk id ⟨.ref x :: rest, []⟩) (hob : PySem.W.subIn K (.ref C) (.type owner) = some true) (hq : Q () s) : wpAny M A (checkBuiltinCall id ⟨.ref x :: rest, []⟩) Q E s := by
  simp only [checkBuiltinCall, hk, hs]
  refine wpAny_bind ?_
  unfold isInstance
  refine wpAny_bind (I.type.here ?_)
  refine (PySem.W.looks_subIn X hob).here ?_
  simp only [Bool.not_true, Bool.false_eq_true, if_false]
  cases hsig : Manifest.signature? id with
  | none => exact wpAny_pure hq
  | some sig =>
    simp only [argsOk, hsig] at ha
    have h2 : Bind.checkArgs id sig ⟨.ref x :: rest, []⟩ = pure () := ha
    show wpAny M A (Bind.checkArgs id sig ⟨.ref x :: rest, []⟩) Q E _
    rw [h2]
    exact wpAny_pure hq
end
end BR
/-! Own layer: an own class, further. -/
namespace BR
open PySem PySem.Spec PyProof.Rows L2
section
variable {X : Cx} {CX : CXT} {n : Nat} {C f : Addr} {sp : Sp} {E : XK} {A : Around} {pins : List (Addr × Obj)} {σ : St} {H : Hp} {s : Shared} {Q : VK}
theorem ne_bind (self : Value) : bindSpecial (.builtin "object.__ne__") self = pure (.builtin "object.__ne__", [self]) := PySem.F.cmp_object.ne.bind self
theorem op_neO (F : FnR X.prog X.w X.K X.mg X.base CX n f sp) (hr : Room (n + 1) X.A) (hx : Passes CX X E) (m : OpM X.K C "__eq__" f) (nm : NeM X.K C) : OpR X (compareOp .NotEq) (rNeO X.K C sp E) := by
  rintro pins s σ H x y v u Q I rx ry ⟨hx1, ⟨t, ty, hn⟩, h⟩
  obtain ⟨a, od, rfl, rfl, dx, J⟩ := hx1.at I rx
  obtain ⟨m', hF⟩ := I.fr
  have KX := I.kIn
  have hb := looks_ty I ry ty
  have go : wpAny (model X.prog X.w) X.A (tryCompare (.ref a) "__ne__" u) (fun r s' => ∃ z, r = some z ∧ EP X pins σ Q z s') X.xe s := by
    unfold tryCompare
    refine wpAny_bind (ifBound_bi KX J nm.at_ ne_bind (wpAny_call (codeAny_call_builtin PySem.F.cmp_object.ne.plain PySem.F.cmpEntry_ne (check_own KX J PySem.F.cmpKind_ne PySem.F.cmpSplit_ne (PySem.F.cmpArgs_ne _ _) nm.ob ?_))))
    unfold Builtin.«object.__ne__»
    refine wpAny_bind (wpAny_pure ?_)
    refine wpAny_bind (wpAny_cRoomFor hr.in1.units0 ?_)
    refine wpAny_bind (PySem.W.ifBound_K KX J m.at_ m.fn ?_)
    refine thn (run_sub ⟨hr.in1, rfl⟩ F hx I (va2 ry) h) ?_
    rintro w s' ⟨z, H', I', rz, b, rfl, q⟩
    cases rz
    refine wpAny_bind (wpAny_truthy_bool (wpAny_pure ?_))
    exact wpAny_pure ⟨_, rfl, ⟨.bl (!b), H', I', rfl, q⟩⟩
  show wpAny (model X.prog X.w) X.A (richCompare .NotEq (.ref a) u) (EP X pins σ Q) X.xe s
  unfold richCompare
  simp only [oneThing_ref]
  refine wpAny_holding (wpAny_bind (wpAny_cRoomFor hr.units0 ?_))
  refine wpAny_bind (J.type.here (wpAny_bind (hb.here ?_)))
  split
  · rename_i q
    have e : PySem.W.subIn X.K t (.ref C) = some false := by
      rcases Bool.or_eq_true_iff.mp hn with e | e
      · rw [beq_iff_eq.mp e] at q; simp at q
      · exact beq_iff_eq.mp e
    refine wpAny_bind ((PySem.W.looks_subIn KX e).here ?_)
    simp only [Bool.false_eq_true, if_false]
    refine wpAny_bind (wpAny_mono go (fun r s' z => ?_) fun _ _ e => e)
    obtain ⟨v, rfl, hq⟩ := z
    exact wpAny_pure hq
  · refine wpAny_bind (wpAny_pure ?_)
    simp only [Bool.false_eq_true, if_false]
    refine wpAny_bind (wpAny_mono go (fun r s' z => ?_) fun _ _ e => e)
    obtain ⟨v, rfl, hq⟩ := z
    exact wpAny_pure hq
/-! truth -/
def rTruO (C : Addr) (sp : Sp) (E : XK) : V → Hp → (Bool → Hp → Prop) → Prop := fun x H Q => IsC C H x ∧ sp [x] H (fun r H' => ∃ b, r = .bl b ∧ Q b H') E
theorem tru_own (F : FnR X.prog X.w X.K X.mg X.base CX n f sp) (hr : Room n X.A) (hx : Passes CX X E) (m : OpM X.K C "__bool__" f) : TruR X (rTruO C sp E) := by
  rintro pins s σ H x v Q I rx ⟨hx1, h⟩
  obtain ⟨a, od, rfl, rfl, dx, J⟩ := hx1.at I rx
  obtain ⟨m', hF⟩ := I.fr
  refine PySem.W.truthy_K hF I.ok.mod.kin J m.at_ m.fn ?_
  refine thn (run_sub ⟨hr, rfl⟩ F hx I va1 h) ?_
  rintro w s' ⟨z, H', I', rz, b, rfl, q⟩
  cases rz
  exact ⟨H', I', q⟩
/-! repr -/
def FnRG (P : Program) (w : World) (K : Fg) (mg : Str → Option Value) (base : Heap) (CX : CXT) (k : Nat) (f : Addr) (sp : Sp) : Prop :=
  ∀ (A : Around) (outer : List Env) (s : Shared) (H : Hp) (us : List Value) (vs : List V) (Q : VK) (E : XK), Room k A → A.guards = some [] → Env0 P w K mg base A outer s H → Vals vs us → sp vs H Q E →
    codeAny (model P w) A (.call (.ref f) ⟨us, []⟩) (CR CX outer P w H s Q E) s
theorem run_subG {us : List Value} {vs : List V} (sb : Sub X n A) (hg : A.guards = some []) (F : FnRG X.prog X.w X.K X.mg X.base CX n f sp) (hx : Passes CX X E) (I : Inv X pins σ H s) (r : Vals vs us) (h : sp vs H Q E) : wpAny (model X.prog X.w) A (call (.ref f) us) (EP X pins σ Q) X.xe s := by
  have e0 : Env0 X.prog X.w X.K X.mg X.base A X.stack s H := by
    have e := I.env0
    exact ⟨by rw [sb.fr]; exact e.frames, e.mod, e.bs, e.bsz, e.funs, e.frf, e.hok, e.bare⟩
  refine wpAny_call (codeAny_mono (F A X.stack s H us vs Q E sb.room hg e0 r h) fun r s' hq => ?_)
  cases r with
  | error e => exact hx pins σ H s e s' I hq
  | ok fl =>
    cases fl with
    | ret w => exact I.after hq
    | next => exact False.elim hq
    | brk => exact False.elim hq
    | cont => exact False.elim hq
def rReprO (C : Addr) (sp : Sp) (E : XK) : List V → Hp → VK → Prop := fun xs H Q => ∃ x, xs = [x] ∧ IsC C H x ∧ sp [x] H (fun r H' => ∃ y, r = .str y ∧ Q (.str y) H') E
theorem call_reprO (F : FnRG X.prog X.w X.K X.mg X.base CX n f sp) (hr : Room (n + 1) X.A) (hg : X.A.guards = some []) (hx : Passes CX X E) (m : OpM X.K C "__repr__" f) : CallR X (.builtin "repr") (rReprO C sp E) := by
  rintro pins s σ H xs us Q I r ⟨x, rfl, hx1, h⟩
  cases r with
  | cons r1 r2 =>
    cases r2
    obtain ⟨a, od, rfl, rfl, dx, J⟩ := hx1.at I r1
    obtain ⟨m', hF⟩ := I.fr
    refine PySem.W.repr_K hr.in1.units0 hF I.ok.mod.kin J m.at_ m.fn ?_
    refine thn (run_subG ⟨hr.in1, rfl⟩ hg F hx I va1 h) ?_
    rintro w s' ⟨z, H', I', rz, y, rfl, q⟩
    obtain ⟨tk, rfl⟩ := rz
    exact ⟨.str y, H', I', ⟨tk, rfl⟩, q⟩
/-- {e}, e data with items -/
def tFmtD (K : Fg) (te : TE) : TE := fun σ H Q => te σ H fun x H1 => ∃ a d, x = .ref a ∧ Dp K H1 (.ref a) d ∧ d.showable = true ∧ d.hasDict = false ∧ d.shown.length ≤ sizeLine ∧ d.depth ≤ 64 ∧ Q (.str d.shown) H1
theorem pe_fmtD {e : Expr} {te : TE} {pos : Pos} {k : Nat} (hr : Room k X.A) (hg : X.A.guards = some []) (he : PE X e te) : PE X (.FormattedValue e (-1) none pos) (tFmtD X.K te) := by
  refine ⟨fun pins s σ H Q I h => ?_⟩
  refine wpAny_FormattedValue_plain (thn (he.run pins s σ H _ I h) fun v s1 hv => ?_)
  obtain ⟨x, H1, I1, r1, a, d, rfl, hd, h1, h2, h3, h4, q⟩ := hv
  obtain ⟨as, hrd⟩ := Dp.reads I1 d _ _ hd r1
  have r1' : _ = Value.ref a := r1
  subst r1'
  have hu := hr.un
  exact formatField_of_reads hrd h1 (fun z => by rw [h2] at z; cases z) hg (by omega) (fun _ _ e => e) (fun h' u tk hk => ⟨.str d.shown, H1, I1.kept hk, ⟨u, rfl⟩, q⟩) h3
/-! a property -/
def tPropR (C : Addr) (sp : Sp) (E : XK) (ta : TE) : TE := fun σ H Q => ta σ H fun x H1 => IsC C H1 x ∧ sp [x] H1 Q E
theorem pe_propR {e : Expr} {m : Str} {p g : Addr} {k : Nat} {ta : TE} {pos : Pos} (he : PE X e ta) (c : Cls X.K C) (hp : PropOf X.K C m p g) (F : FnR X.prog X.w X.K X.mg X.base CX k g sp) (hr : Room (k + 1) X.A) (hx : Passes CX X.nox E)
    (hab : attributeBase e m X.env (eval e X.env) = eval e X.env := by rfl) : PE X (.Attribute e m pos) (tPropR C sp E ta) := by
  refine ⟨fun pins s σ H Q I h => ?_⟩
  refine attr_of hab (thn (he.run pins s σ H _ I h) fun u s1 ⟨x, H1, I1, rx, hc, q⟩ => ?_)
  obtain ⟨a, od, rfl, rfl, dx, J⟩ := hc.at I1 rx
  obtain ⟨rest, hrec⟩ := hp.rec_
  have I2 := I1.tok (s1.toks + 1)
  have hc : (PySem.W.clsIn X.K C).isSome = true := by
    obtain ⟨cd, hc, _⟩ := PySem.W.any_some c.hd
    rw [hc]
    rfl
  refine PySem.W.get_bind I1.kIn J (PySem.W.plainGet_of (c.get m)).1 (PySem.W.findObj_data hc hp.at_ hp.get hp.tak) (PySem.W.plainGet_of (c.get m)).2 (wpAny_call (PySem.W.prop_get (s := { s1 with toks := s1.toks + 1 }) I1.kIn hrec ?_))
  refine codeAny_mono (F X.A.in1 X.stack { s1 with toks := s1.toks + 1 } H1 [.ref a] [.ref a] Q E hr.in1 I2.env0.in1 va1 q) fun r s' hq => ?_
  cases r with
  | error er => exact False.elim (hx pins σ H1 { s1 with toks := s1.toks + 1 } er s' (I2.wish _) hq)
  | ok fl =>
    cases fl with
    | ret u =>
      obtain ⟨v, H', I3, rv, q3⟩ := I2.after hq
      show wpAny _ _ (handedOut u) _ _ _
      rw [PySem.W.handedOut_of (handed_of rv)]
      exact wpAny_pure ⟨v, H', I3, rv, q3⟩
    | next => exact False.elim hq
    | brk => exact False.elim hq
    | cont => exact False.elim hq
/-! C.m(), m a static method without arguments -/
structure StM (K : Fg) (C : Addr) (m : Str) (p g : Addr) : Prop where
  at_ : PySem.W.findCls K (.ref C) (.type "type") m = some (.get (.builtin "staticmethod.__get__") (.ref p) .none (.ref C))
  rc : ∃ rest, PySem.W.recIn K p "staticmethod" = some (.ref g :: rest)
  kp : PySem.W.keepIn K (.ref g) = true
def tStat0 (C : Addr) (sp : Sp) (E : XK) (ta : TE) : TE := fun σ H Q => ta σ H fun x H1 => x = .ref C ∧ sp [] H1 Q E
theorem pe_stat0 {o : Expr} {m : Str} {p g : Addr} {k : Nat} {ta : TE} {pos apos : Pos} {pl : Sem Bool} (he : PE X o ta) (r : ClX.CRead X.K C (.type "type")) (hp : StM X.K C m p g) (F : FnR X.prog X.w X.K X.mg X.base CX k g sp) (hr : Room k X.A) (hx : Passes CX X E)
    (ht : eval (.Call (.Attribute o m apos) [] [] pos) X.env = (do
      let ov ← eval o X.env
      standAt apos.atName
      let (f, first) ← holding [ov] (getMethod ov m pl)
      callWith pos f first (backTo pos (starEach [] X.env)) (backToKw pos (keywordEach [] X.env))) := by rfl) :
    PE X (.Call (.Attribute o m apos) [] [] pos) (tStat0 C sp E ta) := by
  refine ⟨fun pins s σ H Q I h => ?_⟩
  refine PySem.W.methodCall_KW (pl := pl) (thn (he.run pins s σ H _ I h) fun u s1 ⟨x, H1, I1, rx, ex, q⟩ => ?_) ht
  subst ex
  obtain rfl : u = Value.ref C := rx
  obtain ⟨rest, hrec⟩ := hp.rc
  refine PySem.W.method_cls I1.kIn r.ga (PySem.W.cls_bind I1.kIn r.rd hp.at_ (wpAny_call (PySem.W.sm_get (s := { s1 with toks := s1.toks + 1 }) I1.kIn hrec (PySem.W.handed_on rfl ?_))))
  exact PySem.W.callWith_K0 (first := []) (I1.tok _).kIn hp.kp (run_sub (us := []) (vs := []) ⟨hr, rfl⟩ F hx (I1.tok _) .nil q)
/-! x(..), x a variable that holds the class -/
def tMakeV (C : Addr) (sp : Sp) (E : XK) (tf : TE) (t : TA) : TE := fun σ H Q => tf σ H fun y H1 => y = .ref C ∧ StX.tMakeR C sp E t σ H1 Q
theorem pe_makeV {x : Str} {e : Expr} {es : List Expr} {k : Nat} {tf : TE} {t : TA} {p pos : Pos} (hf : PE X (.Name x p) tf) (M : Mk X.K C f) (F : FnR X.prog X.w X.K X.mg X.base CX k f sp) (hr : Room (k + 1) X.A) (hx : Passes CX X E) (ha : PA X (e :: es) t)
    (he : starEach (e :: es) X.env = (false, eval e X.env) :: starEach es X.env := by rfl) (hpl : (backTo pos (starEach es X.env)).any (·.1) = false := by rfl) : PE X (.Call (.Name x p) (e :: es) [] pos) (tMakeV C sp E tf t) := by
  refine ⟨fun pins s σ H Q I h => ?_⟩
  refine wpAny_Call_Name_kw (thn (hf.run pins s σ H _ I h) fun u s1 ⟨y, H1, I1, ry, ey, q⟩ => ?_)
  subst ey
  obtain rfl : u = Value.ref C := ry
  refine PySem.W.callWith_K (h₀ := X.base) I1.ok.mod.kin M.kp (thn (ha.run pos pins s1 σ H1 _ I1 q) fun us s2 ⟨vs, H2, I2, r, q2⟩ => ⟨I2.kIn, ?_⟩) he hpl
  exact StX.run_makeR M F hr hx I2 r q2
end
end BR
/-! Own layer: what the module's top is asked for (facts of classes, defs by paths), promises by positional values. -/
namespace BR
open PySem PySem.Spec PyProof.Rows L2
/-! ### paths -/
abbrev cA (K : Fg) (x : Str) : Addr := He.ga K x
abbrev mA (K : Fg) (x m : Str) : Addr := He.ma K (He.ga K x) m
def recFst (K : Fg) (p : Addr) (T : String) : Addr := match PySem.W.recIn K p T with
  | some (.ref g :: _) => g
  | _ => 0
abbrev propA (K : Fg) (x m : Str) : Addr := recFst K (mA K x m) "property"
abbrev cmA (K : Fg) (x m : Str) : Addr := recFst K (mA K x m) "classmethod"
abbrev smA (K : Fg) (x m : Str) : Addr := recFst K (mA K x m) "staticmethod"
def recB (K : Fg) (p : Addr) (T : String) : Bool := match PySem.W.recIn K p T with
  | some (.ref _ :: _) => true
  | _ => false
theorem recB_ok {K : Fg} {p : Addr} {T : String} (h : recB K p T = true) : ∃ rest, PySem.W.recIn K p T = some (.ref (recFst K p T) :: rest) := by
  unfold recB at h
  unfold recFst
  split at h
  · rename_i g rest e
    rw [e]
    exact ⟨rest, rfl⟩
  · cases h
/-! ### facts -/
inductive Fb where
  | fa (f : He.Fa)
  | prop (x m : Str)
  | cmet (x m : Str)
  | smet (x m : Str)
  | cread (x : Str)
  | self1 (x : Str)
  | ne (x : Str)
  | isn (x : Str) (n : String)
  | ins (x : Str)
  | tupOp (nm : String)
def tupB (K : Fg) (nm : String) : Bool := match PySem.W.findIn K (.type "tuple") (PySem.dunder nm), PySem.W.findIn K (.type "tuple") (PySem.dunderR nm) with
  | some fo, some ro => !((fo.isSome && !isSeqSlot fo) || (ro.isSome && !isSeqSlot ro))
  | _, _ => false
def ocd (a b : Option PySem.W.CFound) : Bool := match a, b with
  | some (.get g a o t), some (.get g' a' o' t') => decide (g = g') && (decide (a = a') && (decide (o = o') && decide (t = t')))
  | _, _ => false
theorem ocd_ok {a b : Option PySem.W.CFound} (h : ocd a b = true) : a = b := by
  unfold ocd at h
  split at h
  · obtain ⟨h1, h2⟩ := He.ba h
    obtain ⟨h2, h3⟩ := He.ba h2
    obtain ⟨h3, h4⟩ := He.ba h3
    rw [of_decide_eq_true h1, of_decide_eq_true h2, of_decide_eq_true h3, of_decide_eq_true h4]
  · cases h
def Fb.ok (K : Fg) : Fb → Bool
  | .fa f => f.ok K
  | .prop x m => He.eqO (PySem.W.findIn K (.ref (cA K x)) m) (some (some (.ref (mA K x m)))) && (He.eqO (PySem.W.specialIn K (.ref (mA K x m)) "__get__") (some (some (.builtin "property.__get__"))) && (decide (PySem.W.takesIn K (.ref (mA K x m)) = some true) && recB K (mA K x m) "property"))
  | .cmet x m => ocd (PySem.W.findCls K (.ref (cA K x)) (.type "type") m) (some (.get (.builtin "classmethod.__get__") (.ref (mA K x m)) .none (.ref (cA K x)))) && (recB K (mA K x m) "classmethod" && PySem.W.fnIn K (cmA K x m))
  | .smet x m => ocd (PySem.W.findCls K (.ref (cA K x)) (.type "type") m) (some (.get (.builtin "staticmethod.__get__") (.ref (mA K x m)) .none (.ref (cA K x)))) && (recB K (mA K x m) "staticmethod" && PySem.W.keepIn K (.ref (smA K x m)))
  | .cread x => PySem.W.readsIn K (cA K x) (.type "type") && He.eqO (PySem.W.specialIn K (.ref (cA K x)) "__getattribute__") (some (some (.builtin "type.__getattribute__")))
  | .self1 x => PySem.W.selfFirst K (cA K x)
  | .ne x => He.eqO (PySem.W.findIn K (.ref (cA K x)) "__ne__") (some (some (.builtin "object.__ne__"))) && decide (PySem.W.subIn K (.ref (cA K x)) (.type "object") = some true)
  | .isn x n => decide (PySem.W.kitOne K (.type n) (.ref (cA K x)) = some false) && decide (PySem.W.subIn K (.type n) (.ref (cA K x)) = some false)
  | .tupOp nm => tupB K nm
  | .ins x => He.eqO (PySem.W.findIn K (.ref (cA K x)) "__class__") (some (some (.builtin "object.__class__"))) && (He.eqO (PySem.W.specialIn K (.builtin "object.__class__") "__get__") (some (some (.builtin "getset_descriptor.__get__"))) &&
      (decide (PySem.W.takesIn K (.builtin "object.__class__") = some true) && decide (PySem.W.mroIn K (cA K x) (.type "object") = some true)))
section
variable {K : Fg} {x m : Str} {n : String}
theorem prop_ok (c : (Fb.prop x m).ok K = true) : PropOf K (cA K x) m (mA K x m) (propA K x m) := by
  obtain ⟨c1, c⟩ := He.ba c
  obtain ⟨c2, c⟩ := He.ba c
  obtain ⟨c3, c4⟩ := He.ba c
  exact ⟨He.eqO_ok c1, He.eqO_ok c2, of_decide_eq_true c3, recB_ok c4⟩
theorem cmet_ok (c : (Fb.cmet x m).ok K = true) : ClX.CMet K (cA K x) (.type "type") m (mA K x m) (cmA K x m) := by
  obtain ⟨c1, c⟩ := He.ba c
  obtain ⟨c2, c3⟩ := He.ba c
  exact ⟨ocd_ok c1, recB_ok c2, c3⟩
theorem smet_ok (c : (Fb.smet x m).ok K = true) : StM K (cA K x) m (mA K x m) (smA K x m) := by
  obtain ⟨c1, c⟩ := He.ba c
  obtain ⟨c2, c3⟩ := He.ba c
  exact ⟨ocd_ok c1, recB_ok c2, c3⟩
theorem cread_ok (c : (Fb.cread x).ok K = true) : ClX.CRead K (cA K x) (.type "type") := by
  obtain ⟨c1, c2⟩ := He.ba c
  exact ⟨c1, He.eqO_ok c2⟩
theorem tupOp_ok {nm : String} (c : (Fb.tupOp nm).ok K = true) : OpT K nm := by
  have c' : tupB K nm = true := c
  unfold tupB at c'
  split at c'
  · rename_i fo ro h1 h2
    exact ⟨fo, ro, h1, h2, by simpa only [Bool.not_eq_true'] using c'⟩
  · cases c'
theorem self1_ok (c : (Fb.self1 x).ok K = true) : PySem.W.selfFirst K (cA K x) = true := c
theorem ne_ok (c : (Fb.ne x).ok K = true) : NeM K (cA K x) := by
  obtain ⟨c1, c2⟩ := He.ba c
  exact ⟨He.eqO_ok c1, of_decide_eq_true c2⟩
/-- a type that has nothing to do with the class -/
structure Oth (K : Fg) (C : Addr) (n : String) : Prop where
  kit : PySem.W.kitOne K (.type n) (.ref C) = some false
  sub : PySem.W.subIn K (.type n) (.ref C) = some false
theorem isn_ok (c : (Fb.isn x n).ok K = true) : Oth K (cA K x) n := by
  obtain ⟨c1, c2⟩ := He.ba c
  exact ⟨of_decide_eq_true c1, of_decide_eq_true c2⟩
theorem Oth.nf {C : Addr} (o : Oth K C n) : PySem.W.notFirst K C (.type n) = true := by
  unfold PySem.W.notFirst
  rw [o.sub]
  simp
theorem nf_self {C : Addr} : PySem.W.notFirst K C (.ref C) = true := by simp [PySem.W.notFirst]
/-- instances of the class have a type -/
structure InsT (K : Fg) (C : Addr) : Prop where
  cl : Cls K C
  ha : PySem.W.findIn K (.ref C) "__class__" = some (some (.builtin "object.__class__"))
  hn : PySem.W.specialIn K (.builtin "object.__class__") "__get__" = some (some (.builtin "getset_descriptor.__get__"))
  htk : PySem.W.takesIn K (.builtin "object.__class__") = some true
  hm : PySem.W.mroIn K C (.type "object") = some true
theorem ins_ok (cl : Cls K (cA K x)) (c : (Fb.ins x).ok K = true) : InsT K (cA K x) := by
  obtain ⟨c1, c⟩ := He.ba c
  obtain ⟨c2, c⟩ := He.ba c
  obtain ⟨c3, c4⟩ := He.ba c
  exact ⟨cl, He.eqO_ok c1, He.eqO_ok c2, of_decide_eq_true c3, of_decide_eq_true c4⟩
theorem InsT.ty {C : Addr} {H : Hp} {v : V} (i : InsT K C) (h : IsC C H v) : TyX K H v (.ref C) := by
  obtain ⟨a, dx, fs, rfl, e⟩ := h
  exact .base (.ins e i.cl i.ha i.hn i.htk i.hm)
theorem Meth.op {C f : Addr} (h : Meth K C m f) : OpM K C m f := ⟨h.at_, h.fn⟩
end
/-! ### defs by paths -/
structure DefP where
  at_ : Fg → Addr
  name : Str
  qual : Str
  params : Arguments
  body : List Stmt
  scope : Scope
  dfl : List He.Dv := []
  kwd : List (Str × He.Dv) := []
def fnP (K : Fg) (a : Addr) : He.FnW := match K.lookup a with
  | some ⟨_, _, .func fd, _⟩ => some (fd.name, fd.qualname, fd.params, fd.body, fd.scope, fd.globals, fd.closure, fd.builtins)
  | _ => none
def DefP.val (d : DefP) : He.FnW := some (d.name, d.qual, d.params, .stmts d.body, d.scope, mainGlobals, [], builtinsNs)
def DefP.dvs (K : Fg) (d : DefP) : List V := d.dfl.map (He.Dv.v K)
def DefP.kws (K : Fg) (d : DefP) : List (Str × V) := d.kwd.map fun q => (q.1, q.2.v K)
def DefP.ok (K : Fg) (d : DefP) : Bool := PySem.W.keepIn K (.ref (d.at_ K)) && (match K.lookup (d.at_ K) with
  | some ⟨_, _, .func fd, _⟩ => PySem.W.codeIn K fd.code d.qual && (He.dflB K fd.defaults (d.dvs K) && He.kwdB K fd.kwdefaults (d.kws K))
  | _ => false)
theorem DefP.funD {K : Fg} {d : DefP} (e : fnP K (d.at_ K) = d.val) (c : d.ok K = true) : ∃ fd, FunD K d.name d.qual d.params d.body d.scope (d.dvs K) (d.kws K) (d.at_ K) fd := by
  obtain ⟨kp, c2⟩ := He.ba c
  unfold fnP at e
  cases q : K.lookup (d.at_ K) with
  | none =>
    rw [q] at c2
    cases c2
  | some o =>
    obtain ⟨oc, od, dt, osl⟩ := o
    rw [q] at c2 e
    cases dt with
    | func fd =>
      obtain ⟨n1, n2, n3, n4, n5, n6, n7, n8, n9, n10, n11, n12, n13, n14, n15⟩ := fd
      have e2 : (some (n1, n2, n3, n4, n5, n6, n7, n15) : He.FnW) = some (d.name, d.qual, d.params, .stmts d.body, d.scope, mainGlobals, [], builtinsNs) := e
      simp only [Option.some.injEq, Prod.mk.injEq] at e2
      obtain ⟨h1, h2, h3, h4, h5, h6, h7, h8⟩ := e2
      subst h1 h2 h3 h4 h5 h6 h7 h8
      have c3 : (PySem.W.codeIn K n13 d.qual && (He.dflB K n8 (d.dvs K) && He.kwdB K n9 (d.kws K))) = true := c2
      obtain ⟨k1, k2⟩ := He.ba c3
      obtain ⟨k3, k4⟩ := He.ba k2
      exact ⟨_, ⟨oc, od, n8, n9, n10, n11, n12, n13, n14, osl, rfl, q, k1, He.dflB_ok k3, He.kwdB_ok k4⟩, kp⟩
    | _ => cases c2
/-! ### the Hook -/
abbrev AlP : Type := Bool × List He.FnW
def obsP (fb : List Fb) (fn : List DefP) (K : Fg) : AlP := ((fb.all fun f => f.ok K) && fn.all fun d => d.ok K, fn.map fun d => fnP K (d.at_ K))
def valP (fn : List DefP) : AlP := (true, fn.map DefP.val)
def SaysP (fb : List Fb) (fn : List DefP) (K : Fg) : Prop := obsP fb fn K = valP fn
def obsPG (n : Nat) (fb : List Fb) (fn : List DefP) (g : Addr → Option Obj) : AlP := obsP fb fn (He.frG g (He.asD g n ++ [cStatics]))
def hookP (n : Nat) (fb : List Fb) (fn : List DefP) : PySem.W.Hook where
  α := AlP
  obs := fun s => obsPG n fb fn s.heap.get?
  val := fun _ => valP fn
  says := fun _ h => ∃ K : Fg, K.In h ∧ SaysP fb fn K
  of := fun _ _ e => ⟨_, He.frG_in, e⟩
  keeps := fun _ _ _ ⟨K, hK, c⟩ k => ⟨K, PySem.W.Frag.In.keeps hK k, c⟩
theorem obsPG_eq {n : Nat} {fb : List Fb} {fn : List DefP} {g : Addr → Option Obj} {s : Shared} (h : ∀ a, g a = s.heap.get? a) : obsPG n fb fn g = (hookP n fb fn).obs s := by
  have e : g = s.heap.get? := funext h
  rw [e] <;> rfl
section
variable {fb : List Fb} {fn : List DefP} {K : Fg}
theorem SaysP.fact (c : SaysP fb fn K) (i : Nat) {f : Fb} (h : fb[i]? = some f := by rfl) : f.ok K = true := by
  have c1 := (He.ba (show ((fb.all fun f => f.ok K) && fn.all fun d => d.ok K) = true from congrArg (fun z : AlP => z.1) c)).1
  exact List.all_eq_true.mp c1 f (List.mem_of_getElem? h)
theorem SaysP.fa (c : SaysP fb fn K) (i : Nat) {f : He.Fa} (h : fb[i]? = some (.fa f) := by rfl) : f.ok K = true := c.fact i h
theorem SaysP.def_ (c : SaysP fb fn K) (i : Nat) {d : DefP} (h : fn[i]? = some d := by rfl) : ∃ fd, FunD K d.name d.qual d.params d.body d.scope (d.dvs K) (d.kws K) (d.at_ K) fd := by
  have c2 := (He.ba (show ((fb.all fun f => f.ok K) && fn.all fun d => d.ok K) = true from congrArg (fun z : AlP => z.1) c)).2
  have e : fn.map (fun d => fnP K (d.at_ K)) = fn.map DefP.val := congrArg (fun z : AlP => z.2) c
  have e2 : (fn.map fun d => fnP K (d.at_ K))[i]? = (fn.map DefP.val)[i]? := by rw [e]
  rw [List.getElem?_map, List.getElem?_map, h] at e2
  exact DefP.funD (Option.some.inj e2) (List.all_eq_true.mp c2 d (List.mem_of_getElem? h))
end
/-! ### promises by positional values -/
structure HasR (P : Program) (w : World) (K : Fg) (mg : Str → Option Value) (base : Heap) (CX : CXT) (k : Nat) (x : Str) (sp : Sp) : Prop where
  ex : ∃ f, mg x = some (.ref f) ∧ PySem.W.keepIn K (.ref f) = true ∧ FnR P w K mg base CX k f sp
abbrev FnQ (K : Fg) (x q : Str) (st : Stmt) (f : Addr) (fd : FuncData) : Prop := FunD K x q (defArgs st) (defBody st) (defScope st) [] [] f fd
section
variable {CX : CXT} {P : Program} {w : World} {K : Fg} {mg : Str → Option Value} {base : Heap} {k : Nat} {x q : Str} {st : Stmt} {f : Addr} {fd : FuncData} {N ps : List Str} {sp : Sp}
/-- a def without defaults -/
theorem fnR_of (F : FnQ K x q st f fd) (S : FnScope N ps (defScope st)) (hb : Binds K fd ps []) (len : ∀ vs H Q E, sp vs H Q E → vs.length = ps.length)
    (hbody : ∀ (cdv : Value) (A : Around) (outer : List Env) (s : Shared) (H : Hp) (vs : List V) (Q : VK) (E : XK), Room k (A.deeper (envOfC q (defScope st) s.heap.objs.size f cdv)) → sp vs H Q E →
      ∃ t, PSs (cxOf CX P w K mg base N q (defScope st) f cdv A outer s H E) (defBody st) t ∧ t { nx := fun _ H' => Q .non H', rt := Q } (start N vs) H) :
    FnR P w K mg base CX (k + 1) f sp :=
  ((FunD.ok F S len hbody).raw hb .nil).imp fun vs H Q E h => by rw [List.append_nil]; exact h
/-- .. that asks that no repr is under way -/
theorem fnRG_of (F : FnQ K x q st f fd) (S : FnScope N ps (defScope st)) (hb : Binds K fd ps []) (len : ∀ vs H Q E, sp vs H Q E → vs.length = ps.length)
    (hbody : ∀ (cdv : Value) (A : Around) (outer : List Env) (s : Shared) (H : Hp) (vs : List V) (Q : VK) (E : XK), Room k (A.deeper (envOfC q (defScope st) s.heap.objs.size f cdv)) → A.guards = some [] → sp vs H Q E →
      ∃ t, PSs (cxOf CX P w K mg base N q (defScope st) f cdv A outer s H E) (defBody st) t ∧ t { nx := fun _ H' => Q .non H', rt := Q } (start N vs) H) :
    FnRG P w K mg base CX (k + 1) f sp := by
  obtain ⟨oc, od, dV, kV, doc, pm, an, cdv, ct, osl, rfl, lk, hcd, _, _⟩ := F.ex
  have G := fn_ofG (CX := CX) (P := P) (w := w) (mg := mg) (base := base) lk hcd S len fun A outer s H vs Q E hr hg hsp => hbody cdv A outer s H vs Q E hr hg hsp
  intro A outer s H us vs Q E hr hg e0 r hs
  have hl : (us ++ []).length = ps.length := by rw [List.append_nil, ← r.length]; exact G.len _ _ _ _ hs
  have hb' := hb s us (e0.mod.kin.keeps fun b o e => (e0.bs b o e).1) hl
  rw [List.append_nil] at hb'
  exact G.run A outer s H ⟨us, []⟩ us vs Q E hr hg e0 hb' r hs
theorem hasR_of (F : FnQ K x q st f fd) (hm : mg x = some (.ref f)) (S : FnScope N ps (defScope st)) (hb : ∀ fd', FnQ K x q st f fd' → Binds K fd' ps []) (len : ∀ vs H Q E, sp vs H Q E → vs.length = ps.length)
    (hbody : ∀ (cdv : Value) (A : Around) (outer : List Env) (s : Shared) (H : Hp) (vs : List V) (Q : VK) (E : XK), Room k (A.deeper (envOfC q (defScope st) s.heap.objs.size f cdv)) → sp vs H Q E →
      ∃ t, PSs (cxOf CX P w K mg base N q (defScope st) f cdv A outer s H E) (defBody st) t ∧ t { nx := fun _ H' => Q .non H', rt := Q } (start N vs) H) :
    HasR P w K mg base CX (k + 1) x sp := ⟨f, hm, F.kp, fnR_of F S (hb fd F) len hbody⟩
end
section
variable {X : Cx} {CX : CXT} {k : Nat} {x : Str} {sp : Sp} {E : XK} {p pos : Pos} {e : Expr} {es : List Expr} {t : TA}
theorem pe_callR (hf : HasR X.prog X.w X.K X.mg X.base CX k x sp) (hr : Room k X.A) (hx : Passes CX X E) (hg : Gl X x) (ha : PA X (e :: es) t)
    (hdb : (x == ("__debug__" : Str)) = false := by decide) (he : starEach (e :: es) X.env = (false, eval e X.env) :: starEach es X.env := by rfl)
    (hpl : (backTo pos (starEach es X.env)).any (·.1) = false := by rfl) : PE X (.Call (.Name x p) (e :: es) [] pos) (tCall sp [] E t) := by
  obtain ⟨f, hm, hk, F⟩ := hf.ex
  refine ⟨fun pins s σ H Q I h => ?_⟩
  refine wpAny_Call_Name_kw (ld_glob I hg hm ?_ hdb)
  refine PySem.W.callWith_K (h₀ := X.base) I.ok.mod.kin hk (thn (ha.run pos pins s σ H _ I h) ?_) he hpl
  rintro us s1 ⟨vs, H1, I1, r, q⟩
  have q2 : sp (vs ++ []) H1 Q E := q
  rw [List.append_nil] at q2
  exact ⟨I1.kIn, run_sub ⟨hr, rfl⟩ F hx I1 r q2⟩
theorem pe_callR0 (hf : HasR X.prog X.w X.K X.mg X.base CX k x sp) (hr : Room k X.A) (hx : Passes CX X E) (hg : Gl X x)
    (hdb : (x == ("__debug__" : Str)) = false := by decide) : PE X (.Call (.Name x p) [] [] pos) (tCall sp [] E tNil) := by
  obtain ⟨f, hm, hk, F⟩ := hf.ex
  refine ⟨fun pins s σ H Q I h => ?_⟩
  exact wpAny_Call_Name_kw (ld_glob I hg hm (PySem.W.callWith_K0 I.kIn hk (run_sub (us := []) (vs := []) ⟨hr, rfl⟩ F hx I .nil h)) hdb)
end
end BR
/-! Regions: what they are, rules for their operators. -/
namespace BR
open PySem PySem.Spec PyProof.Rows L2
abbrev RG (K : Fg) : Addr := He.ga K "Region"
abbrev Reg := List Sl × Bool
def tReg (K : Fg) (r : Reg) : Ty := ⟨fun G v => ∃ a dx fv, v = .ref a ∧ G a = some (.ins (RG K) dx [("form", fv), ("is_outside", .bl r.2)]) ∧ (tForm r.1).p G fv,
  fun _ _ _ s ⟨a, dx, fv, e, h1, h2⟩ => ⟨a, dx, fv, e, s _ _ h1, (tForm r.1).m _ _ _ s h2⟩⟩
theorem isC_of {K : Fg} {r : Reg} {G H : Hp} {v : V} (h : (tReg K r).p G v) (s : Same G H) : IsC (RG K) H v := by
  obtain ⟨a, dx, fv, rfl, h1, _⟩ := h
  exact ⟨a, dx, _, rfl, s _ _ h1⟩
/-! mirrors -/
def unite (a b : Reg) : Reg := match a.2, b.2 with
  | true, true => (mixed a.1 b.1 .and, true)
  | true, false => (mixed a.1 b.1 .less, true)
  | false, true => (mixed b.1 a.1 .less, true)
  | false, false => (mixed a.1 b.1 .or, false)
def rout (a : Reg) : Reg := (a.1, !a.2)
def rand (a b : Reg) : Reg := rout (unite (rout a) (rout b))
def rsub (a b : Reg) : Reg := rout (unite (rout a) b)
def rxor (a b : Reg) : Reg := (mixed a.1 b.1 .either, a.2 != b.2)
def rhas (a : Reg) (p : Pr) : Bool := cov (spansAt a.1 p.1) p.2 != a.2
def dSlabs (f : List Sl) : PyData := .list (f.map fun s => .tuple [.int s.1, .int s.2.1, .list (s.2.2.map dP)])
def reprR (a : Reg) : Str := ((if a.2 then ("~" : Str) else "") ++ "Region(") ++ (dSlabs a.1).shown ++ ")"
def SmallR (a : Reg) : Prop := Small a.1
def bxOk (b : Bx) : Prop := b.1 < b.2.2.1 ∧ b.2.1 < b.2.2.2
/-! promises -/
def sp_init (K : Fg) : Sp := fun vs H Q _ => ∃ a dx fv o, vs = [.ref a, fv, .bl o] ∧ H a = some (.ins (RG K) dx []) ∧ Q .non (upd (upd H a (.ins (RG K) dx [("form", fv)])) a (.ins (RG K) dx [("form", fv), ("is_outside", .bl o)]))
def sp_check_region (K : Fg) : Sp := spT fun φs φ => ∃ r, φs = [tReg K r] ∧ φ = tN
def sp_check_box : Sp := spT fun φs φ => ∃ b, bxOk b ∧ φs = [tB4 b] ∧ φ = tN
def sp_check_square : Sp := spT fun φs φ => ∃ p, φs = [tP p] ∧ φ = tN
def sp_check_bounded (K : Fg) : Sp := spT fun φs φ => ∃ f, φs = [tReg K (f, false)] ∧ φ = tN
def spR1 (K : Fg) (pre : Reg → Prop) (g : Reg → Ty) : Sp := spT fun φs φ => ∃ r, pre r ∧ φs = [tReg K r] ∧ φ = g r
def spR2 (K : Fg) (pre : Reg → Reg → Prop) (g : Reg → Reg → Ty) : Sp := spT fun φs φ => ∃ r s, pre r s ∧ φs = [tReg K r, tReg K s] ∧ φ = g r s
def Sm2 (a b : Reg) : Prop := Small a.1 ∧ Small b.1
def sp_united (K : Fg) : Sp := spR2 K Sm2 fun a b => tReg K (unite a b)
def sp_turned_out (K : Fg) : Sp := spR1 K (fun _ => True) fun a => tReg K (rout a)
def sp_or (K : Fg) : Sp := spR2 K Sm2 fun a b => tReg K (unite a b)
def sp_and (K : Fg) : Sp := spR2 K Sm2 fun a b => tReg K (rand a b)
def sp_sub (K : Fg) : Sp := spR2 K Sm2 fun a b => tReg K (rsub a b)
def sp_xor (K : Fg) : Sp := spR2 K Sm2 fun a b => tReg K (rxor a b)
def sp_invert (K : Fg) : Sp := spR1 K (fun _ => True) fun a => tReg K (rout a)
def sp_slabs (K : Fg) : Sp := spR1 K (fun a => Small a.1) fun a => dt (dSlabs a.1)
def sp_repr (K : Fg) : Sp := spR1 K (fun a => Small a.1 ∧ Shows (dSlabs a.1) 16000000) fun a => tSt (reprR a)
def sp_contains (K : Fg) : Sp := spT fun φs φ => ∃ r p, Small r.1 ∧ φs = [tReg K r, tP p] ∧ φ = tBo (rhas r p)
def sp_bool (K : Fg) : Sp := spR1 K (fun _ => True) fun a => tBo (a.2 || !a.1.isEmpty)
def sp_eq (K : Fg) : Sp := spT fun φs φ => ∃ r, (∃ s, φs = [tReg K r, tReg K s] ∧ φ = tBo (decide (r = s))) ∨ ∃ ψ n, φs = [tReg K r, ψ] ∧ (∀ G v, ψ.p G v → TyX K G v (.type n)) ∧ Oth K (RG K) n ∧ φ = tBo false
def sp_of0 (K : Fg) : Sp := spT fun φs φ => ∃ bs, bs.length ≤ 2000 ∧ (∀ b ∈ bs, bxOk b) ∧ φs = [tv (.ref (RG K)), tT (bs.map tB4)] ∧ φ = tReg K (slabsOf bs, false)
def sp_of (K : Fg) : Sp := fun vs H Q E => ∃ ws rest, vs = ws ++ rest ∧ ws.length = 1 ∧ rest.length ≤ sizeLine ∧ ∀ p, H p = none → sp_of0 K (ws ++ [V.ref p]) (upd H p (.tup rest)) Q E
def sp_empty (K : Fg) : Sp := spT fun φs φ => φs = [] ∧ φ = tReg K ([], false)
def firstSq (a : Reg) : Option Pr := if a.2 then (if a.1.length > 0 then some ((a.1.getLastD (0, 0, [])).2.1, 0) else some (0, 0)) else match a.1 with
  | [] => none
  | s :: _ => some (s.1, (s.2.2.headD (0, 0)).1)
def tOP : Option Pr → Ty
  | some p => tP p
  | none => tN
def sp_first_square (K : Fg) : Sp := spR1 K (fun a => ∀ s ∈ a.1, s.2.2 ≠ []) fun a => tOP (firstSq a)
def sp_separating (K : Fg) : Sp := spR2 K (fun a b => Sm2 a b ∧ ∀ s ∈ (rxor a b).1, s.2.2 ≠ []) fun a b => tOP (firstSq (rxor a b))
/-! facts of the class -/
structure RegF (K : Fg) : Prop where
  ct : InsT K (RG K)
  n1 : NoAttr K (RG K) "form"
  n2 : NoAttr K (RG K) "is_outside"
section
variable {K : Fg} {σ : St} {G R : Hp} {ta tb te : TE} {a b : Reg} {φ χ : Ty} {E : XK} {pre : List Ty → Ty → Prop}
theorem pd_form (F : RegF K) (h : PD te σ G R (tReg K a)) : PD (tFld K te "form") σ G R (tForm a.1) := fun H sr sg Q q =>
  h H sr sg _ fun v G1 H1 g1 ⟨x, dx, fv, e, h1, h2⟩ => ⟨x, RG K, dx, _, fv, e, g1.s _ _ h1, F.ct.cl, F.n1, rfl, q fv G1 H1 g1 h2⟩
theorem pd_isout (F : RegF K) (h : PD te σ G R (tReg K a)) : PD (tFld K te "is_outside") σ G R (tBo a.2) := fun H sr sg Q q =>
  h H sr sg _ fun v G1 H1 g1 ⟨x, dx, fv, e, h1, h2⟩ => ⟨x, RG K, dx, _, .bl a.2, e, g1.s _ _ h1, F.ct.cl, F.n2, rfl, q (.bl a.2) G1 H1 g1 rfl⟩
theorem pd_makeR {t : TA} (h : AD t σ G R [tForm a.1, tBo a.2]) : PD (StX.tMakeR (RG K) (sp_init K) E t) σ G R (tReg K a) := fun H sr sg Q q =>
  h H sr sg _ fun vs G1 H1 g1 hv => by
    obtain ⟨fv, o, rfl, h1, h2⟩ := all2 hv
    cases h2
    intro x dx hx hd hne
    refine ⟨x, dx, fv, a.2, rfl, upd_same, rfl, ?_⟩
    have e1 : (upd H1 dx (.own x)) x = none := by rw [upd_ne (Ne.symm hne)]; exact hx
    have s1 : Same H1 (upd (upd (upd (upd H1 dx (.own x)) x (.ins (RG K) dx [])) x (.ins (RG K) dx [("form", fv)])) x (.ins (RG K) dx [("form", fv), ("is_outside", .bl a.2)])) := fun c o e => by
      have n1 : c ≠ x := ne_of_none e hx
      have n2 : c ≠ dx := ne_of_none e hd
      rw [upd_ne n1, upd_ne n1, upd_ne n1, upd_ne n2]
      exact e
    have hG : G1 x = none := g1.s.free hx
    refine q _ (upd G1 x (.ins (RG K) dx [("form", fv), ("is_outside", .bl a.2)])) _ (g1.trans ⟨same_new hG, s1, fun c o e => ?_, fun c c1 c2 => ?_⟩) ⟨x, dx, fv, rfl, upd_same, (tForm a.1).m _ _ _ (same_new hG) h1⟩
    · by_cases z : c = x
      · subst z
        rw [upd_same] at e ⊢
        exact e
      · rw [upd_ne z] at e
        exact s1 c o (g1.s c o e)
    · by_cases z : c = x
      · subst z
        exact hx
      · rw [upd_ne z] at c2
        exact absurd c1 c2
theorem pd_makeV {t : TA} {tf : TE} (hf : PD tf σ G R (tv (.ref (RG K)))) (h : AD t σ G R [tForm a.1, tBo a.2]) : PD (tMakeV (RG K) (sp_init K) E tf t) σ G R (tReg K a) := fun H sr sg Q q =>
  hf H sr sg _ fun v G1 H1 g1 hv => ⟨hv, pd_makeR (h.mono g1.g (sr.trans g1.h)) H1 (same_refl _) g1.s Q fun u G2 H2 g2 hu => q u G2 H2 (g1.trans g2) hu⟩
theorem pd_own2 (ha : PD ta σ G R (tReg K a)) (hb : PD tb σ G R (tReg K b)) (hp : pre [tReg K a, tReg K b] χ) : PD (tOp (rOwn2 (RG K) (spT pre) E) ta tb) σ G R χ :=
  pd_op ha hb fun x y G1 H _ s1 hx hy Q q => ⟨isC_of hx s1, isC_of hy s1, G1, _, χ, s1, .cons hx (.cons hy .nil), hp, q⟩
theorem pd_inv (ha : PD ta σ G R (tReg K a)) (hp : pre [tReg K a] χ) : PD (tUn (rInv (RG K) (spT pre) E) ta) σ G R χ := fun H sr sg Q q =>
  ha H sr sg _ fun x G1 H1 g1 hx => ⟨isC_of hx g1.s, G1, _, χ, g1.s, .cons hx .nil, hp, fun v G2 H2 g2 hv => q v G2 H2 (g1.trans g2) hv⟩
theorem pd_inO {c : Bool} (ha : PD ta σ G R φ) (hb : PD tb σ G R (tReg K b)) (hp : pre [tReg K b, φ] (tBo c)) : PD (tOp (rInO (RG K) (spT pre) E) ta tb) σ G R (tBo c) :=
  pd_op ha hb fun x y G1 H _ s1 hx hy Q q => ⟨isC_of hy s1, G1, _, tBo c, s1, .cons hy (.cons hx .nil), hp, fun v G2 H2 g2 hv => ⟨c, hv, q _ G2 H2 g2 rfl⟩⟩
theorem pd_nInO {c : Bool} (ha : PD ta σ G R φ) (hb : PD tb σ G R (tReg K b)) (hp : pre [tReg K b, φ] (tBo c)) : PD (tOp (rNInO (RG K) (spT pre) E) ta tb) σ G R (tBo (!c)) :=
  pd_op ha hb fun x y G1 H _ s1 hx hy Q q => ⟨isC_of hy s1, G1, _, tBo c, s1, .cons hy (.cons hx .nil), hp, fun v G2 H2 g2 hv => ⟨c, hv, q _ G2 H2 g2 rfl⟩⟩
theorem pd_eqO (F : RegF K) (ha : PD ta σ G R (tReg K a)) (hb : PD tb σ G R (tReg K b)) : PD (tOp (rEqO K (RG K) (sp_eq K) E) ta tb) σ G R (tBo (decide (a = b))) :=
  pd_op ha hb fun x y G1 H _ s1 hx hy Q q => ⟨isC_of hx s1, ⟨_, F.ct.ty (isC_of hy s1), nf_self⟩, G1, _, tBo (decide (a = b)), s1, .cons hx (.cons hy .nil), ⟨a, .inl ⟨b, rfl, rfl⟩⟩, q⟩
theorem TyX.mono {G H : Hp} {v : V} {t : Value} (s : Same G H) (h : TyX K G v t) : TyX K H v t := by
  cases h with
  | base b =>
    refine .base ?_
    cases b with
    | non => exact .non
    | bl y => exact .bl y
    | int i => exact .int i
    | str y => exact .str y
    | flt y => exact .flt y
    | lst e => exact .lst (s _ _ e)
    | frz e => exact .frz (s _ _ e)
    | tup e => exact .tup (s _ _ e)
    | dK e => exact .dK (s _ _ e)
    | dT e => exact .dT (s _ _ e)
    | ins e c1 c2 c3 c4 c5 => exact .ins (s _ _ e) c1 c2 c3 c4 c5
  | byt y => exact .byt y
  | set e => exact .set (s _ _ e)
  | kList e c => exact .kList e c
  | kTuple e c => exact .kTuple e c
  | kDict e c => exact .kDict e c
  | fTuple e => exact .fTuple (s _ _ e)
  | fDict e => exact .fDict (s _ _ e)
theorem pd_eqOther {n : String} (ha : PD ta σ G R (tReg K a)) (hb : PD tb σ G R φ) (ht : ∀ G v, φ.p G v → TyX K G v (.type n)) (o : Oth K (RG K) n) : PD (tOp (rEqO K (RG K) (sp_eq K) E) ta tb) σ G R (tBo false) :=
  pd_op ha hb fun x y G1 H _ s1 hx hy Q q => ⟨isC_of hx s1, ⟨_, TyX.mono s1 (ht _ _ hy), o.nf⟩, G1, _, tBo false, s1, .cons hx (.cons hy .nil), ⟨a, .inr ⟨φ, n, rfl, ht, o, rfl⟩⟩, q⟩
theorem pd_neO (F : RegF K) (ha : PD ta σ G R (tReg K a)) (hb : PD tb σ G R (tReg K b)) : PD (tOp (rNeO K (RG K) (sp_eq K) E) ta tb) σ G R (tBo (!decide (a = b))) :=
  pd_op ha hb fun x y G1 H _ s1 hx hy Q q => ⟨isC_of hx s1, ⟨_, F.ct.ty (isC_of hy s1), nf_self⟩, G1, _, tBo (decide (a = b)), s1, .cons hx (.cons hy .nil), ⟨a, .inl ⟨b, rfl, rfl⟩⟩, fun v G2 H2 g2 hv => ⟨_, hv, q _ G2 H2 g2 rfl⟩⟩
theorem pd_propR (ha : PD ta σ G R (tReg K a)) (hp : pre [tReg K a] χ) : PD (tPropR (RG K) (spT pre) E ta) σ G R χ := fun H sr sg Q q =>
  ha H sr sg _ fun x G1 H1 g1 hx => ⟨isC_of hx g1.s, G1, _, χ, g1.s, .cons hx .nil, hp, fun v G2 H2 g2 hv => q v G2 H2 (g1.trans g2) hv⟩
theorem pd_reprO {y : Str} (ha : PD ta σ G R (tReg K a)) (hp : pre [tReg K a] (tSt y)) : PD (tCB (rReprO (RG K) (spT pre) E) (tCons ta tNil)) σ G R (tSt y) :=
  pd_callB (ad_cons ha ad_nil) fun vs G1 H _ s1 hv Q q => by
    obtain ⟨x, rfl, hx⟩ := all1 hv
    exact ⟨x, rfl, isC_of hx s1, G1, _, tSt y, s1, .cons hx .nil, hp, fun v G2 H2 g2 hv => ⟨y, hv, q _ G2 H2 g2 rfl⟩⟩
theorem pd_stat0 (ha : PD ta σ G R (tv (.ref (RG K)))) (hp : pre [] χ) : PD (tStat0 (RG K) (spT pre) E ta) σ G R χ := fun H sr sg Q q =>
  ha H sr sg _ fun x G1 H1 g1 hx => ⟨hx, G1, [], χ, g1.s, .nil, hp, fun v G2 H2 g2 hv => q v G2 H2 (g1.trans g2) hv⟩
/-- Region.of(b, ..) -/
theorem pd_of {t : TA} {bs : List Bx} (ha : PD ta σ G R (tv (.ref (RG K)))) (h : AD t σ G R (bs.map tB4)) (hz : bs.length ≤ 2000) (hb : ∀ b ∈ bs, bxOk b) : PD (ClX.tCMeth (RG K) (sp_of K) E ta t) σ G R (tReg K (slabsOf bs, false)) := fun H sr sg Q q =>
  ha H sr sg _ fun x G1 H1 g1 hx => ⟨hx, (h.mono g1.g (sr.trans g1.h)) H1 (same_refl _) g1.s _ fun vs G2 H2 g2 hv => by
    have hl := hv.length
    rw [List.length_map] at hl
    refine ⟨[.ref (RG K)], vs, rfl, rfl, sz_of (by omega), fun p hp => ?_⟩
    have g3 : Grow G2 H2 (upd G2 p (.tup vs)) (upd H2 p (.tup vs)) := .new g2.s hp
    exact ⟨_, [tv (.ref (RG K)), tT (bs.map tB4)], _, g3.s, .cons rfl (.cons ⟨p, vs, rfl, upd_same, hv.mono g3.g⟩ .nil), ⟨bs, hz, hb, rfl, rfl⟩, fun v G4 H4 g4 hv => q v G4 H4 (((g1.trans g2).trans g3).trans g4) hv⟩⟩
theorem pd_isR (F : RegF K) (h : PD te σ G R (tReg K a)) : PD (tCB (rIsi K) (tCons te (tCons (tC (.ref (RG K))) tNil))) σ G R (tBo true) :=
  pd_callB (ad_cons h (ad_cons pd_c ad_nil)) fun vs G1 H _ s1 hv Q q => by
    obtain ⟨x, y, rfl, hx, hy⟩ := all2 hv
    cases hy
    refine ⟨x, .ref (RG K), .ref (RG K), .ref (RG K), true, rfl, .own _, F.ct.ty (isC_of hx s1), ?_, q _ G1 H (.refl s1) rfl⟩
    unfold PySem.W.kitOne
    rw [if_pos (by simp)]
theorem pd_isO {n : String} (h : PD te σ G R φ) (ht : ∀ G v, φ.p G v → TyX K G v (.type n)) (o : Oth K (RG K) n) : PD (tCB (rIsi K) (tCons te (tCons (tC (.ref (RG K))) tNil))) σ G R (tBo false) :=
  pd_callB (ad_cons h (ad_cons pd_c ad_nil)) fun vs G1 H _ s1 hv Q q => by
    obtain ⟨x, y, rfl, hx, hy⟩ := all2 hv
    cases hy
    exact ⟨x, .ref (RG K), .type n, .ref (RG K), false, rfl, .own _, TyX.mono s1 (ht _ _ hx), o.kit, q _ G1 H (.refl s1) rfl⟩
end
end BR
/-! Regions: the class's methods, walked. -/
namespace BR
open PySem PySem.Spec PyProof.Rows L2
def rBool1 : List V → Hp → VK → Prop := fun xs H Q => (∃ i, xs = [.int i] ∧ Q (.bl (i != 0)) H) ∨ ∃ k, xs = [.bl k] ∧ Q (.bl k) H
theorem call_boolX {X : Cx} : CallR X (.type "bool") rBool1 := call_bool1
def t_Region_init (K : Fg) : TS :=
  (tSeq (sFld K (tVar 0) (tVar 1) "form")
  (sFld K (tVar 0) (tVar 2) "is_outside"))
def t_check_region (K : Fg) : TS :=
  (tIfS (tNot (tB (tCB (rIsi K) (tCons (tVar 0) (tCons (tC (.ref (RG K))) tNil)))))
  tNever
  tNext)
def t_check_box (K : Fg) : TS :=
  (tIfS (tNot (tB (tCall sp_is_box [] E0 (tCons (tVar 0) tNil))))
  tNever
  tNext)
def t_check_square (K : Fg) : TS :=
  (tIfS (tNot (tB (tCall sp_is_square [] E0 (tCons (tVar 0) tNil))))
  tNever
  tNext)
def t_check_bounded (K : Fg) : TS :=
  (tSeq (tDrop (tCall (sp_check_region K) [] E0 (tCons (tVar 0) tNil)))
  (tIfS (tB (tFld K (tVar 0) "is_outside"))
  tNever
  tNext))
def t_united (K : Fg) : TS :=
  (tSeq (tIfS (tAnd (tB (tFld K (tVar 0) "is_outside")) (tB (tFld K (tVar 1) "is_outside")))
  (tRet (StX.tMakeR (RG K) (sp_init K) E0 (tCons (tCall sp_mixed [] E0 (tCons (tFld K (tVar 0) "form") (tCons (tFld K (tVar 1) "form") (tCons (tC (.str ("and" : Str))) tNil)))) (tCons (tC (.bl true)) tNil))))
  tNext)
  (tSeq (tIfS (tB (tFld K (tVar 0) "is_outside"))
  (tRet (StX.tMakeR (RG K) (sp_init K) E0 (tCons (tCall sp_mixed [] E0 (tCons (tFld K (tVar 0) "form") (tCons (tFld K (tVar 1) "form") (tCons (tC (.str ("less" : Str))) tNil)))) (tCons (tC (.bl true)) tNil))))
  tNext)
  (tSeq (tIfS (tB (tFld K (tVar 1) "is_outside"))
  (tRet (StX.tMakeR (RG K) (sp_init K) E0 (tCons (tCall sp_mixed [] E0 (tCons (tFld K (tVar 1) "form") (tCons (tFld K (tVar 0) "form") (tCons (tC (.str ("less" : Str))) tNil)))) (tCons (tC (.bl true)) tNil))))
  tNext)
  (tRet (StX.tMakeR (RG K) (sp_init K) E0 (tCons (tCall sp_mixed [] E0 (tCons (tFld K (tVar 0) "form") (tCons (tFld K (tVar 1) "form") (tCons (tC (.str ("or" : Str))) tNil)))) (tCons (tC (.bl false)) tNil)))))))
def t_turned_out (K : Fg) : TS :=
  (tRet (StX.tMakeR (RG K) (sp_init K) E0 (tCons (tFld K (tVar 0) "form") (tCons (tNotV (tFld K (tVar 0) "is_outside")) tNil))))
def t_Region_of (K : Fg) : TS :=
  (tSeq (tFor (iSeq K (tVar 1)) (gName 2)
  (tDrop (tCall sp_check_box [] E0 (tCons (tVar 2) tNil))))
  (tRet (tMakeV (RG K) (sp_init K) E0 (tVar 0) (tCons (tCall sp_slabs_of [] E0 (tCons (tCB (rListOf K) (tCons (tVar 1) tNil)) tNil)) (tCons (tC (.bl false)) tNil)))))
def t_Region_empty (K : Fg) : TS :=
  (tRet (StX.tMakeR (RG K) (sp_init K) E0 (tCons (tTup tNil) (tCons (tC (.bl false)) tNil))))
def t_Region_slabs (K : Fg) : TS :=
  (tRet (tLc (iSeq K (tFld K (tVar 0) "form")) (gTup K 3 (gCons (gName 1) (gCons (gName 2) (gCons (gName 3) gNil)))) tYes (tTup (tCons (tVar 1) (tCons (tVar 2) (tCons (tCB (rListOf K) (tCons (tVar 3) tNil)) tNil)))) [1, 2, 3]))
def t_Region_or (K : Fg) : TS :=
  (tSeq (tDrop (tCall (sp_check_region K) [] E0 (tCons (tVar 1) tNil)))
  (tRet (tCall (sp_united K) [] E0 (tCons (tVar 0) (tCons (tVar 1) tNil)))))
def t_Region_and (K : Fg) : TS :=
  (tSeq (tDrop (tCall (sp_check_region K) [] E0 (tCons (tVar 1) tNil)))
  (tRet (tCall (sp_turned_out K) [] E0 (tCons (tCall (sp_united K) [] E0 (tCons (tCall (sp_turned_out K) [] E0 (tCons (tVar 0) tNil)) (tCons (tCall (sp_turned_out K) [] E0 (tCons (tVar 1) tNil)) tNil))) tNil))))
def t_Region_sub (K : Fg) : TS :=
  (tSeq (tDrop (tCall (sp_check_region K) [] E0 (tCons (tVar 1) tNil)))
  (tRet (tCall (sp_turned_out K) [] E0 (tCons (tCall (sp_united K) [] E0 (tCons (tCall (sp_turned_out K) [] E0 (tCons (tVar 0) tNil)) (tCons (tVar 1) tNil))) tNil))))
def t_Region_xor (K : Fg) : TS :=
  (tSeq (tDrop (tCall (sp_check_region K) [] E0 (tCons (tVar 1) tNil)))
  (tRet (StX.tMakeR (RG K) (sp_init K) E0 (tCons (tCall sp_mixed [] E0 (tCons (tFld K (tVar 0) "form") (tCons (tFld K (tVar 1) "form") (tCons (tC (.str ("either" : Str))) tNil)))) (tCons (tOp (rNeX K) (tFld K (tVar 0) "is_outside") (tFld K (tVar 1) "is_outside")) tNil)))))
def t_Region_invert (K : Fg) : TS :=
  (tRet (tCall (sp_turned_out K) [] E0 (tCons (tVar 0) tNil)))
def t_Region_contains (K : Fg) : TS :=
  (tSeq (tDrop (tCall sp_check_square [] E0 (tCons (tVar 1) tNil)))
  (tRet (tOp (rNeX K) (tCall sp_is_covered [] E0 (tCons (tCall sp_spans_at [] E0 (tCons (tFld K (tVar 0) "form") (tCons (tOp (rIx K) (tVar 1) (tC (.int 0))) tNil))) (tCons (tOp (rIx K) (tVar 1) (tC (.int 1))) tNil))) (tFld K (tVar 0) "is_outside"))))
def t_Region_bool (K : Fg) : TS :=
  (tRet (tCB rBool1 (tCons (tOrV (tFld K (tVar 0) "is_outside") (tOp rGtI (tCB (rLenX K) (tCons (tFld K (tVar 0) "form") tNil)) (tC (.int 0)))) tNil)))
def t_Region_eq (K : Fg) : TS :=
  (tSeq (tIfS (tNot (tB (tCB (rIsi K) (tCons (tVar 1) (tCons (tC (.ref (RG K))) tNil)))))
  (tRet (tC (.bl false)))
  tNext)
  (tRet (tAndV (tOp (rEqX K) (tFld K (tVar 0) "form") (tFld K (tVar 1) "form")) (tOp (rEqX K) (tFld K (tVar 0) "is_outside") (tFld K (tVar 1) "is_outside")))))
def t_Region_repr (K : Fg) : TS :=
  (tSeq (tAsg (tIf (tB (tFld K (tVar 0) "is_outside")) (tC (.str ("~" : Str))) (tC (.str ("" : Str)))) (gName 1))
  (tRet (fun σ H Q => tJs ((tFmt (tVar 1)) :: ((tC (.str ("Region(" : Str))) :: ((tFmtD K (tPropR (RG K) (sp_slabs K) E0 (tVar 0))) :: ((tC (.str (")" : Str))) :: [])))) Str.empty σ H fun out H1 => Q (.str out) H1)))
def t_first_square (K : Fg) : TS :=
  (tSeq (tIfS (tB (tFld K (tVar 0) "is_outside"))
  (tRet (tIf (tTest (tOp rGtI (tCB (rLenX K) (tCons (tFld K (tVar 0) "form") tNil)) (tC (.int 0)))) (tTup (tCons (tOp (rIx K) (tOp (rIx K) (tFld K (tVar 0) "form") (tUn rNegI (tC (.int 1)))) (tC (.int 1))) (tCons (tC (.int 0)) tNil))) (tTup (tCons (tC (.int 0)) (tCons (tC (.int 0)) tNil)))))
  tNext)
  (tSeq (tIfS (tTest (tOp (rEqX K) (tCB (rLenX K) (tCons (tFld K (tVar 0) "form") tNil)) (tC (.int 0))))
  (tRet (tC .non))
  tNext)
  (tSeq (tAsg (tOp (rIx K) (tFld K (tVar 0) "form") (tC (.int 0))) (gTup K 3 (gCons (gName 1) (gCons (gName 2) (gCons (gName 3) gNil)))))
  (tRet (tTup (tCons (tVar 1) (tCons (tOp (rIx K) (tOp (rIx K) (tVar 3) (tC (.int 0))) (tC (.int 0))) tNil)))))))
def t_separating (K : Fg) : TS :=
  (tSeq (tDrop (tCall (sp_check_region K) [] E0 (tCons (tVar 0) tNil)))
  (tSeq (tDrop (tCall (sp_check_region K) [] E0 (tCons (tVar 1) tNil)))
  (tRet (tCall (sp_first_square K) [] E0 (tCons (tOp (rOwn2 (RG K) (sp_xor K) E0) (tVar 0) (tVar 1)) tNil)))))
section
variable {K : Fg} {σ : St} {G R H : Hp} {te ta tb : TE} {φ : Ty} {D : Ends} {tz : TS}
theorem pd_bool {b : Bool} (h : PD te σ G R (tBo b)) : PD (tCB rBool1 (tCons te tNil)) σ G R (tBo b) :=
  pd_callB (ad_cons h ad_nil) fun vs G1 H _ s1 hv Q q => by
    obtain ⟨x, rfl, hx⟩ := all1 hv
    cases hx
    exact .inr ⟨b, rfl, q _ G1 H (.refl s1) rfl⟩
theorem q_drop (h : PD te σ G R φ) (sr : Same R H) (sg : Same G H) (k : ∀ G' H', Grow G H G' H' → tz D σ H') : tSeq (tDrop te) tz D σ H := h H sr sg _ fun v G' H' g _ => k G' H' g
theorem s_drop (h : PD te σ G R φ) (sr : Same R H) (sg : Same G H) (k : ∀ G' H', Grow G H G' H' → D.nx σ H') : tDrop te D σ H := h H sr sg _ fun v G' H' g _ => k G' H' g
theorem pureN {pre : List Ty → Ty → Prop} {t : TS} {N : List Str}
    (h : ∀ G φs φ vs H, Same G H → All G φs vs → pre φs φ → φ = tN ∧ ∀ D : Ends, (∀ σ G' H', Grow G H G' H' → D.nx σ H') → t D (L2.start N vs) H) :
    ∀ vs H (Q : VK) (E : XK), spT pre vs H Q E → t { nx := fun _ H' => Q .non H', rt := Q } (L2.start N vs) H := by
  rintro vs H Q E ⟨G, φs, φ, h1, h2, h3, h4⟩
  obtain ⟨rfl, k⟩ := h G φs φ vs H h1 h2 h3
  exact k _ fun σ G' H' g => h4 .non G' H' g rfl
theorem pure_Region_init (F : RegF K) : ∀ vs H (Q : VK) (E : XK), sp_init K vs H Q E → t_Region_init K { nx := fun _ H' => Q .non H', rt := Q } (L2.start ["self", "form", "is_outside"] vs) H := by
  rintro vs H Q E ⟨a, dx, fv, o, rfl, h, q⟩
  refine ⟨fv, rfl, .ref a, rfl, a, RG K, dx, [], rfl, h, F.ct.cl, F.n1, by simp, ?_⟩
  refine ⟨.bl o, rfl, .ref a, rfl, a, RG K, dx, [("form", fv)], rfl, upd_same, F.ct.cl, F.n2, by simp, ?_⟩
  exact q
theorem len_Region_init : ∀ vs H Q E, sp_init K vs H Q E → vs.length = (["self", "form", "is_outside"] : List Str).length := by
  rintro vs H Q E ⟨a, dx, fv, o, rfl, _⟩
  rfl
theorem pure_check_region (F : RegF K) : ∀ vs H (Q : VK) (E : XK), sp_check_region K vs H Q E → t_check_region K { nx := fun _ H' => Q .non H', rt := Q } (L2.start ["region"] vs) H := by
  refine pureN ?_
  rintro G φs φ vs H s1 hv ⟨r, rfl, rfl⟩
  obtain ⟨v0, rfl, h0⟩ := all1 hv
  refine ⟨rfl, fun D k => s_when (b := false) (R := G) (TD.is (td_not (td_B (pd_isR F (pd_var rfl h0)))) rfl) s1 (fun z => nomatch z) fun _ H2 s2 => k _ G H2 (.rest s1 s2)⟩
theorem len_check_region : ∀ vs H Q E, sp_check_region K vs H Q E → vs.length = (["region"] : List Str).length := lenT (by rintro φs φ ⟨_, rfl, _⟩; rfl)
theorem pure_check_box : ∀ vs H (Q : VK) (E : XK), sp_check_box vs H Q E → t_check_box K { nx := fun _ H' => Q .non H', rt := Q } (L2.start ["box"] vs) H := by
  refine pureN ?_
  rintro G φs φ vs H s1 hv ⟨b, hb, rfl, rfl⟩
  obtain ⟨v0, rfl, h0⟩ := all1 hv
  refine ⟨rfl, fun D k => s_when (b := false) (R := G) (TD.is (td_not (td_B (pd_call (φs := [dt (dB b)]) (φ := tBo (isBx (dB b))) (ad_cons (pd_var rfl (by rw [dt_B]; exact h0)) ad_nil) ⟨dB b, ?_, rfl, rfl⟩))) ?_) s1 (fun z => nomatch z) fun _ H2 s2 => k _ G H2 (.rest s1 s2)⟩
  · rintro ds ⟨⟩
    simp
  · show (!isBx (.tuple [.int b.1, .int b.2.1, .int b.2.2.1, .int b.2.2.2])) = false
    rw [isBx_eq]
    simp [hb.1, hb.2]
theorem len_check_box : ∀ vs H Q E, sp_check_box vs H Q E → vs.length = (["box"] : List Str).length := lenT (by rintro φs φ ⟨_, _, rfl, _⟩; rfl)
theorem pure_check_square : ∀ vs H (Q : VK) (E : XK), sp_check_square vs H Q E → t_check_square K { nx := fun _ H' => Q .non H', rt := Q } (L2.start ["square"] vs) H := by
  refine pureN ?_
  rintro G φs φ vs H s1 hv ⟨b, rfl, rfl⟩
  obtain ⟨v0, rfl, h0⟩ := all1 hv
  refine ⟨rfl, fun D k => s_when (b := false) (R := G) (TD.is (td_not (td_B (pd_call (φs := [dt (dP b)]) (φ := tBo (areI (dP b) 2)) (ad_cons (pd_var rfl (by rw [dt_P]; exact h0)) ad_nil) ⟨dP b, ?_, rfl, rfl⟩))) ?_) s1 (fun z => nomatch z) fun _ H2 s2 => k _ G H2 (.rest s1 s2)⟩
  · rintro ds ⟨⟩
    simp
  · rfl
theorem len_check_square : ∀ vs H Q E, sp_check_square vs H Q E → vs.length = (["square"] : List Str).length := lenT (by rintro φs φ ⟨_, rfl, _⟩; rfl)
theorem pure_check_bounded (F : RegF K) : ∀ vs H (Q : VK) (E : XK), sp_check_bounded K vs H Q E → t_check_bounded K { nx := fun _ H' => Q .non H', rt := Q } (L2.start ["region"] vs) H := by
  refine pureN ?_
  rintro G φs φ vs H s1 hv ⟨f, rfl, rfl⟩
  obtain ⟨v0, rfl, h0⟩ := all1 hv
  refine ⟨rfl, fun D k => ?_⟩
  refine q_drop (G := G) (R := G) (φ := tN) (pd_call (φs := [tReg K (f, false)]) (ad_cons (pd_var rfl h0) ad_nil) ⟨_, rfl, rfl⟩) s1 s1 fun G1 H1 g1 => ?_
  exact s_when (b := false) (R := G1) (td_B (pd_isout F (a := (f, false)) (pd_var rfl ((tReg K (f, false)).m _ _ _ g1.g h0)))) g1.s (fun z => nomatch z) fun _ H2 s2 => k _ G1 H2 (g1.trans (.rest g1.s s2))
theorem len_check_bounded : ∀ vs H Q E, sp_check_bounded K vs H Q E → vs.length = (["region"] : List Str).length := lenT (by rintro φs φ ⟨_, rfl, _⟩; rfl)
theorem pd_mixed {f g : List Sl} {w : Wd} (h1 : PD ta σ G R (tForm f)) (h2 : PD tb σ G R (tForm g)) (z1 : Small f) (z2 : Small g) : PD (tCall sp_mixed [] E0 (tCons ta (tCons tb (tCons (tC (.str w.str)) tNil)))) σ G R (tForm (mixed f g w)) :=
  pd_call (φs := [tForm f, tForm g, tSt w.str]) (ad_cons h1 (ad_cons h2 (ad_cons pd_c ad_nil))) ⟨f, g, w, z1, z2, rfl, rfl⟩
theorem pure_united (F : RegF K) : ∀ vs H (Q : VK) (E : XK), sp_united K vs H Q E → t_united K { nx := fun _ H' => Q .non H', rt := Q } (L2.start ["one", "other"] vs) H := by
  refine pureT ?_
  rintro G φs φ vs H s1 hv ⟨a, b, ⟨z1, z2⟩, rfl, rfl⟩ D k
  obtain ⟨v0, v1, rfl, h0, h1⟩ := all2 hv
  have w0 : ∀ {R : Hp}, PD (tVar 0) [some v0, some v1] G R (tReg K a) := pd_var rfl h0
  have w1 : ∀ {R : Hp}, PD (tVar 1) [some v0, some v1] G R (tReg K b) := pd_var rfl h1
  have u0 : ∀ {R : Hp}, Same G R → PD (tVar 0) [some v0, some v1] R R (tReg K a) := fun s => pd_var rfl ((tReg K a).m _ _ _ s h0)
  have u1 : ∀ {R : Hp}, Same G R → PD (tVar 1) [some v0, some v1] R R (tReg K b) := fun s => pd_var rfl ((tReg K b).m _ _ _ s h1)
  have fin : ∀ {te : TE} {r : Reg} {H2 : Hp}, Same H H2 → unite a b = r → PD te [some v0, some v1] G H2 (tReg K r) → tRet te D [some v0, some v1] H2 := fun {te r H2} s2 e h =>
    s_ret h (same_refl _) (s1.trans s2) fun v G' H' g hv => k v G' H' ((Grow.rest s1 s2).trans g) (by show (tReg K (unite a b)).p G' v; rw [e]; exact hv)
  refine q_when (b := a.2 && b.2) (R := G) (σ := [some v0, some v1]) (td_and (td_B (pd_isout F (u0 (same_refl _)))) fun _ => td_B (pd_isout F (u1 (same_refl _)))) s1 (fun z H2 s2 => ?_) (fun z H2 s2 => ?_)
  · refine fin (r := (mixed a.1 b.1 .and, true)) s2 ?_ (pd_makeR (a := (mixed a.1 b.1 .and, true)) (ad_cons (pd_mixed (w := .and) (pd_form F w0) (pd_form F w1) z1 z2) (ad_cons pd_c ad_nil)))
    obtain ⟨e1, e2⟩ := Bool.and_eq_true_iff.mp z
    unfold unite
    rw [e1, e2]
  refine q_when (b := a.2) (R := G) (σ := [some v0, some v1]) (td_B (pd_isout F (u0 (same_refl _)))) (s1.trans s2) (fun y H3 s3 => ?_) (fun y H3 s3 => ?_)
  · refine fin (r := (mixed a.1 b.1 .less, true)) (s2.trans s3) ?_ (pd_makeR (a := (mixed a.1 b.1 .less, true)) (ad_cons (pd_mixed (w := .less) (pd_form F w0) (pd_form F w1) z1 z2) (ad_cons pd_c ad_nil)))
    have e2 : b.2 = false := by simpa [y] using z
    unfold unite
    rw [y, e2]
  refine q_when (b := b.2) (R := G) (σ := [some v0, some v1]) (td_B (pd_isout F (u1 (same_refl _)))) (s1.trans (s2.trans s3)) (fun x H4 s4 => ?_) (fun x H4 s4 => ?_)
  · refine fin (r := (mixed b.1 a.1 .less, true)) ((s2.trans s3).trans s4) ?_ (pd_makeR (a := (mixed b.1 a.1 .less, true)) (ad_cons (pd_mixed (w := .less) (pd_form F w1) (pd_form F w0) z2 z1) (ad_cons pd_c ad_nil)))
    unfold unite
    rw [y, x]
  · refine fin (r := (mixed a.1 b.1 .or, false)) ((s2.trans s3).trans s4) ?_ (pd_makeR (a := (mixed a.1 b.1 .or, false)) (ad_cons (pd_mixed (w := .or) (pd_form F w0) (pd_form F w1) z1 z2) (ad_cons pd_c ad_nil)))
    unfold unite
    rw [y, x]
theorem len_united : ∀ vs H Q E, sp_united K vs H Q E → vs.length = (["one", "other"] : List Str).length := lenT (by rintro φs φ ⟨_, _, _, rfl, _⟩; rfl)
theorem pure_turned_out (F : RegF K) : ∀ vs H (Q : VK) (E : XK), sp_turned_out K vs H Q E → t_turned_out K { nx := fun _ H' => Q .non H', rt := Q } (L2.start ["region"] vs) H := by
  refine pureT ?_
  rintro G φs φ vs H s1 hv ⟨a, _, rfl, rfl⟩ D k
  obtain ⟨v0, rfl, h0⟩ := all1 hv
  exact s_ret (G := G) (R := G) (σ := [some v0]) (φ := tReg K (rout a)) (pd_makeR (a := rout a) (ad_cons (pd_form F (a := a) (pd_var rfl h0)) (ad_cons (pd_notV (pd_isout F (a := a) (pd_var rfl h0))) ad_nil))) s1 s1 k
theorem len_turned_out : ∀ vs H Q E, sp_turned_out K vs H Q E → vs.length = (["region"] : List Str).length := lenT (by rintro φs φ ⟨_, _, rfl, _⟩; rfl)
theorem pure_Region_of (F : RegF K) : ∀ vs H (Q : VK) (E : XK), sp_of0 K vs H Q E → t_Region_of K { nx := fun _ H' => Q .non H', rt := Q } (L2.start ["cls", "boxes", "box"] vs) H := by
  refine pureT ?_
  rintro G φs φ vs H s1 hv ⟨bs, hz, hb, rfl, rfl⟩ D k
  obtain ⟨v0, v1, rfl, h0, h1⟩ := all2 hv
  cases h0
  refine q_for (xs := bs) (φ := tB4) (σ := [some (.ref (RG K)), some v1, none]) (G := G) (R := G) (PD.sqT (pd_var rfl h1)) s1 s1 (fun i σ' Gi Hi => (∃ x, σ' = [some (.ref (RG K)), some v1, x]) ∧ Grow G H Gi Hi) (fun G1 H1 g1 => ⟨⟨none, rfl⟩, g1⟩) ?_ ?_
  · rintro G1 H1 g1 i b x σ' Gi Hi hi sg sh hx ⟨⟨x', rfl⟩, g⟩
    show tDrop _ _ [some (.ref (RG K)), some v1, some x] Hi
    refine s_drop (G := Gi) (R := Gi) (φ := tN) (pd_call (φs := [tB4 b]) (ad_cons (pd_var rfl hx) ad_nil) ⟨b, hb b (List.mem_of_getElem? hi), rfl, rfl⟩) sh sh fun G' H' g' => ?_
    exact ⟨G', sg.trans g'.g, g'.s, ⟨_, rfl⟩, g.trans g'⟩
  · rintro G1 H1 g1 σ' Gi Hi sg sh ⟨⟨x, rfl⟩, g⟩
    exact s_ret (G := Gi) (R := Gi) (σ := [some (.ref (RG K)), some v1, x]) (φ := tReg K (slabsOf bs, false)) (pd_makeV (a := (slabsOf bs, false)) (pd_var rfl rfl) (ad_cons (pd_call (φs := [tL (bs.map tB4)]) (ad_cons (pd_listT (pd_var rfl ((tT (bs.map tB4)).m _ _ _ g.g h1))) ad_nil) ⟨bs, hz, rfl, rfl⟩) (ad_cons pd_c ad_nil))) sh sh fun v G' H' g' hv => k v G' H' (g.trans g') hv
theorem pure_Region_empty : ∀ vs H (Q : VK) (E : XK), sp_empty K vs H Q E → t_Region_empty K { nx := fun _ H' => Q .non H', rt := Q } (L2.start [] vs) H := by
  refine pureT ?_
  rintro G φs φ vs H s1 hv ⟨rfl, rfl⟩ D k
  cases hv
  exact s_ret (G := G) (R := G) (σ := []) (φ := tReg K ([], false)) (pd_makeR (a := ([], false)) (ad_cons pd_nilF (ad_cons pd_c ad_nil))) s1 s1 k
theorem len_Region_empty : ∀ vs H Q E, sp_empty K vs H Q E → vs.length = ([] : List Str).length := lenT (by rintro φs φ ⟨rfl, _⟩; rfl)
def dSlL (s : Sl) : PyData := .tuple [.int s.1, .int s.2.1, .list (s.2.2.map dP)]
theorem dt_SlL (s : Sl) : dt (dSlL s) = tT [tI s.1, tI s.2.1, tL (s.2.2.map tP)] := by
  unfold dSlL
  rw [dt_tuple]
  simp only [List.map_cons, List.map_nil, dt_int, dt_list]
  rw [tP_map_dt]
theorem pure_Region_slabs (F : RegF K) : ∀ vs H (Q : VK) (E : XK), sp_slabs K vs H Q E → t_Region_slabs K { nx := fun _ H' => Q .non H', rt := Q } (L2.start ["self", "x1", "x2", "spans"] vs) H := by
  refine pureT ?_
  rintro G φs φ vs H s1 hv ⟨a, hz, rfl, rfl⟩ D k
  obtain ⟨v0, rfl, h0⟩ := all1 hv
  have e : dt (dSlabs a.1) = tL (a.1.map fun s => dt (dSlL s)) := by
    show dt (.list (a.1.map dSlL)) = _
    rw [dt_list, List.map_map]
    rfl
  dsimp only at k
  rw [e] at k
  refine s_ret (G := G) (R := G) (σ := [some v0, none, none, none]) (φ := tL (a.1.map fun s => dt (dSlL s))) ?_ s1 s1 k
  refine pd_lcM (xs := a.1) (φ := tSlb) (PD.sqT (pd_form F (pd_var rfl h0))) (by have := hz.1; omega) ?_
  intro s hs x Gi Ri s1 s2 s3 hx
  obtain ⟨v, w, u, p1, p2, p3, gd⟩ := gd_3 (K := K) (i := 1) (j := 2) (k := 3) (σ := [some v0, none, none, none]) hx
  cases p1
  cases p2
  refine ⟨[some v0, some (.int s.1), some (.int s.2.1), some u], gd, rfl, ?_⟩
  rw [dt_SlL]
  exact pd_tup (φs := [tI s.1, tI s.2.1, tL (s.2.2.map tP)]) (ad_cons (pd_var rfl rfl) (ad_cons (pd_var rfl rfl) (ad_cons (pd_listT (pd_var rfl p3)) ad_nil))) (by simp)
theorem len_Region_slabs : ∀ vs H Q E, sp_slabs K vs H Q E → vs.length = (["self"] : List Str).length := lenT (by rintro φs φ ⟨_, _, rfl, _⟩; rfl)
theorem pure_Region_or : ∀ vs H (Q : VK) (E : XK), sp_or K vs H Q E → t_Region_or K { nx := fun _ H' => Q .non H', rt := Q } (L2.start ["self", "other"] vs) H := by
  refine pureT ?_
  rintro G φs φ vs H s1 hv ⟨a, b, z, rfl, rfl⟩ D k
  obtain ⟨v0, v1, rfl, h0, h1⟩ := all2 hv
  refine q_drop (G := G) (R := G) (φ := tN) (σ := [some v0, some v1]) (pd_call (φs := [tReg K b]) (ad_cons (pd_var rfl h1) ad_nil) ⟨_, rfl, rfl⟩) s1 s1 fun G1 H1 g1 => ?_
  exact s_ret (G := G1) (R := G1) (σ := [some v0, some v1]) (pd_call (φs := [tReg K a, tReg K b]) (ad_cons (pd_var rfl ((tReg K a).m _ _ _ g1.g h0)) (ad_cons (pd_var rfl ((tReg K b).m _ _ _ g1.g h1)) ad_nil)) ⟨a, b, z, rfl, rfl⟩) g1.s g1.s fun v G' H' g hv => k v G' H' (g1.trans g) hv
theorem len_Region_or : ∀ vs H Q E, sp_or K vs H Q E → vs.length = (["self", "other"] : List Str).length := lenT (by rintro φs φ ⟨_, _, _, rfl, _⟩; rfl)
theorem pd_tout {a : Reg} (h : PD te σ G R (tReg K a)) : PD (tCall (sp_turned_out K) [] E0 (tCons te tNil)) σ G R (tReg K (rout a)) := pd_call (φs := [tReg K a]) (ad_cons h ad_nil) ⟨a, trivial, rfl, rfl⟩
theorem pd_unite {a b : Reg} (h : PD ta σ G R (tReg K a)) (h2 : PD tb σ G R (tReg K b)) (z : Sm2 a b) : PD (tCall (sp_united K) [] E0 (tCons ta (tCons tb tNil))) σ G R (tReg K (unite a b)) := pd_call (φs := [tReg K a, tReg K b]) (ad_cons h (ad_cons h2 ad_nil)) ⟨a, b, z, rfl, rfl⟩
theorem pure_Region_and : ∀ vs H (Q : VK) (E : XK), sp_and K vs H Q E → t_Region_and K { nx := fun _ H' => Q .non H', rt := Q } (L2.start ["self", "other"] vs) H := by
  refine pureT ?_
  rintro G φs φ vs H s1 hv ⟨a, b, z, rfl, rfl⟩ D k
  obtain ⟨v0, v1, rfl, h0, h1⟩ := all2 hv
  refine q_drop (G := G) (R := G) (φ := tN) (σ := [some v0, some v1]) (pd_call (φs := [tReg K b]) (ad_cons (pd_var rfl h1) ad_nil) ⟨_, rfl, rfl⟩) s1 s1 fun G1 H1 g1 => ?_
  exact s_ret (G := G1) (R := G1) (σ := [some v0, some v1]) (pd_tout (pd_unite (pd_tout (pd_var rfl ((tReg K a).m _ _ _ g1.g h0))) (pd_tout (pd_var rfl ((tReg K b).m _ _ _ g1.g h1))) z)) g1.s g1.s fun v G' H' g hv => k v G' H' (g1.trans g) hv
theorem len_Region_and : ∀ vs H Q E, sp_and K vs H Q E → vs.length = (["self", "other"] : List Str).length := lenT (by rintro φs φ ⟨_, _, _, rfl, _⟩; rfl)
theorem pure_Region_sub : ∀ vs H (Q : VK) (E : XK), sp_sub K vs H Q E → t_Region_sub K { nx := fun _ H' => Q .non H', rt := Q } (L2.start ["self", "other"] vs) H := by
  refine pureT ?_
  rintro G φs φ vs H s1 hv ⟨a, b, z, rfl, rfl⟩ D k
  obtain ⟨v0, v1, rfl, h0, h1⟩ := all2 hv
  refine q_drop (G := G) (R := G) (φ := tN) (σ := [some v0, some v1]) (pd_call (φs := [tReg K b]) (ad_cons (pd_var rfl h1) ad_nil) ⟨_, rfl, rfl⟩) s1 s1 fun G1 H1 g1 => ?_
  exact s_ret (G := G1) (R := G1) (σ := [some v0, some v1]) (pd_tout (pd_unite (pd_tout (pd_var rfl ((tReg K a).m _ _ _ g1.g h0))) (pd_var rfl ((tReg K b).m _ _ _ g1.g h1)) z)) g1.s g1.s fun v G' H' g hv => k v G' H' (g1.trans g) hv
theorem len_Region_sub : ∀ vs H Q E, sp_sub K vs H Q E → vs.length = (["self", "other"] : List Str).length := lenT (by rintro φs φ ⟨_, _, _, rfl, _⟩; rfl)
theorem pure_Region_xor (F : RegF K) : ∀ vs H (Q : VK) (E : XK), sp_xor K vs H Q E → t_Region_xor K { nx := fun _ H' => Q .non H', rt := Q } (L2.start ["self", "other"] vs) H := by
  refine pureT ?_
  rintro G φs φ vs H s1 hv ⟨a, b, z, rfl, rfl⟩ D k
  obtain ⟨v0, v1, rfl, h0, h1⟩ := all2 hv
  refine q_drop (G := G) (R := G) (φ := tN) (σ := [some v0, some v1]) (pd_call (φs := [tReg K b]) (ad_cons (pd_var rfl h1) ad_nil) ⟨_, rfl, rfl⟩) s1 s1 fun G1 H1 g1 => ?_
  have w0 : PD (tVar 0) [some v0, some v1] G1 G1 (tReg K a) := pd_var rfl ((tReg K a).m _ _ _ g1.g h0)
  have w1 : PD (tVar 1) [some v0, some v1] G1 G1 (tReg K b) := pd_var rfl ((tReg K b).m _ _ _ g1.g h1)
  refine s_ret (G := G1) (R := G1) (σ := [some v0, some v1]) (φ := tReg K (rxor a b)) (pd_makeR (a := rxor a b) (ad_cons (pd_mixed (w := .either) (pd_form F w0) (pd_form F w1) z.1 z.2) (ad_cons (PD.is (pd_nev (pd_isout F w0) (pd_isout F w1) rfl) ?_) ad_nil))) g1.s g1.s fun v G' H' g hv => k v G' H' (g1.trans g) hv
  show tBo (!decide (V.bl a.2 = V.bl b.2)) = tBo (a.2 != b.2)
  generalize a.2 = x
  generalize b.2 = y
  cases x <;> cases y <;> rfl
theorem len_Region_xor : ∀ vs H Q E, sp_xor K vs H Q E → vs.length = (["self", "other"] : List Str).length := lenT (by rintro φs φ ⟨_, _, _, rfl, _⟩; rfl)
theorem pure_Region_invert : ∀ vs H (Q : VK) (E : XK), sp_invert K vs H Q E → t_Region_invert K { nx := fun _ H' => Q .non H', rt := Q } (L2.start ["self"] vs) H := by
  refine pureT ?_
  rintro G φs φ vs H s1 hv ⟨a, _, rfl, rfl⟩ D k
  obtain ⟨v0, rfl, h0⟩ := all1 hv
  exact s_ret (G := G) (R := G) (σ := [some v0]) (φ := tReg K (rout a)) (pd_tout (pd_var rfl h0)) s1 s1 k
theorem len_Region_invert : ∀ vs H Q E, sp_invert K vs H Q E → vs.length = (["self"] : List Str).length := lenT (by rintro φs φ ⟨_, _, rfl, _⟩; rfl)
theorem pure_Region_contains (F : RegF K) : ∀ vs H (Q : VK) (E : XK), sp_contains K vs H Q E → t_Region_contains K { nx := fun _ H' => Q .non H', rt := Q } (L2.start ["self", "square"] vs) H := by
  refine pureT ?_
  rintro G φs φ vs H s1 hv ⟨a, p, z, rfl, rfl⟩ D k
  obtain ⟨v0, v1, rfl, h0, h1⟩ := all2 hv
  refine q_drop (G := G) (R := G) (φ := tN) (σ := [some v0, some v1]) (pd_call (φs := [tP p]) (ad_cons (pd_var rfl h1) ad_nil) ⟨_, rfl, rfl⟩) s1 s1 fun G1 H1 g1 => ?_
  have w0 : PD (tVar 0) [some v0, some v1] G1 G1 (tReg K a) := pd_var rfl ((tReg K a).m _ _ _ g1.g h0)
  have w1 : PD (tVar 1) [some v0, some v1] G1 G1 (tT [tI p.1, tI p.2]) := pd_var rfl ((tP p).m _ _ _ g1.g h1)
  refine s_ret (G := G1) (R := G1) (σ := [some v0, some v1]) (φ := tBo (rhas a p)) (PD.is (pd_nev (pd_call (φs := [tSp (spansAt a.1 p.1), tI p.2]) (φ := tBo (cov (spansAt a.1 p.1) p.2)) (ad_cons (pd_call (φs := [tForm a.1, tI p.1]) (ad_cons (pd_form F w0) (ad_cons (pd_ixTX (i := 0) w1 pd_c rfl) ad_nil)) ⟨a.1, p.1, rfl, rfl⟩) (ad_cons (pd_ixTX (i := 1) w1 pd_c rfl) ad_nil)) ⟨_, p.2, ?_, rfl, rfl⟩) (pd_isout F w0) rfl) ?_) g1.s g1.s fun v G' H' g hv => k v G' H' (g1.trans g) hv
  · have := spansAt_len z.2 p.1
    omega
  · unfold rhas
    generalize cov (spansAt a.1 p.1) p.2 = x
    generalize a.2 = y
    cases x <;> cases y <;> rfl
theorem len_Region_contains : ∀ vs H Q E, sp_contains K vs H Q E → vs.length = (["self", "square"] : List Str).length := lenT (by rintro φs φ ⟨_, _, _, rfl, _⟩; rfl)
theorem pure_Region_bool (F : RegF K) : ∀ vs H (Q : VK) (E : XK), sp_bool K vs H Q E → t_Region_bool K { nx := fun _ H' => Q .non H', rt := Q } (L2.start ["self"] vs) H := by
  refine pureT ?_
  rintro G φs φ vs H s1 hv ⟨a, _, rfl, rfl⟩ D k
  obtain ⟨v0, rfl, h0⟩ := all1 hv
  refine s_ret (G := G) (R := G) (σ := [some v0]) (φ := tBo (a.2 || !a.1.isEmpty)) (pd_bool (pd_orV (pd_isout F (pd_var rfl h0)) fun _ => PD.is (pd_gt (pd_lenT (φs := a.1.map tSlb) (pd_form F (a := a) (pd_var rfl h0))) pd_c) ?_)) s1 s1 k
  rw [List.length_map]
  cases a.1 <;> simp
theorem len_Region_bool : ∀ vs H Q E, sp_bool K vs H Q E → vs.length = (["self"] : List Str).length := lenT (by rintro φs φ ⟨_, _, rfl, _⟩; rfl)
theorem pure_Region_eq (F : RegF K) : ∀ vs H (Q : VK) (E : XK), sp_eq K vs H Q E → t_Region_eq K { nx := fun _ H' => Q .non H', rt := Q } (L2.start ["self", "other"] vs) H := by
  refine pureT ?_
  rintro G φs φ vs H s1 hv ⟨a, ⟨b, rfl, rfl⟩ | ⟨ψ, n, rfl, ht, ho, rfl⟩⟩ D k
  · obtain ⟨v0, v1, rfl, h0, h1⟩ := all2 hv
    refine q_when (b := false) (R := G) (σ := [some v0, some v1]) (TD.is (td_not (td_B (pd_isR F (a := b) (pd_var rfl h1)))) rfl) s1 (fun z => nomatch z) fun _ H2 s2 => ?_
    refine s_ret (G := G) (R := H2) (σ := [some v0, some v1]) (φ := tBo (decide (a = b))) (PD.is (pd_andV (pd_eqForm (pd_form F (a := a) (pd_var rfl h0)) (pd_form F (a := b) (pd_var rfl h1))) fun _ => pd_eqv (pd_isout F (a := a) (pd_var rfl h0)) (pd_isout F (a := b) (pd_var rfl h1)) rfl) ?_) (same_refl _) (s1.trans s2) fun v G' H' g hv => k v G' H' ((Grow.rest s1 s2).trans g) hv
    obtain ⟨f, o⟩ := a
    obtain ⟨f', o'⟩ := b
    by_cases e1 : f = f' <;> cases o <;> cases o' <;> simp [e1]
  · obtain ⟨v0, v1, rfl, h0, h1⟩ := all2 hv
    refine q_when (b := true) (R := G) (σ := [some v0, some v1]) (TD.is (td_not (td_B (pd_isO (φ := ψ) (pd_var rfl h1) ht ho))) rfl) s1 (fun _ H2 s2 => ?_) (fun z => nomatch z)
    exact s_ret (G := G) (R := H2) (σ := [some v0, some v1]) (φ := tBo false) pd_c (same_refl _) (s1.trans s2) fun v G' H' g hv => k v G' H' ((Grow.rest s1 s2).trans g) hv
theorem len_Region_eq : ∀ vs H Q E, sp_eq K vs H Q E → vs.length = (["self", "other"] : List Str).length := lenT (by rintro φs φ ⟨_, ⟨_, rfl, _⟩ | ⟨_, _, rfl, _⟩⟩ <;> rfl)
theorem pd_fmt {x : Str} (h : PD te σ G R (tSt x)) (hx : x.length ≤ sizeLine) : PD (tFmt te) σ G R (tSt x) := fun H sr sg Q q =>
  h H sr sg _ fun v G1 H1 g1 hv => .inl ⟨x, hv, hx, q _ G1 H1 g1 rfl⟩
theorem pd_fmtD {d : PyData} {n : Nat} (h : PD te σ G R (dt d)) (hr : ∀ G v, (dt d).p G v → ∃ a, v = .ref a) (hs : Shows d n) (hn : n ≤ 16777216) : PD (tFmtD K te) σ G R (tSt d.shown) := fun H sr sg Q q =>
  h H sr sg _ fun v G1 H1 g1 hv => by
    obtain ⟨a, rfl⟩ := hr G1 v hv
    exact ⟨a, d, rfl, dt_dp d _ hs.lay ((dt d).m _ _ _ g1.s hv), hs.shw, hs.nod, hs.len hn, Nat.le_trans hs.dep (by decide), q _ G1 H1 g1 rfl⟩
theorem pure_Region_repr (F : RegF K) : ∀ vs H (Q : VK) (E : XK), sp_repr K vs H Q E → t_Region_repr K { nx := fun _ H' => Q .non H', rt := Q } (L2.start ["self", "sign"] vs) H := by
  refine pureT ?_
  rintro G φs φ vs H s1 hv ⟨a, ⟨z, hs⟩, rfl, rfl⟩ D k
  obtain ⟨v0, rfl, h0⟩ := all1 hv
  refine q_asg (G := G) (R := G) (φ := tSt (if a.2 then ("~" : Str) else "")) (σ := [some v0, none]) (pd_if (td_B (pd_isout F (a := a) (pd_var rfl h0))) (fun e => ?_) (fun e => ?_)) s1 s1 fun v1 G1 H1 g1 h1 => ?_
  · rw [e]
    exact pd_c
  · rw [e]
    exact pd_c
  cases h1
  have hl : (if a.2 then ("~" : Str) else "").length ≤ 1 := by cases a.2 <;> decide
  have hd : (dSlabs a.1).shown.length ≤ 16000000 := Nat.le_trans (shown_le _ hs.shw hs.nod) hs.wt
  have sz : (16777216 : Nat) ≤ sizeLine := by decide
  have l1 : ("Region(" : Str).length = 7 := by decide
  have l2 : (")" : Str).length = 1 := by decide
  have w1 : PD (tFmt (tVar 1)) [some v0, some (.str (if a.2 then ("~" : Str) else ""))] G1 G1 (tSt (if a.2 then ("~" : Str) else "")) := pd_fmt (pd_var rfl rfl) (by omega)
  have w3 : PD (tFmtD K (tPropR (RG K) (sp_slabs K) E0 (tVar 0))) [some v0, some (.str (if a.2 then ("~" : Str) else ""))] G1 G1 (tSt (dSlabs a.1).shown) := pd_fmtD (pd_propR (a := a) (pd_var rfl ((tReg K a).m _ _ _ g1.g h0)) ⟨a, z, rfl, rfl⟩) ref_list hs (by decide)
  refine s_ret (G := G1) (R := G1) (σ := [some v0, some (.str (if a.2 then ("~" : Str) else ""))]) (φ := tSt (reprR a)) ?_ g1.s g1.s fun v G' H' g hv => k v G' H' (g1.trans g) hv
  intro H2 sr sg Q q
  have ee : Str.empty ++ (if a.2 then ("~" : Str) else "") = (if a.2 then ("~" : Str) else "") := by cases a.2 <;> decide
  refine w1 H2 sr sg _ fun u G3 H3 g3 hu => ⟨_, hu, by rw [ee]; omega, ?_⟩
  rw [ee]
  refine ⟨("Region(" : Str), rfl, by rw [Str.length_append]; omega, ?_⟩
  refine (w3.mono g3.g (sr.trans g3.h)) H3 (same_refl _) g3.s _ fun u2 G4 H4 g4 hu2 => ⟨_, hu2, by rw [Str.length_append, Str.length_append]; omega, ?_⟩
  refine ⟨(")" : Str), rfl, by rw [Str.length_append, Str.length_append, Str.length_append]; omega, ?_⟩
  exact q _ G4 H4 (g3.trans g4) rfl
theorem len_Region_repr : ∀ vs H Q E, sp_repr K vs H Q E → vs.length = (["self"] : List Str).length := lenT (by rintro φs φ ⟨_, _, rfl, _⟩; rfl)
theorem pure_first_square (F : RegF K) : ∀ vs H (Q : VK) (E : XK), sp_first_square K vs H Q E → t_first_square K { nx := fun _ H' => Q .non H', rt := Q } (L2.start ["region", "x1", "x2", "spans"] vs) H := by
  refine pureT ?_
  rintro G φs φ vs H s1 hv ⟨⟨f, o⟩, hne, rfl, rfl⟩ D k
  obtain ⟨v0, rfl, h0⟩ := all1 hv
  dsimp only at k hne
  have w0 : ∀ {G1 R : Hp}, Same G G1 → PD (tFld K (tVar 0) "form") [some v0, none, none, none] G1 R (tT (f.map tSlb)) := fun s => pd_form F (a := (f, o)) (pd_var rfl ((tReg K (f, o)).m _ _ _ s h0))
  have l0 : ∀ {G1 R : Hp}, Same G G1 → PD (tCB (rLenX K) (tCons (tFld K (tVar 0) "form") tNil)) [some v0, none, none, none] G1 R (tI (f.length : Int)) := fun s => PD.is (pd_lenT (w0 s)) (by rw [List.length_map])
  refine q_when (b := o) (R := G) (σ := [some v0, none, none, none]) (td_B (pd_isout F (a := (f, o)) (pd_var rfl h0))) s1 (fun z H2 s2 => ?_) (fun z H2 s2 => ?_)
  · subst z
    refine s_ret (G := G) (R := H2) (σ := [some v0, none, none, none]) (φ := tOP (firstSq (f, true))) (pd_if (b := decide ((0 : Int) < (f.length : Int))) (td_test (pd_gt (l0 (s1.trans s2)) pd_c)) (fun e => ?_) (fun e => ?_)) (same_refl _) (s1.trans s2) fun v G' H' g hv => k v G' H' ((Grow.rest s1 s2).trans g) hv
    · have e2 : f.length > 0 := by
        have := of_decide_eq_true e
        omega
      have e3 : f ≠ [] := fun z => by rw [z] at e2; simp at e2
      have e4 : firstSq (f, true) = some ((f.getLastD (0, 0, [])).2.1, 0) := by
        unfold firstSq
        simp only [if_true]
        exact if_pos e2
      rw [e4]
      exact pd_pr (pd_ixTX (φs := [tI (f.getLastD (0, 0, [])).1, tI (f.getLastD (0, 0, [])).2.1, tSp (f.getLastD (0, 0, [])).2.2]) (pd_ixTX (φs := f.map tSlb) (w0 (same_refl _)) (pd_neg pd_c) (at_end e3)) pd_c rfl) pd_c
    · have e2 : ¬ f.length > 0 := by
        have := of_decide_eq_false e
        omega
      have e4 : firstSq (f, true) = some (0, 0) := by
        unfold firstSq
        simp only [if_true]
        exact if_neg e2
      rw [e4]
      exact pd_pr pd_c pd_c
  · subst z
    refine q_when (b := decide ((f.length : Int) = 0)) (R := G) (σ := [some v0, none, none, none]) (td_test (pd_eqI (l0 (same_refl _)) pd_c)) (s1.trans s2) (fun e H3 s3 => ?_) (fun e H3 s3 => ?_)
    · have e2 : f = [] := by
        have := of_decide_eq_true e
        exact List.eq_nil_of_length_eq_zero (by omega)
      subst e2
      exact s_ret (G := G) (R := G) (σ := [some v0, none, none, none]) (φ := tN) pd_c (s1.trans (s2.trans s3)) (s1.trans (s2.trans s3)) fun v G' H' g hv => k v G' H' ((Grow.rest s1 (s2.trans s3)).trans g) hv
    · match f, e with
      | [], e => exact absurd e (by simp)
      | s :: r, _ =>
        refine (pd_ixTX (φs := (s :: r).map tSlb) (i := 0) (φ := tSlb s) (w0 (same_refl _)) pd_c (by simp [atI, ixN])) H3 (s1.trans (s2.trans s3)) (s1.trans (s2.trans s3)) _ fun x G1 H4 g1 hx => ?_
        obtain ⟨a, b, c, p1, p2, p3, gd⟩ := gd_3 (K := K) (i := 1) (j := 2) (k := 3) (σ := [some v0, none, none, none]) hx
        cases p1
        cases p2
        refine gd H4 g1.s _ ?_
        exact s_ret (G := G1) (R := G1) (σ := [some v0, some (.int s.1), some (.int s.2.1), some c]) (φ := tP (s.1, (s.2.2.headD (0, 0)).1)) (pd_pr (pd_var rfl rfl) (pd_ixTX (φs := [tI (s.2.2.headD (0, 0)).1, tI (s.2.2.headD (0, 0)).2]) (pd_ixTX (φs := s.2.2.map tP) (pd_var rfl p3) pd_c (at_head (hne s List.mem_cons_self))) pd_c rfl)) g1.s g1.s fun v G' H' g hv => k v G' H' (((Grow.rest s1 (s2.trans s3)).trans g1).trans g) hv
theorem len_first_square : ∀ vs H Q E, sp_first_square K vs H Q E → vs.length = (["region"] : List Str).length := lenT (by rintro φs φ ⟨_, _, rfl, _⟩; rfl)
theorem pure_separating : ∀ vs H (Q : VK) (E : XK), sp_separating K vs H Q E → t_separating K { nx := fun _ H' => Q .non H', rt := Q } (L2.start ["one", "other"] vs) H := by
  refine pureT ?_
  rintro G φs φ vs H s1 hv ⟨a, b, ⟨z, hne⟩, rfl, rfl⟩ D k
  obtain ⟨v0, v1, rfl, h0, h1⟩ := all2 hv
  refine q_drop (G := G) (R := G) (φ := tN) (σ := [some v0, some v1]) (pd_call (φs := [tReg K a]) (ad_cons (pd_var rfl h0) ad_nil) ⟨_, rfl, rfl⟩) s1 s1 fun G1 H1 g1 => ?_
  refine q_drop (G := G1) (R := G1) (φ := tN) (σ := [some v0, some v1]) (pd_call (φs := [tReg K b]) (ad_cons (pd_var rfl ((tReg K b).m _ _ _ g1.g h1)) ad_nil) ⟨_, rfl, rfl⟩) g1.s g1.s fun G2 H2 g2 => ?_
  have gg := g1.g.trans g2.g
  exact s_ret (G := G2) (R := G2) (σ := [some v0, some v1]) (pd_call (φs := [tReg K (rxor a b)]) (ad_cons (pd_own2 (pd_var rfl ((tReg K a).m _ _ _ gg h0)) (pd_var rfl ((tReg K b).m _ _ _ gg h1)) ⟨a, b, z, rfl, rfl⟩) ad_nil) ⟨rxor a b, hne, rfl, rfl⟩) g2.s g2.s fun v G' H' g hv => k v G' H' ((g1.trans g2).trans g) hv
theorem len_separating : ∀ vs H Q E, sp_separating K vs H Q E → vs.length = (["one", "other"] : List Str).length := lenT (by rintro φs φ ⟨_, _, _, rfl, _⟩; rfl)
end
end BR
/-! Spans and forms: what they cover, and that they are the only ones. -/
namespace BR
open PySem
/-! ### spans -/
theorem cov_iff {sp : List Pr} {n : Int} : cov sp n = true ↔ ∃ s ∈ sp, s.1 ≤ n ∧ n < s.2 := by
  simp only [cov, List.any_eq_true, Bool.and_eq_true, decide_eq_true_eq]
theorem cov_nil (n : Int) : cov [] n = false := rfl
theorem cov_append (a b : List Pr) (n : Int) : cov (a ++ b) n = (cov a n || cov b n) := by simp [cov]
theorem cov_ext {a b : List Pr} {n m : Int} (h : (∃ s ∈ a, s.1 ≤ n ∧ n < s.2) ↔ ∃ s ∈ b, s.1 ≤ m ∧ m < s.2) : cov a n = cov b m := by
  rw [Bool.eq_iff_iff, cov_iff, cov_iff]
  exact h
structure SpOk (sp : List Pr) : Prop where
  w : ∀ p ∈ sp, p.1 < p.2
  s : sp.Pairwise fun p q => p.2 < q.1
theorem SpOk.nil : SpOk [] := ⟨by simp, .nil⟩
theorem mem_srt {ps : List Pr} {p : Pr} : p ∈ srt ps ↔ p ∈ ps := (srt_perm ps).mem_iff
theorem last_split {α : Type} {xs : List α} {x : α} (h : xs.getLast? = some x) : xs = xs.dropLast ++ [x] := by
  rcases List.eq_nil_or_concat xs with rfl | ⟨ys, y, rfl⟩
  · cases h
  · simp only [List.concat_eq_append, List.getLast?_append, List.getLast?_singleton, Option.some_or, Option.some.injEq] at h
    rw [h]
    simp
theorem mstep_ok {f : List Pr} {p : Pr} (hf : SpOk f) (hp : p.1 < p.2) (hb : ∀ q ∈ f, q.1 ≤ p.1) : SpOk (mstep f p) ∧ (∀ n, cov (mstep f p) n = (cov f n || cov [p] n)) ∧ ∀ q ∈ mstep f p, q.1 ≤ p.1 := by
  unfold mstep
  cases hg : f.getLast? with
  | none =>
    have e : f = [] := by simpa using hg
    subst e
    exact ⟨⟨by simpa using hp, by simp⟩, fun n => by simp [cov], by simp⟩
  | some q =>
    have e := last_split hg
    generalize f.dropLast = g at e
    subst e
    obtain ⟨w, s⟩ := hf
    rw [List.pairwise_append] at s
    obtain ⟨s1, _, s2⟩ := s
    have hq := w q (by simp)
    have hqp := hb q (by simp)
    have hgq : ∀ r ∈ g, r.2 < q.1 := fun r hr => s2 r hr q (by simp)
    dsimp only
    split
    · next hle =>
      refine ⟨⟨fun r hr => ?_, ?_⟩, fun n => ?_, fun r hr => ?_⟩
      · rcases List.mem_append.mp hr with h | h
        · exact w r (by simp [h])
        · rw [List.mem_singleton.mp h]
          show q.1 < max p.2 q.2
          omega
      · rw [List.pairwise_append]
        refine ⟨s1, by simp, fun r hr t ht => ?_⟩
        rw [List.mem_singleton.mp ht]
        exact hgq r hr
      · rw [cov_append, cov_append, Bool.or_assoc]
        congr 1
        rw [Bool.eq_iff_iff, Bool.or_eq_true, cov_iff, cov_iff, cov_iff]
        simp only [List.mem_singleton, exists_eq_left]
        constructor
        · intro h
          have h1 := h.1
          have h2 := h.2
          by_cases z : n < q.2
          · exact .inl ⟨h1, z⟩
          · refine .inr ⟨by omega, ?_⟩
            have h3 : n < max p.2 q.2 := h2
            omega
        · rintro (h | h)
          · exact ⟨h.1, by show n < max p.2 q.2; omega⟩
          · exact ⟨by show q.1 ≤ n; omega, by show n < max p.2 q.2; omega⟩
      · rcases List.mem_append.mp hr with h | h
        · exact hb r (by simp [h])
        · rw [List.mem_singleton.mp h]
          exact hqp
    · next hle =>
      refine ⟨⟨fun r hr => ?_, ?_⟩, fun n => cov_append _ _ n, fun r hr => ?_⟩
      · rcases List.mem_append.mp hr with h | h
        · exact w r h
        · rw [List.mem_singleton.mp h]
          exact hp
      · rw [List.pairwise_append]
        refine ⟨by rw [List.pairwise_append]; exact ⟨s1, by simp, s2⟩, by simp, fun r hr t ht => ?_⟩
        rw [List.mem_singleton.mp ht]
        rcases List.mem_append.mp hr with h | h
        · have := hgq r h
          omega
        · rw [List.mem_singleton.mp h]
          omega
      · rcases List.mem_append.mp hr with h | h
        · exact hb r h
        · rw [List.mem_singleton.mp h]
          exact Int.le_refl _
theorem mfold_ok : ∀ (rest f : List Pr), SpOk f → (∀ p ∈ rest, p.1 < p.2) → rest.Pairwise leP → (∀ q ∈ f, ∀ p ∈ rest, q.1 ≤ p.1) → SpOk (rest.foldl mstep f) ∧ ∀ n, cov (rest.foldl mstep f) n = (cov f n || cov rest n)
  | [], f, hf, _, _, _ => ⟨hf, fun n => by simp [cov]⟩
  | p :: rest, f, hf, hw, hs, hb => by
    obtain ⟨h1, h2, h3⟩ := mstep_ok hf (hw p List.mem_cons_self) fun q hq => hb q hq p List.mem_cons_self
    rw [List.pairwise_cons] at hs
    obtain ⟨h4, h5⟩ := mfold_ok rest (mstep f p) h1 (fun q hq => hw q (List.mem_cons_of_mem _ hq)) hs.2 fun q hq r hr => by
      have := h3 q hq
      have z := hs.1 r hr
      unfold leP at z
      omega
    refine ⟨h4, fun n => ?_⟩
    rw [List.foldl_cons, h5 n, h2 n, Bool.or_assoc, ← cov_append]
    rfl
theorem merged_ok {ps : List Pr} (hw : ∀ p ∈ ps, p.1 < p.2) : SpOk (merged ps) ∧ ∀ n, cov (merged ps) n = cov ps n := by
  obtain ⟨h1, h2⟩ := mfold_ok (srt ps) [] .nil (fun p hp => hw p (mem_srt.mp hp)) (srt_sorted ps) (by simp)
  refine ⟨h1, fun n => ?_⟩
  unfold merged
  rw [h2 n, cov_nil, Bool.false_or]
  exact cov_ext ⟨fun ⟨s, hs, h⟩ => ⟨s, mem_srt.mp hs, h⟩, fun ⟨s, hs, h⟩ => ⟨s, mem_srt.mpr hs, h⟩⟩
theorem sp_uniq : ∀ {s t : List Pr}, SpOk s → SpOk t → (∀ n, cov s n = cov t n) → s = t
  | [], [], _, _, _ => rfl
  | [], q :: t, _, ht, h => by
    have z : cov (q :: t) q.1 = true := cov_iff.mpr ⟨q, List.mem_cons_self, Int.le_refl _, ht.w q List.mem_cons_self⟩
    rw [← h q.1] at z
    cases z
  | p :: s, [], hs, _, h => by
    have z : cov (p :: s) p.1 = true := cov_iff.mpr ⟨p, List.mem_cons_self, Int.le_refl _, hs.w p List.mem_cons_self⟩
    rw [h p.1] at z
    cases z
  | p :: s, q :: t, hs, ht, h => by
    have hp := hs.w p List.mem_cons_self
    have hq := ht.w q List.mem_cons_self
    have ps := List.pairwise_cons.mp hs.s
    have pt := List.pairwise_cons.mp ht.s
    have c1 : cov (p :: s) p.1 = true := cov_iff.mpr ⟨p, List.mem_cons_self, Int.le_refl _, hp⟩
    have c2 : cov (q :: t) q.1 = true := cov_iff.mpr ⟨q, List.mem_cons_self, Int.le_refl _, hq⟩
    have low : ∀ {a : Pr} {l : List Pr} {n : Int}, (∀ x ∈ l, a.2 < x.1) → a.1 < a.2 → cov (a :: l) n = true → a.1 ≤ n := by
      intro a l n hl ha hc
      obtain ⟨x, hx, h1, h2⟩ := cov_iff.mp hc
      rcases List.mem_cons.mp hx with rfl | hx
      · exact h1
      · have := hl x hx
        omega
    have gap : ∀ {a : Pr} {l : List Pr}, (∀ x ∈ l, a.2 < x.1) → cov (a :: l) a.2 = false := by
      intro a l hl
      cases e : cov (a :: l) a.2 with
      | false => rfl
      | true =>
        obtain ⟨x, hx, h1, h2⟩ := cov_iff.mp e
        rcases List.mem_cons.mp hx with rfl | hx
        · omega
        · have := hl x hx
          omega
    have e1 : p.1 = q.1 := by
      have l1 := low pt.1 hq (by rw [← h]; exact c1)
      have l2 := low ps.1 hp (by rw [h]; exact c2)
      omega
    have e2 : p.2 = q.2 := by
      rcases Int.lt_trichotomy p.2 q.2 with z | z | z
      · have g := gap ps.1
        rw [h] at g
        have : cov (q :: t) p.2 = true := cov_iff.mpr ⟨q, List.mem_cons_self, by omega, z⟩
        rw [g] at this
        cases this
      · exact z
      · have g := gap pt.1
        rw [← h] at g
        have : cov (p :: s) q.2 = true := cov_iff.mpr ⟨p, List.mem_cons_self, by omega, z⟩
        rw [g] at this
        cases this
    have e : p = q := Prod.ext e1 e2
    subst e
    have tail : ∀ {l : List Pr} {n : Int}, (∀ x ∈ l, p.2 < x.1) → cov l n = (cov (p :: l) n && decide (p.2 ≤ n)) := by
      intro l n hl
      rw [Bool.eq_iff_iff, Bool.and_eq_true, cov_iff, cov_iff, decide_eq_true_eq]
      constructor
      · rintro ⟨x, hx, h1, h2⟩
        have := hl x hx
        exact ⟨⟨x, List.mem_cons_of_mem _ hx, h1, h2⟩, by omega⟩
      · rintro ⟨⟨x, hx, h1, h2⟩, h3⟩
        rcases List.mem_cons.mp hx with rfl | hx
        · omega
        · exact ⟨x, hx, h1, h2⟩
    rw [sp_uniq (s := s) (t := t) ⟨fun x hx => hs.w x (List.mem_cons_of_mem _ hx), ps.2⟩ ⟨fun x hx => ht.w x (List.mem_cons_of_mem _ hx), pt.2⟩ fun n => by rw [tail ps.1, tail pt.1, h n]]
/-! ### neighbours -/
structure Seg (E : List Int) (p : Pr) : Prop where
  a : p.1 ∈ E
  b : p.2 ∈ E
  lt : p.1 < p.2
  g : ∀ e ∈ E, e ≤ p.1 ∨ p.2 ≤ e
theorem nxt_cons (a b : Int) (l : List Int) : nxt (a :: b :: l) = (a, b) :: nxt (b :: l) := rfl
theorem seg_of : ∀ {E : List Int} {p : Pr}, E.Pairwise (· < ·) → p ∈ nxt E → Seg E p
  | [], p, _, h => by simp [nxt] at h
  | [a], p, _, h => by simp [nxt] at h
  | a :: b :: l, p, hs, h => by
    rw [nxt_cons] at h
    obtain ⟨h1, h2⟩ := List.pairwise_cons.mp hs
    rcases List.mem_cons.mp h with rfl | h
    · refine ⟨List.mem_cons_self, by simp, h1 b List.mem_cons_self, fun e he => ?_⟩
      rcases List.mem_cons.mp he with rfl | he
      · exact .inl (Int.le_refl _)
      · rcases List.mem_cons.mp he with rfl | he
        · exact .inr (Int.le_refl _)
        · have := (List.pairwise_cons.mp h2).1 e he
          exact .inr (Int.le_of_lt this)
    · have s := seg_of h2 h
      refine ⟨List.mem_cons_of_mem _ s.a, List.mem_cons_of_mem _ s.b, s.lt, fun e he => ?_⟩
      rcases List.mem_cons.mp he with rfl | he
      · have := h1 p.1 s.a
        exact .inl (Int.le_of_lt this)
      · exact s.g e he
theorem seg_at : ∀ {E : List Int} {n a b : Int}, E.Pairwise (· < ·) → a ∈ E → b ∈ E → a ≤ n → n < b → ∃ p ∈ nxt E, p.1 ≤ n ∧ n < p.2
  | [], _, _, _, _, h, _, _, _ => by cases h
  | [x], n, a, b, _, h1, h2, h3, h4 => by
    rw [List.mem_singleton.mp h1] at h3
    rw [List.mem_singleton.mp h2] at h4
    omega
  | x :: y :: l, n, a, b, hs, h1, h2, h3, h4 => by
    rw [nxt_cons]
    obtain ⟨k1, k2⟩ := List.pairwise_cons.mp hs
    have hx : x ≤ n := by
      rcases List.mem_cons.mp h1 with rfl | h1
      · exact h3
      · have := k1 a h1
        omega
    by_cases z : n < y
    · exact ⟨(x, y), List.mem_cons_self, hx, z⟩
    · have hb : b ∈ y :: l := by
        rcases List.mem_cons.mp h2 with rfl | h2
        · omega
        · exact h2
      obtain ⟨p, hp, q⟩ := seg_at (a := y) k2 List.mem_cons_self hb (by omega) h4
      exact ⟨p, List.mem_cons_of_mem _ hp, q⟩
theorem mem_ends {sp : List Pr} {k : Int} : k ∈ ends sp ↔ ∃ s ∈ sp, k = s.1 ∨ k = s.2 := by
  simp [ends]
theorem cov_seg {one : List Pr} {E : List Int} {p : Pr} {n : Int} (hE : ∀ k ∈ ends one, k ∈ E) (s : Seg E p) (h1 : p.1 ≤ n) (h2 : n < p.2) : cov one n = cov one p.1 := by
  have key : ∀ q ∈ one, (q.1 ≤ n ∧ n < q.2) ↔ (q.1 ≤ p.1 ∧ p.1 < q.2) := fun q hq => by
    have g1 := s.g q.1 (hE _ (mem_ends.mpr ⟨q, hq, .inl rfl⟩))
    have g2 := s.g q.2 (hE _ (mem_ends.mpr ⟨q, hq, .inr rfl⟩))
    omega
  exact cov_ext ⟨fun ⟨q, hq, h⟩ => ⟨q, hq, (key q hq).mp h⟩, fun ⟨q, hq, h⟩ => ⟨q, hq, (key q hq).mpr h⟩⟩
theorem wanted_ff (w : Wd) : wanted w false false = false := by cases w <;> rfl
theorem combined_ok {one other : List Pr} {w : Wd} : SpOk (combined one other w) ∧ ∀ n, cov (combined one other w) n = wanted w (cov one n) (cov other n) := by
  unfold combined
  have hE := sd_rise (ends (one ++ other))
  have h1 : ∀ k ∈ ends one, k ∈ sd (ends (one ++ other)) := fun k hk => by
    rw [mem_sd, mem_ends]
    obtain ⟨s, hs, h⟩ := mem_ends.mp hk
    exact ⟨s, by simp [hs], h⟩
  have h2 : ∀ k ∈ ends other, k ∈ sd (ends (one ++ other)) := fun k hk => by
    rw [mem_sd, mem_ends]
    obtain ⟨s, hs, h⟩ := mem_ends.mp hk
    exact ⟨s, by simp [hs], h⟩
  generalize sd (ends (one ++ other)) = E at hE h1 h2
  obtain ⟨k1, k2⟩ := merged_ok (ps := (nxt E).filter fun p => wanted w (cov one p.1) (cov other p.1)) fun p hp => (seg_of hE (List.mem_filter.mp hp).1).lt
  refine ⟨k1, fun n => ?_⟩
  rw [k2 n, Bool.eq_iff_iff, cov_iff]
  constructor
  · rintro ⟨p, hp, a, b⟩
    obtain ⟨hp, hw⟩ := List.mem_filter.mp hp
    have s := seg_of hE hp
    rw [cov_seg h1 s a b, cov_seg h2 s a b]
    exact hw
  · intro hw
    have key : ∃ a ∈ E, ∃ b ∈ E, a ≤ n ∧ n < b := by
      cases e1 : cov one n with
      | true =>
        obtain ⟨s, hs, a, b⟩ := cov_iff.mp e1
        exact ⟨s.1, h1 _ (mem_ends.mpr ⟨s, hs, .inl rfl⟩), s.2, h1 _ (mem_ends.mpr ⟨s, hs, .inr rfl⟩), a, b⟩
      | false =>
        cases e2 : cov other n with
        | true =>
          obtain ⟨s, hs, a, b⟩ := cov_iff.mp e2
          exact ⟨s.1, h2 _ (mem_ends.mpr ⟨s, hs, .inl rfl⟩), s.2, h2 _ (mem_ends.mpr ⟨s, hs, .inr rfl⟩), a, b⟩
        | false =>
          rw [e1, e2, wanted_ff] at hw
          cases hw
    obtain ⟨a, ha, b, hb, c, d⟩ := key
    obtain ⟨p, hp, x, y⟩ := seg_at hE ha hb c d
    have s := seg_of hE hp
    refine ⟨p, List.mem_filter.mpr ⟨hp, ?_⟩, x, y⟩
    rw [cov_seg h1 s x y, cov_seg h2 s x y] at hw
    exact hw
/-! ### forms -/
def Hit (s : Sl) (x : Int) : Prop := s.1 ≤ x ∧ x < s.2.1
structure Chn (f : List Sl) : Prop where
  w : ∀ s ∈ f, s.1 < s.2.1
  s : f.Pairwise fun s t => s.2.1 ≤ t.1
structure FmOk (f : List Sl) : Prop where
  w : ∀ s ∈ f, s.1 < s.2.1 ∧ s.2.2 ≠ [] ∧ SpOk s.2.2
  s : f.Pairwise fun s t => s.2.1 ≤ t.1 ∧ (s.2.1 = t.1 → s.2.2 ≠ t.2.2)
theorem FmOk.nil : FmOk [] := ⟨by simp, .nil⟩
theorem FmOk.chn {f : List Sl} (h : FmOk f) : Chn f := ⟨fun s hs => (h.w s hs).1, h.s.imp fun h => h.1⟩
theorem spansAt_none {f : List Sl} {x : Int} (h : ∀ s ∈ f, ¬ Hit s x) : spansAt f x = [] := by
  unfold spansAt
  have : f.find? (fun s => decide (s.1 ≤ x) && decide (x < s.2.1)) = none := by
    rw [List.find?_eq_none]
    intro s hs
    have := h s hs
    unfold Hit at this
    simp only [Bool.and_eq_true, decide_eq_true_eq]
    exact this
  rw [this]
theorem spansAt_some {f : List Sl} {x : Int} {sp : List Pr} (h : ∃ s ∈ f, Hit s x) (k : ∀ s ∈ f, Hit s x → s.2.2 = sp) : spansAt f x = sp := by
  unfold spansAt
  cases e : f.find? (fun s => decide (s.1 ≤ x) && decide (x < s.2.1)) with
  | none =>
    obtain ⟨s, hs, h⟩ := h
    rw [List.find?_eq_none] at e
    have := e s hs
    simp only [Bool.and_eq_true, decide_eq_true_eq] at this
    exact absurd h this
  | some s =>
    have h1 := List.mem_of_find?_eq_some e
    have h2 := List.find?_some e
    simp only [Bool.and_eq_true, decide_eq_true_eq] at h2
    exact k s h1 h2
theorem hit_uniq : ∀ {f : List Sl} {s t : Sl} {x : Int}, Chn f → s ∈ f → t ∈ f → Hit s x → Hit t x → s = t
  | [], _, _, _, _, h, _, _, _ => by cases h
  | a :: f, s, t, x, hc, hs, ht, h1, h2 => by
    obtain ⟨k1, k2⟩ := List.pairwise_cons.mp hc.s
    have c1 := h1
    have c2 := h2
    unfold Hit at c1 c2
    rcases List.mem_cons.mp hs with e1 | hs1
    · rcases List.mem_cons.mp ht with e2 | ht1
      · rw [e1, e2]
      · have := k1 t ht1
        rw [e1] at c1
        omega
    · rcases List.mem_cons.mp ht with e2 | ht1
      · have := k1 s hs1
        rw [e2] at c2
        omega
      · exact hit_uniq ⟨fun z hz => hc.w z (List.mem_cons_of_mem _ hz), k2⟩ hs1 ht1 h1 h2
theorem spansAt_hit {f : List Sl} {s : Sl} {x : Int} (hc : Chn f) (hs : s ∈ f) (h : Hit s x) : spansAt f x = s.2.2 :=
  spansAt_some ⟨s, hs, h⟩ fun t ht k => by rw [hit_uniq hc ht hs k h]
theorem spansAt_mem {f : List Sl} {x : Int} (h : spansAt f x ≠ []) : ∃ s ∈ f, Hit s x ∧ spansAt f x = s.2.2 := by
  unfold spansAt at *
  cases e : f.find? (fun s => decide (s.1 ≤ x) && decide (x < s.2.1)) with
  | none =>
    rw [e] at h
    exact absurd rfl h
  | some s =>
    have h1 := List.mem_of_find?_eq_some e
    have h2 := List.find?_some e
    simp only [Bool.and_eq_true, decide_eq_true_eq] at h2
    exact ⟨s, h1, h2, rfl⟩
theorem spansAt_ok {f : List Sl} (h : ∀ s ∈ f, SpOk s.2.2) (x : Int) : SpOk (spansAt f x) := by
  by_cases e : spansAt f x = []
  · rw [e]
    exact .nil
  · obtain ⟨s, hs, _, k⟩ := spansAt_mem e
    rw [k]
    exact h s hs
theorem spansAt_append (f g : List Sl) (x : Int) : (∃ s ∈ f, Hit s x) ∧ spansAt (f ++ g) x = spansAt f x ∨ (∀ s ∈ f, ¬ Hit s x) ∧ spansAt (f ++ g) x = spansAt g x := by
  cases e : f.find? (fun s => decide (s.1 ≤ x) && decide (x < s.2.1)) with
  | none =>
    refine .inr ⟨fun s hs k => ?_, ?_⟩
    · rw [List.find?_eq_none] at e
      have := e s hs
      simp only [Bool.and_eq_true, decide_eq_true_eq] at this
      exact this k
    · unfold spansAt
      rw [List.find?_append, e]
      rfl
  | some s =>
    have h1 := List.mem_of_find?_eq_some e
    have h2 := List.find?_some e
    simp only [Bool.and_eq_true, decide_eq_true_eq] at h2
    refine .inl ⟨⟨s, h1, h2⟩, ?_⟩
    unfold spansAt
    rw [List.find?_append, e]
    rfl
/-- one step of tidy -/
theorem tstep_ok {f : List Sl} {p : Sl} (hf : FmOk f) (hp : p.1 < p.2.1) (hs : SpOk p.2.2) (hb : ∀ q ∈ f, q.2.1 ≤ p.1) : FmOk (tstep f p) ∧ (∀ x, spansAt (tstep f p) x = spansAt (f ++ [p]) x) ∧ (∀ q ∈ tstep f p, q.2.1 ≤ p.2.1) ∧ ∀ x, (∃ s ∈ tstep f p, Hit s x) → ∃ s ∈ f ++ [p], Hit s x := by
  have hc : Chn (f ++ [p]) := ⟨fun s h => by
    rcases List.mem_append.mp h with h | h
    · exact (hf.w s h).1
    · rw [List.mem_singleton.mp h]
      exact hp, by
    rw [List.pairwise_append]
    exact ⟨hf.chn.s, by simp, fun s h t ht => by rw [List.mem_singleton.mp ht]; exact hb s h⟩⟩
  have app : ¬ (∃ q, f.getLast? = some q ∧ q.2.1 = p.1 ∧ q.2.2 = p.2.2) → p.2.2 ≠ [] → FmOk (f ++ [p]) := fun hn hne => by
    refine ⟨fun s h => ?_, ?_⟩
    · rcases List.mem_append.mp h with h | h
      · exact hf.w s h
      · rw [List.mem_singleton.mp h]
        exact ⟨hp, hne, hs⟩
    · rw [List.pairwise_append]
      refine ⟨hf.s, by simp, fun s h t ht => ?_⟩
      rw [List.mem_singleton.mp ht]
      refine ⟨hb s h, fun e1 e2 => hn ⟨s, ?_, e1, e2⟩⟩
      cases hg : f.getLast? with
      | none =>
        have e : f = [] := by simpa using hg
        rw [e] at h
        cases h
      | some q =>
        have e := last_split hg
        rw [e] at h
        rcases List.mem_append.mp h with h | h
        · have z := hf.s
          rw [e, List.pairwise_append] at z
          have z1 := (z.2.2 s h q (by simp)).1
          have z2 := (hf.w q (by rw [e]; simp)).1
          have z3 := hb q (by rw [e]; simp)
          omega
        · rw [List.mem_singleton.mp h]
  have skip : p.2.2 = [] → ∀ x, spansAt f x = spansAt (f ++ [p]) x := fun he x => by
    rcases spansAt_append f [p] x with ⟨_, k⟩ | ⟨h, k⟩
    · exact k.symm
    · rw [k, spansAt_none h]
      by_cases z : Hit p x
      · rw [spansAt_some ⟨p, by simp, z⟩ (sp := []) fun s hs _ => by rw [List.mem_singleton.mp hs]; exact he]
      · rw [spansAt_none fun s hs => by rw [List.mem_singleton.mp hs]; exact z]
  unfold tstep
  cases hg : f.getLast? with
  | none =>
    have e : f = [] := by simpa using hg
    dsimp only
    by_cases he : p.2.2 ≠ []
    · rw [if_pos he]
      have := app (by rw [hg]; simp) he
      rw [e] at this ⊢
      exact ⟨this, fun _ => rfl, by simp, fun x h => h⟩
    · rw [if_neg he]
      have he : p.2.2 = [] := by simpa using he
      have := skip he
      rw [e] at this ⊢
      exact ⟨.nil, this, by simp, by simp⟩
  | some q =>
    have e := last_split hg
    dsimp only
    by_cases hm : q.2.1 = p.1 ∧ q.2.2 = p.2.2
    · rw [if_pos hm]
      generalize hgd : f.dropLast = g at e
      have hqf : q ∈ f := by rw [e]; simp
      have z := hf.s
      rw [e, List.pairwise_append] at z
      have hq := hf.w q hqf
      refine ⟨⟨fun s h => ?_, ?_⟩, fun x => ?_, fun s h => ?_, fun x h => ?_⟩
      · rcases List.mem_append.mp h with h | h
        · exact hf.w s (by rw [e]; simp [h])
        · rw [List.mem_singleton.mp h]
          exact ⟨by show q.1 < p.2.1; omega, by show p.2.2 ≠ []; rw [← hm.2]; exact hq.2.1, hs⟩
      · rw [List.pairwise_append]
        refine ⟨z.1, by simp, fun s h t ht => ?_⟩
        rw [List.mem_singleton.mp ht]
        have k := z.2.2 s h q (by simp)
        exact ⟨k.1, fun e1 => by show s.2.2 ≠ p.2.2; rw [← hm.2]; exact k.2 e1⟩
      · by_cases hx : ∃ s ∈ f ++ [p], Hit s x
        · obtain ⟨s, hs', hh⟩ := hx
          rw [spansAt_hit hc hs' hh]
          have hsub : ∃ t ∈ g ++ [(q.1, p.2.1, p.2.2)], Hit t x ∧ t.2.2 = s.2.2 := by
            rcases List.mem_append.mp hs' with h | h
            · rw [e] at h
              rcases List.mem_append.mp h with h | h
              · exact ⟨s, by simp [h], hh, rfl⟩
              · have es := List.mem_singleton.mp h
                rw [es] at hh ⊢
                refine ⟨(q.1, p.2.1, p.2.2), by simp, ⟨hh.1, ?_⟩, hm.2.symm⟩
                have := hh.2
                show x < p.2.1
                omega
            · have es := List.mem_singleton.mp h
              rw [es] at hh ⊢
              refine ⟨(q.1, p.2.1, p.2.2), by simp, ⟨?_, hh.2⟩, rfl⟩
              have := hh.1
              show q.1 ≤ x
              omega
          obtain ⟨t, ht, h1, h2⟩ := hsub
          rw [← h2]
          refine spansAt_hit ⟨fun r hr => ?_, ?_⟩ ht h1
          · rcases List.mem_append.mp hr with hr | hr
            · exact (hf.w r (by rw [e]; simp [hr])).1
            · rw [List.mem_singleton.mp hr]
              show q.1 < p.2.1
              omega
          · rw [List.pairwise_append]
            refine ⟨z.1.imp fun h => h.1, by simp, fun r hr u hu => ?_⟩
            rw [List.mem_singleton.mp hu]
            exact (z.2.2 r hr q (by simp)).1
        · have hx' : ∀ s ∈ f ++ [p], ¬ Hit s x := fun s h k => hx ⟨s, h, k⟩
          rw [spansAt_none hx', spansAt_none]
          intro s h k
          rcases List.mem_append.mp h with h | h
          · exact hx' s (by rw [e]; simp [h]) k
          · have es := List.mem_singleton.mp h
            subst es
            have k1 := k.1
            have k2 := k.2
            simp only at k1 k2
            by_cases y : x < q.2.1
            · exact hx' q (by simp [hqf]) ⟨k1, y⟩
            · exact hx' p (by simp) ⟨by omega, k2⟩
      · rcases List.mem_append.mp h with h | h
        · have := hb s (by rw [e]; simp [h])
          omega
        · rw [List.mem_singleton.mp h]
          exact Int.le_refl _
      · obtain ⟨s, h, k⟩ := h
        rcases List.mem_append.mp h with h | h
        · exact ⟨s, by rw [e]; simp [h], k⟩
        · have es := List.mem_singleton.mp h
          subst es
          have k1 := k.1
          have k2 := k.2
          simp only at k1 k2
          by_cases y : x < q.2.1
          · exact ⟨q, by simp [hqf], ⟨k1, y⟩⟩
          · exact ⟨p, by simp, ⟨by omega, k2⟩⟩
    · rw [if_neg hm]
      by_cases he : p.2.2 ≠ []
      · rw [if_pos he]
        refine ⟨app (fun ⟨r, h1, h2⟩ => hm ?_) he, fun _ => rfl, fun s h => ?_, fun x h => h⟩
        · rw [hg] at h1
          cases h1
          exact h2
        · rcases List.mem_append.mp h with h | h
          · have := hb s h
            omega
          · rw [List.mem_singleton.mp h]
            exact Int.le_refl _
      · rw [if_neg he]
        have he : p.2.2 = [] := by simpa using he
        exact ⟨hf, skip he, fun s h => by have := hb s h; omega, fun x ⟨s, h, k⟩ => ⟨s, by simp [h], k⟩⟩
theorem tfold_ok : ∀ (rest f : List Sl), FmOk f → Chn rest → (∀ s ∈ rest, SpOk s.2.2) → (∀ q ∈ f, ∀ p ∈ rest, q.2.1 ≤ p.1) → FmOk (rest.foldl tstep f) ∧ ∀ x, spansAt (rest.foldl tstep f) x = spansAt (f ++ rest) x
  | [], f, hf, _, _, _ => ⟨hf, fun x => by simp⟩
  | p :: rest, f, hf, hc, hs, hb => by
    obtain ⟨c1, c2⟩ := List.pairwise_cons.mp hc.s
    obtain ⟨h1, h2, h3, h4⟩ := tstep_ok hf (hc.w p List.mem_cons_self) (hs p List.mem_cons_self) fun q hq => hb q hq p List.mem_cons_self
    obtain ⟨h5, h6⟩ := tfold_ok rest (tstep f p) h1 ⟨fun s h => hc.w s (List.mem_cons_of_mem _ h), c2⟩ (fun s h => hs s (List.mem_cons_of_mem _ h)) fun q hq r hr => by
      have := h3 q hq
      have := c1 r hr
      omega
    refine ⟨h5, fun x => ?_⟩
    rw [List.foldl_cons, h6 x]
    have e : f ++ p :: rest = (f ++ [p]) ++ rest := by simp
    rw [e]
    rcases spansAt_append (tstep f p) rest x with ⟨a, k⟩ | ⟨a, k⟩
    · rw [k, h2 x]
      rcases spansAt_append (f ++ [p]) rest x with ⟨_, k2⟩ | ⟨b, _⟩
      · exact k2.symm
      · obtain ⟨s, hs, hh⟩ := h4 x a
        exact absurd hh (b s hs)
    · rw [k]
      rcases spansAt_append (f ++ [p]) rest x with ⟨⟨s, hs', hh⟩, k2⟩ | ⟨_, k2⟩
      · have z := h2 x
        rw [spansAt_none a] at z
        rw [k2, ← z]
        refine spansAt_none fun r hr hh2 => ?_
        have l1 : s.2.1 ≤ r.1 := by
          rcases List.mem_append.mp hs' with h | h
          · exact hb s h r (List.mem_cons_of_mem _ hr)
          · rw [List.mem_singleton.mp h]
            exact c1 r hr
        have := hh.2
        have := hh2.1
        omega
      · exact k2.symm
theorem tidy_ok {f : List Sl} (hc : Chn f) (hs : ∀ s ∈ f, SpOk s.2.2) : FmOk (tidy f) ∧ ∀ x, spansAt (tidy f) x = spansAt f x := by
  obtain ⟨h1, h2⟩ := tfold_ok f [] .nil hc hs (by simp)
  exact ⟨h1, fun x => by rw [show tidy f = f.foldl tstep [] from rfl, h2 x]; rfl⟩
theorem fm_uniqS : ∀ {f g : List Sl}, FmOk f → FmOk g → (∀ x, spansAt f x = spansAt g x) → f = g
  | [], [], _, _, _ => rfl
  | [], t :: g, _, hg, h => by
    have ht := hg.w t List.mem_cons_self
    have z := spansAt_hit hg.chn (s := t) (x := t.1) List.mem_cons_self ⟨Int.le_refl _, ht.1⟩
    rw [← h] at z
    exact absurd z.symm ht.2.1
  | s :: f, [], hf, _, h => by
    have ht := hf.w s List.mem_cons_self
    have z := spansAt_hit hf.chn (s := s) (x := s.1) List.mem_cons_self ⟨Int.le_refl _, ht.1⟩
    rw [h] at z
    exact absurd z.symm ht.2.1
  | s :: f, t :: g, hf, hg, h => by
    have hs := hf.w s List.mem_cons_self
    have ht := hg.w t List.mem_cons_self
    have cs := List.pairwise_cons.mp hf.s
    have ct := List.pairwise_cons.mp hg.s
    have zs := spansAt_hit hf.chn (s := s) (x := s.1) List.mem_cons_self ⟨Int.le_refl _, hs.1⟩
    have zt := spansAt_hit hg.chn (s := t) (x := t.1) List.mem_cons_self ⟨Int.le_refl _, ht.1⟩
    have low : ∀ {a : Sl} {l : List Sl} {x : Int}, a.1 < a.2.1 → (∀ b ∈ l, a.2.1 ≤ b.1) → spansAt (a :: l) x ≠ [] → a.1 ≤ x := by
      intro a l x ha hl hne
      obtain ⟨b, hb, hh, _⟩ := spansAt_mem hne
      have := hh.1
      rcases List.mem_cons.mp hb with rfl | hb
      · exact this
      · have := hl b hb
        omega
    have e1 : s.1 = t.1 := by
      have l1 := low (x := s.1) ht.1 (fun b hb => (ct.1 b hb).1) (by rw [← h, zs]; exact hs.2.1)
      have l2 := low (x := t.1) hs.1 (fun b hb => (cs.1 b hb).1) (by rw [h, zt]; exact ht.2.1)
      omega
    have e3 : s.2.2 = t.2.2 := by rw [← zs, ← zt, h, e1]
    have edge : ∀ {a : Sl} {l : List Sl} {sp : List Pr}, FmOk (a :: l) → (∀ b ∈ l, a.2.1 ≤ b.1 ∧ (a.2.1 = b.1 → a.2.2 ≠ b.2.2)) → a.2.2 = sp → spansAt (a :: l) a.2.1 ≠ sp := by
      intro a l sp hk hl he hz
      have ha := hk.w a List.mem_cons_self
      have hne : spansAt (a :: l) a.2.1 ≠ [] := by rw [hz, ← he]; exact ha.2.1
      obtain ⟨b, hb, hh, k⟩ := spansAt_mem hne
      rcases List.mem_cons.mp hb with rfl | hb
      · have := hh.2
        omega
      · have h1 := (hl b hb).1
        have h2 := hh.1
        exact (hl b hb).2 (by omega) (by rw [he, ← hz, k])
    have e2 : s.2.1 = t.2.1 := by
      rcases Int.lt_trichotomy s.2.1 t.2.1 with z | z | z
      · have q := edge hf cs.1 (sp := t.2.2) e3
        rw [h, spansAt_hit hg.chn (s := t) List.mem_cons_self ⟨by omega, z⟩] at q
        exact absurd rfl q
      · exact z
      · have q := edge hg ct.1 (sp := s.2.2) e3.symm
        rw [← h, spansAt_hit hf.chn (s := s) List.mem_cons_self ⟨by omega, z⟩] at q
        exact absurd rfl q
    have e : s = t := Prod.ext e1 (Prod.ext e2 e3)
    subst e
    have tail : ∀ {l : List Sl} (x : Int), (∀ b ∈ l, s.2.1 ≤ b.1) → spansAt l x = if x < s.2.1 then [] else spansAt (s :: l) x := by
      intro l x hl
      split
      · next hx =>
        refine spansAt_none fun b hb hh => ?_
        have := hl b hb
        have := hh.1
        omega
      · next hx =>
        rcases spansAt_append [s] l x with ⟨⟨b, hb, hh⟩, _⟩ | ⟨_, k⟩
        · rw [List.mem_singleton.mp hb] at hh
          have := hh.2
          omega
        · exact k.symm
    rw [fm_uniqS (f := f) (g := g) ⟨fun x hx => hf.w x (List.mem_cons_of_mem _ hx), cs.2⟩ ⟨fun x hx => hg.w x (List.mem_cons_of_mem _ hx), ct.2⟩ fun x => by
      rw [tail x fun b hb => (cs.1 b hb).1, tail (l := g) x fun b hb => (ct.1 b hb).1, h x]]
def cv (f : List Sl) (x y : Int) : Bool := cov (spansAt f x) y
theorem fm_uniq {f g : List Sl} (hf : FmOk f) (hg : FmOk g) (h : ∀ x y, cv f x y = cv g x y) : f = g :=
  fm_uniqS hf hg fun x => sp_uniq (spansAt_ok (fun s hs => (hf.w s hs).2.2) x) (spansAt_ok (fun s hs => (hg.w s hs).2.2) x) (h x)
/-! slabs of boxes -/
def inB (b : Bx) (x y : Int) : Bool := decide (b.1 ≤ x) && decide (x < b.2.2.1) && (decide (b.2.1 ≤ y) && decide (y < b.2.2.2))
theorem chn_segs {E : List Int} (hE : E.Pairwise (· < ·)) (g : Pr → List Pr) : Chn ((nxt E).map fun p => (p.1, p.2, g p)) := by
  refine ⟨fun s hs => ?_, ?_⟩
  · obtain ⟨p, hp, rfl⟩ := List.mem_map.mp hs
    exact (seg_of hE hp).lt
  · rw [List.pairwise_map]
    induction E with
    | nil => simp [nxt]
    | cons a l ih =>
      cases l with
      | nil => simp [nxt]
      | cons b l =>
        rw [nxt_cons, List.pairwise_cons]
        obtain ⟨k1, k2⟩ := List.pairwise_cons.mp hE
        refine ⟨fun p hp => ?_, ih k2⟩
        have := (seg_of k2 hp).a
        rcases List.mem_cons.mp this with e | e
        · show b ≤ p.1
          omega
        · have := (List.pairwise_cons.mp k2).1 _ e
          show b ≤ p.1
          omega
theorem spansAt_segs {E : List Int} (hE : E.Pairwise (· < ·)) (g : Pr → List Pr) (x : Int) : (∃ p ∈ nxt E, p.1 ≤ x ∧ x < p.2 ∧ spansAt ((nxt E).map fun p => (p.1, p.2, g p)) x = g p) ∨ (∀ a ∈ E, ∀ b ∈ E, ¬ (a ≤ x ∧ x < b)) ∧ spansAt ((nxt E).map fun p => (p.1, p.2, g p)) x = [] := by
  by_cases h : ∃ a ∈ E, ∃ b ∈ E, a ≤ x ∧ x < b
  · obtain ⟨a, ha, b, hb, h1, h2⟩ := h
    obtain ⟨p, hp, k1, k2⟩ := seg_at hE ha hb h1 h2
    exact .inl ⟨p, hp, k1, k2, spansAt_hit (chn_segs hE g) (List.mem_map.mpr ⟨p, hp, rfl⟩) ⟨k1, k2⟩⟩
  · refine .inr ⟨fun a ha b hb k => h ⟨a, ha, b, hb, k⟩, spansAt_none fun s hs hh => ?_⟩
    obtain ⟨p, hp, rfl⟩ := List.mem_map.mp hs
    have s := seg_of hE hp
    exact h ⟨p.1, s.a, p.2, s.b, hh⟩
theorem slabsOf_ok {bs : List Bx} (hb : ∀ b ∈ bs, b.1 < b.2.2.1 ∧ b.2.1 < b.2.2.2) : FmOk (slabsOf bs) ∧ ∀ x y, cv (slabsOf bs) x y = bs.any fun b => inB b x y := by
  unfold slabsOf
  have hE := sd_rise (bs.flatMap fun b => [b.1, b.2.2.1])
  have hm : ∀ b ∈ bs, b.1 ∈ sd (bs.flatMap fun b => [b.1, b.2.2.1]) ∧ b.2.2.1 ∈ sd (bs.flatMap fun b => [b.1, b.2.2.1]) := fun b h => by
    rw [mem_sd, mem_sd, List.mem_flatMap, List.mem_flatMap]
    exact ⟨⟨b, h, by simp⟩, ⟨b, h, by simp⟩⟩
  generalize sd (bs.flatMap fun b => [b.1, b.2.2.1]) = E at hE hm
  generalize hg : (fun p : Pr => merged ((bs.filter fun b => decide (b.1 ≤ p.1) && decide (p.1 < b.2.2.1)).map fun b => (b.2.1, b.2.2.2))) = g
  have hmk : (nxt E).map (fun p => (p.1, p.2, merged ((bs.filter fun b => decide (b.1 ≤ p.1) && decide (p.1 < b.2.2.1)).map fun b => (b.2.1, b.2.2.2)))) = (nxt E).map fun p => (p.1, p.2, g p) := by
    rw [← hg]
  rw [hmk]
  have gok : ∀ p, SpOk (g p) ∧ ∀ n, cov (g p) n = cov ((bs.filter fun b => decide (b.1 ≤ p.1) && decide (p.1 < b.2.2.1)).map fun b => (b.2.1, b.2.2.2)) n := fun p => by
    rw [← hg]
    refine merged_ok fun q hq => ?_
    obtain ⟨b, h, rfl⟩ := List.mem_map.mp hq
    exact (hb b (List.mem_filter.mp h).1).2
  obtain ⟨h1, h2⟩ := tidy_ok (chn_segs hE g) fun s hs => by
    obtain ⟨p, _, rfl⟩ := List.mem_map.mp hs
    exact (gok p).1
  refine ⟨h1, fun x y => ?_⟩
  unfold cv
  rw [h2 x, Bool.eq_iff_iff, List.any_eq_true]
  rcases spansAt_segs hE g x with ⟨p, hp, k1, k2, k⟩ | ⟨k1, k⟩
  · rw [k, (gok p).2 y, cov_iff]
    have s := seg_of hE hp
    have key : ∀ b ∈ bs, (b.1 ≤ x ∧ x < b.2.2.1) ↔ (b.1 ≤ p.1 ∧ p.1 < b.2.2.1) := fun b h => by
      have g1 := s.g _ (hm b h).1
      have g2 := s.g _ (hm b h).2
      omega
    constructor
    · rintro ⟨q, hq, a, c⟩
      obtain ⟨b, h, rfl⟩ := List.mem_map.mp hq
      obtain ⟨h, h'⟩ := List.mem_filter.mp h
      simp only [Bool.and_eq_true, decide_eq_true_eq] at h'
      refine ⟨b, h, ?_⟩
      unfold inB
      simp only [Bool.and_eq_true, decide_eq_true_eq]
      exact ⟨(key b h).mpr h', a, c⟩
    · rintro ⟨b, h, hh⟩
      unfold inB at hh
      simp only [Bool.and_eq_true, decide_eq_true_eq] at hh
      refine ⟨(b.2.1, b.2.2.2), List.mem_map.mpr ⟨b, List.mem_filter.mpr ⟨h, ?_⟩, rfl⟩, hh.2⟩
      simp only [Bool.and_eq_true, decide_eq_true_eq]
      exact (key b h).mp hh.1
  · rw [k, cov_nil]
    constructor
    · intro z
      cases z
    · rintro ⟨b, h, hh⟩
      unfold inB at hh
      simp only [Bool.and_eq_true, decide_eq_true_eq] at hh
      exact absurd hh.1 (k1 _ (hm b h).1 _ (hm b h).2)
theorem mem_cuts {f : List Sl} {k : Int} : k ∈ cutsOf f ↔ ∃ s ∈ f, k = s.1 ∨ k = s.2.1 := by
  unfold cutsOf
  rw [mem_sd]
  simp
theorem spansAt_seg {one : List Sl} {E : List Int} {p : Pr} {x : Int} (hE : ∀ s ∈ one, s.1 ∈ E ∧ s.2.1 ∈ E) (s : Seg E p) (h1 : p.1 ≤ x) (h2 : x < p.2) : spansAt one x = spansAt one p.1 := by
  unfold spansAt
  have : ∀ t ∈ one, (decide (t.1 ≤ x) && decide (x < t.2.1)) = (decide (t.1 ≤ p.1) && decide (p.1 < t.2.1)) := fun t ht => by
    have g1 := s.g _ (hE t ht).1
    have g2 := s.g _ (hE t ht).2
    rw [Bool.eq_iff_iff]
    simp only [Bool.and_eq_true, decide_eq_true_eq]
    omega
  have e : one.find? (fun t => decide (t.1 ≤ x) && decide (x < t.2.1)) = one.find? (fun t => decide (t.1 ≤ p.1) && decide (p.1 < t.2.1)) := by
    clear h1 h2 s hE
    induction one with
    | nil => rfl
    | cons a l ih =>
      rw [List.find?_cons, List.find?_cons, this a List.mem_cons_self, ih fun t ht => this t (List.mem_cons_of_mem _ ht)]
  rw [e]
theorem mixed_ok {one other : List Sl} {w : Wd} : FmOk (mixed one other w) ∧ ∀ x y, cv (mixed one other w) x y = wanted w (cv one x y) (cv other x y) := by
  unfold mixed
  have hE : (cutsOf (one ++ other)).Pairwise (· < ·) := sd_rise _
  have h1 : ∀ s ∈ one, s.1 ∈ cutsOf (one ++ other) ∧ s.2.1 ∈ cutsOf (one ++ other) := fun s hs => ⟨mem_cuts.mpr ⟨s, by simp [hs], .inl rfl⟩, mem_cuts.mpr ⟨s, by simp [hs], .inr rfl⟩⟩
  have h2 : ∀ s ∈ other, s.1 ∈ cutsOf (one ++ other) ∧ s.2.1 ∈ cutsOf (one ++ other) := fun s hs => ⟨mem_cuts.mpr ⟨s, by simp [hs], .inl rfl⟩, mem_cuts.mpr ⟨s, by simp [hs], .inr rfl⟩⟩
  generalize cutsOf (one ++ other) = E at hE h1 h2
  obtain ⟨k1, k2⟩ := tidy_ok (chn_segs hE fun p => combined (spansAt one p.1) (spansAt other p.1) w) fun s hs => by
    obtain ⟨p, _, rfl⟩ := List.mem_map.mp hs
    exact combined_ok.1
  refine ⟨k1, fun x y => ?_⟩
  unfold cv
  rw [k2 x]
  rcases spansAt_segs hE (fun p => combined (spansAt one p.1) (spansAt other p.1) w) x with ⟨p, hp, c1, c2, k⟩ | ⟨c1, k⟩
  · have s := seg_of hE hp
    rw [k, combined_ok.2 y, spansAt_seg h1 s c1 c2, spansAt_seg h2 s c1 c2]
  · rw [k, cov_nil, spansAt_none (f := one) fun s hs hh => c1 _ (h1 s hs).1 _ (h1 s hs).2 hh, spansAt_none (f := other) fun s hs hh => c1 _ (h2 s hs).1 _ (h2 s hs).2 hh, cov_nil, wanted_ff]
end BR
/-! Regions: what they have; how great forms are. -/
namespace BR
open PySem
/-! ### the lines that ends lie on -/
def OnS (Y : List Int) (sp : List Pr) : Prop := ∀ p ∈ sp, p.1 ∈ Y ∧ p.2 ∈ Y
def On (X Y : List Int) (f : List Sl) : Prop := ∀ s ∈ f, s.1 ∈ X ∧ s.2.1 ∈ X ∧ OnS Y s.2.2
theorem OnS.nil {Y : List Int} : OnS Y [] := fun _ h => nomatch h
theorem On.nil {X Y : List Int} : On X Y [] := fun _ h => nomatch h
theorem mstep_on {Y : List Int} {f : List Pr} {p : Pr} (hf : OnS Y f) (hp : p.1 ∈ Y ∧ p.2 ∈ Y) : OnS Y (mstep f p) := by
  unfold mstep
  cases hg : f.getLast? with
  | none => exact fun q hq => by rw [List.mem_singleton.mp hq]; exact hp
  | some l =>
    have e := last_split hg
    have hl := hf l (by rw [e]; simp)
    dsimp only
    split
    · intro q hq
      rcases List.mem_append.mp hq with h | h
      · exact hf q ((List.dropLast_sublist _).subset h)
      · rw [List.mem_singleton.mp h]
        refine ⟨hl.1, ?_⟩
        show max p.2 l.2 ∈ Y
        rcases Int.le_total p.2 l.2 with z | z
        · rw [Int.max_eq_right z]
          exact hl.2
        · rw [Int.max_eq_left z]
          exact hp.2
    · intro q hq
      rcases List.mem_append.mp hq with h | h
      · exact hf q h
      · rw [List.mem_singleton.mp h]
        exact hp
theorem mfold_on {Y : List Int} : ∀ (rest f : List Pr), OnS Y f → OnS Y rest → OnS Y (rest.foldl mstep f)
  | [], f, hf, _ => hf
  | p :: rest, f, hf, hr => mfold_on rest _ (mstep_on hf (hr p List.mem_cons_self)) fun q hq => hr q (List.mem_cons_of_mem _ hq)
theorem merged_on {Y : List Int} {ps : List Pr} (h : OnS Y ps) : OnS Y (merged ps) := mfold_on _ _ .nil fun p hp => h p (mem_srt.mp hp)
theorem combined_on {Y : List Int} {one other : List Pr} {w : Wd} (h1 : OnS Y one) (h2 : OnS Y other) : OnS Y (combined one other w) := by
  unfold combined
  refine merged_on fun p hp => ?_
  have s := seg_of (sd_rise _) (List.mem_filter.mp hp).1
  have key : ∀ k ∈ sd (ends (one ++ other)), k ∈ Y := fun k hk => by
    rw [mem_sd, mem_ends] at hk
    obtain ⟨q, hq, e⟩ := hk
    have : q.1 ∈ Y ∧ q.2 ∈ Y := by
      rcases List.mem_append.mp hq with h | h
      · exact h1 q h
      · exact h2 q h
    rcases e with rfl | rfl
    · exact this.1
    · exact this.2
  exact ⟨key _ s.a, key _ s.b⟩
theorem tstep_on {X Y : List Int} {f : List Sl} {p : Sl} (hf : On X Y f) (hp : p.1 ∈ X ∧ p.2.1 ∈ X ∧ OnS Y p.2.2) : On X Y (tstep f p) := by
  unfold tstep
  cases hg : f.getLast? with
  | none =>
    dsimp only
    split
    · exact fun q hq => by rw [List.mem_singleton.mp hq]; exact hp
    · exact .nil
  | some l =>
    have e := last_split hg
    have hl := hf l (by rw [e]; simp)
    dsimp only
    split
    · intro q hq
      rcases List.mem_append.mp hq with h | h
      · exact hf q ((List.dropLast_sublist _).subset h)
      · rw [List.mem_singleton.mp h]
        exact ⟨hl.1, hp.2⟩
    · split
      · intro q hq
        rcases List.mem_append.mp hq with h | h
        · exact hf q h
        · rw [List.mem_singleton.mp h]
          exact hp
      · exact hf
theorem tfold_on {X Y : List Int} : ∀ (rest f : List Sl), On X Y f → On X Y rest → On X Y (rest.foldl tstep f)
  | [], f, hf, _ => hf
  | p :: rest, f, hf, hr => tfold_on rest _ (tstep_on hf (hr p List.mem_cons_self)) fun q hq => hr q (List.mem_cons_of_mem _ hq)
theorem tidy_on {X Y : List Int} {f : List Sl} (h : On X Y f) : On X Y (tidy f) := tfold_on _ _ .nil h
theorem spansAt_on {X Y : List Int} {f : List Sl} (h : On X Y f) (x : Int) : OnS Y (spansAt f x) := by
  by_cases e : spansAt f x = []
  · rw [e]
    exact .nil
  · obtain ⟨s, hs, _, k⟩ := spansAt_mem e
    rw [k]
    exact (h s hs).2.2
theorem mixed_on {X Y : List Int} {one other : List Sl} {w : Wd} (h1 : On X Y one) (h2 : On X Y other) : On X Y (mixed one other w) := by
  unfold mixed
  refine tidy_on fun s hs => ?_
  obtain ⟨p, hp, rfl⟩ := List.mem_map.mp hs
  have g := seg_of (sd_rise _) hp
  have key : ∀ k ∈ cutsOf (one ++ other), k ∈ X := fun k hk => by
    obtain ⟨q, hq, e⟩ := mem_cuts.mp hk
    have : q.1 ∈ X ∧ q.2.1 ∈ X := by
      rcases List.mem_append.mp hq with h | h
      · exact ⟨(h1 q h).1, (h1 q h).2.1⟩
      · exact ⟨(h2 q h).1, (h2 q h).2.1⟩
    rcases e with rfl | rfl
    · exact this.1
    · exact this.2
  exact ⟨key _ g.a, key _ g.b, combined_on (spansAt_on h1 _) (spansAt_on h2 _)⟩
def OnB (X Y : List Int) (b : Bx) : Prop := b.1 ∈ X ∧ b.2.2.1 ∈ X ∧ b.2.1 ∈ Y ∧ b.2.2.2 ∈ Y
theorem slabsOf_on {X Y : List Int} {bs : List Bx} (h : ∀ b ∈ bs, OnB X Y b) : On X Y (slabsOf bs) := by
  unfold slabsOf
  refine tidy_on fun s hs => ?_
  obtain ⟨p, hp, rfl⟩ := List.mem_map.mp hs
  have g := seg_of (sd_rise _) hp
  have key : ∀ k ∈ sd (bs.flatMap fun b => [b.1, b.2.2.1]), k ∈ X := fun k hk => by
    rw [mem_sd, List.mem_flatMap] at hk
    obtain ⟨b, hb, e⟩ := hk
    simp only [List.mem_cons, List.not_mem_nil, or_false] at e
    rcases e with rfl | rfl
    · exact (h b hb).1
    · exact (h b hb).2.1
  refine ⟨key _ g.a, key _ g.b, merged_on fun q hq => ?_⟩
  obtain ⟨b, hb, rfl⟩ := List.mem_map.mp hq
  exact (h b (List.mem_filter.mp hb).1).2.2
theorem rise_len : ∀ {l X : List Int}, l.Pairwise (· < ·) → (∀ k ∈ l, k ∈ X) → l.length ≤ X.length
  | [], _, _, _ => Nat.zero_le _
  | a :: l, X, hs, h => by
    obtain ⟨h1, h2⟩ := List.pairwise_cons.mp hs
    have := rise_len (l := l) (X := X.erase a) h2 fun k hk => by
      have := h1 k hk
      exact (List.mem_erase_of_ne (by omega)).mpr (h k (List.mem_cons_of_mem _ hk))
    have ha := h a List.mem_cons_self
    have e := List.length_erase_of_mem ha
    have : 0 < X.length := List.length_pos_of_mem ha
    simp only [List.length_cons]
    omega
theorem sp_len {Y : List Int} {sp : List Pr} (h : SpOk sp) (o : OnS Y sp) : sp.length ≤ Y.length := by
  have := rise_len (l := sp.map (·.1)) (X := Y) (by
    rw [List.pairwise_map]
    have key : sp.Pairwise fun p q => p.2 < q.1 := h.s
    refine (List.Pairwise.and_mem.mp key).imp fun {a b} ⟨ha, _, k⟩ => ?_
    have := h.w a ha
    omega) fun k hk => by
    obtain ⟨p, hp, rfl⟩ := List.mem_map.mp hk
    exact (o p hp).1
  rw [List.length_map] at this
  exact this
theorem fm_len {X Y : List Int} {f : List Sl} (h : FmOk f) (o : On X Y f) : f.length ≤ X.length := by
  have := rise_len (l := f.map (·.1)) (X := X) (by
    rw [List.pairwise_map]
    refine (List.Pairwise.and_mem.mp h.chn.s).imp fun {a b} ⟨ha, _, k⟩ => ?_
    have := (h.w a ha).1
    omega) fun k hk => by
    obtain ⟨p, hp, rfl⟩ := List.mem_map.mp hk
    exact (o p hp).1
  rw [List.length_map] at this
  exact this
theorem fm_small {X Y : List Int} {f : List Sl} (h : FmOk f) (o : On X Y f) (hX : X.length ≤ 1000) (hY : Y.length ≤ 1000) : Small f :=
  ⟨Nat.le_trans (fm_len h o) hX, fun s hs => Nat.le_trans (sp_len (h.w s hs).2.2 (o s hs).2.2) hY⟩
/-! ### regions -/
theorem rhas_unite (a b : Reg) (p : Pr) : rhas (unite a b) p = (rhas a p || rhas b p) := by
  obtain ⟨f, o⟩ := a
  obtain ⟨g, q⟩ := b
  have k := fun w => (mixed_ok (one := f) (other := g) (w := w)).2 p.1 p.2
  have k' := fun w => (mixed_ok (one := g) (other := f) (w := w)).2 p.1 p.2
  unfold cv at k k'
  cases o <;> cases q <;> simp only [unite, rhas, k, k', wanted] <;> generalize cov (spansAt f p.1) p.2 = u <;> generalize cov (spansAt g p.1) p.2 = v <;> cases u <;> cases v <;> rfl
theorem rhas_out (a : Reg) (p : Pr) : rhas (rout a) p = !rhas a p := by
  unfold rhas rout
  generalize cov (spansAt a.1 p.1) p.2 = u
  generalize a.2 = v
  cases u <;> cases v <;> rfl
theorem rhas_and (a b : Reg) (p : Pr) : rhas (rand a b) p = (rhas a p && rhas b p) := by
  unfold rand
  rw [rhas_out, rhas_unite, rhas_out, rhas_out]
  cases rhas a p <;> cases rhas b p <;> rfl
theorem rhas_sub (a b : Reg) (p : Pr) : rhas (rsub a b) p = (rhas a p && !rhas b p) := by
  unfold rsub
  rw [rhas_out, rhas_unite, rhas_out]
  cases rhas a p <;> cases rhas b p <;> rfl
theorem rhas_xor (a b : Reg) (p : Pr) : rhas (rxor a b) p = (rhas a p != rhas b p) := by
  have k := (mixed_ok (one := a.1) (other := b.1) (w := .either)).2 p.1 p.2
  unfold cv at k
  unfold rhas rxor
  simp only [k, wanted]
  generalize cov (spansAt a.1 p.1) p.2 = u
  generalize cov (spansAt b.1 p.1) p.2 = v
  generalize a.2 = x
  generalize b.2 = y
  cases u <;> cases v <;> cases x <;> cases y <;> rfl
/-- far away nothing is covered -/
theorem low_bound (f : List Sl) : ∃ x0 : Int, ∀ s ∈ f, x0 < s.1 := by
  induction f with
  | nil => exact ⟨0, by simp⟩
  | cons a l ih =>
    obtain ⟨x, h⟩ := ih
    refine ⟨min x (a.1 - 1), fun s hs => ?_⟩
    rcases List.mem_cons.mp hs with rfl | hs
    · omega
    · have := h s hs
      omega
theorem reg_uniq {a b : Reg} (ha : FmOk a.1) (hb : FmOk b.1) (h : ∀ p, rhas a p = rhas b p) : a = b := by
  obtain ⟨x, hx⟩ := low_bound (a.1 ++ b.1)
  have e1 : spansAt a.1 x = [] := spansAt_none fun s hs hh => by
    have := hx s (by simp [hs])
    have := hh.1
    omega
  have e2 : spansAt b.1 x = [] := spansAt_none fun s hs hh => by
    have := hx s (by simp [hs])
    have := hh.1
    omega
  have eo : a.2 = b.2 := by
    have z := h (x, 0)
    unfold rhas at z
    simp only [e1, e2, cov_nil] at z
    revert z
    cases a.2 <;> cases b.2 <;> decide
  have ef : a.1 = b.1 := fm_uniq ha hb fun x y => by
    have z := h (x, y)
    unfold rhas at z
    rw [eo] at z
    unfold cv
    revert z
    cases b.2 <;> cases cov (spansAt a.1 x) y <;> cases cov (spansAt b.1 x) y <;> decide
  exact Prod.ext ef eo
theorem unite_ok (a b : Reg) : FmOk (unite a b).1 := by
  unfold unite
  split <;> exact mixed_ok.1
theorem unite_on {X Y : List Int} {a b : Reg} (h1 : On X Y a.1) (h2 : On X Y b.1) : On X Y (unite a b).1 := by
  unfold unite
  split
  · exact mixed_on h1 h2
  · exact mixed_on h1 h2
  · exact mixed_on h2 h1
  · exact mixed_on h1 h2
theorem rand_ok (a b : Reg) : FmOk (rand a b).1 := unite_ok _ _
theorem rsub_ok (a b : Reg) : FmOk (rsub a b).1 := unite_ok _ _
theorem rxor_ok (a b : Reg) : FmOk (rxor a b).1 := mixed_ok.1
theorem rand_on {X Y : List Int} {a b : Reg} (h1 : On X Y a.1) (h2 : On X Y b.1) : On X Y (rand a b).1 := unite_on (a := rout a) (b := rout b) h1 h2
theorem rsub_on {X Y : List Int} {a b : Reg} (h1 : On X Y a.1) (h2 : On X Y b.1) : On X Y (rsub a b).1 := unite_on (a := rout a) (b := b) h1 h2
theorem rxor_on {X Y : List Int} {a b : Reg} (h1 : On X Y a.1) (h2 : On X Y b.1) : On X Y (rxor a b).1 := mixed_on h1 h2
/-- a region along lines -/
structure RegOn (X Y : List Int) (a : Reg) : Prop where
  ok : FmOk a.1
  on : On X Y a.1
theorem RegOn.unite {X Y : List Int} {a b : Reg} (h1 : RegOn X Y a) (h2 : RegOn X Y b) : RegOn X Y (unite a b) := ⟨unite_ok a b, unite_on h1.on h2.on⟩
theorem RegOn.and {X Y : List Int} {a b : Reg} (h1 : RegOn X Y a) (h2 : RegOn X Y b) : RegOn X Y (rand a b) := ⟨rand_ok a b, rand_on h1.on h2.on⟩
theorem RegOn.sub {X Y : List Int} {a b : Reg} (h1 : RegOn X Y a) (h2 : RegOn X Y b) : RegOn X Y (rsub a b) := ⟨rsub_ok a b, rsub_on h1.on h2.on⟩
theorem RegOn.xor {X Y : List Int} {a b : Reg} (h1 : RegOn X Y a) (h2 : RegOn X Y b) : RegOn X Y (rxor a b) := ⟨rxor_ok a b, rxor_on h1.on h2.on⟩
theorem RegOn.out {X Y : List Int} {a : Reg} (h1 : RegOn X Y a) : RegOn X Y (rout a) := ⟨h1.ok, h1.on⟩
theorem RegOn.nil {X Y : List Int} {o : Bool} : RegOn X Y ([], o) := ⟨.nil, .nil⟩
theorem RegOn.of {X Y : List Int} {bs : List Bx} (h : ∀ b ∈ bs, bxOk b ∧ OnB X Y b) : RegOn X Y (slabsOf bs, false) := ⟨(slabsOf_ok fun b hb => (h b hb).1).1, slabsOf_on fun b hb => (h b hb).2⟩
theorem RegOn.small {X Y : List Int} {a : Reg} (h : RegOn X Y a) (hX : X.length ≤ 1000) (hY : Y.length ≤ 1000) : Small a.1 := fm_small h.ok h.on hX hY
theorem rhas_of {bs : List Bx} (h : ∀ b ∈ bs, bxOk b) (p : Pr) : rhas (slabsOf bs, false) p = bs.any fun b => inB b p.1 p.2 := by
  unfold rhas
  have := (slabsOf_ok h).2 p.1 p.2
  unfold cv at this
  rw [this]
  cases bs.any fun b => inB b p.1 p.2 <;> rfl
theorem rhas_nil {o : Bool} (p : Pr) : rhas ([], o) p = o := by cases o <;> rfl
theorem RegOn.ne {X Y : List Int} {a : Reg} (h : RegOn X Y a) : ∀ s ∈ a.1, s.2.2 ≠ [] := fun s hs => (h.ok.w s hs).2.1
/-- the first square of a region, if there is one, is in it; none only if nothing is in it -/
theorem firstSq_none {a : Reg} : firstSq a = none → a = ([], false) := by
  obtain ⟨f, o⟩ := a
  unfold firstSq
  cases o with
  | true =>
    intro h
    simp only [if_true] at h
    split at h <;> cases h
  | false =>
    intro h
    simp only [Bool.false_eq_true, if_false] at h
    cases f with
    | nil => rfl
    | cons s r => cases h
theorem firstSq_some {a : Reg} {p : Pr} (h : FmOk a.1) (e : firstSq a = some p) : rhas a p = true := by
  obtain ⟨f, o⟩ := a
  unfold firstSq at e
  cases o with
  | true =>
    simp only [if_true] at e
    have fin : spansAt f p.1 = [] → rhas (f, true) p = true := fun z => by
      unfold rhas
      simp only [z, cov_nil]
      decide
    refine fin ?_
    split at e
    · cases e
      refine spansAt_none fun s hs hh => ?_
      have := hh.2
      cases hg : f.getLast? with
      | none =>
        have : f = [] := by simpa using hg
        rw [this] at hs
        cases hs
      | some l =>
        have es := last_split hg
        have el : f.getLastD (0, 0, []) = l := by simp [List.getLastD_eq_getLast?, hg]
        rw [el] at this
        have : s.2.1 ≤ l.2.1 := by
          have hl := h.w l (by show l ∈ f; rw [es]; simp)
          have hs' : s ∈ f.dropLast ++ [l] := by rw [← es]; exact hs
          rcases List.mem_append.mp hs' with k | k
          · have z := h.chn.s
            change f.Pairwise _ at z
            rw [es, List.pairwise_append] at z
            have := z.2.2 s k l (by simp)
            have := hl.1
            omega
          · rw [List.mem_singleton.mp k]
            exact Int.le_refl _
        simp only at *
        omega
    · next z =>
      have : f = [] := List.eq_nil_of_length_eq_zero (by omega)
      rw [this]
      rfl
  | false =>
    simp only [Bool.false_eq_true, if_false] at e
    cases f with
    | nil => cases e
    | cons s r =>
      cases e
      have hs := h.w s List.mem_cons_self
      unfold rhas
      have z := spansAt_hit h.chn (s := s) (x := s.1) List.mem_cons_self ⟨Int.le_refl _, hs.1⟩
      simp only [z]
      have : cov s.2.2 (s.2.2.headD (0, 0)).1 = true := by
        cases es : s.2.2 with
        | nil => exact absurd es hs.2.1
        | cons q l =>
          refine cov_iff.mpr ⟨q, List.mem_cons_self, Int.le_refl _, ?_⟩
          exact hs.2.2.w q (by rw [es]; simp)
      rw [this]
      rfl
end BR
/-! Own layer: readings beside a pool that draws change. -/
namespace BR
open PySem PySem.Spec PyProof.Rows L2
/-- growth, but for the pool -/
structure KG (p : Addr) (G H G' H' : Hp) : Prop where
  g : Same G G'
  b : SameBut p H H'
  i : PI p G' H'
  f : ∀ a, G a = none → G' a ≠ none → H a = none
theorem KG.refl {p : Addr} {G H : Hp} (i : PI p G H) : KG p G H G H := ⟨same_refl _, fun _ _ _ e => e, i, fun a h h' => absurd h h'⟩
theorem KG.trans {p : Addr} {G H G1 H1 G2 H2 : Hp} (i : PI p G H) (a : KG p G H G1 H1) (b : KG p G1 H1 G2 H2) : KG p G H G2 H2 :=
  ⟨a.g.trans b.g, fun c o n e => b.b c o n (a.b c o n e), b.i, fun c h1 h2 => by
    by_cases e : G1 c = none
    · have h3 := b.f c e h2
      cases e4 : H c with
      | none => rfl
      | some o =>
        by_cases z : c = p
        · subst z
          obtain ⟨c0, z0, hh, _⟩ := a.i.h
          rw [hh] at h3
          cases h3
        · have := a.b c o z e4
          rw [h3] at this
          cases this
    · exact a.f c h1 e⟩
theorem KG.grow {p : Addr} {G H G' H' : Hp} (i : PI p G H) (g : Grow G H G' H') : KG p G H G' H' := ⟨g.g, fun a o _ e => g.h a o e, i.grow g, g.f⟩
/-- over more -/
theorem KG.more {p : Addr} {G G1 H G' H' : Hp} (a : KG p G H G' H') (g : Same G G1) (i : PI p G1 H) : KG p G1 H (uni G1 G') H' ∧ Same G' (uni G1 G') := by
  have s1 : Same G1 H' := fun c o e => a.b c o (fun z => by subst z; rw [i.n] at e; cases e) (i.s c o e)
  refine ⟨⟨uni_l _ _, a.b, ⟨uni_s s1 a.i.s, ?_, a.i.h⟩, fun c h1 h2 => ?_⟩, uni_r s1 a.i.s⟩
  · unfold uni
    rw [i.n]
    exact a.i.n
  · have e : uni G1 G' c = G' c := by simp [uni, h1]
    rw [e] at h2
    exact a.f c (g.free h1) h2
/-- a reading gives one of the values φ t, C t -/
def KD (p : Addr) (te : TE) (σ : St) (G : Hp) {T : Type} (C : T → Prop) (φ : T → Ty) : Prop :=
  ∀ H, PI p G H → ∀ Q : VK, (∀ t v G' H', KG p G H G' H' → C t → (φ t).p G' v → Q v H') → te σ H Q
def KA (p : Addr) (ta : TA) (σ : St) (G : Hp) {T : Type} (C : T → Prop) (φs : T → List Ty) : Prop :=
  ∀ H, PI p G H → ∀ Q : List V → Hp → Prop, (∀ t vs G' H', KG p G H G' H' → C t → All G' (φs t) vs → Q vs H') → ta σ H Q
section
variable {K : Fg} {p : Addr} {σ : St} {G G1 H : Hp} {ta tb te : TE} {tr : TA} {T U W : Type} {C : T → Prop} {φ : T → Ty} {B : U → Prop} {ψ : U → Ty} {Q : VK} {E : XK} {D : Ends} {tz : TS}
theorem KD.mono (h : KD p te σ G C φ) (g : Same G G1) : KD p te σ G1 C φ := fun H i Q q =>
  h H (i.less g) Q fun t v G' H' k c hv =>
    let ⟨k2, s2⟩ := k.more g i
    q t v _ H' k2 c ((φ t).m _ _ _ s2 hv)
theorem KA.mono {φs : T → List Ty} (h : KA p tr σ G C φs) (g : Same G G1) : KA p tr σ G1 C φs := fun H i Q q =>
  h H (i.less g) Q fun t v G' H' k c hv =>
    let ⟨k2, s2⟩ := k.more g i
    q t v _ H' k2 c (hv.mono s2)
theorem KD.map {C' : W → Prop} {φ' : W → Ty} (h : KD p te σ G C φ) (f : ∀ t, C t → ∃ w, C' w ∧ φ t = φ' w) : KD p te σ G C' φ' := fun H i Q q =>
  h H i Q fun t v G' H' k c hv => by
    obtain ⟨w, h1, h2⟩ := f t c
    exact q w v G' H' k h1 (h2 ▸ hv)
theorem kd_pd {χ : Ty} (h : PD te σ G G χ) : KD p te σ G (fun _ : Unit => True) fun _ => χ := fun H i Q q =>
  h H i.s i.s Q fun v G' H' g hv => q () v G' H' (.grow i g) trivial hv
theorem kd_take {j : Nat} {n : Int} (hp : σ[j]? = some (some (.ref p))) (hn : PD te σ G G (tI n)) (h0 : 0 < n) (h1 : n < 2 ^ 200) :
    KD p (tCall sp_l_take [] E (tCons (tVar j) (tCons te tNil))) σ G (fun r : Int => 0 ≤ r ∧ r < n) tI := fun H i Q q =>
  ⟨_, hp, hn H i.s i.s _ fun v G' H' g hv => by
    cases hv
    obtain ⟨c, z, h, o⟩ := i.h
    refine ⟨p, c, z, n, rfl, g.h _ _ h, o, h0, h1, fun r c' z' H2 q1 q2 q3 q4 q5 => ?_⟩
    refine q r (.int r) G H2 ⟨same_refl _, fun a o ne e => q4 a o ne (g.h a o e), ⟨fun a o e => q4 a o (fun z => by subst z; rw [i.n] at e; cases e) (g.h a o (i.s a o e)), i.n, c', z', q5, q3⟩, fun a h h' => absurd h h'⟩ ⟨q1, q2⟩ rfl⟩
theorem pd_cv {R : Hp} {χ : Ty} {v : V} (h : χ.p G v) : PD (tC v) σ G R χ := fun H _ sg Q q => q v G H (.refl sg) h
/-- two places, from the left -/
theorem kd_op {r : R2} {χ : T → U → Ty} (ha : KD p ta σ G C φ) (hb : KD p tb σ G B ψ) (hr : ∀ t u x y G1, C t → B u → Same G G1 → (φ t).p G1 x → (ψ u).p G1 y → PD (tOp r (tC x) (tC y)) σ G1 G1 (χ t u)) :
    KD p (tOp r ta tb) σ G (fun z : T × U => C z.1 ∧ B z.2) fun z => χ z.1 z.2 := fun H i Q q =>
  ha H i _ fun t x G1 H1 k1 c1 hx => (hb.mono k1.g) H1 k1.i _ fun u y G2 H2 k2 c2 hy =>
    (hr t u x y G2 c1 c2 (k1.g.trans k2.g) ((φ t).m _ _ _ k2.g hx) hy) H2 k2.i.s k2.i.s Q fun v G3 H3 g3 hv => q (t, u) v G3 H3 ((k1.trans i k2).trans i (.grow k2.i g3)) ⟨c1, c2⟩ hv
theorem ka_nil : KA p tNil σ G (fun _ : Unit => True) fun _ => [] := fun H i Q q => q () [] G H (.refl i) trivial .nil
theorem ka_cons {φs : U → List Ty} (h : KD p te σ G C φ) (hr : KA p tr σ G B φs) : KA p (tCons te tr) σ G (fun z : T × U => C z.1 ∧ B z.2) fun z => φ z.1 :: φs z.2 := fun H i Q q =>
  h H i _ fun t x G1 H1 k1 c1 hx => (hr.mono k1.g) H1 k1.i _ fun u xs G2 H2 k2 c2 hxs => q (t, u) (x :: xs) G2 H2 (k1.trans i k2) ⟨c1, c2⟩ (.cons ((φ t).m _ _ _ k2.g hx) hxs)
theorem ka_ad {φs : List Ty} (h : AD tr σ G G φs) : KA p tr σ G (fun _ : Unit => True) fun _ => φs := fun H i Q q =>
  h H i.s i.s Q fun v G' H' g hv => q () v G' H' (.grow i g) trivial hv
theorem kd_lst {φs : T → List Ty} (h : KA p tr σ G C φs) (hl : ∀ t, C t → (φs t).length ≤ 100000) : KD p (tLst tr) σ G C fun t => tL (φs t) := fun H i Q q =>
  h H i _ fun t vs G1 H1 k1 c1 hv => ⟨sz_of (by rw [hv.length]; exact hl t c1), fun a ha =>
    have g2 : Grow G1 H1 (upd G1 a (.lst vs)) (upd H1 a (.lst vs)) := .new k1.i.s ha
    q t (.ref a) _ _ (k1.trans i (.grow k1.i g2)) c1 ⟨a, vs, rfl, upd_same, hv.mono g2.g⟩⟩
theorem kd_tup {φs : T → List Ty} (h : KA p tr σ G C φs) (hl : ∀ t, C t → (φs t).length ≤ 100000) : KD p (tTup tr) σ G C fun t => tT (φs t) := fun H i Q q =>
  h H i _ fun t vs G1 H1 k1 c1 hv => ⟨sz_of (by rw [hv.length]; exact hl t c1), fun a ha =>
    have g2 : Grow G1 H1 (upd G1 a (.tup vs)) (upd H1 a (.tup vs)) := .new k1.i.s ha
    q t (.ref a) _ _ (k1.trans i (.grow k1.i g2)) c1 ⟨a, vs, rfl, upd_same, hv.mono g2.g⟩⟩
theorem KA.map {C' : W → Prop} {φs : T → List Ty} {φs' : W → List Ty} (h : KA p tr σ G C φs) (f : ∀ t, C t → ∃ w, C' w ∧ φs t = φs' w) : KA p tr σ G C' φs' := fun H i Q q =>
  h H i Q fun t v G' H' k c hv => by
    obtain ⟨w, h1, h2⟩ := f t c
    exact q w v G' H' k h1 (h2 ▸ hv)
/-! statements -/
theorem kq_asg {i : Nat} (h : KD p te σ G C φ) (pi : PI p G H) (k : ∀ t v G' H', KG p G H G' H' → C t → (φ t).p G' v → tz D (σ.set i (some v)) H') : tSeq (tAsg te (gName i)) tz D σ H := h H pi _ k
theorem ks_asg {i : Nat} (h : KD p te σ G C φ) (pi : PI p G H) (k : ∀ t v G' H', KG p G H G' H' → C t → (φ t).p G' v → D.nx (σ.set i (some v)) H') : tAsg te (gName i) D σ H := h H pi _ k
theorem ks_ret (h : KD p te σ G C φ) (pi : PI p G H) (k : ∀ t v G' H', KG p G H G' H' → C t → (φ t).p G' v → D.rt v H') : tRet te D σ H := h H pi _ k
theorem kq_par {i j : Nat} {φ1 φ2 : T → Ty} (h : KA p tr σ G C fun t => [φ1 t, φ2 t]) (pi : PI p G H) (k : ∀ t v w G' H', KG p G H G' H' → C t → (φ1 t).p G' v → (φ2 t).p G' w → tz D ((σ.set i (some v)).set j (some w)) H') : tSeq (tPar i j tr) tz D σ H :=
  h H pi _ fun t vs G' H' kg c hv => by
    obtain ⟨v, w, rfl, h1, h2⟩ := all2 hv
    exact ⟨v, w, rfl, k t v w G' H' kg c h1 h2⟩
theorem kq_when {t : TT} {b : Bool} {tu : TS} (h : TD t σ G b) (pi : PI p G H) (h1 : b = true → ∀ H', KG p G H G H' → tu { D with nx := tz D } σ H') (h2 : b = false → ∀ H', KG p G H G H' → tz D σ H') : tSeq (tIfS t tu tNext) tz D σ H :=
  q_when h pi.s (fun e H' s => h1 e H' (.grow pi (.rest pi.s s))) (fun e H' s => h2 e H' (.grow pi (.rest pi.s s)))
/-- range(e) with draws in e -/
theorem un_rng {g : TG} {tu : TS} (h : te σ H fun v H1 => tFor (iRng1 (tCons (tC v) tNil)) g tu D σ H1) : tFor (iRng1 (tCons te tNil)) g tu D σ H := h
/-! defs with a pool -/
def spK {T : Type} (pre : List Ty → (T → Prop) → (T → Ty) → Prop) : Sp := fun vs H Q _ => ∃ (p : Addr) (G : Hp) (φs : List Ty) (C : T → Prop) (φ : T → Ty) (ws : List V), vs = .ref p :: ws ∧ PI p G H ∧ All G φs ws ∧ pre φs C φ ∧
  ∀ t v G' H', KG p G H G' H' → C t → (φ t).p G' v → Q v H'
theorem kd_call {pre : List Ty → (T → Prop) → (T → Ty) → Prop} {φs : U → List Ty} {j : Nat} (hp : σ[j]? = some (some (.ref p))) (ha : KA p tr σ G B φs) (h : ∀ u, B u → pre (φs u) C φ) : KD p (tCall (spK pre) [] E (tCons (tVar j) tr)) σ G C φ := fun H i Q q =>
  ⟨_, hp, ha H i _ fun u vs G1 H1 k1 c1 hv => by
    refine ⟨p, G1, φs u, C, φ, vs, ?_, k1.i, hv, h u c1, fun t v G' H' k c hv => q t v G' H' (k1.trans i k) c hv⟩
    rw [List.append_nil]⟩
theorem pureK {pre : List Ty → (T → Prop) → (T → Ty) → Prop} {t : TS} {N : List Str}
    (h : ∀ p G φs C φ ws H, PI p G H → All G φs ws → pre φs C φ → ∀ D : Ends, (∀ t v G' H', KG p G H G' H' → C t → (φ t).p G' v → D.rt v H') → t D (L2.start N (.ref p :: ws)) H) :
    ∀ vs H (Q : VK) (E : XK), spK pre vs H Q E → t { nx := fun _ H' => Q .non H', rt := Q } (L2.start N vs) H := by
  rintro vs H Q E ⟨p, G, φs, C, φ, ws, rfl, h1, h2, h3, h4⟩
  exact h p G φs C φ ws H h1 h2 h3 _ h4
theorem lenK {pre : List Ty → (T → Prop) → (T → Ty) → Prop} {n : Nat} (h : ∀ φs C φ, pre φs C φ → φs.length = n) : ∀ vs H Q E, spK pre vs H Q E → vs.length = n + 1 := by
  rintro vs H Q E ⟨p, G, φs, C, φ, ws, rfl, _, h2, h3, _⟩
  rw [List.length_cons, h2.length, h _ _ _ h3]
/-! a list that is filled beside the pool -/
structure FilP (p q : Addr) (G0 H0 G H : Hp) (φs : List Ty) : Prop where
  i : Fnd q G H φs
  k : KG p G0 H0 G H
  z : H0 q = none
  ne : q ≠ p
variable {q : Addr} {G0 H0 : Hp} {φs : List Ty}
theorem FilP.step {G' H' : Hp} (i0 : PI p G0 H0) (f : FilP p q G0 H0 G H φs) (k : KG p G H G' H') : FilP p q G0 H0 G' H' φs := by
  obtain ⟨vs, h, a⟩ := f.i.h
  refine ⟨⟨k.i.s, ?_, vs, k.b q _ f.ne h, a.mono k.g⟩, f.k.trans i0 k, f.z, f.ne⟩
  cases e : G' q with
  | none => rfl
  | some o =>
    have := k.f q f.i.n (by rw [e]; exact fun z => nomatch z)
    rw [h] at this
    cases this
theorem FilP.start (i0 : PI p G0 H0) (h : H0 q = none) : FilP p q G0 H0 G0 (upd H0 q (.lst [])) [] := by
  have ne : q ≠ p := fun z => by
    subst z
    obtain ⟨c, z, hh, _⟩ := i0.h
    rw [hh] at h
    cases h
  obtain ⟨c, z, hh, ok⟩ := i0.h
  exact ⟨.new i0.s h, ⟨same_refl _, fun a o _ e => by rw [upd_ne (ne_of_none e h)]; exact e, ⟨same_upd i0.s (i0.s.free h), i0.n, c, z, by rw [upd_ne (Ne.symm ne)]; exact hh, ok⟩, fun a h h' => absurd h h'⟩, h, ne⟩
/-- the list's last, changed state -/
theorem FilP.put {G' H' H2 : Hp} {ψs : List Ty} (i0 : PI p G0 H0) (f : FilP p q G0 H0 G H φs) (g : Grow G H G' H') (n : Fnd q G' H2 ψs) (b : SameBut q H' H2) : FilP p q G0 H0 G' H2 ψs := by
  have f2 := f.step i0 (.grow f.k.i g)
  obtain ⟨c, z, hh, ok⟩ := f2.k.i.h
  have pz := b p _ (Ne.symm f.ne) hh
  refine ⟨n, ⟨f2.k.g, fun a o ne e => ?_, ⟨n.s, f2.k.i.n, c, z, pz, ok⟩, f2.k.f⟩, f.z, f.ne⟩
  refine b a o (fun z => ?_) (f2.k.b a o ne e)
  subst z
  rw [f.z] at e
  cases e
theorem fp_app {j : Nat} {χ : Ty} (i0 : PI p G0 H0) (f : FilP p q G0 H0 G H φs) (hj : σ[j]? = some (some (.ref q))) (hl : φs.length < 100000) (h : PD te σ G H χ) (k : ∀ G' H2, Same G G' → FilP p q G0 H0 G' H2 (φs ++ [χ]) → D.nx σ H2) :
    tDrop (tBM K "list" rAppend (tVar j) (tCons te tNil)) D σ H := s_app f.i hj hl h fun G' H' H2 g n b => k G' H2 g.g (f.put i0 g n b)
theorem FilP.var {j : Nat} (f : FilP p q G0 H0 G H φs) (hj : σ[j]? = some (some (.ref q))) : PD (tVar j) σ H H (tL φs) := pd_var hj f.i.data
/-- handed out -/
theorem FilP.fin (f : FilP p q G0 H0 G H φs) : ∃ G', KG p G0 H0 G' H ∧ (tL φs).p G' (.ref q) := by
  obtain ⟨vs, e, a⟩ := f.i.h
  refine ⟨upd G q (.lst vs), ⟨f.k.g.trans (same_new f.i.n), f.k.b, ⟨fun x o hx => ?_, ?_, f.k.i.h⟩, fun x hx hy => ?_⟩, q, vs, rfl, upd_same, a.mono (same_new f.i.n)⟩
  · by_cases z : x = q
    · subst z
      rw [upd_same] at hx
      rw [e]
      exact hx
    · rw [upd_ne z] at hx
      exact f.i.s x o hx
  · rw [upd_ne (Ne.symm f.ne)]
    exact f.k.i.n
  · by_cases z : x = q
    · subst z
      exact f.z
    · rw [upd_ne z] at hy
      exact f.k.f x hx hy
theorem kq_new {j : Nat} (i0 : PI p G0 H0) (k : ∀ q, FilP p q G0 H0 G0 (upd H0 q (.lst [])) [] → tz D (σ.set j (some (.ref q))) (upd H0 q (.lst []))) : tSeq (tAsg (tLst tNil) (gName j)) tz D σ H0 :=
  ⟨by decide, fun q hq => k q (.start i0 hq)⟩
theorem fp_ret {j : Nat} (f : FilP p q G0 H0 G H φs) (hj : σ[j]? = some (some (.ref q))) (k : ∀ v G' H', KG p G0 H0 G' H' → (tL φs).p G' v → D.rt v H') : tRet (tVar j) D σ H := by
  obtain ⟨G', kg, h⟩ := f.fin
  exact ⟨_, hj, k _ G' H kg h⟩
end
end BR
/-! Defs that many laws share: lines, boxes along them, probes, regions of boxes. -/
namespace BR
open PySem PySem.Spec PyProof.Rows L2
structure LinesOk (L : List Int) (n : Int) : Prop where
  l : (L.length : Int) = n
  s : L.Pairwise (· < ·)
  b : ∀ x ∈ L, x.natAbs < 2 ^ 120
def sp_l_lines : Sp := spK (T := List Int) fun φs C φ => ∃ n : Int, 1 ≤ n ∧ n ≤ 20 ∧ φs = [tI n] ∧ (∀ L, LinesOk L n → C L) ∧ φ = fun L => tL (L.map tI)
structure BoxesOk (xs ys : List Int) (m : Nat) (bs : List Bx) : Prop where
  l : bs.length ≤ m
  b : ∀ b ∈ bs, bxOk b ∧ OnB xs ys b
structure AxOk (xs : List Int) : Prop where
  l : 2 ≤ xs.length
  m : xs.length ≤ 40
  s : xs.Pairwise (· < ·)
def sp_l_boxes : Sp := spK (T := List Bx) fun φs C φ => ∃ (xs ys : List Int) (m : Nat), AxOk xs ∧ AxOk ys ∧ m ≤ 100 ∧ φs = [tL (xs.map tI), tL (ys.map tI), tI (m : Int)] ∧ (∀ bs, BoxesOk xs ys m bs → C bs) ∧ φ = fun bs => tL (bs.map tB4)
def hasB (bs : List Bx) (p : Pr) : Bool := bs.any fun b => inB b p.1 p.2
def sp_l_has : Sp := spT fun φs φ => ∃ (bs : List Bx) (p : Pr), bs.length ≤ 50000 ∧ φs = [tL (bs.map tB4), tP p] ∧ φ = tBo (hasB bs p)
def prob (xs : List Int) : List Int := [xs.headD 0 - 1] ++ xs ++ xs.tail.map (· - 1)
def probes (xs ys : List Int) : List Pr := (prob xs).flatMap fun x => (prob ys).map fun y => (x, y)
def sp_l_probes : Sp := spT fun φs φ => ∃ xs ys : List Int, xs ≠ [] ∧ ys ≠ [] ∧ xs.length ≤ 100 ∧ ys.length ≤ 100 ∧ φs = [tL (xs.map tI), tL (ys.map tI)] ∧ φ = tL ((probes xs ys).map tP)
def madeB (bs : List Bx) : Reg := bs.foldl (fun r b => unite r (slabsOf [b], false)) ([], false)
def made (bs : List Bx) (o : Bool) : Reg := if o then rout (madeB bs) else madeB bs
def sp_l_made (K : Fg) : Sp := spT fun φs φ => ∃ (bs : List Bx) (o : Bool) (X Y : List Int), X.length ≤ 1000 ∧ Y.length ≤ 1000 ∧ (∀ b ∈ bs, bxOk b ∧ OnB X Y b) ∧ φs = [tL (bs.map tB4), tBo o] ∧ φ = tReg K (made bs o)
def t_l_lines (K : Fg) : TS :=
  (tSeq (tAsg (tCall sp_l_take [] E0 (tCons (tVar 0) (tCons (tC (.int 4)) tNil))) (gName 2))
  (tSeq (tAsg (tLst (tCons (tOp (rIx K) (tLst (tCons (tC (.int 0)) (tCons (tC (.int 0)) (tCons (tUn rNegI (tC (.int 3))) (tCons (tOp rSubI (tC (.int 0)) (tOp rMulI (tCall sp_l_take [] E0 (tCons (tVar 0) (tCons (tOp rPowI (tC (.int 10)) (tC (.int 18))) tNil))) (tOp rPowI (tC (.int 10)) (tC (.int 9))))) tNil))))) (tVar 2)) tNil)) (gName 3))
  (tSeq (tWhile (tTest (tOp rLtI (tCB (rLenX K) (tCons (tVar 3) tNil)) (tVar 1)))
  (tSeq (tAsg (tOp (rIx K) (tLst (tCons (tC (.int 1)) (tCons (tOp (rAddX K) (tC (.int 1)) (tCall sp_l_take [] E0 (tCons (tVar 0) (tCons (tC (.int 3)) tNil)))) (tCons (tC (.int 1)) (tCons (tOp (rAddX K) (tC (.int 1)) (tOp rMulI (tCall sp_l_take [] E0 (tCons (tVar 0) (tCons (tOp rPowI (tC (.int 10)) (tC (.int 18))) tNil))) (tOp rPowI (tC (.int 10)) (tC (.int 9))))) tNil))))) (tVar 2)) (gName 4))
  (tDrop (tBM K "list" rAppend (tVar 3) (tCons (tOp (rAddX K) (tOp (rIx K) (tVar 3) (tUn rNegI (tC (.int 1)))) (tVar 4)) tNil)))))
  (tRet (tVar 3)))))
def t_l_boxes (K : Fg) : TS :=
  (tSeq (tAsg (tLst tNil) (gName 4))
  (tSeq (tFor (iRng1 (tCons (tCall sp_l_take [] E0 (tCons (tVar 0) (tCons (tOp (rAddX K) (tVar 3) (tC (.int 1))) tNil))) tNil)) (gName 5)
  (tSeq (tPar 6 7 (tCons (tCall sp_l_take [] E0 (tCons (tVar 0) (tCons (tOp rSubI (tCB (rLenX K) (tCons (tVar 1) tNil)) (tC (.int 1))) tNil))) (tCons (tCall sp_l_take [] E0 (tCons (tVar 0) (tCons (tOp rSubI (tCB (rLenX K) (tCons (tVar 2) tNil)) (tC (.int 1))) tNil))) tNil)))
  (tSeq (tPar 8 9 (tCons (tOp (rAddX K) (tOp (rAddX K) (tVar 6) (tC (.int 1))) (tCall sp_l_take [] E0 (tCons (tVar 0) (tCons (tOp rSubI (tOp rSubI (tCB (rLenX K) (tCons (tVar 1) tNil)) (tC (.int 1))) (tVar 6)) tNil)))) (tCons (tOp (rAddX K) (tOp (rAddX K) (tVar 7) (tC (.int 1))) (tCall sp_l_take [] E0 (tCons (tVar 0) (tCons (tOp rSubI (tOp rSubI (tCB (rLenX K) (tCons (tVar 2) tNil)) (tC (.int 1))) (tVar 7)) tNil)))) tNil)))
  (tDrop (tBM K "list" rAppend (tVar 4) (tCons (tTup (tCons (tOp (rIx K) (tVar 1) (tVar 6)) (tCons (tOp (rIx K) (tVar 2) (tVar 7)) (tCons (tOp (rIx K) (tVar 1) (tVar 8)) (tCons (tOp (rIx K) (tVar 2) (tVar 9)) tNil))))) tNil))))))
  (tRet (tVar 4))))
def t_l_has (K : Fg) : TS :=
  (tSeq (tAsg (tVar 1) (gTup K 2 (gCons (gName 2) (gCons (gName 3) gNil))))
  (tRet (tOp (rNeX K) (tLc (iSeq K (tVar 0)) (gName 4) (tAnd (tTest (tChain rLeI rLtI (tOp (rIx K) (tVar 4) (tC (.int 0))) (tVar 2) (tOp (rIx K) (tVar 4) (tC (.int 2))))) (tTest (tChain rLeI rLtI (tOp (rIx K) (tVar 4) (tC (.int 1))) (tVar 3) (tOp (rIx K) (tVar 4) (tC (.int 3)))))) (tVar 4) [4]) (tLst tNil))))
def t_l_probes (K : Fg) : TS :=
  (tSeq (tAsg (tLst tNil) (gName 2))
  (tSeq (tFor (iSeq K (tOp (rAddX K) (tOp (rAddX K) (tLst (tCons (tOp rSubI (tOp (rIx K) (tVar 0) (tC (.int 0))) (tC (.int 1))) tNil)) (tVar 0)) (tLc (iSeq K (tSl (rSlX K) (tVar 0) (tPart (tC (.int 1))) tNoPart)) (gName 4) tYes (tOp rSubI (tVar 4) (tC (.int 1))) [4]))) (gName 3)
  (tAsg (tOp (rAddX K) (tVar 2) (tLc (iSeq K (tOp (rAddX K) (tOp (rAddX K) (tLst (tCons (tOp rSubI (tOp (rIx K) (tVar 1) (tC (.int 0))) (tC (.int 1))) tNil)) (tVar 1)) (tLc (iSeq K (tSl (rSlX K) (tVar 1) (tPart (tC (.int 1))) tNoPart)) (gName 4) tYes (tOp rSubI (tVar 4) (tC (.int 1))) [4]))) (gName 5) tYes (tTup (tCons (tVar 3) (tCons (tVar 5) tNil))) [5])) (gName 2)))
  (tRet (tVar 2))))
def t_l_made (K : Fg) : TS :=
  (tSeq (tAsg (tStat0 (RG K) (sp_empty K) E0 (tC (.ref (RG K)))) (gName 2))
  (tSeq (tFor (iSeq K (tVar 0)) (gName 3)
  (tAsg (tOp (rOwn2 (RG K) (sp_or K) E0) (tVar 2) (ClX.tCMeth (RG K) (sp_of K) E0 (tC (.ref (RG K))) (tCons (tVar 3) tNil))) (gName 2)))
  (tRet (tIf (tB (tVar 1)) (tUn (rInv (RG K) (sp_invert K) E0) (tVar 2)) (tVar 2)))))
section
variable {K : Fg}
theorem FilP.of {p q : Addr} {G0 H0 G H : Hp} {φs : List Ty} {vs : List V} (i0 : PI p G0 H0) (k : KG p G0 H0 G H) (h : H q = none) (hv : All G φs vs) : FilP p q G0 H0 G (upd H q (.lst vs)) φs := by
  have ne : q ≠ p := fun z => by
    subst z
    obtain ⟨c, z, hh, _⟩ := k.i.h
    rw [hh] at h
    cases h
  obtain ⟨c, z, hh, ok⟩ := k.i.h
  refine ⟨⟨same_upd k.i.s (k.i.s.free h), k.i.s.free h, vs, upd_same, hv⟩, ⟨k.g, fun a o na e => ?_, ⟨same_upd k.i.s (k.i.s.free h), k.i.n, c, z, by rw [upd_ne (Ne.symm ne)]; exact hh, ok⟩, k.f⟩, ?_, ne⟩
  · have := k.b a o na e
    rw [upd_ne (ne_of_none this h)]
    exact this
  · cases e : H0 q with
    | none => rfl
    | some o =>
      have := k.b q o ne e
      rw [h] at this
      cases this
theorem q_while {σ : St} {H : Hp} {D : Ends} {c : TT} {tb tz : TS} (W : Nat → St → Hp → Prop) (m : Nat) (h0 : W m σ H) (hs : ∀ m σ H, W m σ H → c σ H fun b H1 => if b = true then ∃ N : St → Hp → Prop, (∀ σ' H', N σ' H' → ∃ m', m' < m ∧ W m' σ' H') ∧ tb { D with nx := N, ct := N, bk := tz D } σ H1 else tz D σ H1) : tSeq (tWhile c tb) tz D σ H := ⟨W, ⟨m, h0⟩, hs⟩
theorem p18 : ((10 : Int) ^ (18 : Int).toNat) = 1000000000000000000 := by decide
theorem p9 : ((10 : Int) ^ (9 : Int).toNat) = 1000000000 := by decide
theorem kd_far {p : Addr} {σ : St} {G : Hp} (hp : σ[0]? = some (some (.ref p))) : KD p (tOp rMulI (tCall sp_l_take [] E0 (tCons (tVar 0) (tCons (tOp rPowI (tC (.int 10)) (tC (.int 18))) tNil))) (tOp rPowI (tC (.int 10)) (tC (.int 9)))) σ G (fun r : Int => 0 ≤ r ∧ r < 1000000000000000000) fun r => tI (r * 1000000000) := by
  have t1 : PD (tOp rPowI (tC (.int 10)) (tC (.int 18))) σ G G (tI 1000000000000000000) := PD.is (pd_pow pd_c pd_c ⟨by decide, by decide⟩) (by rw [p18])
  have t2 : PD (tOp rPowI (tC (.int 10)) (tC (.int 9))) σ G G (tI 1000000000) := PD.is (pd_pow pd_c pd_c ⟨by decide, by decide⟩) (by rw [p9])
  refine (kd_op (χ := fun r _ => tI (r * 1000000000)) (kd_take hp t1 (by decide) (by decide)) (kd_pd t2) (fun r _ x y G1 c _ _ hx hy => pd_mul (pd_cv hx) (pd_cv hy) (mulW_small ?_ (by decide)))).map fun t h => ⟨t.1, h.1, rfl⟩
  have : (1000000000000000000 : Nat) < 2 ^ 250 := by decide +kernel
  omega
theorem at_pick {α : Type} {xs : List α} {i : Int} (h0 : 0 ≤ i) (h1 : i < (xs.length : Int)) : ∃ x ∈ xs, ∀ {β : Type} (f : α → β), atI (xs.map f) i = some (f x) := by
  obtain ⟨x, h, h'⟩ := atI_nat h0 h1
  exact ⟨x, List.mem_of_getElem? h', fun f => at_map h⟩
theorem pure_l_lines : ∀ vs H (Q : VK) (E : XK), sp_l_lines vs H Q E → t_l_lines K { nx := fun _ H' => Q .non H', rt := Q } (L2.start ["_law_pool_here", "_law_many", "_law_sort", "_law_found", "_law_jump"] vs) H := by
  refine pureK ?_
  rintro p G φs C φ ws H i0 hv ⟨n, n1, n2, rfl, hC, rfl⟩ D k
  obtain ⟨v1, rfl, h1⟩ := all1 hv
  cases h1
  have big : (1000000000000000000 : Nat) * 1000000000 < 2 ^ 91 := by decide +kernel
  refine kq_asg (p := p) (G := G) (σ := [some (.ref p), some (.int n), none, none, none]) (kd_take rfl pd_c (by decide) (by decide)) i0 fun so v G1 H1 k1 c1 hso => ?_
  cases hso
  -- the first line
  have d4 : KD p (tOp rSubI (tC (.int 0)) (tOp rMulI (tCall sp_l_take [] E0 (tCons (tVar 0) (tCons (tOp rPowI (tC (.int 10)) (tC (.int 18))) tNil))) (tOp rPowI (tC (.int 10)) (tC (.int 9))))) [some (.ref p), some (.int n), some (.int so), none, none] G1 (fun r : Int => 0 ≤ r ∧ r < 1000000000000000000) fun r => tI (0 - r * 1000000000) :=
    (kd_op (χ := fun _ r => tI (0 - r * 1000000000)) (kd_pd (pd_c (v := .int 0))) (kd_far rfl) fun _ r x y G1 _ _ _ hx hy => pd_sub (pd_cv hx) (pd_cv hy)).map fun t h => ⟨t.2, h.2, rfl⟩
  have a1 : KA p (tCons (tC (.int 0)) (tCons (tC (.int 0)) (tCons (tUn rNegI (tC (.int 3))) (tCons (tOp rSubI (tC (.int 0)) (tOp rMulI (tCall sp_l_take [] E0 (tCons (tVar 0) (tCons (tOp rPowI (tC (.int 10)) (tC (.int 18))) tNil))) (tOp rPowI (tC (.int 10)) (tC (.int 9))))) tNil)))) [some (.ref p), some (.int n), some (.int so), none, none] G1 (fun r : Int => 0 ≤ r ∧ r < 1000000000000000000) fun r => [0, 0, -3, 0 - r * 1000000000].map tI :=
    (ka_cons (kd_pd pd_c) (ka_cons (kd_pd pd_c) (ka_cons (kd_pd (pd_neg pd_c)) (ka_cons d4 ka_nil)))).map fun t h => ⟨t.2.2.2.1, h.2.2.2.1, rfl⟩
  have a2 : KD p (tOp (rIx K) (tLst (tCons (tC (.int 0)) (tCons (tC (.int 0)) (tCons (tUn rNegI (tC (.int 3))) (tCons (tOp rSubI (tC (.int 0)) (tOp rMulI (tCall sp_l_take [] E0 (tCons (tVar 0) (tCons (tOp rPowI (tC (.int 10)) (tC (.int 18))) tNil))) (tOp rPowI (tC (.int 10)) (tC (.int 9))))) tNil))))) (tVar 2)) [some (.ref p), some (.int n), some (.int so), none, none] G1 (fun x : Int => x.natAbs < 2 ^ 91) tI := by
    intro Hx ix Qx qx
    refine kd_lst a1 (fun t _ => by simp) Hx ix _ fun r lv G2 H2 k2 c2 hl => ⟨_, rfl, ?_⟩
    obtain ⟨x, hx, hf⟩ := at_pick (xs := [0, 0, -3, 0 - r * 1000000000]) c1.1 (by simpa using c1.2)
    refine (pd_ixLX (K := K) (σ := [some (.ref p), some (.int n), some (.int so), none, none]) (R := G2) (φ := tI x) (pd_cv hl) (pd_c (v := .int so)) (hf tI)) H2 k2.i.s k2.i.s Qx fun v G3 H3 g3 hv => qx x v G3 H3 (k2.trans ix (.grow k2.i g3)) ?_ hv
    have e91 : (4 : Nat) < 2 ^ 91 := by decide +kernel
    simp only [List.mem_cons, List.not_mem_nil, or_false] at hx
    obtain ⟨c3, c4⟩ := c2
    rcases hx with rfl | rfl | rfl | rfl
    · decide +kernel
    · decide +kernel
    · decide +kernel
    · omega
  refine un_asg2 (un_lst ?_)
  refine (ka_cons a2 ka_nil) H1 k1.i _ fun x0 vs G2 H2 k2 c2 hv2 => ⟨sz_of (by rw [hv2.length]; simp), fun q hq => ?_⟩
  obtain ⟨x0, u0⟩ := x0
  have F0 : FilP p q G H G2 (upd H2 q (.lst vs)) (([x0] : List Int).map tI) := .of i0 (k1.trans i0 k2) hq hv2
  -- the loop
  refine q_while (σ := [some (.ref p), some (.int n), some (.int so), some (.ref q), none]) (fun m σ' H' => ∃ (L : List Int) (G' : Hp) (jv : Option V), σ' = [some (.ref p), some (.int n), some (.int so), some (.ref q), jv] ∧ FilP p q G H G' H' (L.map tI) ∧ L ≠ [] ∧ (L.length : Int) ≤ n ∧ L.Pairwise (· < ·) ∧ (∀ x ∈ L, x.natAbs < L.length * 2 ^ 91) ∧ m = n.toNat - L.length) (n.toNat - 1)
    ⟨[x0], G2, none, rfl, F0, by simp, by simp; omega, by simp, fun x hx => by rw [List.mem_singleton.mp hx]; simp; exact c2.1, rfl⟩ ?_
  rintro m σ' H' ⟨L, G', jv, rfl, F, hne, hle, hs, hb, rfl⟩
  have ln : PD (tCB (rLenX K) (tCons (tVar 3) tNil)) [some (.ref p), some (.int n), some (.int so), some (.ref q), jv] H' H' (tI (L.length : Int)) := PD.is (pd_lenL (F.var rfl)) (by rw [List.length_map])
  refine td_test (pd_lt ln (pd_var rfl rfl)) H' (same_refl _) _ fun H3 s3 => ?_
  have F3 := F.step i0 (.grow F.k.i (.rest F.k.i.s s3))
  by_cases hlt : (L.length : Int) < n
  · rw [if_pos (by simpa using hlt)]
    refine ⟨fun σ2 H2 => ∃ (L2 : List Int) (G' : Hp) (jv : Option V), σ2 = [some (.ref p), some (.int n), some (.int so), some (.ref q), jv] ∧ FilP p q G H G' H2 (L2.map tI) ∧ L2 ≠ [] ∧ (L2.length : Int) ≤ n ∧ L2.Pairwise (· < ·) ∧ (∀ x ∈ L2, x.natAbs < L2.length * 2 ^ 91) ∧ L2.length = L.length + 1, ?_, ?_⟩
    · rintro σ2 H2 ⟨L2, G'', jv2, e1, e2, e3, e4, e5, e6, e7⟩
      exact ⟨n.toNat - L2.length, by omega, L2, G'', jv2, e1, e2, e3, e4, e5, e6, rfl⟩
    · -- the jump
      have e2 : KD p (tOp (rAddX K) (tC (.int 1)) (tCall sp_l_take [] E0 (tCons (tVar 0) (tCons (tC (.int 3)) tNil)))) [some (.ref p), some (.int n), some (.int so), some (.ref q), jv] G' (fun r : Int => 0 ≤ r ∧ r < 3) fun r => tI (1 + r) :=
        (kd_op (χ := fun _ r => tI (1 + r)) (kd_pd (pd_c (v := .int 1))) (kd_take rfl pd_c (by decide) (by decide)) fun _ r x y G1 _ _ _ hx hy => pd_add (pd_cv hx) (pd_cv hy)).map fun t h => ⟨t.2, h.2, rfl⟩
      have e4 : KD p (tOp (rAddX K) (tC (.int 1)) (tOp rMulI (tCall sp_l_take [] E0 (tCons (tVar 0) (tCons (tOp rPowI (tC (.int 10)) (tC (.int 18))) tNil))) (tOp rPowI (tC (.int 10)) (tC (.int 9))))) [some (.ref p), some (.int n), some (.int so), some (.ref q), jv] G' (fun r : Int => 0 ≤ r ∧ r < 1000000000000000000) fun r => tI (1 + r * 1000000000) :=
        (kd_op (χ := fun _ r => tI (1 + r * 1000000000)) (kd_pd (pd_c (v := .int 1))) (kd_far rfl) fun _ r x y G1 _ _ _ hx hy => pd_add (pd_cv hx) (pd_cv hy)).map fun t h => ⟨t.2, h.2, rfl⟩
      have b1 : KA p (tCons (tC (.int 1)) (tCons (tOp (rAddX K) (tC (.int 1)) (tCall sp_l_take [] E0 (tCons (tVar 0) (tCons (tC (.int 3)) tNil)))) (tCons (tC (.int 1)) (tCons (tOp (rAddX K) (tC (.int 1)) (tOp rMulI (tCall sp_l_take [] E0 (tCons (tVar 0) (tCons (tOp rPowI (tC (.int 10)) (tC (.int 18))) tNil))) (tOp rPowI (tC (.int 10)) (tC (.int 9))))) tNil)))) [some (.ref p), some (.int n), some (.int so), some (.ref q), jv] G' (fun r : Int × Int => (0 ≤ r.1 ∧ r.1 < 3) ∧ 0 ≤ r.2 ∧ r.2 < 1000000000000000000) fun r => [1, 1 + r.1, 1, 1 + r.2 * 1000000000].map tI :=
        (ka_cons (kd_pd pd_c) (ka_cons e2 (ka_cons (kd_pd pd_c) (ka_cons e4 ka_nil)))).map fun t h => ⟨(t.2.1, t.2.2.2.1), ⟨h.2.1, h.2.2.2.1⟩, rfl⟩
      refine un_asg2 (un_op ?_)
      refine (kd_lst b1 (fun t _ => by simp)) H3 F3.k.i _ fun r lv G4 H4 k4 c4 hl => ⟨_, rfl, ?_⟩
      obtain ⟨x, hx, hf⟩ := at_pick (xs := [1, 1 + r.1, 1, 1 + r.2 * 1000000000]) c1.1 (by simpa using c1.2)
      refine (pd_ixLX (K := K) (σ := [some (.ref p), some (.int n), some (.int so), some (.ref q), jv]) (R := G4) (φ := tI x) (pd_cv hl) (pd_c (v := .int so)) (hf tI)) H4 k4.i.s k4.i.s _ fun v G5 H5 g5 hv => ?_
      cases hv
      have hx1 : 1 ≤ x ∧ x.natAbs < 2 ^ 91 := by
        have e91 : (4 : Nat) < 2 ^ 91 := by decide +kernel
        have e91b : (1000000000000000000 : Nat) * 1000000000 + 1 < 2 ^ 91 := by decide +kernel
        obtain ⟨⟨c5, c6⟩, c7, c8⟩ := c4
        simp only [List.mem_cons, List.not_mem_nil, or_false] at hx
        rcases hx with rfl | rfl | rfl | rfl
        · exact ⟨by decide, by decide +kernel⟩
        · exact ⟨by omega, by omega⟩
        · exact ⟨by decide, by decide +kernel⟩
        · exact ⟨by omega, by omega⟩
      have F5 := (F3.step i0 k4).step i0 (.grow k4.i g5)
      -- append
      rcases List.eq_nil_or_concat L with z | ⟨L0, l, z⟩
      · exact absurd z hne
      rw [List.concat_eq_append] at z
      have vl : PD (tOp (rIx K) (tVar 3) (tUn rNegI (tC (.int 1)))) [some (.ref p), some (.int n), some (.int so), some (.ref q), some (.int x)] H5 H5 (tI l) := by
        have w := F5.var (σ := [some (.ref p), some (.int n), some (.int so), some (.ref q), some (.int x)]) (j := 3) rfl
        refine pd_ixLX w (pd_neg pd_c) ?_
        rw [z, List.map_append]
        exact at_last
      refine fp_app (χ := tI (l + x)) i0 F5 rfl (by rw [List.length_map]; omega) (PD.val (pd_add vl (pd_var rfl rfl))) fun G6 H6 s6 F6 => ?_
      have hl : ∀ y ∈ L, y ≤ l := fun y hy => by
        rw [z] at hy hs
        rw [List.pairwise_append] at hs
        rcases List.mem_append.mp hy with h | h
        · have := hs.2.2 y h l (by simp)
          omega
        · rw [List.mem_singleton.mp h]
          exact Int.le_refl _
      have hlb := hb l (by rw [z]; simp)
      refine ⟨L ++ [l + x], G6, some (.int x), rfl, ?_, by simp, by rw [List.length_append]; simp only [List.length_cons, List.length_nil]; omega, ?_, fun y hy => ?_, by simp⟩
      · rw [List.map_append]
        exact F6
      · rw [List.pairwise_append]
        refine ⟨hs, by simp, fun y hy w hw => ?_⟩
        rw [List.mem_singleton.mp hw]
        have := hl y hy
        omega
      · rw [List.length_append]
        simp only [List.length_cons, List.length_nil]
        have e : ∀ B : Nat, (L.length + (0 + 1)) * B = L.length * B + B := fun B => by rw [Nat.add_mul]; simp
        rw [e]
        have hx2 := hx1.2
        rcases List.mem_append.mp hy with h | h
        · have h2 := hb y h
          exact Nat.lt_of_lt_of_le h2 (Nat.le_add_right _ _)
        · rw [List.mem_singleton.mp h]
          have h3 : (l + x).natAbs ≤ l.natAbs + x.natAbs := Int.natAbs_add_le _ _
          exact Nat.lt_of_le_of_lt h3 (Nat.add_lt_add hlb hx2)
  · rw [if_neg (by simpa using hlt)]
    refine fp_ret F3 rfl fun v G4 H4 k4 hv => k L v G4 H4 k4 (hC L ⟨by omega, hs, fun x hx => ?_⟩) hv
    have h1 := hb x hx
    have h2 : L.length * 2 ^ 91 ≤ 20 * 2 ^ 91 := Nat.mul_le_mul_right _ (by omega)
    have h3 : (20 : Nat) * 2 ^ 91 ≤ 2 ^ 120 := by decide +kernel
    omega
theorem len_l_lines : ∀ vs H Q E, sp_l_lines vs H Q E → vs.length = (["_law_pool_here", "_law_many"] : List Str).length := lenK (by rintro φs C φ ⟨_, _, _, rfl, _⟩; rfl)
end
end BR
/-! Boxes along lines, probes, regions of boxes. -/
namespace BR
open PySem PySem.Spec PyProof.Rows L2
section
variable {K : Fg}
theorem rise_get : ∀ {l : List Int} {i j : Nat} {a b : Int}, l.Pairwise (· < ·) → l[i]? = some a → l[j]? = some b → i < j → a < b := by
  intro l i j a b hs hi hj hij
  obtain ⟨h1, e1⟩ := List.getElem?_eq_some_iff.mp hi
  obtain ⟨h2, e2⟩ := List.getElem?_eq_some_iff.mp hj
  rw [← e1, ← e2]
  exact List.pairwise_iff_getElem.mp hs i j h1 h2 hij
theorem pure_l_boxes : ∀ vs H (Q : VK) (E : XK), sp_l_boxes vs H Q E → t_l_boxes K { nx := fun _ H' => Q .non H', rt := Q } (L2.start ["_law_pool_here", "_law_xs", "_law_ys", "_law_most", "_law_found", "_law_turn", "_law_at", "_law_by", "_law_far", "_law_high"] vs) H := by
  refine pureK ?_
  rintro p G φs C φ ws H i0 hv ⟨xs, ys, m, ax, ay, hm, rfl, hC, rfl⟩ D k
  obtain ⟨v1, v2, v3, rfl, h1, h2, h3⟩ := all3 hv
  cases h3
  refine kq_new (p := p) (σ := [some (.ref p), some v1, some v2, some (.int m), none, none, none, none, none, none]) i0 fun q F0 => ?_
  refine un_seq (un_rng ?_)
  refine (kd_take (p := p) (G := G) (n := (m : Int) + 1) (σ := [some (.ref p), some v1, some v2, some (.int m), some (.ref q), none, none, none, none, none]) rfl (pd_add (pd_var rfl rfl) pd_c) (by omega) (Int.lt_trans (by omega : (m : Int) + 1 < 102) (by decide +kernel))) _ F0.k.i _ fun n v G1 H1 k1 c1 hv => ?_
  cases hv
  have F1 := F0.step i0 k1
  refine s_range (n := n) (G := G1) (R := G1) (ad_cons pd_c ad_nil) F1.k.i.s F1.k.i.s ⟨by omega, by omega⟩
    (fun i σ' Hi => ∃ (bs : List Bx) (Gi : Hp) (a b c d e : Option V), σ' = [some (.ref p), some v1, some v2, some (.int m), some (.ref q), a, b, c, d, e] ∧ Same G Gi ∧ FilP p q G H Gi Hi (bs.map tB4) ∧ bs.length = i ∧ ∀ b ∈ bs, bxOk b ∧ OnB xs ys b) ?_ ?_ ?_
  · intro H2 s2
    exact ⟨[], G1, none, none, none, none, none, rfl, k1.g, F1.step i0 (.grow F1.k.i (.rest F1.k.i.s s2)), rfl, by simp⟩
  · rintro i σ' Hi hi ⟨bs, Gi, a, b, c, d, e, rfl, sG, F, hl, hb⟩
    show tSeq _ _ _ [some (.ref p), some v1, some v2, some (.int m), some (.ref q), some (.int (i : Int)), b, c, d, e] Hi
    have lx : ∀ {σ : St} {G2 R : Hp}, σ[1]? = some (some v1) → Same G G2 → PD (tOp rSubI (tCB (rLenX K) (tCons (tVar 1) tNil)) (tC (.int 1))) σ G2 R (tI ((xs.length : Int) - 1)) := fun h s => PD.is (pd_sub (pd_lenL (φs := xs.map tI) (pd_var h ((tL (xs.map tI)).m _ _ _ s h1))) pd_c) (by rw [List.length_map])
    have ly : ∀ {σ : St} {G2 R : Hp}, σ[2]? = some (some v2) → Same G G2 → PD (tOp rSubI (tCB (rLenX K) (tCons (tVar 2) tNil)) (tC (.int 1))) σ G2 R (tI ((ys.length : Int) - 1)) := fun h s => PD.is (pd_sub (pd_lenL (φs := ys.map tI) (pd_var h ((tL (ys.map tI)).m _ _ _ s h2))) pd_c) (by rw [List.length_map])
    have a1 := ax.l
    have a2 := ax.m
    have b1 := ay.l
    have b2 := ay.m
    have big : (50 : Int) < 2 ^ 200 := by decide +kernel
    have d1 : KD p (tCall sp_l_take [] E0 (tCons (tVar 0) (tCons (tOp rSubI (tCB (rLenX K) (tCons (tVar 1) tNil)) (tC (.int 1))) tNil))) [some (.ref p), some v1, some v2, some (.int m), some (.ref q), some (.int (i : Int)), b, c, d, e] Gi (fun r : Int => 0 ≤ r ∧ r < (xs.length : Int) - 1) tI := kd_take rfl (lx rfl sG) (by omega) (by omega)
    have d2 : KD p (tCall sp_l_take [] E0 (tCons (tVar 0) (tCons (tOp rSubI (tCB (rLenX K) (tCons (tVar 2) tNil)) (tC (.int 1))) tNil))) [some (.ref p), some v1, some v2, some (.int m), some (.ref q), some (.int (i : Int)), b, c, d, e] Gi (fun r : Int => 0 ≤ r ∧ r < (ys.length : Int) - 1) tI := kd_take rfl (ly rfl sG) (by omega) (by omega)
    refine kq_par (φ1 := fun t : Int × Int × Unit => tI t.1) (φ2 := fun t : Int × Int × Unit => tI t.2.1) (ka_cons d1 (ka_cons d2 ka_nil)) F.k.i fun t u w G2 H2 k2 c2 hu hw => ?_
    obtain ⟨at_, by_, _⟩ := t
    obtain ⟨⟨at0, at1⟩, ⟨by0, by1⟩, _⟩ := c2
    cases hu
    cases hw
    show tSeq _ _ _ [some (.ref p), some v1, some v2, some (.int m), some (.ref q), some (.int (i : Int)), some (.int at_), some (.int by_), d, e] H2
    have F2 := F.step i0 k2
    have s2 := sG.trans k2.g
    dsimp only at at0 at1 by0 by1
    have e1 : KD p (tOp (rAddX K) (tOp (rAddX K) (tVar 6) (tC (.int 1))) (tCall sp_l_take [] E0 (tCons (tVar 0) (tCons (tOp rSubI (tOp rSubI (tCB (rLenX K) (tCons (tVar 1) tNil)) (tC (.int 1))) (tVar 6)) tNil)))) [some (.ref p), some v1, some v2, some (.int m), some (.ref q), some (.int (i : Int)), some (.int at_), some (.int by_), d, e] G2 (fun r : Int => at_ < r ∧ r < (xs.length : Int)) tI :=
      (kd_op (χ := fun _ r => tI (at_ + 1 + r)) (kd_pd (pd_add (i := at_) (j := 1) (pd_var rfl rfl) pd_c)) (kd_take (n := (xs.length : Int) - 1 - at_) rfl (pd_sub (lx rfl s2) (pd_var rfl rfl)) (by omega) (by omega)) fun _ r x y G1 _ _ _ hx hy => pd_add (pd_cv hx) (pd_cv hy)).map fun t h => ⟨at_ + 1 + t.2, by have := h.2; omega, rfl⟩
    have e2 : KD p (tOp (rAddX K) (tOp (rAddX K) (tVar 7) (tC (.int 1))) (tCall sp_l_take [] E0 (tCons (tVar 0) (tCons (tOp rSubI (tOp rSubI (tCB (rLenX K) (tCons (tVar 2) tNil)) (tC (.int 1))) (tVar 7)) tNil)))) [some (.ref p), some v1, some v2, some (.int m), some (.ref q), some (.int (i : Int)), some (.int at_), some (.int by_), d, e] G2 (fun r : Int => by_ < r ∧ r < (ys.length : Int)) tI :=
      (kd_op (χ := fun _ r => tI (by_ + 1 + r)) (kd_pd (pd_add (i := by_) (j := 1) (pd_var rfl rfl) pd_c)) (kd_take (n := (ys.length : Int) - 1 - by_) rfl (pd_sub (ly rfl s2) (pd_var rfl rfl)) (by omega) (by omega)) fun _ r x y G1 _ _ _ hx hy => pd_add (pd_cv hx) (pd_cv hy)).map fun t h => ⟨by_ + 1 + t.2, by have := h.2; omega, rfl⟩
    refine kq_par (φ1 := fun t : Int × Int × Unit => tI t.1) (φ2 := fun t : Int × Int × Unit => tI t.2.1) (ka_cons e1 (ka_cons e2 ka_nil)) F2.k.i fun t u w G3 H3 k3 c3 hu hw => ?_
    obtain ⟨fa, hi_, _⟩ := t
    obtain ⟨⟨fa0, fa1⟩, ⟨hi0, hi1⟩, _⟩ := c3
    cases hu
    cases hw
    dsimp only at fa0 fa1 hi0 hi1
    show tDrop _ _ [some (.ref p), some v1, some v2, some (.int m), some (.ref q), some (.int (i : Int)), some (.int at_), some (.int by_), some (.int fa), some (.int hi_)] H3
    have F3 := F2.step i0 k3
    have s3 := s2.trans k3.g
    obtain ⟨x1, ex1, gx1⟩ := atI_nat (xs := xs) at0 (by omega)
    obtain ⟨x2, ex2, gx2⟩ := atI_nat (xs := xs) (i := fa) (by omega) fa1
    obtain ⟨y1, ey1, gy1⟩ := atI_nat (xs := ys) by0 (by omega)
    obtain ⟨y2, ey2, gy2⟩ := atI_nat (xs := ys) (i := hi_) (by omega) hi1
    have wx : ∀ {R : Hp}, PD (tVar 1) [some (.ref p), some v1, some v2, some (.int m), some (.ref q), some (.int (i : Int)), some (.int at_), some (.int by_), some (.int fa), some (.int hi_)] G3 R (tL (xs.map tI)) := pd_var rfl ((tL (xs.map tI)).m _ _ _ s3 h1)
    have wy : ∀ {R : Hp}, PD (tVar 2) [some (.ref p), some v1, some v2, some (.int m), some (.ref q), some (.int (i : Int)), some (.int at_), some (.int by_), some (.int fa), some (.int hi_)] G3 R (tL (ys.map tI)) := pd_var rfl ((tL (ys.map tI)).m _ _ _ s3 h2)
    refine fp_app (χ := tB4 (x1, y1, x2, y2)) i0 F3 rfl (by rw [List.length_map]; omega) (pd_b4 (pd_ixLX wx (pd_var rfl rfl) (at_map ex1)) (pd_ixLX wy (pd_var rfl rfl) (at_map ey1)) (pd_ixLX wx (pd_var rfl rfl) (at_map ex2)) (pd_ixLX wy (pd_var rfl rfl) (at_map ey2))) fun G4 H4 s4 F4 => ?_
    refine ⟨bs ++ [(x1, y1, x2, y2)], G4, _, _, _, _, _, rfl, s3.trans s4, ?_, by rw [List.length_append, hl]; rfl, fun z hz => ?_⟩
    · rw [List.map_append]
      exact F4
    · rcases List.mem_append.mp hz with h | h
      · exact hb z h
      · rw [List.mem_singleton.mp h]
        exact ⟨⟨rise_get ax.s gx1 gx2 (by omega), rise_get ay.s gy1 gy2 (by omega)⟩, List.mem_of_getElem? gx1, List.mem_of_getElem? gx2, List.mem_of_getElem? gy1, List.mem_of_getElem? gy2⟩
  · rintro σ' Hi ⟨bs, Gi, a, b, c, d, e, rfl, sG, F, hl, hb⟩
    exact fp_ret F rfl fun v G4 H4 k4 hv => k bs v G4 H4 k4 (hC bs ⟨by omega, hb⟩) hv
theorem len_l_boxes : ∀ vs H Q E, sp_l_boxes vs H Q E → vs.length = (["_law_pool_here", "_law_xs", "_law_ys", "_law_most"] : List Str).length := lenK (by rintro φs C φ ⟨_, _, _, _, _, _, rfl, _⟩; rfl)
theorem any_filter {α : Type} {f : α → Bool} : ∀ (l : List α), (!(l.filter f).isEmpty) = l.any f
  | [] => rfl
  | a :: l => by
    rw [List.filter_cons, List.any_cons]
    cases f a with
    | true => rfl
    | false =>
      rw [Bool.false_or, ← any_filter l]
      rfl
theorem tB4_map_dt (bs : List Bx) : bs.map tB4 = (bs.map dB).map dt := by
  rw [List.map_map]
  exact List.map_congr_left fun p _ => (dt_B p).symm
theorem shaped_B (bs : List Bx) : SeqAt.shaped (.list (bs.map dB)) = true := (Lay.list (n := 3) fun d hd => by
  obtain ⟨p, _, rfl⟩ := List.mem_map.mp hd
  exact lay_B p).shaped (by decide)
theorem q_unp2 {σ : St} {G H : Hp} {D : Ends} {tz : TS} {j a b : Nat} {φ ψ : Ty} {x : V} (hj : σ[j]? = some (some x)) (h : (tT [φ, ψ]).p G x) (s : Same G H) (k : ∀ v w, φ.p G v → ψ.p G w → tz D ((σ.set a (some v)).set b (some w)) H) : tSeq (tAsg (tVar j) (gTup K 2 (gCons (gName a) (gCons (gName b) gNil)))) tz D σ H := by
  obtain ⟨v, w, p1, p2, gd⟩ := gd_2 (K := K) (i := a) (j := b) (σ := σ) h
  exact ⟨x, hj, gd H s _ (k v w p1 p2)⟩
theorem pure_l_has : ∀ vs H (Q : VK) (E : XK), sp_l_has vs H Q E → t_l_has K { nx := fun _ H' => Q .non H', rt := Q } (L2.start ["_law_boxes_here", "_law_square", "_law_x", "_law_y", "_law_box"] vs) H := by
  refine pureT ?_
  rintro G φs φ vs H s1 hv ⟨bs, p, hz, rfl, rfl⟩ D k
  obtain ⟨v0, v1, rfl, h0, h1⟩ := all2 hv
  refine q_unp2 (σ := [some v0, some v1, none, none, none]) (φ := tI p.1) (ψ := tI p.2) rfl h1 s1 fun a b p1 p2 => ?_
  cases p1
  cases p2
  refine s_ret (σ := [some v0, some v1, some (.int p.1), some (.int p.2), none]) (G := G) (R := G) (φ := tBo (hasB bs p)) ?_ s1 s1 k
  have lc : PD (tLc (iSeq K (tVar 0)) (gName 4) (tAnd (tTest (tChain rLeI rLtI (tOp (rIx K) (tVar 4) (tC (.int 0))) (tVar 2) (tOp (rIx K) (tVar 4) (tC (.int 2))))) (tTest (tChain rLeI rLtI (tOp (rIx K) (tVar 4) (tC (.int 1))) (tVar 3) (tOp (rIx K) (tVar 4) (tC (.int 3)))))) (tVar 4) [4]) [some v0, some v1, some (.int p.1), some (.int p.2), none] G G (tL ((bs.filter fun b => inB b p.1 p.2).map tB4)) := by
    refine pd_lc (xs := bs) (φ := tB4) (PD.sqL (pd_var rfl h0)) (by omega) ?_
    intro b hb x Gi Ri s1 s2 s3 hx
    have hx' := (tB4 b).m _ _ _ s3 hx
    refine ⟨[some v0, some v1, some (.int p.1), some (.int p.2), some x], gd_name, rfl, ?_, fun _ => pd_var rfl hx⟩
    exact td_and (td_test (pd_chain (b4_0 rfl hx') (pd_var rfl rfl) (b4_2 rfl hx') (fun H Q q => ⟨_, _, rfl, rfl, q⟩) (fun H Q q => ⟨_, _, rfl, rfl, q⟩))) fun _ => td_test (pd_chain (b4_1 rfl hx') (pd_var rfl rfl) (b4_3 rfl hx') (fun H Q q => ⟨_, _, rfl, rfl, q⟩) (fun H Q q => ⟨_, _, rfl, rfl, q⟩))
  rw [tB4_map_dt] at lc
  refine PD.is (pd_neNil lc (shaped_B _)) ?_
  rw [isEmpty_map, any_filter]
  rfl
theorem len_l_has : ∀ vs H Q E, sp_l_has vs H Q E → vs.length = (["_law_boxes_here", "_law_square"] : List Str).length := lenT (by rintro φs φ ⟨_, _, _, rfl, _⟩; rfl)
theorem prob_len (xs : List Int) : (prob xs).length ≤ 2 * xs.length + 1 := by
  unfold prob
  simp
  omega
theorem pd_prob {j l : Nat} {σ : St} {G R : Hp} {v : V} {xs : List Int} (hj : σ[j]? = some (some v)) (hl : l < σ.length) (hjl : j ≠ l) (hw : wipe σ [l] = σ) (h : (tL (xs.map tI)).p G v) (hn : xs ≠ []) (hz : xs.length ≤ 100) : PD (tOp (rAddX K) (tOp (rAddX K) (tLst (tCons (tOp rSubI (tOp (rIx K) (tVar j) (tC (.int 0))) (tC (.int 1))) tNil)) (tVar j)) (tLc (iSeq K (tSl (rSlX K) (tVar j) (tPart (tC (.int 1))) tNoPart)) (gName l) tYes (tOp rSubI (tVar l) (tC (.int 1))) [l])) σ G R (tL ((prob xs).map tI)) := by
  have e : (prob xs).map tI = (([xs.headD 0 - 1].map tI) ++ xs.map tI) ++ (xs.tail.map (· - 1)).map tI := by
    unfold prob
    rw [List.map_append, List.map_append]
  rw [e]
  refine pd_catL (pd_catL (pd_lst (φs := [tI (xs.headD 0 - 1)]) (ad_cons (pd_sub (pd_ixLX (φ := tI (xs.headD 0)) (pd_var hj h) pd_c (at_head hn)) pd_c) ad_nil) (by simp)) (pd_var hj h) (by simp; omega)) ?_ (by simp; omega)
  rw [List.map_map]
  have sl : ∀ {R : Hp}, PD (tSl (rSlX K) (tVar j) (tPart (tC (.int 1))) tNoPart) σ G R (tL (xs.tail.map tI)) := by
    intro R
    have := pd_slL (K := K) (φs := xs.map tI) (te := tVar j) (σ := σ) (G := G) (R := R) (pd_var hj h) (od_some (i := 1) pd_c) od_none
    rw [cutT_map, cut1] at this
    exact this
  refine pd_lcM (xs := xs.tail) (φ := tI) (PD.sqL sl) (by simp; omega) ?_
  intro a ha x Gi Ri s1 s2 s3 hx
  cases hx
  refine ⟨σ.set l (some (.int a)), ?_, ?_, pd_sub (pd_var (by rw [List.getElem?_set_self hl]) rfl) pd_c⟩
  · rw [hw]
    exact gd_name
  · rw [hw]
    have : ∀ (σ : St) (l : Nat) (v : Option V), l < σ.length → wipe (σ.set l v) [l] = wipe σ [l] := by
      intro σ l v _
      simp [wipe]
    rw [this σ l _ hl, hw]
theorem pure_l_probes : ∀ vs H (Q : VK) (E : XK), sp_l_probes vs H Q E → t_l_probes K { nx := fun _ H' => Q .non H', rt := Q } (L2.start ["_law_xs", "_law_ys", "_law_found", "_law_x", "_law_line", "_law_y"] vs) H := by
  refine pureT ?_
  rintro G φs φ vs H s1 hv ⟨xs, ys, nx, ny, lx, ly, rfl, rfl⟩ D k
  obtain ⟨v0, v1, rfl, h0, h1⟩ := all2 hv
  refine q_asg (G := G) (R := G) (φ := tL (([] : List Pr).map tP)) (σ := [some v0, some v1, none, none, none, none]) (pd_lst (φs := []) ad_nil (by simp)) s1 s1 fun v2 G1 H1 g1 h2 => ?_
  refine q_for (xs := prob xs) (φ := tI) (σ := [some v0, some v1, some v2, none, none, none]) (G := G1) (R := G1) (PD.sqL (pd_prob rfl (by simp) (by decide) rfl ((tL (xs.map tI)).m _ _ _ g1.g h0) nx lx)) g1.s g1.s
    (fun i σ' Gi Hi => ∃ v x, σ' = [some v0, some v1, some v, x, none, none] ∧ Grow G H Gi Hi ∧ (tL ((((prob xs).take i).flatMap fun x => (prob ys).map fun y => (x, y)).map tP)).p Gi v) (fun G2 H2 g2 => ⟨v2, none, rfl, g1.trans g2, (tL _).m _ _ _ g2.g h2⟩) ?_ ?_
  · rintro G2 H2 g2 i a x σ' Gi Hi hi sg sh hx ⟨v, x', rfl, g, hv⟩
    cases hx
    show tAsg _ _ _ [some v0, some v1, some v, some (.int a), none, none] Hi
    have lp := prob_len xs
    have lq := prob_len ys
    have hlen : ((((prob xs).take i).flatMap fun x => (prob ys).map fun y => (x, y))).length ≤ 50000 := by
      have : ∀ l : List Int, (l.flatMap fun x => (prob ys).map fun y => (x, y)).length = l.length * (prob ys).length := fun l => by
        induction l with
        | nil => simp
        | cons z l ih => rw [List.flatMap_cons, List.length_append, ih, List.length_map, List.length_cons, Nat.add_mul]; omega
      rw [this]
      have h3 : ((prob xs).take i).length ≤ 201 := by
        simp only [List.length_take]
        omega
      have h4 : (prob ys).length ≤ 201 := by omega
      exact Nat.le_trans (Nat.mul_le_mul h3 h4) (by decide)
    refine s_asg (G := Gi) (R := Hi) (φ := tL ((((prob xs).take i).flatMap fun x => (prob ys).map fun y => (x, y)).map tP ++ ((prob ys).map fun y => (a, y)).map tP)) (pd_catL (pd_var rfl hv) ?_ ?_) (same_refl _) sh fun u G3 H3 g3 hu => ?_
    · rw [List.map_map]
      refine pd_lcM (xs := prob ys) (φ := tI) (PD.sqL (pd_prob rfl (by simp) (by decide) rfl ((tL (ys.map tI)).m _ _ _ g.g h1) ny ly)) (by omega) ?_
      intro b hb x Gj Rj s4 s5 s6 hx
      cases hx
      exact ⟨[some v0, some v1, some v, some (.int a), none, some (.int b)], gd_name, rfl, pd_pr (pd_var rfl rfl) (pd_var rfl rfl)⟩
    · simp only [List.length_map]
      omega
    · refine ⟨G3, sg.trans g3.g, g3.s, u, some (.int a), rfl, g.trans g3, ?_⟩
      rw [take_succ_of hi, List.flatMap_append, List.map_append]
      simp only [List.flatMap_cons, List.flatMap_nil, List.append_nil]
      exact hu
  · rintro G2 H2 g2 σ' Gi Hi sg sh ⟨v, x, rfl, g, hv⟩
    rw [List.take_length] at hv
    exact ⟨v, rfl, k v Gi Hi g hv⟩
theorem len_l_probes : ∀ vs H Q E, sp_l_probes vs H Q E → vs.length = (["_law_xs", "_law_ys"] : List Str).length := lenT (by rintro φs φ ⟨_, _, _, _, _, _, rfl, _⟩; rfl)
/-! regions of boxes -/
theorem made_on {X Y : List Int} : ∀ (bs : List Bx) (r : Reg), RegOn X Y r → (∀ b ∈ bs, bxOk b ∧ OnB X Y b) → RegOn X Y (bs.foldl (fun r b => unite r (slabsOf [b], false)) r)
  | [], r, hr, _ => hr
  | b :: bs, r, hr, h => made_on bs _ (hr.unite (.of fun c hc => by rw [List.mem_singleton.mp hc]; exact h b List.mem_cons_self)) fun c hc => h c (List.mem_cons_of_mem _ hc)
theorem made_has : ∀ (bs : List Bx) (r : Reg), (∀ b ∈ bs, bxOk b) → ∀ p, rhas (bs.foldl (fun r b => unite r (slabsOf [b], false)) r) p = (rhas r p || hasB bs p)
  | [], r, _, p => by simp [hasB]
  | b :: bs, r, h, p => by
    rw [List.foldl_cons, made_has bs _ (fun c hc => h c (List.mem_cons_of_mem _ hc)) p, rhas_unite, rhas_of (fun c hc => by rw [List.mem_singleton.mp hc]; exact h b List.mem_cons_self)]
    simp only [hasB, List.any_cons, List.any_nil, Bool.or_false, Bool.or_assoc]
theorem madeB_on {X Y : List Int} {bs : List Bx} (h : ∀ b ∈ bs, bxOk b ∧ OnB X Y b) : RegOn X Y (madeB bs) := made_on bs _ .nil h
theorem rhas_madeB {bs : List Bx} (h : ∀ b ∈ bs, bxOk b) (p : Pr) : rhas (madeB bs) p = hasB bs p := by
  unfold madeB
  rw [made_has bs _ h p, rhas_nil, Bool.false_or]
theorem rmade_on {X Y : List Int} {bs : List Bx} {o : Bool} (h : ∀ b ∈ bs, bxOk b ∧ OnB X Y b) : RegOn X Y (made bs o) := by
  unfold made
  split
  · exact (madeB_on h).out
  · exact madeB_on h
theorem rhas_made {bs : List Bx} {o : Bool} (h : ∀ b ∈ bs, bxOk b) (p : Pr) : rhas (made bs o) p = (hasB bs p != o) := by
  unfold made
  cases o with
  | true =>
    rw [if_pos rfl, rhas_out, rhas_madeB h]
    cases hasB bs p <;> rfl
  | false =>
    rw [if_neg (by decide), rhas_madeB h]
    cases hasB bs p <;> rfl
theorem pure_l_made : ∀ vs H (Q : VK) (E : XK), sp_l_made K vs H Q E → t_l_made K { nx := fun _ H' => Q .non H', rt := Q } (L2.start ["_law_boxes_here", "_law_is_out", "_law_found", "_law_box"] vs) H := by
  refine pureT ?_
  rintro G φs φ vs H s1 hv ⟨bs, o, X, Y, hX, hY, hb, rfl, rfl⟩ D k
  obtain ⟨v0, v1, rfl, h0, h1⟩ := all2 hv
  cases h1
  refine q_asg (G := G) (R := G) (φ := tReg K ([], false)) (σ := [some v0, some (.bl o), none, none]) (pd_stat0 pd_c ⟨rfl, rfl⟩) s1 s1 fun v2 G1 H1 g1 h2 => ?_
  refine q_for (xs := bs) (φ := tB4) (σ := [some v0, some (.bl o), some v2, none]) (G := G1) (R := G1) (PD.sqL (pd_var rfl ((tL (bs.map tB4)).m _ _ _ g1.g h0))) g1.s g1.s
    (fun i σ' Gi Hi => ∃ v x, σ' = [some v0, some (.bl o), some v, x] ∧ Grow G H Gi Hi ∧ (tReg K (madeB (bs.take i))).p Gi v) (fun G2 H2 g2 => ⟨v2, none, rfl, g1.trans g2, (tReg K _).m _ _ _ g2.g h2⟩) ?_ ?_
  · rintro G2 H2 g2 i a x σ' Gi Hi hi sg sh hx ⟨v, x', rfl, g, hv⟩
    show tAsg _ _ _ [some v0, some (.bl o), some v, some x] Hi
    have ha := hb a (List.mem_of_getElem? hi)
    have r1 : RegOn X Y (madeB (bs.take i)) := madeB_on fun b hb' => hb b (List.mem_of_mem_take hb')
    have r2 : RegOn X Y (slabsOf [a], false) := .of fun c hc => by rw [List.mem_singleton.mp hc]; exact ha
    refine s_asg (G := Gi) (R := Hi) (φ := tReg K (unite (madeB (bs.take i)) (slabsOf [a], false))) (pd_own2 (pd_var rfl hv) (pd_of (bs := [a]) pd_c (ad_cons (pd_var rfl hx) ad_nil) (by simp) fun c hc => by rw [List.mem_singleton.mp hc]; exact ha.1) ⟨_, _, ⟨r1.small hX hY, r2.small hX hY⟩, rfl, rfl⟩) (same_refl _) sh fun u G3 H3 g3 hu => ?_
    refine ⟨G3, sg.trans g3.g, g3.s, u, some x, rfl, g.trans g3, ?_⟩
    have e : madeB (bs.take (i + 1)) = unite (madeB (bs.take i)) (slabsOf [a], false) := by
      unfold madeB
      rw [foldl_take hi]
    rw [e]
    exact hu
  · rintro G2 H2 g2 σ' Gi Hi sg sh ⟨v, x, rfl, g, hv⟩
    rw [List.take_length] at hv
    refine s_ret (G := Gi) (R := Gi) (φ := tReg K (made bs o)) (pd_if (b := o) (td_B (pd_var rfl rfl)) (fun e => ?_) (fun e => ?_)) sh sh fun u G' H' g' hu => k u G' H' (g.trans g') hu
    · rw [e]
      exact pd_inv (pd_var rfl hv) ⟨madeB bs, trivial, rfl, rfl⟩
    · rw [e]
      exact pd_var rfl hv
theorem len_l_made : ∀ vs H Q E, sp_l_made K vs H Q E → vs.length = (["_law_boxes_here", "_law_is_out"] : List Str).length := lenT (by rintro φs φ ⟨_, _, _, _, _, _, _, rfl, _⟩; rfl)
end
end BR
/-! Lists reversed; cells told by probes. -/
namespace BR
open PySem PySem.Spec PyProof.Rows L2
/-! ### l[::-1] -/
def rIsN : R2 := fun x y H Q => y = .non ∧ Q (.bl (decide (x = .non))) H
def rNotN : R2 := fun x y H Q => y = .non ∧ Q (.bl (!decide (x = .non))) H
section
variable {K : Fg} {σ : St} {G R : Hp} {te : TE} {o : Option Pr}
theorem tOP_non {G : Hp} {v : V} (h : (tOP o).p G v) : decide (v = V.non) = o.isNone := by
  cases o with
  | none =>
    cases h
    rfl
  | some p =>
    obtain ⟨a, vs, rfl, _⟩ := h
    rfl
theorem pd_isN (h : PD te σ G R (tOP o)) : PD (tOp rIsN te (tC .non)) σ G R (tBo o.isNone) :=
  pd_op h (pd_c (v := .non)) fun x y G1 H _ s1 hx hy Q q => ⟨hy, q _ G1 H (.refl s1) (by rw [tOP_non hx]; rfl)⟩
theorem pd_notN (h : PD te σ G R (tOP o)) : PD (tOp rNotN te (tC .non)) σ G R (tBo (!o.isNone)) :=
  pd_op h (pd_c (v := .non)) fun x y G1 H _ s1 hx hy Q q => ⟨hy, q _ G1 H (.refl s1) (by rw [tOP_non hx]; rfl)⟩
end
/-! ### probes -/
theorem rep (xs : List Int) (hn : xs ≠ []) (hs : xs.Pairwise (· < ·)) (x : Int) : ∃ x' ∈ prob xs, ∀ k ∈ xs, (k ≤ x ↔ k ≤ x') := by
  by_cases h : ∃ k ∈ xs, k ≤ x
  · have key : ∀ l : List Int, l.Pairwise (· < ·) → (∃ k ∈ l, k ≤ x) → ∃ m ∈ l, m ≤ x ∧ ∀ k ∈ l, k ≤ x → k ≤ m := by
      intro l
      induction l with
      | nil => rintro _ ⟨k, hk, _⟩; cases hk
      | cons a l ih =>
        intro hl hk
        obtain ⟨h1, h2⟩ := List.pairwise_cons.mp hl
        by_cases hk2 : ∃ k ∈ l, k ≤ x
        · obtain ⟨m, hm, hmx, hmax⟩ := ih h2 hk2
          refine ⟨m, List.mem_cons_of_mem _ hm, hmx, fun k hk hkx => ?_⟩
          rcases List.mem_cons.mp hk with rfl | hk
          · exact Int.le_of_lt (h1 m hm)
          · exact hmax k hk hkx
        · obtain ⟨k, hk, hkx⟩ := hk
          have hka : k = a := by
            rcases List.mem_cons.mp hk with e | hk
            · exact e
            · exact absurd ⟨k, hk, hkx⟩ hk2
          subst hka
          refine ⟨k, List.mem_cons_self, hkx, fun j hj hjx => ?_⟩
          rcases List.mem_cons.mp hj with rfl | hj
          · exact Int.le_refl _
          · exact absurd ⟨j, hj, hjx⟩ hk2
    obtain ⟨m, hm, hmx, hmax⟩ := key xs hs h
    refine ⟨m, by unfold prob; simp [hm], fun k hk => ⟨hmax k hk, fun hle => Int.le_trans hle hmx⟩⟩
  · cases xs with
    | nil => exact absurd rfl hn
    | cons a l =>
      refine ⟨a - 1, by unfold prob; simp, fun k hk => ⟨fun hle => absurd ⟨k, hk, hle⟩ h, fun hle => ?_⟩⟩
      have : a ≤ k := by
        rcases List.mem_cons.mp hk with rfl | hk
        · exact Int.le_refl _
        · exact Int.le_of_lt ((List.pairwise_cons.mp hs).1 k hk)
      omega
theorem inB_rep {xs ys : List Int} {b : Bx} {x y x' y' : Int} (hb : OnB xs ys b) (hx : ∀ k ∈ xs, (k ≤ x ↔ k ≤ x')) (hy : ∀ k ∈ ys, (k ≤ y ↔ k ≤ y')) : inB b x y = inB b x' y' := by
  unfold inB
  obtain ⟨h1, h2, h3, h4⟩ := hb
  have e1 := hx _ h1
  have e2 := hx _ h2
  have e3 := hy _ h3
  have e4 := hy _ h4
  have f1 : decide (b.1 ≤ x) = decide (b.1 ≤ x') := by rw [decide_eq_decide]; exact e1
  have f2 : decide (x < b.2.2.1) = decide (x' < b.2.2.1) := by rw [decide_eq_decide]; omega
  have f3 : decide (b.2.1 ≤ y) = decide (b.2.1 ≤ y') := by rw [decide_eq_decide]; exact e3
  have f4 : decide (y < b.2.2.2) = decide (y' < b.2.2.2) := by rw [decide_eq_decide]; omega
  rw [f1, f2, f3, f4]
theorem hasB_rep {xs ys : List Int} {bs : List Bx} {x y x' y' : Int} (hb : ∀ b ∈ bs, OnB xs ys b) (hx : ∀ k ∈ xs, (k ≤ x ↔ k ≤ x')) (hy : ∀ k ∈ ys, (k ≤ y ↔ k ≤ y')) : hasB bs (x, y) = hasB bs (x', y') := by
  unfold hasB
  rw [Bool.eq_iff_iff, List.any_eq_true, List.any_eq_true]
  exact ⟨fun ⟨b, h, k⟩ => ⟨b, h, by rw [← inB_rep (hb b h) hx hy]; exact k⟩, fun ⟨b, h, k⟩ => ⟨b, h, by rw [inB_rep (hb b h) hx hy]; exact k⟩⟩
/-- every square has a probe in its cell -/
theorem probe_of {xs ys : List Int} (ax : AxOk xs) (ay : AxOk ys) (p : Pr) : ∃ q ∈ probes xs ys, ∀ bs : List Bx, (∀ b ∈ bs, OnB xs ys b) → hasB bs p = hasB bs q := by
  have n1 : xs ≠ [] := fun z => by have := ax.l; rw [z] at this; simp at this
  have n2 : ys ≠ [] := fun z => by have := ay.l; rw [z] at this; simp at this
  obtain ⟨x', hx', ex⟩ := rep xs n1 ax.s p.1
  obtain ⟨y', hy', ey⟩ := rep ys n2 ay.s p.2
  refine ⟨(x', y'), ?_, fun bs hb => hasB_rep (x := p.1) (y := p.2) hb ex ey⟩
  unfold probes
  rw [List.mem_flatMap]
  exact ⟨x', hx', List.mem_map.mpr ⟨y', hy', rfl⟩⟩
/-- two regions of boxes are equal exactly if the probes agree -/
theorem made_eq {xs ys : List Int} (ax : AxOk xs) (ay : AxOk ys) {b1 b2 : List Bx} {o1 o2 : Bool} (h1 : ∀ b ∈ b1, bxOk b ∧ OnB xs ys b) (h2 : ∀ b ∈ b2, bxOk b ∧ OnB xs ys b) :
    made b1 o1 = made b2 o2 ↔ ∀ q ∈ probes xs ys, (hasB b1 q != o1) = (hasB b2 q != o2) := by
  have k1 := fun p => rhas_made (o := o1) (fun b hb => (h1 b hb).1) p
  have k2 := fun p => rhas_made (o := o2) (fun b hb => (h2 b hb).1) p
  constructor
  · intro e q _
    rw [← k1, ← k2, e]
  · intro h
    refine reg_uniq (rmade_on h1).ok (rmade_on h2).ok fun p => ?_
    obtain ⟨q, hq, e⟩ := probe_of ax ay p
    rw [k1, k2, e b1 fun b hb => (h1 b hb).2, e b2 fun b hb => (h2 b hb).2]
    exact h q hq
end BR
/-! Law k06. -/
namespace BR
open PySem PySem.Spec PyProof.Rows L2
def sp_l_changed : Sp := spK (T := List Bx) fun φs C φ => ∃ (bs : List Bx) (xs ys : List Int), AxOk xs ∧ AxOk ys ∧ BoxesOk xs ys 5 bs ∧ φs = [tL (bs.map tB4), tL (xs.map tI), tL (ys.map tI)] ∧ (∀ bs, BoxesOk xs ys 12 bs → C bs) ∧ φ = fun bs => tL (bs.map tB4)
def sp_law (K : Fg) : Sp := fun vs H Q _ => ∃ (a : Addr) (ns : List Int), vs = [.ref a] ∧ SqL K H a (ns.map V.int) ∧ ns.length ≤ 63 ∧ ∀ H', Q (.bl true) H'
def t_l_changed (K : Fg) : TS :=
  (tSeq (tAsg (tCall sp_l_take [] E0 (tCons (tVar 0) (tCons (tC (.int 5)) tNil))) (gName 4))
  (tSeq (tIfS (tTest (tOp (rEqX K) (tVar 4) (tC (.int 0))))
  (tRet (tCall sp_l_boxes [] E0 (tCons (tVar 0) (tCons (tVar 2) (tCons (tVar 3) (tCons (tC (.int 5)) tNil))))))
  tNext)
  (tSeq (tIfS (tTest (tOp (rEqX K) (tVar 4) (tC (.int 1))))
  (tRet (tSl (rSlX K) (tVar 1) (tPart (tC (.int 1))) tNoPart))
  tNext)
  (tSeq (tIfS (tTest (tOp (rEqX K) (tVar 4) (tC (.int 2))))
  (tRet (tOp (rAddX K) (tRevL K (tVar 1)) (tSl (rSlX K) (tVar 1) tNoPart (tPart (tC (.int 2))))))
  tNext)
  (tRet (tOp (rAddX K) (tVar 1) (tCall sp_l_boxes [] E0 (tCons (tVar 0) (tCons (tVar 2) (tCons (tVar 3) (tCons (tC (.int 1)) tNil)))))))))))
def t_law (K : Fg) : TS :=
  (tSeq (tFor (iRng1 (tCons (tCB rMax2 (tCons (tC (.int 1)) (tCons (tCB rMin2 (tCons (tCB (rLenX K) (tCons (tVar 0) tNil)) (tCons (tC (.int 4)) tNil))) tNil))) tNil)) (gName 1)
  (tSeq (tAsg (tCall (sp_l_pool K) [] E0 (tCons (tVar 0) (tCons (tVar 1) tNil))) (gName 2))
  (tSeq (tPar 3 4 (tCons (tCall sp_l_lines [] E0 (tCons (tVar 2) (tCons (tOp (rAddX K) (tC (.int 2)) (tCall sp_l_take [] E0 (tCons (tVar 2) (tCons (tC (.int 6)) tNil)))) tNil))) (tCons (tCall sp_l_lines [] E0 (tCons (tVar 2) (tCons (tOp (rAddX K) (tC (.int 2)) (tCall sp_l_take [] E0 (tCons (tVar 2) (tCons (tC (.int 6)) tNil)))) tNil))) tNil)))
  (tSeq (tFor (iRng1 (tCons (tC (.int 4)) tNil)) (gName 5)
  (tSeq (tAsg (tCall sp_l_boxes [] E0 (tCons (tVar 2) (tCons (tVar 3) (tCons (tVar 4) (tCons (tC (.int 5)) tNil))))) (gName 6))
  (tSeq (tPar 7 8 (tCons (tCall sp_l_changed [] E0 (tCons (tVar 2) (tCons (tVar 6) (tCons (tVar 3) (tCons (tVar 4) tNil))))) (tCons (tLst (tCons (tOp (rEqX K) (tCall sp_l_take [] E0 (tCons (tVar 2) (tCons (tC (.int 8)) tNil))) (tC (.int 0))) (tCons (tOp (rEqX K) (tCall sp_l_take [] E0 (tCons (tVar 2) (tCons (tC (.int 8)) tNil))) (tC (.int 0))) tNil))) tNil)))
  (tSeq (tPar 9 10 (tCons (tCall (sp_l_made K) [] E0 (tCons (tVar 6) (tCons (tOp (rIx K) (tVar 8) (tC (.int 0))) tNil))) (tCons (tCall (sp_l_made K) [] E0 (tCons (tVar 7) (tCons (tOp (rIx K) (tVar 8) (tC (.int 1))) tNil))) tNil)))
  (tSeq (tAsg (tLst tNil) (gName 11))
  (tSeq (tFor (iSeq K (tCall sp_l_probes [] E0 (tCons (tVar 3) (tCons (tVar 4) tNil)))) (gName 12)
  (tIfS (tTest (tOp (rNeX K) (tOp (rNeX K) (tCall sp_l_has [] E0 (tCons (tVar 6) (tCons (tVar 12) tNil))) (tOp (rIx K) (tVar 8) (tC (.int 0)))) (tOp (rNeX K) (tCall sp_l_has [] E0 (tCons (tVar 7) (tCons (tVar 12) tNil))) (tOp (rIx K) (tVar 8) (tC (.int 1))))))
  (tDrop (tBM K "list" rAppend (tVar 11) (tCons (tVar 12) tNil)))
  tNext))
  (tSeq (tAsg (tCall (sp_separating K) [] E0 (tCons (tVar 9) (tCons (tVar 10) tNil))) (gName 13))
  (tSeq (tIfS (tOr (tTest (tOp (rNeX K) (tOp (rEqO K (RG K) (sp_eq K) E0) (tVar 9) (tVar 10)) (tOp (rEqX K) (tVar 11) (tLst tNil)))) (tOr (tTest (tOp (rNeX K) (tOp (rNeO K (RG K) (sp_eq K) E0) (tVar 9) (tVar 10)) (tOp (rNeX K) (tVar 11) (tLst tNil)))) (tTest (tOp (rNeX K) (tOp rIsN (tVar 13) (tC .non)) (tOp (rEqX K) (tVar 11) (tLst tNil))))))
  (tRet (tC (.bl false)))
  tNext)
  (tIfS (tTest (tOp rNotN (tVar 13) (tC .non)))
  (tSeq (tAsg (tLst (tCons (tOp (rNeX K) (tCall sp_l_has [] E0 (tCons (tVar 6) (tCons (tVar 13) tNil))) (tOp (rIx K) (tVar 8) (tC (.int 0)))) (tCons (tOp (rNeX K) (tCall sp_l_has [] E0 (tCons (tVar 7) (tCons (tVar 13) tNil))) (tOp (rIx K) (tVar 8) (tC (.int 1)))) tNil))) (gName 14))
  (tIfS (tOr (tTest (tOp (rEqX K) (tOp (rIx K) (tVar 14) (tC (.int 0))) (tOp (rIx K) (tVar 14) (tC (.int 1))))) (tTest (tOp (rNeX K) (tLst (tCons (tOp (rInO (RG K) (sp_contains K) E0) (tVar 13) (tVar 9)) (tCons (tOp (rInO (RG K) (sp_contains K) E0) (tVar 13) (tVar 10)) tNil))) (tVar 14))))
  (tRet (tC (.bl false)))
  tNext))
  tNext)))))))))
  (tIfS (tOr (tTest (tOp (rEqO K (RG K) (sp_eq K) E0) (tVar 9) (tVar 6))) (tOr (tTest (tOp (rEqO K (RG K) (sp_eq K) E0) (tVar 9) (tPropR (RG K) (sp_slabs K) E0 (tVar 9)))) (tTest (tOp (rEqO K (RG K) (sp_eq K) E0) (tVar 9) (tCB (rReprO (RG K) (sp_repr K) E0) (tCons (tVar 9) tNil))))))
  (tRet (tC (.bl false)))
  tNext)))))
  (tRet (tC (.bl true))))
section
variable {K : Fg}
theorem pd_revL {σ : St} {G R : Hp} {te : TE} {φs : List Ty} (h : PD te σ G R (tL φs)) : PD (tRevL K te) σ G R (tL φs.reverse) := fun H sr sg Q q =>
  h H sr sg _ fun v G1 H1 g1 ⟨a, vs, e, h1, h2⟩ => ⟨a, vs, e, SqL.of (g1.s _ _ h1), fun p hp =>
    have g2 : Grow G1 H1 (upd G1 p (.lst vs.reverse)) (upd H1 p (.lst vs.reverse)) := .new g1.s hp
    q (.ref p) _ _ (g1.trans g2) ⟨p, _, rfl, upd_same, h2.reverse.mono g2.g⟩⟩
theorem pure_l_changed : ∀ vs H (Q : VK) (E : XK), sp_l_changed vs H Q E → t_l_changed K { nx := fun _ H' => Q .non H', rt := Q } (L2.start ["_law_pool_here", "_law_boxes_here", "_law_xs", "_law_ys", "_law_sort"] vs) H := by
  refine pureK ?_
  rintro p G φs C φ ws H i0 hv ⟨bs, xs, ys, ax, ay, hb, rfl, hC, rfl⟩ D k
  obtain ⟨v1, v2, v3, rfl, h1, h2, h3⟩ := all3 hv
  refine kq_asg (p := p) (G := G) (σ := [some (.ref p), some v1, some v2, some v3, none]) (kd_take rfl pd_c (by decide) (by decide)) i0 fun so v G1 H1 k1 c1 hso => ?_
  cases hso
  have g1 := (tL (bs.map tB4)).m _ _ _ k1.g h1
  have g2 := (tL (xs.map tI)).m _ _ _ k1.g h2
  have g3 := (tL (ys.map tI)).m _ _ _ k1.g h3
  have bx : ∀ (m : Nat), m ≤ 100 → KD p (tCall sp_l_boxes [] E0 (tCons (tVar 0) (tCons (tVar 2) (tCons (tVar 3) (tCons (tC (.int (m : Int))) tNil))))) [some (.ref p), some v1, some v2, some v3, some (.int so)] G1 (BoxesOk xs ys m) fun bs => tL (bs.map tB4) := fun m hm =>
    kd_call rfl (ka_ad (ad_cons (pd_var rfl g2) (ad_cons (pd_var rfl g3) (ad_cons pd_c ad_nil)))) fun _ _ => ⟨xs, ys, m, ax, ay, hm, rfl, fun _ h => h, rfl⟩
  refine kq_when (p := p) (G := G1) (b := decide (so = 0)) (σ := [some (.ref p), some v1, some v2, some v3, some (.int so)]) (td_test (pd_eqI (pd_var rfl rfl) pd_c)) k1.i (fun _ H2 k2 => ?_) (fun z1 H2 k2 => ?_)
  · refine ks_ret (bx 5 (by decide)) k2.i fun cs v G3 H3 k3 c3 hv => k cs v G3 H3 ((k1.trans i0 k2).trans i0 k3) (hC cs ⟨Nat.le_trans c3.l (by decide), c3.b⟩) hv
  have k12 := k1.trans i0 k2
  refine kq_when (p := p) (G := G1) (b := decide (so = 1)) (σ := [some (.ref p), some v1, some v2, some v3, some (.int so)]) (td_test (pd_eqI (pd_var rfl rfl) pd_c)) k2.i (fun _ H3 k3 => ?_) (fun z2 H3 k3 => ?_)
  · have sl := pd_slL (K := K) (φs := bs.map tB4) (te := tVar 1) (σ := [some (.ref p), some v1, some v2, some v3, some (.int so)]) (G := G1) (R := G1) (pd_var rfl g1) (od_some (i := 1) pd_c) od_none
    rw [cutT_map, cut1] at sl
    refine ks_ret (kd_pd sl) k3.i fun _ v G4 H4 k4 _ hv => k bs.tail v G4 H4 ((k12.trans i0 k3).trans i0 k4) (hC _ ⟨?_, fun b h => hb.b b (List.mem_of_mem_tail h)⟩) hv
    have := hb.l
    simp
    omega
  have k13 := k12.trans i0 k3
  refine kq_when (p := p) (G := G1) (b := decide (so = 2)) (σ := [some (.ref p), some v1, some v2, some v3, some (.int so)]) (td_test (pd_eqI (pd_var rfl rfl) pd_c)) k3.i (fun _ H4 k4 => ?_) (fun z3 H4 k4 => ?_)
  · have sl := pd_slL (K := K) (φs := bs.map tB4) (te := tVar 1) (σ := [some (.ref p), some v1, some v2, some v3, some (.int so)]) (G := G1) (R := G1) (pd_var rfl g1) od_none (od_some (i := 2) pd_c)
    rw [cutT_map] at sl
    have hl := cutT_len bs none (some 2)
    have rv := pd_revL (K := K) (φs := bs.map tB4) (te := tVar 1) (σ := [some (.ref p), some v1, some v2, some v3, some (.int so)]) (G := G1) (R := G1) (pd_var rfl g1)
    rw [← List.map_reverse] at rv
    have cat := pd_catL (K := K) rv sl (by simp only [List.length_map, List.length_reverse]; have := hb.l; omega)
    rw [← List.map_append] at cat
    refine ks_ret (kd_pd cat) k4.i fun _ v G5 H5 k5 _ hv => k (bs.reverse ++ cutT bs none (some 2)) v G5 H5 ((k13.trans i0 k4).trans i0 k5) (hC _ ⟨?_, fun b h => ?_⟩) hv
    · rw [List.length_append, List.length_reverse]
      have := hb.l
      omega
    · rcases List.mem_append.mp h with h | h
      · exact hb.b b (List.mem_reverse.mp h)
      · exact hb.b b (cutT_mem h)
  have k14 := k13.trans i0 k4
  refine ks_ret ((kd_op (χ := fun _ cs => tL ((bs ++ cs).map tB4)) (kd_pd (pd_var rfl g1)) (bx 1 (by decide)) (fun _ cs x y G5 _ c _ hx hy => ?_)).map (C' := fun cs : List Bx => BoxesOk xs ys 12 cs) (φ' := fun cs => tL (cs.map tB4)) fun t h => ⟨bs ++ t.2, ⟨?_, fun b hb' => ?_⟩, rfl⟩) k4.i fun cs v G5 H5 k5 c5 hv => k cs v G5 H5 (k14.trans i0 k5) (hC _ c5) hv
  · rw [List.map_append]
    exact pd_catL (pd_cv hx) (pd_cv hy) (by simp only [List.length_map]; have := hb.l; have := c.l; omega)
  · rw [List.length_append]
    have := hb.l
    have := h.2.l
    omega
  · rcases List.mem_append.mp hb' with z | z
    · exact hb.b b z
    · exact h.2.b b z
theorem len_l_changed : ∀ vs H Q E, sp_l_changed vs H Q E → vs.length = (["_law_pool_here", "_law_boxes_here", "_law_xs", "_law_ys"] : List Str).length := lenK (by rintro φs C φ ⟨_, _, _, _, _, _, rfl, _⟩; rfl)
end
section
variable {K : Fg}
theorem pd_eqNil {σ : St} {G R : Hp} {ta : TE} {ds : List PyData} (ha : PD ta σ G R (tL (ds.map dt))) (hd : SeqAt.shaped (.list ds) = true) : PD (tOp (rEqX K) ta (tLst tNil)) σ G R (tBo ds.isEmpty) := by
  have k := pd_eqD (K := K) (d := .list ds) (e := .list []) (ta := ta) (tb := tLst tNil) (σ := σ) (G := G) (R := R) (by rw [dt_list]; exact ha) (by rw [dt_list]; exact pd_lst ad_nil (by simp)) hd rfl
  have e : PyData.eqv (.list ds) (.list []) = ds.isEmpty := by
    cases ds with
    | nil => simp [PyData.eqv, PyData.eqvAll]
    | cons x xs => simp [PyData.eqv, PyData.eqvAll]
  rw [e] at k
  exact k
theorem pd_eqNilP {σ : St} {G R : Hp} {ta : TE} {ps : List Pr} (ha : PD ta σ G R (tL (ps.map tP))) : PD (tOp (rEqX K) ta (tLst tNil)) σ G R (tBo ps.isEmpty) := by
  rw [tP_map_dt] at ha
  have := pd_eqNil (K := K) ha (shaped_L ps)
  rw [isEmpty_map] at this
  exact this
theorem pd_neNilP {σ : St} {G R : Hp} {ta : TE} {ps : List Pr} (ha : PD ta σ G R (tL (ps.map tP))) : PD (tOp (rNeX K) ta (tLst tNil)) σ G R (tBo (!ps.isEmpty)) := by
  rw [tP_map_dt] at ha
  have := pd_neNil (K := K) ha (shaped_L ps)
  rw [isEmpty_map] at this
  exact this
theorem pd_neB {σ : St} {G R : Hp} {ta tb : TE} {a b : Bool} (ha : PD ta σ G R (tBo a)) (hb : PD tb σ G R (tBo b)) : PD (tOp (rNeX K) ta tb) σ G R (tBo (a != b)) :=
  PD.is (pd_nev ha hb rfl) (by cases a <;> cases b <;> rfl)
theorem pd_eqB {σ : St} {G R : Hp} {ta tb : TE} {a b : Bool} (ha : PD ta σ G R (tBo a)) (hb : PD tb σ G R (tBo b)) : PD (tOp (rEqX K) ta tb) σ G R (tBo (a == b)) :=
  PD.is (pd_eqv ha hb rfl) (by cases a <;> cases b <;> rfl)
/-- the text of a form that is not too great -/
theorem shows_form {X Y : List Int} {f : List Sl} (h : FmOk f) (o : On X Y f) (hX : X.length ≤ 20) (hY : Y.length ≤ 20) (bX : ∀ k ∈ X, k.natAbs < 2 ^ 1900) (bY : ∀ k ∈ Y, k.natAbs < 2 ^ 1900) : Shows (dSlabs f) 16000000 := by
  have hp : ∀ s ∈ f, ∀ p ∈ s.2.2, Shows (dP p) 3850 ∧ (dP p).depth ≤ 59 := fun s hs p hp => by
    have op := (o s hs).2.2 p hp
    refine ⟨(shows_tuple (showsAll_of (m := 1921) [.int p.1, .int p.2] fun d hd => ?_)).mono (by simp), Nat.le_trans (lay_P p).2 (by decide)⟩
    simp only [List.mem_cons, List.not_mem_nil, or_false] at hd
    rcases hd with rfl | rfl
    · exact ⟨shows_int (bY _ op.1), by simp [PyData.depth]⟩
    · exact ⟨shows_int (bY _ op.2), by simp [PyData.depth]⟩
  have hsp : ∀ s ∈ f, Shows (.list (s.2.2.map dP)) 77044 ∧ (PyData.list (s.2.2.map dP)).depth ≤ 59 := fun s hs => by
    have hl := sp_len (h.w s hs).2.2 (o s hs).2.2
    refine ⟨(shows_list (showsAll_of (m := 3850) (s.2.2.map dP) fun d hd => ?_)).mono ?_, ?_⟩
    · obtain ⟨p, hp', rfl⟩ := List.mem_map.mp hd
      exact hp s hs p hp'
    · rw [List.length_map]
      have : s.2.2.length * 3852 ≤ 20 * 3852 := Nat.mul_le_mul_right _ (by omega)
      omega
    · have := (Lay.list (n := 3) (ds := s.2.2.map dP) fun d hd => by
        obtain ⟨p, _, rfl⟩ := List.mem_map.mp hd
        exact lay_P p).2
      omega
  have hl := fm_len h o
  show Shows (.list (f.map dSlL)) _
  refine (shows_list (showsAll_of (m := 231142) (f.map dSlL) fun d hd => ?_)).mono ?_
  · obtain ⟨s, hs, rfl⟩ := List.mem_map.mp hd
    have os := o s hs
    refine ⟨(shows_tuple (showsAll_of (m := 77044) [.int s.1, .int s.2.1, .list (s.2.2.map dP)] fun d hd => ?_)).mono (by simp), ?_⟩
    · simp only [List.mem_cons, List.not_mem_nil, or_false] at hd
      rcases hd with rfl | rfl | rfl
      · exact ⟨(shows_int (bX _ os.1)).mono (by decide), by simp [PyData.depth]⟩
      · exact ⟨(shows_int (bX _ os.2.1)).mono (by decide), by simp [PyData.depth]⟩
      · exact hsp s hs
    · have := (Lay.tuple (n := 5) (ds := [.int s.1, .int s.2.1, .list (s.2.2.map dP)]) fun d hd => by
        simp only [List.mem_cons, List.not_mem_nil, or_false] at hd
        rcases hd with rfl | rfl | rfl
        · exact (Lay.int _).mono (by decide)
        · exact (Lay.int _).mono (by decide)
        · exact .list fun d hd => by
            obtain ⟨p, _, rfl⟩ := List.mem_map.mp hd
            exact lay_P p).2
      exact Nat.le_trans this (by decide)
  · rw [List.length_map]
    have : f.length * (231142 + 2) ≤ 20 * (231142 + 2) := Nat.mul_le_mul_right _ (by omega)
    exact Nat.le_trans (Nat.add_le_add_right this 4) (by decide)
/-- separating, by what the regions have -/
theorem sep_none {a b : Reg} (ha : FmOk a.1) (hb : FmOk b.1) : (firstSq (rxor a b)).isNone = decide (a = b) := by
  cases e : firstSq (rxor a b) with
  | none =>
    have z := firstSq_none e
    have : a = b := reg_uniq ha hb fun p => by
      have h := rhas_xor a b p
      rw [z, rhas_nil] at h
      revert h
      cases rhas a p <;> cases rhas b p <;> decide
    simp [this]
  | some p =>
    have h := firstSq_some (rxor_ok a b) e
    rw [rhas_xor] at h
    have : a ≠ b := fun z => by
      rw [z] at h
      revert h
      cases rhas b p <;> decide
    simp [this]
structure LnOk (L : List Int) : Prop where
  a : AxOk L
  m : L.length ≤ 7
  b : ∀ x ∈ L, x.natAbs < 2 ^ 120
theorem kd_lines {p : Addr} {σ : St} {G : Hp} {j : Nat} (hj : σ[j]? = some (some (.ref p))) : KD p (tCall sp_l_lines [] E0 (tCons (tVar j) (tCons (tOp (rAddX K) (tC (.int 2)) (tCall sp_l_take [] E0 (tCons (tVar j) (tCons (tC (.int 6)) tNil)))) tNil))) σ G LnOk fun L => tL (L.map tI) := by
  have d : KD p (tOp (rAddX K) (tC (.int 2)) (tCall sp_l_take [] E0 (tCons (tVar j) (tCons (tC (.int 6)) tNil)))) σ G (fun r : Int => 2 ≤ r ∧ r ≤ 7) tI :=
    (kd_op (χ := fun _ r => tI (2 + r)) (kd_pd (pd_c (v := .int 2))) (kd_take hj pd_c (by decide) (by decide)) fun _ r x y G1 _ _ _ hx hy => pd_add (pd_cv hx) (pd_cv hy)).map fun t h => ⟨2 + t.2, by have := h.2; omega, rfl⟩
  refine kd_call hj (ka_cons d ka_nil) fun u hu => ⟨u.1, by have := hu.1; omega, by have := hu.1; omega, rfl, fun L h => ⟨⟨?_, ?_, h.s⟩, ?_, h.b⟩, rfl⟩
  · have := h.l; have := hu.1; omega
  · have := h.l; have := hu.1; omega
  · have := h.l; have := hu.1; omega
theorem filter_take {α : Type} {c : α → Bool} {xs : List α} {i : Nat} {a : α} (h : xs[i]? = some a) : (xs.take (i + 1)).filter c = (xs.take i).filter c ++ (if c a then [a] else []) := by
  rw [take_succ_of h, List.filter_append]
  congr 1
  rw [List.filter_cons]
  cases c a <;> rfl
end
end BR
/-! Own layer: plain mirrors of readings. A mirror is what is wanted of plain values; states by slots. -/
namespace BR
open PySem PySem.Spec PyProof.Rows L2
/-! ### plain wishes -/
abbrev Wp (α : Type) : Type := (α → Prop) → Prop
def wPure {α : Type} (a : α) : Wp α := fun P => P a
def wBind {α β : Type} (m : Wp α) (f : α → Wp β) : Wp β := fun P => m fun a => f a P
def wRun {α : Type} (m : Wp α) (P : α → Prop) : Prop := m P
def wNil : Wp Unit := fun P => P ()
def wCons {α β : Type} (m : Wp α) (r : Wp β) : Wp (α × β) := fun P => m fun a => r fun b => P (a, b)
def wG {α : Type} (c : Prop) (a : α) : Wp α := fun P => c ∧ P a
def wIf {α : Type} (b : Bool) (m n : Wp α) : Wp α := fun P => if b = true then m P else n P
/-! ### slots -/
/-- what stands in an object that is changed in place -/
structure Ct where
  p : Hp → HO → Prop
  m : ∀ G G' u, Same G G' → p G u → p G' u
def cL (φs : List Ty) : Ct := ⟨fun G u => ∃ vs, u = .lst vs ∧ All G φs vs ∧ φs.length ≤ 100000, fun _ _ _ s ⟨vs, e, h1, h2⟩ => ⟨vs, e, h1.mono s, h2⟩⟩
inductive Slot where
  | un
  | val (φ : Ty)
  | own (C : Ct)
  | pool
def Slot.mu : Slot → Bool
  | .own _ => true
  | .pool => true
  | _ => false
def SlotOk (G H : Hp) : Slot → Option V → Prop
  | .un, _ => True
  | .val φ, o => ∃ v, o = some v ∧ φ.p G v
  | .own C, o => ∃ q u, o = some (.ref q) ∧ H q = some u ∧ C.p G u ∧ G q = none
  | .pool, o => ∃ q a b, o = some (.ref q) ∧ H q = some (.lst [.int a, .int b]) ∧ PoolOk a b ∧ G q = none
abbrev Sts := List Slot
def MutAt (Φ : Sts) (σ : St) (i : Nat) (q : Addr) : Prop := (∃ s, Φ[i]? = some s ∧ s.mu = true) ∧ σ[i]? = some (some (.ref q))
def Muts (Φ : Sts) (σ : St) (q : Addr) : Prop := ∃ i, MutAt Φ σ i q
structure EnvL (Φ : Sts) (σ : St) (G H : Hp) : Prop where
  s : Same G H
  l : σ.length = Φ.length
  sl : ∀ (i : Nat) (s : Slot), Φ[i]? = some s → ∃ o, σ[i]? = some o ∧ SlotOk G H s o
  nd : ∀ (i j : Nat) (q : Addr), MutAt Φ σ i q → MutAt Φ σ j q → i = j
theorem SlotOk.mutH {G H : Hp} {s : Slot} {q : Addr} (h : SlotOk G H s (some (.ref q))) (m : s.mu = true) : (∃ u, H q = some u) ∧ G q = none := by
  cases s with
  | un => cases m
  | val φ => cases m
  | own φs =>
    obtain ⟨q', vs, e, h1, h2, h3⟩ := h
    cases e
    exact ⟨⟨_, h1⟩, h3⟩
  | pool =>
    obtain ⟨q', a, b, e, h1, h2, h3⟩ := h
    cases e
    exact ⟨⟨_, h1⟩, h3⟩
theorem EnvL.mut {Φ : Sts} {σ : St} {G H : Hp} {q : Addr} (e : EnvL Φ σ G H) (h : Muts Φ σ q) : (∃ u, H q = some u) ∧ G q = none := by
  obtain ⟨i, ⟨s, h1, h2⟩, h3⟩ := h
  obtain ⟨o, h4, h5⟩ := e.sl i s h1
  rw [h3] at h4
  cases h4
  exact h5.mutH h2
structure Step (Φ : Sts) (σ : St) (G H G' H' : Hp) : Prop where
  e : EnvL Φ σ G' H'
  g : Same G G'
  b : ∀ a o, ¬ Muts Φ σ a → H a = some o → H' a = some o
  f : ∀ a, G a = none → G' a ≠ none → H a = none
theorem Step.refl {Φ : Sts} {σ : St} {G H : Hp} (e : EnvL Φ σ G H) : Step Φ σ G H G H := ⟨e, same_refl _, fun _ _ _ h => h, fun _ h h' => absurd h h'⟩
theorem Step.trans {Φ : Sts} {σ : St} {G H G1 H1 G2 H2 : Hp} (a : Step Φ σ G H G1 H1) (b : Step Φ σ G1 H1 G2 H2) : Step Φ σ G H G2 H2 :=
  ⟨b.e, a.g.trans b.g, fun x o n h => b.b x o n (a.b x o n h), fun x h h' => by
    by_cases e : G1 x = none
    · have h3 := b.f x e h'
      cases h4 : H x with
      | none => rfl
      | some o =>
        by_cases m : Muts Φ σ x
        · obtain ⟨⟨vs, q⟩, _⟩ := a.e.mut m
          rw [h3] at q
          cases q
        · have := a.b x o m h4
          rw [h3] at this
          cases this
    · exact a.f x h e⟩
theorem SlotOk.keep {G H G' H' : Hp} {s : Slot} {o : Option V} (h : SlotOk G H s o) (g : Same G G') (hk : ∀ q u, s.mu = true → o = some (.ref q) → H q = some u → H' q = some u) (hn : ∀ q, s.mu = true → o = some (.ref q) → G' q = none) : SlotOk G' H' s o := by
  cases s with
  | un => trivial
  | val φ =>
    obtain ⟨v, e, h1⟩ := h
    exact ⟨v, e, φ.m _ _ _ g h1⟩
  | own C =>
    obtain ⟨q, u, e, h1, h2, h3⟩ := h
    exact ⟨q, u, e, hk q _ rfl e h1, C.m _ _ _ g h2, hn q rfl e⟩
  | pool =>
    obtain ⟨q, a, b, e, h1, h2, h3⟩ := h
    exact ⟨q, a, b, e, hk q _ rfl e h1, h2, hn q rfl e⟩
theorem Step.grow {Φ : Sts} {σ : St} {G H G' H' : Hp} (e : EnvL Φ σ G H) (g : Grow G H G' H') : Step Φ σ G H G' H' := by
  refine ⟨⟨g.s, e.l, fun i s h => ?_, e.nd⟩, g.g, fun a o _ h => g.h a o h, g.f⟩
  obtain ⟨o, h1, h2⟩ := e.sl i s h
  refine ⟨o, h1, h2.keep g.g (fun q vs _ _ hq => g.h _ _ hq) fun q m ho => ?_⟩
  subst ho
  obtain ⟨⟨vs, hv⟩, hn⟩ := h2.mutH m
  cases z : G' q with
  | none => rfl
  | some u =>
    have := g.f q hn (by rw [z]; exact fun w => nomatch w)
    rw [this] at hv
    cases hv
/-- one of the pools has been drawn from -/
theorem Step.kg {Φ : Sts} {σ : St} {G H G' H' : Hp} {p : Addr} {j : Nat} (e : EnvL Φ σ G H) (hj : Φ[j]? = some .pool) (hp : σ[j]? = some (some (.ref p))) (g : KG p G H G' H') : Step Φ σ G H G' H' := by
  have mp : MutAt Φ σ j p := ⟨⟨_, hj, rfl⟩, hp⟩
  refine ⟨⟨g.i.s, e.l, fun i s h => ?_, e.nd⟩, g.g, fun a o m h => g.b a o (fun z => m ⟨j, z ▸ mp⟩) h, g.f⟩
  obtain ⟨o, h1, h2⟩ := e.sl i s h
  refine ⟨o, h1, ?_⟩
  by_cases z : s.mu = true ∧ o = some (.ref p)
  · obtain ⟨z1, rfl⟩ := z
    have : i = j := e.nd i j p ⟨⟨s, h, z1⟩, h1⟩ mp
    subst this
    rw [hj] at h
    cases h
    obtain ⟨c, d, q1, q2⟩ := g.i.h
    exact ⟨p, c, d, rfl, q1, q2, g.i.n⟩
  · refine h2.keep g.g (fun q vs m ho hq => g.b _ _ (fun w => z ⟨m, by rw [ho, w]⟩) hq) fun q m ho => ?_
    subst ho
    obtain ⟨⟨vs, hv⟩, hn⟩ := h2.mutH m
    cases y : G' q with
    | none => rfl
    | some u =>
      have := g.f q hn (by rw [y]; exact fun w => nomatch w)
      rw [this] at hv
      cases hv
/-! ### judgements -/
def MD (Φ : Sts) (te : TE) {α : Type} (m : Wp α) (e : α → Ty) : Prop :=
  ∀ σ G H, EnvL Φ σ G H → ∀ (P : α → Prop) (Q : VK), m P → (∀ a v G' H', P a → Step Φ σ G H G' H' → (e a).p G' v → Q v H') → te σ H Q
def MA (Φ : Sts) (ta : TA) {α : Type} (m : Wp α) (es : α → List Ty) : Prop :=
  ∀ σ G H, EnvL Φ σ G H → ∀ (P : α → Prop) (Q : List V → Hp → Prop), m P → (∀ a vs G' H', P a → Step Φ σ G H G' H' → All G' (es a) vs → Q vs H') → ta σ H Q
def MT (Φ : Sts) (tt : TT) (m : Wp Bool) : Prop :=
  ∀ σ G H, EnvL Φ σ G H → ∀ (P : Bool → Prop) (Q : Bool → Hp → Prop), m P → (∀ b G' H', P b → Step Φ σ G H G' H' → Q b H') → tt σ H Q
section
variable {K : Fg} {Φ : Sts} {ta tb te : TE} {tr : TA} {tt tu : TT} {α β γ : Type} {m : Wp α} {n : Wp β} {e : α → Ty} {f : β → Ty}
theorem md_of {g : γ → Ty} {k : Wp γ} (h : ∀ σ G H, EnvL Φ σ G H → ∀ P, k P → ∃ c, P c ∧ PD te σ G H (g c)) : MD Φ te k g := fun σ G H ev P Q mp q => by
  obtain ⟨c, pc, hc⟩ := h σ G H ev P mp
  exact hc H (same_refl _) ev.s Q fun v G' H' gr hv => q c v G' H' pc (.grow ev gr) hv
theorem md_var {i : Nat} {a : α} (h : Φ[i]? = some (.val (e a))) : MD Φ (tVar i) (wPure a) e := fun σ G H ev P Q mp q => by
  obtain ⟨o, h1, v, rfl, h2⟩ := ev.sl i _ h
  exact ⟨v, h1, q a v G H mp (.refl ev) h2⟩
theorem md_c {a : α} {v : V} (h : ∀ G, (e a).p G v) : MD Φ (tC v) (wPure a) e := fun σ G H ev P Q mp q => q a v G H mp (.refl ev) (h G)
theorem md_int {i : Int} : MD Φ (tC (.int i)) (wPure i) tI := md_c fun _ => rfl
theorem md_bl {b : Bool} : MD Φ (tC (.bl b)) (wPure b) tBo := md_c fun _ => rfl
theorem md_str {x : Str} : MD Φ (tC (.str x)) (wPure x) tSt := md_c fun _ => rfl
theorem md_non : MD Φ (tC .non) (wPure ()) (fun _ => tN) := md_c fun _ => rfl
theorem ma_nil : MA Φ tNil wNil (fun _ => []) := fun σ G H ev P Q mp q => q () [] G H mp (.refl ev) .nil
theorem ma_cons {es : β → List Ty} (h : MD Φ te m e) (hr : MA Φ tr n es) : MA Φ (tCons te tr) (wCons m n) (fun z => e z.1 :: es z.2) := fun σ G H ev P Q mp q =>
  h σ G H ev _ _ mp fun a v G1 H1 pa s1 hv => hr σ G1 H1 s1.e _ _ pa fun b vs G2 H2 pb s2 hvs => q (a, b) (v :: vs) G2 H2 pb (s1.trans s2) (.cons ((e a).m _ _ _ s2.g hv) hvs)
/-- two places -/
theorem md_op {r : R2} {g : γ → Ty} {k : α → β → Wp γ} (ha : MD Φ ta m e) (hb : MD Φ tb n f)
    (hr : ∀ a b x y σ G P, (e a).p G x → (f b).p G y → k a b P → ∃ c, P c ∧ PD (tOp r (tC x) (tC y)) σ G G (g c)) : MD Φ (tOp r ta tb) (wBind m fun a => wBind n fun b => k a b) g := fun σ G H ev P Q mp q =>
  ha σ G H ev _ _ mp fun a x G1 H1 pa s1 hx => hb σ G1 H1 s1.e _ _ pa fun b y G2 H2 pb s2 hy => by
    obtain ⟨c, pc, hc⟩ := hr a b x y σ G2 P ((e a).m _ _ _ s2.g hx) hy pb
    exact hc H2 s2.e.s s2.e.s Q fun v G' H' gr hv => q c v G' H' pc ((s1.trans s2).trans (.grow s2.e gr)) hv
theorem md_un {r : V → Hp → VK → Prop} {g : γ → Ty} {k : α → Wp γ} (ha : MD Φ ta m e)
    (hr : ∀ a x σ G P, (e a).p G x → k a P → ∃ c, P c ∧ PD (tUn r (tC x)) σ G G (g c)) : MD Φ (tUn r ta) (wBind m k) g := fun σ G H ev P Q mp q =>
  ha σ G H ev _ _ mp fun a x G1 H1 pa s1 hx => by
    obtain ⟨c, pc, hc⟩ := hr a x σ G1 P hx pa
    exact hc H1 s1.e.s s1.e.s Q fun v G' H' gr hv => q c v G' H' pc (s1.trans (.grow s1.e gr)) hv
/-- a built-in -/
theorem md_cb {r : List V → Hp → VK → Prop} {es : α → List Ty} {g : γ → Ty} {k : α → Wp γ} (ha : MA Φ tr m es)
    (hr : ∀ a vs G H, All G (es a) vs → Same G H → ∀ P, k a P → ∀ Q : VK, (∀ c v G' H', P c → Grow G H G' H' → (g c).p G' v → Q v H') → r vs H Q) : MD Φ (tCB r tr) (wBind m k) g := fun σ G H ev P Q mp q =>
  ha σ G H ev _ _ mp fun a vs G1 H1 pa s1 hvs => hr a vs G1 H1 hvs s1.e.s P pa Q fun c v G' H' pc gr hv => q c v G' H' pc (s1.trans (.grow s1.e gr)) hv
/-- a value that PD tells, over values -/
theorem md_1 {F : TE → TE} {g : γ → Ty} {k : α → Wp γ} (hF : ∀ σ H Q, te σ H (fun x H1 => F (tC x) σ H1 Q) → F te σ H Q) (ha : MD Φ te m e)
    (hr : ∀ a x σ G P, (e a).p G x → k a P → ∃ c, P c ∧ PD (F (tC x)) σ G G (g c)) : MD Φ (F te) (wBind m k) g := fun σ G H ev P Q mp q =>
  hF σ H Q (ha σ G H ev _ _ mp fun a x G1 H1 pa s1 hx => by
    obtain ⟨c, pc, hc⟩ := hr a x σ G1 P hx pa
    exact hc H1 s1.e.s s1.e.s Q fun v G' H' gr hv => q c v G' H' pc (s1.trans (.grow s1.e gr)) hv)
theorem MD.conv {g : γ → Ty} {k : α → γ} (h : MD Φ te m e) (hc : ∀ a G v, (e a).p G v → (g (k a)).p G v) : MD Φ te (wBind m fun a => wPure (k a)) g := fun σ G H ev P Q mp q =>
  h σ G H ev _ _ mp fun a v G' H' pa s hv => q (k a) v G' H' pa s (hc a _ _ hv)
theorem MD.enc {g : α → Ty} (h : MD Φ te m e) (hc : ∀ a G v, (e a).p G v → (g a).p G v) : MD Φ te m g := fun σ G H ev P Q mp q =>
  h σ G H ev _ _ mp fun a v G' H' pa s hv => q a v G' H' pa s (hc a _ _ hv)
/-! displays -/
theorem md_tup {es : α → List Ty} (h : MA Φ tr m es) (hl : ∀ a, (es a).length ≤ 100000) : MD Φ (tTup tr) m (fun a => tT (es a)) := fun σ G H ev P Q mp q =>
  h σ G H ev _ _ mp fun a vs G1 H1 pa s1 hvs => ⟨sz_of (by rw [hvs.length]; exact hl a), fun p hp =>
    have g2 : Grow G1 H1 (upd G1 p (.tup vs)) (upd H1 p (.tup vs)) := .new s1.e.s hp
    q a (.ref p) _ _ pa (s1.trans (.grow s1.e g2)) ⟨p, vs, rfl, upd_same, hvs.mono g2.g⟩⟩
theorem md_lst {es : α → List Ty} (h : MA Φ tr m es) (hl : ∀ a, (es a).length ≤ 100000) : MD Φ (tLst tr) m (fun a => tL (es a)) := fun σ G H ev P Q mp q =>
  h σ G H ev _ _ mp fun a vs G1 H1 pa s1 hvs => ⟨sz_of (by rw [hvs.length]; exact hl a), fun p hp =>
    have g2 : Grow G1 H1 (upd G1 p (.lst vs)) (upd H1 p (.lst vs)) := .new s1.e.s hp
    q a (.ref p) _ _ pa (s1.trans (.grow s1.e g2)) ⟨p, vs, rfl, upd_same, hvs.mono g2.g⟩⟩
/-! tests -/
theorem mt_test {m : Wp Bool} (h : MD Φ te m tBo) : MT Φ (tTest te) m := fun σ G H ev P Q mp q =>
  h σ G H ev _ _ mp fun a v G1 H1 pa s1 hv => by
    cases hv
    exact ⟨a, rfl, q a G1 H1 pa s1⟩
theorem mt_B {m : Wp Bool} (h : MD Φ te m tBo) : MT Φ (tB te) m := fun σ G H ev P Q mp q =>
  h σ G H ev _ _ mp fun a v G1 H1 pa s1 hv => by
    cases hv
    exact ⟨a, rfl, q a G1 H1 pa s1⟩
def wAnd (m n : Wp Bool) : Wp Bool := fun P => m fun a => if a = true then n P else P false
def wOr (m n : Wp Bool) : Wp Bool := fun P => m fun a => if a = true then P true else n P
def wNot (m : Wp Bool) : Wp Bool := fun P => m fun a => P (!a)
theorem mt_and {m n : Wp Bool} (h : MT Φ tt m) (h2 : MT Φ tu n) : MT Φ (tAnd tt tu) (wAnd m n) := fun σ G H ev P Q mp q =>
  h σ G H ev _ _ mp fun a G1 H1 pa s1 => by
    cases a with
    | true =>
      rw [if_pos rfl] at pa ⊢
      exact h2 σ G1 H1 s1.e P Q pa fun b G2 H2 pb s2 => q b G2 H2 pb (s1.trans s2)
    | false =>
      rw [if_neg (by decide)] at pa ⊢
      exact q false G1 H1 pa s1
theorem mt_or {m n : Wp Bool} (h : MT Φ tt m) (h2 : MT Φ tu n) : MT Φ (tOr tt tu) (wOr m n) := fun σ G H ev P Q mp q =>
  h σ G H ev _ _ mp fun a G1 H1 pa s1 => by
    cases a with
    | true =>
      rw [if_pos rfl] at pa ⊢
      exact q true G1 H1 pa s1
    | false =>
      rw [if_neg (by decide)] at pa ⊢
      exact h2 σ G1 H1 s1.e P Q pa fun b G2 H2 pb s2 => q b G2 H2 pb (s1.trans s2)
theorem mt_not {m : Wp Bool} (h : MT Φ tt m) : MT Φ (tNot tt) (wNot m) := fun σ G H ev P Q mp q =>
  h σ G H ev _ _ mp fun a G1 H1 pa s1 => q _ G1 H1 pa s1
theorem mt_yes : MT Φ tYes (wPure true) := fun σ G H ev P Q mp q => q true G H mp (.refl ev)
theorem md_andV {m n : Wp Bool} (h : MD Φ ta m tBo) (h2 : MD Φ tb n tBo) : MD Φ (tAndV ta tb) (wAnd m n) tBo := fun σ G H ev P Q mp q =>
  h σ G H ev _ _ mp fun a v G1 H1 pa s1 hv => by
    cases hv
    refine ⟨a, rfl, ?_⟩
    cases a with
    | true =>
      rw [if_pos rfl] at pa ⊢
      exact h2 σ G1 H1 s1.e P Q pa fun b v G2 H2 pb s2 hv => q b v G2 H2 pb (s1.trans s2) hv
    | false =>
      rw [if_neg (by decide)] at pa ⊢
      exact q false _ G1 H1 pa s1 rfl
theorem md_orV {m n : Wp Bool} (h : MD Φ ta m tBo) (h2 : MD Φ tb n tBo) : MD Φ (tOrV ta tb) (wOr m n) tBo := fun σ G H ev P Q mp q =>
  h σ G H ev _ _ mp fun a v G1 H1 pa s1 hv => by
    cases hv
    refine ⟨a, rfl, ?_⟩
    cases a with
    | true =>
      rw [if_pos rfl] at pa ⊢
      exact q true _ G1 H1 pa s1 rfl
    | false =>
      rw [if_neg (by decide)] at pa ⊢
      exact h2 σ G1 H1 s1.e P Q pa fun b v G2 H2 pb s2 hv => q b v G2 H2 pb (s1.trans s2) hv
theorem md_notV {m : Wp Bool} (h : MD Φ ta m tBo) : MD Φ (tNotV ta) (wNot m) tBo := fun σ G H ev P Q mp q =>
  h σ G H ev _ _ mp fun a v G1 H1 pa s1 hv => by
    cases hv
    exact ⟨a, rfl, q _ _ G1 H1 pa s1 rfl⟩
theorem md_if {m : Wp Bool} {n k : Wp β} (h : MT Φ tt m) (h1 : MD Φ ta n f) (h2 : MD Φ tb k f) : MD Φ (tIf tt ta tb) (wBind m fun b => wIf b n k) f := fun σ G H ev P Q mp q =>
  h σ G H ev _ _ mp fun a G1 H1 pa s1 => by
    cases a with
    | true => exact h1 σ G1 H1 s1.e P Q pa fun b v G2 H2 pb s2 hv => q b v G2 H2 pb (s1.trans s2) hv
    | false => exact h2 σ G1 H1 s1.e P Q pa fun b v G2 H2 pb s2 hv => q b v G2 H2 pb (s1.trans s2) hv
/-! calls -/
def spM {ρ : Type} (es : α → List Ty) (er : ρ → Ty) (m : α → Wp ρ) : Sp := fun vs H Q _ => ∃ G a R, Same G H ∧ All G (es a) vs ∧ m a R ∧ ∀ r v G' H', R r → Grow G H G' H' → (er r).p G' v → Q v H'
def spMK {ρ : Type} (es : α → List Ty) (er : ρ → Ty) (m : α → Wp ρ) : Sp := fun vs H Q _ => ∃ p G a R ws, vs = .ref p :: ws ∧ PI p G H ∧ All G (es a) ws ∧ m a R ∧ ∀ r v G' H', R r → KG p G H G' H' → (er r).p G' v → Q v H'
theorem md_call {ρ : Type} {es es' : α → List Ty} {er : ρ → Ty} {k : α → Wp ρ} {E : XK} (h : MA Φ tr m es') (hes : ∀ a, es' a = es a) : MD Φ (tCall (spM es er k) [] E tr) (wBind m k) er := fun σ G H ev P Q mp q =>
  h σ G H ev _ _ mp fun a vs G1 H1 pa s1 hvs => by
    rw [List.append_nil]
    exact ⟨G1, a, P, s1.e.s, hes a ▸ hvs, pa, fun r v G' H' pr gr hv => q r v G' H' pr (s1.trans (.grow s1.e gr)) hv⟩
theorem EnvL.pi {σ : St} {G H : Hp} {j : Nat} (ev : EnvL Φ σ G H) (hj : Φ[j]? = some .pool) : ∃ p, σ[j]? = some (some (.ref p)) ∧ PI p G H := by
  obtain ⟨o, h1, p, a, b, rfl, h2, h3, h4⟩ := ev.sl j _ hj
  exact ⟨p, h1, ev.s, h4, a, b, h2, h3⟩
theorem md_callK {ρ : Type} {j : Nat} {es es' : α → List Ty} {er : ρ → Ty} {k : α → Wp ρ} {E : XK} (hj : Φ[j]? = some .pool) (h : MA Φ tr m es') (hes : ∀ a, es' a = es a) : MD Φ (tCall (spMK es er k) [] E (tCons (tVar j) tr)) (wBind m k) er := fun σ G H ev P Q mp q => by
  obtain ⟨p, hp, _⟩ := ev.pi hj
  refine ⟨.ref p, hp, h σ G H ev _ _ mp fun a vs G1 H1 pa s1 hvs => ?_⟩
  show spMK es er k ((.ref p :: vs) ++ []) H1 Q E
  rw [List.append_nil]
  obtain ⟨p', hp', pi'⟩ := s1.e.pi hj
  rw [hp] at hp'
  cases hp'
  exact ⟨p, G1, a, P, vs, rfl, pi', hes a ▸ hvs, pa, fun r v G' H' pr gr hv => q r v G' H' pr (s1.trans (.kg s1.e hj hp gr)) hv⟩
/-- a promise that was told by types -/
theorem md_callT {ρ : Type} {pre : List Ty → Ty → Prop} {es : α → List Ty} {er : ρ → Ty} {k : α → Wp ρ} {E : XK} (h : MA Φ tr m es) (hp : ∀ a P, k a P → ∃ c, P c ∧ pre (es a) (er c)) : MD Φ (tCall (spT pre) [] E tr) (wBind m k) er := fun σ G H ev P Q mp q =>
  h σ G H ev _ _ mp fun a vs G1 H1 pa s1 hvs => by
    rw [List.append_nil]
    obtain ⟨c, pc, hc⟩ := hp a P pa
    exact ⟨G1, es a, er c, s1.e.s, hvs, hc, fun v G' H' gr hv => q c v G' H' pc (s1.trans (.grow s1.e gr)) hv⟩
def wTake (n : Int) : Wp Int := fun P => 0 < n ∧ n < 2 ^ 200 ∧ ∀ r, 0 ≤ r → r < n → P r
theorem md_take {j : Nat} {m : Wp Int} {E : XK} (hj : Φ[j]? = some .pool) (h : MD Φ te m tI) : MD Φ (tCall sp_l_take [] E (tCons (tVar j) (tCons te tNil))) (wBind m wTake) tI := fun σ G H ev P Q mp q => by
  obtain ⟨p, hp, _⟩ := ev.pi hj
  refine ⟨.ref p, hp, h σ G H ev _ _ mp fun a v G1 H1 pa s1 hv => ?_⟩
  cases hv
  obtain ⟨p', hp', pi'⟩ := s1.e.pi hj
  rw [hp] at hp'
  cases hp'
  obtain ⟨pa1, pa2, pa3⟩ := pa
  obtain ⟨c, z, q1, q2⟩ := pi'.h
  refine ⟨p, c, z, a, rfl, q1, q2, pa1, pa2, fun r c' z' H' r0 r1 q3 q4 q5 => q r _ G1 H' (pa3 r r0 r1) (s1.trans (.kg s1.e hj hp ⟨same_refl _, q4, pi'.but q4 q5 q3, fun a h h' => absurd h h'⟩)) rfl⟩
end
end BR
/-! Own layer: statements by slots, beside their plain mirrors. -/
namespace BR
open PySem PySem.Spec PyProof.Rows L2
/-- how a def was entered: a pool that may change, what stood -/
structure Cn where
  ex : Addr → Prop
  G0 : Hp
  H0 : Hp
structure EnvOk (c : Cn) (Φ : Sts) (σ : St) (G H : Hp) : Prop where
  L : EnvL Φ σ G H
  g : Same c.G0 G
  b : ∀ a o, ¬ c.ex a → c.H0 a = some o → H a = some o
  f : ∀ a, c.G0 a = none → G a ≠ none → c.H0 a = none
  m : ∀ (i : Nat) (φs : Ct) (q : Addr), Φ[i]? = some (.own φs) → σ[i]? = some (some (.ref q)) → c.H0 q = none ∧ ¬ c.ex q
  k : ∀ a, c.ex a → G a = none ∧ ∃ x y, H a = some (.lst [.int x, .int y]) ∧ PoolOk x y
  r : ∀ (i : Nat) (q : Addr), Φ[i]? = some .pool → σ[i]? = some (some (.ref q)) → c.ex q ∨ c.H0 q = none
section
variable {c : Cn} {Φ Ψ : Sts} {σ σ' : St} {G H G' H' : Hp}
theorem EnvOk.mutF (e : EnvOk c Φ σ G H) {q : Addr} (h : Muts Φ σ q) : c.ex q ∨ c.H0 q = none := by
  obtain ⟨i, ⟨s, h1, h2⟩, h3⟩ := h
  cases s with
  | un => cases h2
  | val φ => cases h2
  | own φs => exact .inr (e.m i φs q h1 h3).1
  | pool => exact e.r i q h1 h3
theorem EnvOk.step (e : EnvOk c Φ σ G H) (s : Step Φ σ G H G' H') : EnvOk c Φ σ G' H' := by
  refine ⟨s.e, e.g.trans s.g, fun a o n h => ?_, fun a h h' => ?_, e.m, fun a ha => ?_, e.r⟩
  · have h1 := e.b a o n h
    refine s.b a o (fun z => ?_) h1
    rcases e.mutF z with z | z
    · exact n z
    · rw [z] at h
      cases h
  · by_cases z : G a = none
    · have h1 := s.f a z h'
      cases h2 : c.H0 a with
      | none => rfl
      | some o =>
        by_cases x : c.ex a
        · obtain ⟨_, x1, x2, x3, _⟩ := e.k a x
          rw [h1] at x3
          cases x3
        · have := e.b a o x h2
          rw [h1] at this
          cases this
    · exact e.f a h z
  · obtain ⟨k1, x, y, k2, k3⟩ := e.k a ha
    by_cases z : Muts Φ σ a
    · obtain ⟨i, ⟨sl, h1, h2⟩, h3⟩ := z
      cases sl with
      | un => cases h2
      | val φ => cases h2
      | own φs => exact absurd ha (e.m i φs a h1 h3).2
      | pool =>
        obtain ⟨o, h4, q, x', y', e1, e2, e3, e4⟩ := s.e.sl i _ h1
        rw [h3] at h4
        cases h4
        cases e1
        exact ⟨e4, x', y', e2, e3⟩
    · have h1 := s.b a _ z k2
      refine ⟨?_, x, y, h1, k3⟩
      cases w : G' a with
      | none => rfl
      | some u =>
        have := s.f a k1 (by rw [w]; exact fun t => nomatch t)
        rw [this] at k2
        cases k2
/-- a slot is set to a value -/
theorem set_at {α : Type} {l : List α} {i j : Nat} {a b : α} (h : (l.set i a)[j]? = some b) : (i = j ∧ b = a ∧ i < l.length) ∨ (i ≠ j ∧ l[j]? = some b) := by
  rw [List.getElem?_set] at h
  split at h
  · rename_i e
    split at h
    · exact .inl ⟨e, (Option.some.inj h).symm, by assumption⟩
    · cases h
  · exact .inr ⟨by assumption, h⟩
theorem mut_set {i j : Nat} {s : Slot} {o : Option V} {q : Addr} (hs : s.mu = false) (h : MutAt (Φ.set i s) (σ.set i o) j q) : MutAt Φ σ j q := by
  obtain ⟨⟨s', h1, h2⟩, h3⟩ := h
  rcases set_at h1 with ⟨rfl, rfl, _⟩ | ⟨n, h1⟩
  · rw [hs] at h2
    cases h2
  · rcases set_at h3 with ⟨rfl, _⟩ | ⟨_, h3⟩
    · exact absurd rfl n
    · exact ⟨⟨s', h1, h2⟩, h3⟩
theorem EnvL.set {i : Nat} {s : Slot} {o : Option V} (e : EnvL Φ σ G H) (hs : s.mu = false) (h : SlotOk G H s o) : EnvL (Φ.set i s) (σ.set i o) G H := by
  refine ⟨e.s, by rw [List.length_set, List.length_set]; exact e.l, fun j s' hj => ?_, fun x y q h1 h2 => e.nd x y q (mut_set hs h1) (mut_set hs h2)⟩
  rcases set_at hj with ⟨rfl, rfl, hl⟩ | ⟨n, hj⟩
  · exact ⟨o, by rw [List.getElem?_set]; simp [e.l, hl], h⟩
  · obtain ⟨o', h1, h2⟩ := e.sl j s' hj
    exact ⟨o', by rw [List.getElem?_set]; simp [n, h1], h2⟩
theorem EnvOk.set {i : Nat} {s : Slot} {o : Option V} (e : EnvOk c Φ σ G H) (hs : s.mu = false) (h : SlotOk G H s o) : EnvOk c (Φ.set i s) (σ.set i o) G H := by
  refine ⟨e.L.set hs h, e.g, e.b, e.f, fun j φs q h1 h2 => ?_, e.k, fun j q h1 h2 => ?_⟩
  · rcases set_at h1 with ⟨rfl, z, _⟩ | ⟨n, h1⟩
    · rw [← z] at hs
      cases hs
    · rcases set_at h2 with ⟨rfl, _⟩ | ⟨_, h2⟩
      · exact absurd rfl n
      · exact e.m j φs q h1 h2
  · rcases set_at h1 with ⟨rfl, z, _⟩ | ⟨n, h1⟩
    · rw [← z] at hs
      cases hs
    · rcases set_at h2 with ⟨rfl, _⟩ | ⟨_, h2⟩
      · exact absurd rfl n
      · exact e.r j q h1 h2
/-- a slot forgotten -/
theorem EnvOk.forget {i : Nat} (e : EnvOk c Φ σ G H) : EnvOk c (Φ.set i .un) σ G H := by
  have z : ∀ (j : Nat) (s' : Slot), (Φ.set i .un)[j]? = some s' → (s' = .un) ∨ Φ[j]? = some s' := fun j s' h => by
    rcases set_at h with ⟨_, e, _⟩ | ⟨_, h⟩
    · exact .inl e
    · exact .inr h
  have mm : ∀ (j : Nat) (q : Addr), MutAt (Φ.set i .un) σ j q → MutAt Φ σ j q := fun j q ⟨⟨s, h1, h2⟩, h3⟩ => by
    rcases z j s h1 with rfl | h
    · cases h2
    · exact ⟨⟨s, h, h2⟩, h3⟩
  refine ⟨⟨e.L.s, by rw [List.length_set]; exact e.L.l, fun j s' h => ?_, fun x y q h1 h2 => e.L.nd x y q (mm x q h1) (mm y q h2)⟩, e.g, e.b, e.f, fun j φs q h1 h2 => ?_, e.k, fun j q h1 h2 => ?_⟩
  · rcases set_at h with ⟨rfl, rfl, hl⟩ | ⟨_, h⟩
    · have : i < σ.length := by rw [e.L.l]; exact hl
      exact ⟨σ[i], by simp [this], trivial⟩
    · exact e.L.sl j s' h
  · rcases z j _ h1 with h | h
    · cases h
    · exact e.m j φs q h h2
  · rcases z j _ h1 with h | h
    · cases h
    · exact e.r j q h h2
/-- one list of slots says less -/
def LeS (c : Cn) (Φ Ψ : Sts) : Prop := ∀ σ G H, EnvOk c Φ σ G H → EnvOk c Ψ σ G H
inductive LeE : Sts → Sts → Prop
  | nil : LeE [] []
  | eq {s Φ Ψ} : LeE Φ Ψ → LeE (s :: Φ) (s :: Ψ)
  | un {s Φ Ψ} : LeE Φ Ψ → LeE (s :: Φ) (.un :: Ψ)
theorem LeE.at : ∀ {Φ Ψ : Sts}, LeE Φ Ψ → ∀ (i : Nat) (s : Slot), Ψ[i]? = some s → (s = .un ∧ i < Φ.length) ∨ Φ[i]? = some s
  | _, _, .nil, i, s, h => by simp at h
  | _, _, .eq l, 0, s, h => .inr h
  | _, _, .eq l, i + 1, s, h => by
    rcases l.at i s (by simpa using h) with ⟨a, b⟩ | a
    · exact .inl ⟨a, by simp; omega⟩
    · exact .inr (by simpa using a)
  | _, _, .un l, 0, s, h => by
    simp at h
    exact .inl ⟨h.symm, by simp⟩
  | _, _, .un l, i + 1, s, h => by
    rcases l.at i s (by simpa using h) with ⟨a, b⟩ | a
    · exact .inl ⟨a, by simp; omega⟩
    · exact .inr (by simpa using a)
theorem LeE.len : ∀ {Φ Ψ : Sts}, LeE Φ Ψ → Φ.length = Ψ.length
  | _, _, .nil => rfl
  | _, _, .eq l => by simp [l.len]
  | _, _, .un l => by simp [l.len]
theorem EnvOk.less (e : EnvOk c Φ σ G H) (l : LeE Φ Ψ) : EnvOk c Ψ σ G H := by
  have mm : ∀ j q, MutAt Ψ σ j q → MutAt Φ σ j q := fun j q ⟨⟨s, h1, h2⟩, h3⟩ => by
    rcases l.at j s h1 with ⟨rfl, _⟩ | h
    · cases h2
    · exact ⟨⟨s, h, h2⟩, h3⟩
  refine ⟨⟨e.L.s, by rw [← l.len]; exact e.L.l, fun j s' h => ?_, fun x y q h1 h2 => e.L.nd x y q (mm x q h1) (mm y q h2)⟩, e.g, e.b, e.f, fun j φs q h1 h2 => ?_, e.k, fun j q h1 h2 => ?_⟩
  · rcases l.at j s' h with ⟨rfl, hj⟩ | h
    · have : j < σ.length := by rw [e.L.l]; exact hj
      exact ⟨σ[j], by simp [this], trivial⟩
    · exact e.L.sl j s' h
  · rcases l.at j _ h1 with ⟨h, _⟩ | h
    · cases h
    · exact e.m j φs q h h2
  · rcases l.at j _ h1 with ⟨h, _⟩ | h
    · cases h
    · exact e.r j q h h2
/-! ### what follows holds wherever the mirror does -/
def Nx (c : Cn) (N : St → Hp → Prop) (Φ : Sts) (M : Prop) : Prop := ∀ σ G H, EnvOk c Φ σ G H → M → N σ H
variable {N : St → Hp → Prop} {D : Ends} {M M1 M2 : Prop} {t u tu tw : TS} {te : TE} {tt : TT} {ta : TA} {α β τ : Type} {m : Wp α} {e : α → Ty}
def NxS (c : Cn) (t : TS) (D : Ends) (Φ : Sts) (M : Prop) : Prop := Nx c (t D) Φ M
def NxC (c : Cn) (D : Ends) (Φ : Sts) (M : Prop) : Prop := Nx c D.nx Φ M
theorem nx_seq (h : NxS c t { D with nx := u D } Φ M) : NxS c (tSeq t u) D Φ M := h
theorem nx_go (h : NxS c u D Φ M) : NxC c { D with nx := u D } Φ M := h
theorem nx_next (h : NxC c D Φ M) : NxS c tNext D Φ M := h
theorem nx_cont (h : Nx c D.ct Φ M) : NxS c tCont D Φ M := h
theorem nx_break (h : Nx c D.bk Φ M) : NxS c tBreak D Φ M := h
theorem nx_end (h : Nx c D.nx Φ M) : NxC c D Φ M := h
theorem nx_less (l : LeE Φ Ψ) (h : Nx c N Ψ M) : Nx c N Φ M := fun σ G H ev mp => h σ G H (ev.less l) mp
theorem nx_asg {i : Nat} {P : α → Prop} (h : MD Φ te m e) (k : ∀ a, NxC c D (Φ.set i (.val (e a))) (P a)) : NxS c (tAsg te (gName i)) D Φ (wRun m P) := fun σ G H ev mp =>
  h σ G H ev.L _ _ mp fun a v G' H' pa s hv => k a _ G' H' ((ev.step s).set (s := .val (e a)) (o := some v) rfl ⟨v, rfl, hv⟩) pa
theorem nx_drop {P : α → Prop} (h : MD Φ te m e) (k : ∀ a, NxC c D Φ (P a)) : NxS c (tDrop te) D Φ (wRun m P) := fun σ G H ev mp =>
  h σ G H ev.L _ _ mp fun a v G' H' pa s hv => k a _ G' H' (ev.step s) pa
theorem nx_if {m : Wp Bool} (h : MT Φ tt m) (h1 : NxS c tu D Φ M1) (h2 : NxS c tw D Φ M2) : NxS c (tIfS tt tu tw) D Φ (wRun m fun b => if b = true then M1 else M2) := fun σ G H ev mp =>
  h σ G H ev.L _ _ mp fun b G' H' pb s => by
    cases b with
    | true =>
      rw [if_pos rfl] at pb ⊢
      exact h1 σ G' H' (ev.step s) pb
    | false =>
      rw [if_neg (by decide)] at pb ⊢
      exact h2 σ G' H' (ev.step s) pb
def Fin (c : Cn) (G H : Hp) : Prop := EnvOk c [] [] G H
theorem EnvOk.fin (e : EnvOk c Φ σ G H) : Fin c G H :=
  ⟨⟨e.L.s, rfl, fun i s h => by simp at h, fun i j q h => by obtain ⟨⟨s, h, _⟩, _⟩ := h; simp at h⟩, e.g, e.b, e.f, fun i φs q h => by simp at h, e.k, fun i q h => by simp at h⟩
/-- what is handed back is what is wished for -/
def RtOk (c : Cn) (rt : VK) {ρ : Type} (R : ρ → Prop) (e : ρ → Ty) : Prop := ∀ a v G' H', R a → Fin c G' H' → (e a).p G' v → rt v H'
def CLe (c' c : Cn) : Prop := ∀ Φ σ G H, EnvOk c' Φ σ G H → EnvOk c Φ σ G H
theorem RtOk.le {c' : Cn} {rt : VK} {ρ : Type} {R : ρ → Prop} {e : ρ → Ty} (h : RtOk c rt R e) (l : CLe c' c) : RtOk c' rt R e := fun a v G' H' r f hv => h a v G' H' r (l _ _ _ _ f) hv
theorem Nx.le {c' : Cn} (h : Nx c N Φ M) (l : CLe c' c) : Nx c' N Φ M := fun σ G H ev mp => h σ G H (l _ _ _ _ ev) mp
theorem NxC.le {c' : Cn} (h : NxC c D Φ M) (l : CLe c' c) : NxC c' D Φ M := fun σ G H ev mp => h σ G H (l _ _ _ _ ev) mp
theorem nx_ret {R : α → Prop} (h : MD Φ te m e) (k : RtOk c D.rt R e) : NxS c (tRet te) D Φ (wRun m R) := fun σ G H ev mp =>
  h σ G H ev.L _ _ mp fun a v G' H' pa s hv => k a v G' H' pa (ev.step s).fin hv
/-- a, b = e, f -/
theorem nx_par {i j : Nat} {es : α → List Ty} {f g : α → Ty} {P : α → Prop} (h : MA Φ ta m es) (he : ∀ a, es a = [f a, g a]) (k : ∀ a, NxC c D ((Φ.set i (.val (f a))).set j (.val (g a))) (P a)) : NxS c (tPar i j ta) D Φ (wRun m P) := fun σ G H ev mp =>
  h σ G H ev.L _ _ mp fun a vs G' H' pa s hv => by
    rw [he] at hv
    cases hv with
    | cons h1 h2 =>
      cases h2 with
      | cons h2 h3 =>
        cases h3
        exact ⟨_, _, rfl, k a _ G' H' (((ev.step s).set (s := .val (f a)) rfl ⟨_, rfl, h1⟩).set (s := .val (g a)) rfl ⟨_, rfl, h2⟩) pa⟩
/-! ### targets -/
structure Tgt (Φ : Sts) (σ : St) (Ψ : Sts) (σ' : St) (js : List Nat) (G : Hp) : Prop where
  l : Ψ.length = Φ.length
  l' : σ'.length = σ.length
  o : ∀ (i : Nat), i ∉ js → σ'[i]? = σ[i]? ∧ Ψ[i]? = Φ[i]?
  n : ∀ (i : Nat), i ∈ js → ∃ φ v, Ψ[i]? = some (.val φ) ∧ σ'[i]? = some (some v) ∧ φ.p G v
theorem Tgt.mut {js : List Nat} (t : Tgt Φ σ Ψ σ' js G) {i : Nat} {s : Slot} (h : Ψ[i]? = some s) (m : s.mu = true) : Φ[i]? = some s ∧ σ'[i]? = σ[i]? := by
  by_cases z : i ∈ js
  · obtain ⟨φ, v, h1, _⟩ := t.n i z
    rw [h1] at h
    cases h
    cases m
  · obtain ⟨h1, h2⟩ := t.o i z
    exact ⟨h2 ▸ h, h1⟩
theorem Tgt.envL {js : List Nat} (t : Tgt Φ σ Ψ σ' js G) (e : EnvL Φ σ G H) : EnvL Ψ σ' G H := by
  have mm : ∀ j q, MutAt Ψ σ' j q → MutAt Φ σ j q := fun j q ⟨⟨s, h1, h2⟩, h3⟩ => by
    obtain ⟨a, b⟩ := t.mut h1 h2
    exact ⟨⟨s, a, h2⟩, b ▸ h3⟩
  refine ⟨e.s, by rw [t.l, t.l']; exact e.l, fun i s h => ?_, fun x y q h1 h2 => e.nd x y q (mm x q h1) (mm y q h2)⟩
  by_cases z : i ∈ js
  · obtain ⟨φ, v, h1, h2, h3⟩ := t.n i z
    rw [h1] at h
    cases h
    exact ⟨_, h2, v, rfl, h3⟩
  · obtain ⟨h1, h2⟩ := t.o i z
    obtain ⟨o, h3, h4⟩ := e.sl i s (h2 ▸ h)
    exact ⟨o, h1 ▸ h3, h4⟩
theorem Tgt.envOk {js : List Nat} (t : Tgt Φ σ Ψ σ' js G) (e : EnvOk c Φ σ G H) : EnvOk c Ψ σ' G H :=
  ⟨t.envL e.L, e.g, e.b, e.f, fun i φs q h1 h2 => by
    obtain ⟨a, b⟩ := t.mut h1 rfl
    exact e.m i φs q a (b ▸ h2), e.k, fun i q h1 h2 => by
    obtain ⟨a, b⟩ := t.mut h1 rfl
    exact e.r i q a (b ▸ h2)⟩
theorem Tgt.mutS {js : List Nat} (t : Tgt Φ σ Ψ σ' js G) {q : Addr} (h : Muts Ψ σ' q) : Muts Φ σ q := by
  obtain ⟨i, ⟨s, h1, h2⟩, h3⟩ := h
  obtain ⟨a, b⟩ := t.mut h1 h2
  exact ⟨i, ⟨s, a, h2⟩, b ▸ h3⟩
theorem wipe_at (σ : St) : ∀ (vs : List Nat) (i : Nat), (wipe σ vs)[i]? = if i ∈ vs ∧ i < σ.length then some none else σ[i]?
  | [], i => by simp [wipe]
  | v :: vs, i => by
    unfold wipe
    rw [List.getElem?_set, wipe_length, wipe_at σ vs i]
    by_cases e : v = i
    · subst e
      by_cases h : v < σ.length
      · simp [h]
      · simp [h]
    · have e' : ¬ i = v := fun z => e z.symm
      simp [e, e']
theorem Tgt.wipe {js vs : List Nat} (t : Tgt Φ σ Ψ σ' js G) (h : ∀ j ∈ js, j ∈ vs) : wipe σ' vs = wipe σ vs := by
  refine List.ext_getElem? fun i => ?_
  rw [wipe_at, wipe_at, t.l']
  by_cases z : i ∈ js
  · have := h i z
    by_cases w : i < σ.length
    · simp [this, w]
    · have w' : ¬ i < σ'.length := by rw [t.l']; exact w
      rw [List.getElem?_eq_none (by omega), List.getElem?_eq_none (by omega)]
  · rw [(t.o i z).1]
def GM (g : TG) (Φ : Sts) (φ : Ty) (Ψ : Sts) (js : List Nat) : Prop := ∀ σ G H v, EnvL Φ σ G H → φ.p G v → ∀ Q : St → Hp → Prop, (∀ σ', Tgt Φ σ Ψ σ' js G → Q σ' H) → g v σ H Q
def GMs (g : TGs) (Φ : Sts) (φs : List Ty) (Ψ : Sts) (js : List Nat) : Prop := ∀ σ G H vs, EnvL Φ σ G H → All G φs vs → ∀ Q : St → Hp → Prop, (∀ σ', Tgt Φ σ Ψ σ' js G → Q σ' H) → g vs σ H Q
theorem Tgt.refl (e : EnvL Φ σ G H) : Tgt Φ σ Φ σ [] G := ⟨rfl, rfl, fun _ _ => ⟨rfl, rfl⟩, fun _ h => nomatch h⟩
theorem Tgt.trans {Χ : Sts} {σ2 : St} {js ks : List Nat} (a : Tgt Φ σ Ψ σ' js G) (b : Tgt Ψ σ' Χ σ2 ks G) : Tgt Φ σ Χ σ2 (js ++ ks) G := by
  refine ⟨b.l.trans a.l, b.l'.trans a.l', fun i h => ?_, fun i h => ?_⟩
  · rw [List.mem_append] at h
    obtain ⟨a1, a2⟩ := a.o i fun z => h (.inl z)
    obtain ⟨b1, b2⟩ := b.o i fun z => h (.inr z)
    exact ⟨b1.trans a1, b2.trans a2⟩
  · by_cases z : i ∈ ks
    · exact b.n i z
    · obtain ⟨b1, b2⟩ := b.o i z
      rcases List.mem_append.mp h with h | h
      · obtain ⟨φ, v, h1, h2, h3⟩ := a.n i h
        exact ⟨φ, v, b2 ▸ h1, b1 ▸ h2, h3⟩
      · exact absurd h z
theorem gm_name {i : Nat} {φ : Ty} (hi : Φ[i]?.isSome = true) : GM (gName i) Φ φ (Φ.set i (.val φ)) [i] := fun σ G H v ev hv Q q => by
  have hl : i < Φ.length := by
    rcases Nat.lt_or_ge i Φ.length with h | h
    · exact h
    · rw [List.getElem?_eq_none h] at hi
      cases hi
  refine q _ ⟨by simp, by simp, fun j h => ?_, fun j h => ?_⟩
  · have : ¬ i = j := fun z => h (by simp [z])
    rw [List.getElem?_set, List.getElem?_set]
    simp [this]
  · have : j = i := by simpa using h
    subst this
    exact ⟨φ, v, by rw [List.getElem?_set]; simp [hl], by rw [List.getElem?_set]; simp [ev.l, hl], hv⟩
theorem gms_nil : GMs gNil Φ [] Φ [] := fun σ G H vs ev hv Q q => by
  cases hv
  exact ⟨rfl, q σ (.refl ev)⟩
theorem gms_cons {t : TG} {u : TGs} {φ : Ty} {φs : List Ty} {Χ : Sts} {js ks : List Nat} (h : GM t Φ φ Ψ js) (hr : GMs u Ψ φs Χ ks) : GMs (gCons t u) Φ (φ :: φs) Χ (js ++ ks) := fun σ G H vs ev hv Q q => by
  cases hv with
  | cons h1 h2 =>
    refine ⟨_, _, rfl, h σ G H _ ev h1 _ fun σ' t1 => hr σ' G H _ (t1.envL ev) h2 _ fun σ2 t2 => q σ2 (t1.trans t2)⟩
theorem gm_tup {K : Fg} {n : Nat} {t : TGs} {φ : Ty} {φs : List Ty} {js : List Nat} (h : GMs t Φ φs Ψ js) (hφ : φ = tT φs) (hn : φs.length = n) : GM (gTup K n t) Φ φ Ψ js := fun σ G H v ev hv Q q => by
  subst hφ
  obtain ⟨a, vs, rfl, h1, h2⟩ := hv
  exact ⟨a, vs, rfl, .of (ev.s _ _ h1), by rw [h2.length]; exact hn, h σ G H vs ev h2 Q q⟩
theorem nx_asgG {g : TG} {js : List Nat} {Ψ : α → Sts} {P : α → Prop} (h : MD Φ te m e) (hg : ∀ a, GM g Φ (e a) (Ψ a) js) (k : ∀ a, NxC c D (Ψ a) (P a)) : NxS c (tAsg te g) D Φ (wRun m P) := fun σ G H ev mp =>
  h σ G H ev.L _ _ mp fun a v G' H' pa s hv => hg a σ G' H' v s.e hv _ fun σ' t => k a σ' G' H' (t.envOk (ev.step s)) pa
/-! ### owned lists -/
theorem EnvOk.new {i : Nat} {q : Addr} {φs : Ct} {u : HO} (e : EnvOk c Φ σ G H) (hq : H q = none) (hv : φs.p G u) : EnvOk c (Φ.set i (.own φs)) (σ.set i (some (.ref q))) G (upd H q u) := by
  have ne : ∀ {a o}, H a = some o → a ≠ q := fun h => ne_of_none h hq
  have gq : G q = none := e.L.s.free hq
  have nex : ¬ c.ex q := fun z => by
    obtain ⟨_, x, y, h, _⟩ := e.k q z
    rw [hq] at h
    cases h
  have h0 : c.H0 q = none := by
    cases z : c.H0 q with
    | none => rfl
    | some o =>
      have := e.b q o nex z
      rw [hq] at this
      cases this
  have mm : ∀ (j : Nat) (p : Addr), MutAt (Φ.set i (.own φs)) (σ.set i (some (.ref q))) j p → (j = i ∧ p = q) ∨ (j ≠ i ∧ MutAt Φ σ j p) := by
    rintro j p ⟨⟨s, h1, h2⟩, h3⟩
    rcases set_at h1 with ⟨rfl, rfl, _⟩ | ⟨n, h1⟩
    · rcases set_at h3 with ⟨_, z, _⟩ | ⟨n, _⟩
      · cases z
        exact .inl ⟨rfl, rfl⟩
      · exact absurd rfl n
    · rcases set_at h3 with ⟨z, _⟩ | ⟨_, h3⟩
      · exact absurd z n
      · exact .inr ⟨fun z => n z.symm, ⟨s, h1, h2⟩, h3⟩
  have mq : ∀ {p}, Muts Φ σ p → p ≠ q := fun h z => by
    obtain ⟨⟨vs, h1⟩, _⟩ := e.L.mut h
    subst z
    rw [hq] at h1
    cases h1
  refine ⟨⟨fun a o h => ?_, by simp [e.L.l], fun j s h => ?_, fun x y p h1 h2 => ?_⟩, e.g, fun a o n h => ?_, e.f, fun j ψs p h1 h2 => ?_, fun a ha => ?_, fun j p h1 h2 => ?_⟩
  · have h1 := e.L.s a o h
    rw [upd_ne (ne h1)]
    exact h1
  · rcases set_at h with ⟨rfl, rfl, hl⟩ | ⟨n, h⟩
    · exact ⟨_, by rw [List.getElem?_set]; simp [e.L.l, hl], q, u, rfl, upd_same, hv, gq⟩
    · obtain ⟨o, h1, h2⟩ := e.L.sl j s h
      refine ⟨o, by rw [List.getElem?_set]; simp [n, h1], h2.keep (same_refl _) (fun p ws _ _ hp => by rw [upd_ne (ne hp)]; exact hp) fun p m ho => ?_⟩
      subst ho
      exact (h2.mutH m).2
  · rcases mm x p h1 with ⟨rfl, rfl⟩ | ⟨nx, h1⟩
    · rcases mm y p h2 with ⟨rfl, _⟩ | ⟨ny, h2⟩
      · rfl
      · exact absurd rfl (mq ⟨y, h2⟩)
    · rcases mm y p h2 with ⟨z1, z2⟩ | ⟨ny, h2⟩
      · exact absurd z2 (mq ⟨x, by assumption⟩)
      · exact e.L.nd x y p (by assumption) h2
  · have := e.b a o n h
    rw [upd_ne (ne this)]
    exact this
  · rcases set_at h1 with ⟨rfl, z, _⟩ | ⟨n, h1⟩
    · rcases set_at h2 with ⟨_, w, _⟩ | ⟨n, _⟩
      · cases w
        exact ⟨h0, nex⟩
      · exact absurd rfl n
    · rcases set_at h2 with ⟨w, _⟩ | ⟨_, h2⟩
      · exact absurd w n
      · exact e.m j ψs p h1 h2
  · obtain ⟨h1, x, y, h2, h3⟩ := e.k a ha
    exact ⟨h1, x, y, by rw [upd_ne (ne h2)]; exact h2, h3⟩
  · rcases set_at h1 with ⟨rfl, z, _⟩ | ⟨n, h1⟩
    · cases z
    · rcases set_at h2 with ⟨w, _⟩ | ⟨_, h2⟩
      · exact absurd w n
      · exact e.r j p h1 h2
/-- x = [..], to be changed -/
theorem nx_own {i : Nat} {es : α → List Ty} {P : α → Prop} (h : MA Φ ta m es) (hl : ∀ a, (es a).length ≤ 100000) (k : ∀ a, NxC c D (Φ.set i (.own (cL (es a)))) (P a)) : NxS c (tAsg (tLst ta) (gName i)) D Φ (wRun m P) := fun σ G H ev mp =>
  h σ G H ev.L _ _ mp fun a vs G' H' pa s hv => ⟨sz_of (by rw [hv.length]; exact hl a), fun p hp => k a _ G' _ ((ev.step s).new (φs := cL (es a)) hp ⟨vs, rfl, hv, hl a⟩) pa⟩
/-- the list at slot i has changed -/
theorem EnvOk.put {i : Nat} {q : Addr} {φs ψs : Ct} {u : HO} (e : EnvOk c Φ σ G H) (hi : Φ[i]? = some (.own φs)) (hs : σ[i]? = some (some (.ref q))) (hv : ψs.p G u) : EnvOk c (Φ.set i (.own ψs)) σ G (upd H q u) := by
  have il : i < Φ.length := (List.getElem?_eq_some_iff.mp hi).1
  have mi : MutAt Φ σ i q := ⟨⟨_, hi, rfl⟩, hs⟩
  have gq := (e.L.mut ⟨i, mi⟩).2
  have mm : ∀ (j : Nat) (p : Addr), MutAt (Φ.set i (.own ψs)) σ j p → MutAt Φ σ j p := by
    rintro j p ⟨⟨s, h1, h2⟩, h3⟩
    rcases set_at h1 with ⟨rfl, rfl, _⟩ | ⟨n, h1⟩
    · exact ⟨⟨_, hi, rfl⟩, h3⟩
    · exact ⟨⟨s, h1, h2⟩, h3⟩
  have hz := (e.m i φs q hi hs)
  refine ⟨⟨fun a o h => ?_, by simp [e.L.l], fun j s h => ?_, fun x y p h1 h2 => e.L.nd x y p (mm x p h1) (mm y p h2)⟩, e.g, fun a o n h => ?_, e.f, fun j χs p h1 h2 => ?_, fun a ha => ?_, fun j p h1 h2 => ?_⟩
  · have : a ≠ q := fun z => by
      subst z
      rw [gq] at h
      cases h
    rw [upd_ne this]
    exact e.L.s a o h
  · rcases set_at h with ⟨rfl, rfl, hl⟩ | ⟨n, h⟩
    · exact ⟨_, hs, q, u, rfl, upd_same, hv, gq⟩
    · obtain ⟨o, h1, h2⟩ := e.L.sl j s h
      refine ⟨o, h1, h2.keep (same_refl _) (fun p us m ho hp => ?_) fun p m ho => ?_⟩
      · have : p ≠ q := fun z => by
          subst z
          subst ho
          exact n (e.L.nd i j p mi ⟨⟨s, h, m⟩, h1⟩)
        rw [upd_ne this]
        exact hp
      · subst ho
        exact (h2.mutH m).2
  · have : a ≠ q := fun z => by
      subst z
      rw [hz.1] at h
      cases h
    rw [upd_ne this]
    exact e.b a o n h
  · rcases set_at h1 with ⟨rfl, z, _⟩ | ⟨n, h1⟩
    · rw [hs] at h2
      cases h2
      exact hz
    · exact e.m j χs p h1 h2
  · obtain ⟨h1, x, y, h2, h3⟩ := e.k a ha
    have : a ≠ q := fun z => by
      subst z
      exact hz.2 ha
    exact ⟨h1, x, y, by rw [upd_ne this]; exact h2, h3⟩
  · rcases set_at h1 with ⟨rfl, z, _⟩ | ⟨n, h1⟩
    · cases z
    · exact e.r j p h1 h2
/-- x.append(e) -/
theorem nx_app {K : Fg} {i : Nat} {l : List α} {M : α → Prop} (hi : Φ[i]? = some (.own (cL (l.map e)))) (h : MD Φ te m e) (k : ∀ a, NxC c D (Φ.set i (.own (cL ((l ++ [a]).map e)))) (M a)) :
    NxS c (tDrop (tBM K "list" rAppend (tVar i) (tCons te tNil))) D Φ (wRun m fun a => l.length < 100000 ∧ M a) := fun σ G H ev mp => by
  obtain ⟨o, h1, q, u, rfl, h2, ⟨vs, rfl, h3, h5⟩, h4⟩ := ev.L.sl i _ hi
  refine ⟨.ref q, h1, .inl ⟨rfl, _, SqL.of h2⟩, h σ G H ev.L _ _ mp fun a v G' H' pa s hv => ?_⟩
  obtain ⟨o, h1', q', u', e1, h2', ⟨vs', rfl, h3', h5'⟩, h4'⟩ := s.e.sl i _ hi
  rw [h1] at h1'
  cases h1'
  cases e1
  refine ⟨q, vs', _, rfl, rfl, h2', sz_lt (by rw [h3'.length, List.length_map]; exact pa.1), k a σ G' _ ((ev.step s).put hi h1 ⟨_, rfl, ?_, ?_⟩) pa.2⟩
  · rw [List.map_append]
    exact h3'.append (.cons hv .nil)
  · rw [List.length_map, List.length_append]
    exact pa.1
end
end BR
/-! Own layer: loops, comprehensions, owned lists read, beside their plain mirrors. -/
namespace BR
open PySem PySem.Spec PyProof.Rows L2
/-! ### what values are -/
def eL {α : Type} (e : α → Ty) (l : List α) : Ty := ⟨fun G v => (tL (l.map e)).p G v ∧ l.length ≤ 100000, fun _ _ _ s h => ⟨(tL (l.map e)).m _ _ _ s h.1, h.2⟩⟩
def eT {α : Type} (e : α → Ty) (l : List α) : Ty := ⟨fun G v => (tT (l.map e)).p G v ∧ l.length ≤ 100000, fun _ _ _ s h => ⟨(tT (l.map e)).m _ _ _ s h.1, h.2⟩⟩
/-- a list or a tuple -/
def eS {α : Type} (e : α → Ty) (l : List α) : Ty := ⟨fun G v => (tSq (l.map e)).p G v ∧ l.length ≤ 100000, fun _ _ _ s h => ⟨(tSq (l.map e)).m _ _ _ s h.1, h.2⟩⟩
def e2 {α β : Type} (e : α → Ty) (f : β → Ty) (p : α × β) : Ty := tT [e p.1, f p.2]
def e3 {α β γ : Type} (e : α → Ty) (f : β → Ty) (g : γ → Ty) (p : α × β × γ) : Ty := tT [e p.1, f p.2.1, g p.2.2]
def e4 {α β γ δ : Type} (e : α → Ty) (f : β → Ty) (g : γ → Ty) (h : δ → Ty) (p : α × β × γ × δ) : Ty := tT [e p.1, f p.2.1, g p.2.2.1, h p.2.2.2]
def l1 {α : Type} (e : α → Ty) (p : α × Unit) : Ty := tL [e p.1]
def l2 {α β : Type} (e : α → Ty) (f : β → Ty) (p : α × β) : Ty := tL [e p.1, f p.2]
def l3 {α β γ : Type} (e : α → Ty) (f : β → Ty) (g : γ → Ty) (p : α × β × γ) : Ty := tL [e p.1, f p.2.1, g p.2.2]
def eO {α : Type} (e : α → Ty) : Option α → Ty
  | some a => e a
  | none => tN
def eU (_ : Unit) : Ty := tN
/-! ### iterators -/
structure ItOk {α : Type} (J : It) (xs : List α) (e : α → Ty) (G1 : Hp) : Prop where
  go : ∀ i H, i < xs.length → Same G1 H → J.go i H
  stop : ∀ H, Same G1 H → J.stop xs.length H
  yld : ∀ i a H x H' G, xs[i]? = some a → Same G1 G → Same G H → J.yld i H x H' → ∃ G', Grow G H G' H' ∧ (e a).p G' x
def MI (Φ : Sts) (wi : TI) {α : Type} (m : Wp (List α)) (e : α → Ty) : Prop :=
  ∀ σ G H, EnvL Φ σ G H → ∀ (P : List α → Prop) (R : It → Hp → Prop), m P → (∀ xs J G' H', P xs → xs.length ≤ 100000 → Step Φ σ G H G' H' → ItOk J xs e G' → R J H') → wi σ H R
section
variable {K : Fg} {c : Cn} {Φ Ψ : Sts} {σ σ' : St} {G H G' H' : Hp} {N : St → Hp → Prop} {D : Ends} {M M1 M2 : Prop} {t u tu tw : TS} {te tl tb : TE} {tt : TT} {ta : TA} {α β γ τ : Type} {m : Wp α} {e : α → Ty} {f : β → Ty}
theorem mi_seq {m : Wp (List α)} (h : MD Φ tl m (eS e)) : MI Φ (iSeq K tl) m e := fun σ G H ev P R mp k =>
  h σ G H ev _ _ mp fun xs v G1 H1 pa s1 hv => by
    obtain ⟨⟨a, vs, rfl, hl, hall⟩, hz⟩ := hv
    have len : vs.length = xs.length := by rw [hall.length, List.length_map]
    have item : ∀ (i : Nat) b x, xs[i]? = some b → vs[i]? = some x → (e b).p G1 x := fun i b x h1 h2 => by
      obtain ⟨χ, hχ, hp⟩ := hall.get' h2
      rw [List.getElem?_map, h1] at hχ
      cases hχ
      exact hp
    rcases hl with hl | hl
    · refine .inl ⟨a, rfl, ⟨vs, .of (s1.e.s _ _ hl)⟩, k xs _ G1 H1 pa hz s1 ⟨fun i H hi sg => ⟨vs, vs[i]'(by omega), .of (sg _ _ hl), by simp⟩, fun H sg => ⟨vs, .of (sg _ _ hl), by omega⟩, ?_⟩⟩
      rintro i b H x H' G hb sg sh ⟨rfl, hx⟩
      exact ⟨G, .refl sh, (e b).m _ _ _ sg (item i b x hb (hx vs (.of (sh _ _ (sg _ _ hl)))))⟩
    · refine .inr ⟨a, rfl, ⟨vs, .of (s1.e.s _ _ hl)⟩, k xs _ G1 H1 pa hz s1 ⟨fun i H hi sg => ⟨vs, vs[i]'(by omega), .of (sg _ _ hl), by simp⟩, fun H sg => ⟨vs, .of (sg _ _ hl), by omega⟩, ?_⟩⟩
      rintro i b H x H' G hb sg sh ⟨rfl, hx⟩
      exact ⟨G, .refl sh, (e b).m _ _ _ sg (item i b x hb (hx vs (.of (sh _ _ (sg _ _ hl)))))⟩
theorem MD.ofL {m : Wp (List α)} (h : MD Φ tl m (eL e)) : MD Φ tl m (eS e) := h.enc fun a G v ⟨⟨p, vs, h1, h2, h3⟩, h4⟩ => ⟨⟨p, vs, h1, .inl h2, h3⟩, h4⟩
theorem MD.ofT {m : Wp (List α)} (h : MD Φ tl m (eT e)) : MD Φ tl m (eS e) := h.enc fun a G v ⟨⟨p, vs, h1, h2, h3⟩, h4⟩ => ⟨⟨p, vs, h1, .inr h2, h3⟩, h4⟩
def rng (i j : Int) : List Int := (List.range (j - i).toNat).map fun (k : Nat) => i + (k : Int)
theorem rng_at {i j b : Int} {k : Nat} (h : (rng i j)[k]? = some b) : b = i + k := by
  unfold rng at h
  rw [List.getElem?_map] at h
  obtain ⟨x, h1, rfl⟩ := Option.map_eq_some_iff.mp h
  rw [List.getElem?_range] at h1
  · cases h1
    rfl
  · rcases Nat.lt_or_ge k (j - i).toNat with z | z
    · exact z
    · rw [List.getElem?_eq_none (by simpa using z)] at h1
      cases h1
theorem rng_len {i j : Int} : (rng i j).length = (j - i).toNat := by simp [rng]
def InR (n : Int) : Prop := -(2 ^ 62) ≤ n ∧ n ≤ 100000
def InR2 (i j : Int) : Prop := -(2 ^ 61) ≤ i ∧ i < 2 ^ 61 ∧ -(2 ^ 61) ≤ j ∧ j - i ≤ 100000
theorem mi_rng1 {m : Wp Int} (h : MD Φ te m tI) : MI Φ (iRng1 (tCons te tNil)) (wBind m fun n => wG (InR n) (rng 0 n)) tI := fun σ G H ev P R mp k =>
  h σ G H ev _ _ mp fun n v G1 H1 pa s1 hv => by
    cases hv
    have hz : (rng 0 n).length ≤ 100000 := by
      rw [rng_len]
      have := pa.1.2
      omega
    refine ⟨n, rfl, pa.1.1, Int.lt_of_le_of_lt pa.1.2 (by decide), k _ _ G1 H1 pa.2 hz s1 ⟨fun i H hi _ => ?_, fun H _ => ?_, ?_⟩⟩
    · rw [rng_len] at hi
      show i < n.toNat
      simpa using hi
    · show n.toNat ≤ (rng 0 n).length
      rw [rng_len]
      simp
    · rintro i b H x H' G hb sg sh ⟨rfl, rfl⟩
      exact ⟨G, .refl sh, by rw [rng_at hb]; rfl⟩
theorem mi_rng2 {m n : Wp Int} (h : MD Φ te m tI) (h2 : MD Φ tb n tI) : MI Φ (iRng2 (tCons te (tCons tb tNil))) (wBind m fun i => wBind n fun j => wG (InR2 i j) (rng i j)) tI := fun σ G H ev P R mp k =>
  h σ G H ev _ _ mp fun i v G1 H1 pa s1 hv => h2 σ G1 H1 s1.e _ _ pa fun j w G2 H2 pb s2 hw => by
    cases hv
    cases hw
    obtain ⟨⟨b1, b2, b3, b4⟩, pb⟩ := pb
    have hz : (rng i j).length ≤ 100000 := by
      rw [rng_len]
      omega
    refine ⟨i, j, rfl, ⟨by omega, by omega, by omega, by omega⟩, k _ _ G2 H2 pb hz (s1.trans s2) ⟨fun k H hi _ => ?_, fun H _ => ?_, ?_⟩⟩
    · rw [rng_len] at hi
      exact hi
    · show (j - i).toNat ≤ (rng i j).length
      rw [rng_len]
      exact Nat.le_refl _
    · rintro k b H x H' G hb sg sh ⟨rfl, rfl⟩
      exact ⟨G, .refl sh, by rw [rng_at hb]; rfl⟩
theorem mi_zip {m : Wp (List α)} {n : Wp (List β)} (h : MD Φ te m (eL e)) (h2 : MD Φ tb n (eL f)) : MI Φ (iZip K (tCons te (tCons tb tNil))) (wBind m fun a => wBind n fun b => wPure (a.zip b)) (e2 e f) := fun σ G H ev P R mp k =>
  h σ G H ev _ _ mp fun as v G1 H1 pa s1 hv => h2 σ G1 H1 s1.e _ _ pa fun bs w G2 H2 pb s2 hw => by
    obtain ⟨⟨a, us, rfl, ha, hus⟩, hz1⟩ := hv
    obtain ⟨⟨b, ws, rfl, hb, hws⟩, _⟩ := hw
    have ha2 := s2.g _ _ ha
    have hus2 := hus.mono s2.g
    have lu : us.length = as.length := by rw [hus.length, List.length_map]
    have lw : ws.length = bs.length := by rw [hws.length, List.length_map]
    refine ⟨a, b, us, ws, rfl, .of (s2.e.s _ _ ha2), .of (s2.e.s _ _ hb), k _ _ G2 H2 pb (by rw [List.length_zip]; omega) (s1.trans s2) ⟨fun i H hi sg => ?_, fun H sg => ?_, ?_⟩⟩
    · rw [List.length_zip] at hi
      exact ⟨us, ws, us[i]'(by omega), ws[i]'(by omega), .of (sg _ _ ha2), .of (sg _ _ hb), by simp, by simp⟩
    · rw [List.length_zip]
      exact ⟨us, ws, .of (sg _ _ ha2), .of (sg _ _ hb), by omega⟩
    · rintro i ⟨x, y⟩ H _ H' G hi sg sh ⟨T, x', y', rfl, hT, rfl, hx, hy⟩
      have hx := hx us (.of (sh _ _ (sg _ _ ha2)))
      have hy := hy ws (.of (sh _ _ (sg _ _ hb)))
      rw [List.getElem?_zip_eq_some] at hi
      obtain ⟨χ, hχ, hp⟩ := hus2.get' hx
      rw [List.getElem?_map, hi.1] at hχ
      cases hχ
      obtain ⟨χ, hχ, hp2⟩ := hws.get' hy
      rw [List.getElem?_map, hi.2] at hχ
      cases hχ
      have g2 : Grow G H (upd G T (.tup [x', y'])) (upd H T (.tup [x', y'])) := .new sh hT
      exact ⟨_, g2, T, _, rfl, upd_same, .cons ((e x).m _ _ _ (sg.trans g2.g) hp) (.cons ((f y).m _ _ _ (sg.trans g2.g) hp2) .nil)⟩
/-! ### for -/
theorem cle_at {G1 : Hp} (s : Same c.G0 G1) (hf : ∀ a, c.G0 a = none → G1 a ≠ none → c.H0 a = none) : CLe { c with G0 := G1 } c := fun Φ σ G H ev => ⟨ev.L, s.trans ev.g, ev.b, fun a h h' => by
    by_cases z : G1 a = none
    · exact ev.f a z h'
    · exact hf a h z, ev.m, ev.k, ev.r⟩
theorem at_cle {G1 : Hp} (ev : EnvOk c Φ σ G H) (s0 : Same c.G0 G1) (s : Same G1 G) : EnvOk { c with G0 := G1 } Φ σ G H := ⟨ev.L, s, ev.b, fun a h h' => ev.f a (s0.free h) h', ev.m, ev.k, ev.r⟩
def wFor {α τ : Type} : List α → τ → (α → τ → (τ → Prop) → (τ → Prop) → Prop) → (τ → Prop) → Prop
  | [], s, _, k => k s
  | x :: xs, s, b, k => b x s (fun s' => wFor xs s' b k) k
theorem nx_for {wi : TI} {g : TG} {tb : TS} {js : List Nat} {m : Wp (List α)} {s0 : τ} {Ψ : τ → Sts} {Χ : α → τ → Sts} {b : α → τ → (τ → Prop) → (τ → Prop) → Prop} {k : τ → Prop} (h : MI Φ wi m e) (hs : LeE Φ (Ψ s0)) (hg : ∀ x s, GM g (Ψ s) (e x) (Χ x s) js)
    (hk : ∀ s, NxC c D (Ψ s) (k s)) (hb : ∀ c', CLe c' c → (∀ s, NxC c' D (Ψ s) (k s)) → ∀ x s n N, (∀ s', Nx c' N (Ψ s') (n s')) → NxS c' tb { D with nx := N, ct := N, bk := D.nx } (Χ x s) (b x s n k)) :
    NxS c (tFor wi g tb) D Φ (wRun m fun xs => wFor xs s0 b k) := fun σ G H ev mp =>
  h σ G H ev.L _ _ mp fun xs J G1 H1 pa _ s1 it => by
    have sG := ev.g.trans s1.g
    have cl := cle_at sG (ev.step s1).f
    refine ⟨fun i m σ' H' => m = xs.length - i ∧ i ≤ xs.length ∧ ∃ s G', Same G1 G' ∧ EnvOk c (Ψ s) σ' G' H' ∧ wFor (xs.drop i) s b k, ⟨_, rfl, Nat.zero_le _, s0, G1, same_refl _, (ev.step s1).less hs, by simpa using pa⟩, ?_⟩
    rintro i m σ' H' ⟨rfl, hi, s, G', sg, ev', w⟩
    rcases Nat.lt_or_ge i xs.length with hlt | hge
    · refine .inr ⟨it.go i H' hlt (sg.trans ev'.L.s), fun σ2 H2 => ∃ s G', Same G1 G' ∧ EnvOk c (Ψ s) σ2 G' H2 ∧ wFor (xs.drop (i + 1)) s b k, fun σ2 H2 ⟨s, G', p1, p2, p3⟩ => ⟨_, by omega, rfl, hlt, s, G', p1, p2, p3⟩, ?_⟩
      intro x H2 hy
      obtain ⟨G2, gr, hx⟩ := it.yld i (xs[i]) H' x H2 G' (by simp [hlt]) sg ev'.L.s hy
      have ev2 := ev'.step (.grow ev'.L gr)
      rw [List.drop_eq_getElem_cons hlt] at w
      refine hg (xs[i]) s σ' G2 H2 x ev2.L hx _ fun σ2 tg => ?_
      exact hb { c with G0 := G1 } cl (fun s => (hk s).le cl) (xs[i]) s (fun s' => wFor (xs.drop (i + 1)) s' b k) _ (fun s' σ3 G3 H3 ev3 w3 => ⟨s', G3, ev3.g, cl _ _ _ _ ev3, w3⟩) σ2 G2 H2 (at_cle (tg.envOk ev2) sG (sg.trans gr.g)) w
    · have e1 : i = xs.length := Nat.le_antisymm hi hge
      subst e1
      refine .inl ⟨it.stop H' (sg.trans ev'.L.s), ?_⟩
      rw [List.drop_length] at w
      exact hk s σ' G' H' ev' w
/-! ### while -/
def wWhile {τ : Type} (s : τ) (c : τ → Wp Bool) (b : τ → (τ → Prop) → (τ → Prop) → Prop) (k : τ → Prop) : Prop :=
  ∃ W : Nat → τ → Prop, (∃ m, W m s) ∧ ∀ m s, W m s → c s fun x => if x = true then b s (fun s' => ∃ m', m' < m ∧ W m' s') k else k s
theorem nx_while {tb : TS} {s0 : τ} {Ψ : τ → Sts} {cm : τ → Wp Bool} {b : τ → (τ → Prop) → (τ → Prop) → Prop} {k : τ → Prop} (hs : LeE Φ (Ψ s0)) (hc : ∀ s, MT (Ψ s) tt (cm s))
    (hk : ∀ s, NxC c D (Ψ s) (k s)) (hb : (∀ s, NxC c D (Ψ s) (k s)) → ∀ s n N, (∀ s', Nx c N (Ψ s') (n s')) → NxS c tb { D with nx := N, ct := N, bk := D.nx } (Ψ s) (b s n k)) :
    NxS c (tWhile tt tb) D Φ (wWhile s0 cm b k) := fun σ G H ev ⟨W, ⟨m0, w0⟩, hW⟩ => by
  refine ⟨fun m σ' H' => ∃ s G', EnvOk c (Ψ s) σ' G' H' ∧ W m s, ⟨m0, s0, G, ev.less hs, w0⟩, ?_⟩
  rintro m σ' H' ⟨s, G', ev', w⟩
  refine hc s σ' G' H' ev'.L _ _ (hW m s w) fun x G2 H2 px s2 => ?_
  cases x with
  | true =>
    rw [if_pos rfl] at px ⊢
    exact ⟨fun σ3 H3 => ∃ m', m' < m ∧ ∃ s G', EnvOk c (Ψ s) σ3 G' H3 ∧ W m' s, fun σ3 H3 ⟨m', h1, h2⟩ => ⟨m', h1, h2⟩, hb hk s (fun s' => ∃ m', m' < m ∧ W m' s') _ (fun s' σ3 G3 H3 ev3 ⟨m', h1, h2⟩ => ⟨m', h1, s', G3, ev3, h2⟩) σ' G2 H2 (ev'.step s2) px⟩
  | false =>
    rw [if_neg (by decide)] at px ⊢
    exact hk s σ' G2 H2 (ev'.step s2) px
/-! ### comprehensions -/
def wipeE (Φ : Sts) : List Nat → Sts
  | [] => Φ
  | v :: vs => (wipeE Φ vs).set v .un
theorem wipeE_len (Φ : Sts) : ∀ vs : List Nat, (wipeE Φ vs).length = Φ.length
  | [] => rfl
  | v :: vs => by unfold wipeE; rw [List.length_set, wipeE_len Φ vs]
theorem wipeE_at (Φ : Sts) : ∀ (vs : List Nat) (i : Nat), (wipeE Φ vs)[i]? = if i ∈ vs ∧ i < Φ.length then some .un else Φ[i]?
  | [], i => by simp [wipeE]
  | v :: vs, i => by
    unfold wipeE
    rw [List.getElem?_set, wipeE_len, wipeE_at Φ vs i]
    by_cases e : v = i
    · subst e
      by_cases h : v < Φ.length
      · simp [h]
      · simp [h]
    · have e' : ¬ i = v := fun z => e z.symm
      simp [e, e']
/-- no slot of vs is changed in place -/
def calmE (Φ : Sts) (vs : List Nat) : Bool := vs.all fun v => match Φ[v]? with
  | some s => !s.mu
  | none => true
theorem calm_at {vs : List Nat} (h : calmE Φ vs = true) {i : Nat} {s : Slot} (hs : Φ[i]? = some s) (m : s.mu = true) : i ∉ vs := fun z => by
  have := List.all_eq_true.mp h i z
  rw [hs] at this
  simp [m] at this
theorem EnvL.wipe {vs : List Nat} (ev : EnvL Φ σ G H) : EnvL (wipeE Φ vs) (wipe σ vs) G H := by
  have mm : ∀ (j : Nat) (q : Addr), MutAt (wipeE Φ vs) (L2.wipe σ vs) j q → MutAt Φ σ j q := fun j q ⟨⟨s, h1, h2⟩, h3⟩ => by
    rw [wipeE_at] at h1
    rw [wipe_at, ev.l] at h3
    split at h1
    · cases h1
      cases h2
    · rename_i z
      rw [if_neg z] at h3
      exact ⟨⟨s, h1, h2⟩, h3⟩
  refine ⟨ev.s, by rw [wipe_length, wipeE_len]; exact ev.l, fun i s h => ?_, fun x y q h1 h2 => ev.nd x y q (mm x q h1) (mm y q h2)⟩
  rw [wipeE_at] at h
  rw [wipe_at, ev.l]
  split at h
  · rename_i z
    cases h
    exact ⟨none, by rw [if_pos z], trivial⟩
  · rename_i z
    rw [if_neg z]
    exact ev.sl i s h
/-- behind a step inside: a step outside -/
theorem Step.back {vs js : List Nat} {Χ : Sts} {σ2 : St} {G1 H1 G2 H2 : Hp} (ev : EnvL Φ σ G1 H1) (hw : calmE Φ vs = true) (hj : ∀ j ∈ js, j ∈ vs) {G0 : Hp} (tg : Tgt (wipeE Φ vs) (wipe σ vs) Χ σ2 js G0) (s : Step Χ σ2 G1 H1 G2 H2) : Step Φ σ G1 H1 G2 H2 := by
  have look : ∀ (i : Nat) (sl : Slot), Φ[i]? = some sl → sl.mu = true → Χ[i]? = some sl ∧ σ2[i]? = σ[i]? := fun i sl h m => by
    have nv := calm_at hw h m
    obtain ⟨a, b⟩ := tg.o i fun z => nv (hj i z)
    rw [wipe_at, if_neg fun z => nv z.1] at a
    rw [wipeE_at, if_neg fun z => nv z.1] at b
    exact ⟨b ▸ h, a⟩
  refine ⟨⟨s.e.s, ev.l, fun i sl h => ?_, ev.nd⟩, s.g, fun a o m h => s.b a o (fun z => m ?_) h, s.f⟩
  · obtain ⟨o, h1, h2⟩ := ev.sl i sl h
    cases m : sl.mu with
    | true =>
      obtain ⟨a, b⟩ := look i sl h m
      obtain ⟨o', h3, h4⟩ := s.e.sl i sl a
      exact ⟨o', b ▸ h3, h4⟩
    | false => exact ⟨o, h1, h2.keep s.g (fun q ws mu => by rw [m] at mu; cases mu) fun q mu => by rw [m] at mu; cases mu⟩
  · obtain ⟨i, ⟨sl, h1, h2⟩, h3⟩ := tg.mutS z
    rw [wipeE_at] at h1
    rw [wipe_at, ev.l] at h3
    split at h1
    · cases h1
      cases h2
    · rename_i w
      rw [if_neg w] at h3
      exact ⟨i, ⟨sl, h1, h2⟩, h3⟩
theorem wipe_wipe (σ : St) (vs : List Nat) : wipe (wipe σ vs) vs = wipe σ vs := by
  refine List.ext_getElem? fun i => ?_
  rw [wipe_at, wipe_at, wipe_length]
  split <;> rfl
def wLcA {α β : Type} : List α → (α → Wp Bool) → (α → Wp β) → List β → Wp (List β)
  | [], _, _, acc => wPure acc
  | x :: xs, c, e, acc => fun P => c x fun b => if b = true then e x fun y => wLcA xs c e (acc ++ [y]) P else wLcA xs c e acc P
def wLc {α β : Type} (xs : List α) (c : α → Wp Bool) (e : α → Wp β) : Wp (List β) := wLcA xs c e []
/-- while the list at D is filled -/
structure LcI (Φ : Sts) (σ : St) (G1 H1 : Hp) (D : Addr) (φs : List Ty) (H : Hp) (G' : Hp) (ws : List V) : Prop where
  s : Step Φ σ G1 H1 G' H
  n : G' D = none
  d : H D = some (.lst ws)
  a : All G' φs ws
theorem notMut {D : Addr} {G1 H1 : Hp} (ev : EnvL Φ σ G1 H1) (hD : H1 D = none) : ¬ Muts Φ σ D := fun z => by
  obtain ⟨⟨vs, h⟩, _⟩ := ev.mut z
  rw [hD] at h
  cases h
theorem LcI.step {D : Addr} {φs : List Ty} {G1 H1 H2 G2 : Hp} {ws : List V} (h : LcI Φ σ G1 H1 D φs H G' ws) (nD : ¬ Muts Φ σ D) (s : Step Φ σ G' H G2 H2) : LcI Φ σ G1 H1 D φs H2 G2 ws := by
  refine ⟨h.s.trans s, ?_, s.b _ _ nD h.d, h.a.mono s.g⟩
  cases z : G2 D with
  | none => rfl
  | some o =>
    have := s.f D h.n (by rw [z]; exact fun w => nomatch w)
    rw [h.d] at this
    cases this
theorem step_rest {G1 H1 H2 : Hp} (ev : EnvL Φ σ G1 H1) (s : Same H1 H2) : Step Φ σ G1 H1 G1 H2 := .grow ev (.rest ev.s s)
theorem step_upd {G1 H1 : Hp} {D : Addr} {o : HO} (ev : EnvL Φ σ G1 H1) (nD : ¬ Muts Φ σ D) (hg : G1 D = none) : EnvL Φ σ G1 (upd H1 D o) := by
  refine ⟨same_upd ev.s hg, ev.l, fun i sl h => ?_, ev.nd⟩
  obtain ⟨x, h1, h2⟩ := ev.sl i sl h
  refine ⟨x, h1, h2.keep (same_refl _) (fun q vs m ho hq => ?_) fun q m ho => ?_⟩
  · have : q ≠ D := fun z => by
      subst z
      subst ho
      exact nD ⟨i, ⟨sl, h, m⟩, h1⟩
    rw [upd_ne this]
    exact hq
  · subst ho
    exact (h2.mutH m).2
theorem LcI.put {D : Addr} {φs : List Ty} {ψ : Ty} {G1 H1 : Hp} {ws : List V} {v : V} (h : LcI Φ σ G1 H1 D φs H G' ws) (hD : H1 D = none) (nD : ¬ Muts Φ σ D) (hv : ψ.p G' v) : LcI Φ σ G1 H1 D (φs ++ [ψ]) (upd H D (.lst (ws ++ [v]))) G' (ws ++ [v]) := by
  refine ⟨⟨step_upd h.s.e nD h.n, h.s.g, fun a o m ha => ?_, h.s.f⟩, h.n, upd_same, h.a.append (.cons hv .nil)⟩
  have : a ≠ D := ne_of_none ha hD
  rw [upd_ne this]
  exact h.s.b a o m ha
theorem LcI.fin {D : Addr} {φs : List Ty} {G1 H1 : Hp} {ws : List V} (h : LcI Φ σ G1 H1 D φs H G' ws) (hD : H1 D = none) (nD : ¬ Muts Φ σ D) : ∃ G2, Step Φ σ G1 H1 G2 H ∧ (tL φs).p G2 (.ref D) := by
  have sg : Same G' (upd G' D (.lst ws)) := same_new h.n
  refine ⟨upd G' D (.lst ws), ⟨⟨fun a o e => ?_, h.s.e.l, fun i sl hi => ?_, h.s.e.nd⟩, h.s.g.trans sg, h.s.b, fun a ha hb => ?_⟩, D, ws, rfl, upd_same, h.a.mono sg⟩
  · by_cases z : a = D
    · subst z
      rw [upd_same] at e
      cases e
      exact h.d
    · rw [upd_ne z] at e
      exact h.s.e.s a o e
  · obtain ⟨x, h1, h2⟩ := h.s.e.sl i sl hi
    refine ⟨x, h1, h2.keep sg (fun _ _ _ _ q => q) fun q m ho => ?_⟩
    have : q ≠ D := fun z => by
      subst z
      subst ho
      exact nD ⟨i, ⟨sl, hi, m⟩, h1⟩
    rw [upd_ne this]
    subst ho
    exact (h2.mutH m).2
  · by_cases z : a = D
    · subst z
      exact hD
    · rw [upd_ne z] at hb
      exact h.s.f a ha hb
theorem md_lc {wi : TI} {g : TG} {te : TE} {vs js : List Nat} {m : Wp (List α)} {mc : α → Wp Bool} {me : α → Wp β} {Χ : α → Sts} (h : MI Φ wi m e) (hw : calmE Φ vs = true) (hg : ∀ x, GM g (wipeE Φ vs) (e x) (Χ x) js) (hj : ∀ j ∈ js, j ∈ vs)
    (hc : ∀ x, MT (Χ x) tt (mc x)) (he : ∀ x, MD (Χ x) te (me x) f) : MD Φ (tLc wi g tt te vs) (wBind m fun xs => wLc xs mc me) (eL f) := fun σ G H ev P Q mp k =>
  h σ G H ev _ _ mp fun xs J G1 H1 pa hz s1 it => by
    intro D hD
    have nD := notMut s1.e hD
    refine ⟨fun i m H' => m = xs.length - i ∧ i ≤ xs.length ∧ ∃ acc : List β, acc.length ≤ i ∧ (∃ G' ws, LcI Φ σ G1 H1 D (acc.map f) H' G' ws) ∧ wLcA (xs.drop i) mc me acc P, ⟨_, rfl, Nat.zero_le _, [], Nat.le_refl _, ⟨G1, [], step_rest s1.e (same_new hD), s1.e.s.free hD, upd_same, .nil⟩, by rw [List.drop_zero]; exact pa⟩, ?_⟩
    rintro i m H' ⟨rfl, hi, acc, ha, ⟨G', ws, L⟩, w⟩
    rcases Nat.lt_or_ge i xs.length with hlt | hge
    · refine .inr ⟨it.go i H' hlt (L.s.g.trans L.s.e.s), fun H2 => ∃ acc : List β, acc.length ≤ i + 1 ∧ (∃ G' ws, LcI Φ σ G1 H1 D (acc.map f) H2 G' ws) ∧ wLcA (xs.drop (i + 1)) mc me acc P, fun H2 ⟨acc, p1, p2, p3⟩ => ⟨_, by omega, rfl, hlt, acc, p1, p2, p3⟩, ?_⟩
      intro x H2 hy
      obtain ⟨G2, gr, hx⟩ := it.yld i (xs[i]) H' x H2 G' (by simp [hlt]) L.s.g L.s.e.s hy
      have L2 := L.step nD (.grow L.s.e gr)
      rw [List.drop_eq_getElem_cons hlt] at w
      refine hg (xs[i]) _ G2 H2 x L2.s.e.wipe hx _ fun σ2 tg => ⟨?_, ?_⟩
      · rw [tg.wipe hj, wipe_wipe]
      · refine hc (xs[i]) σ2 G2 H2 (tg.envL L2.s.e.wipe) _ _ w fun b G3 H3 pb s3 => ?_
        have L3 := L2.step nD (s3.back L2.s.e hw hj tg)
        cases b with
        | true =>
          rw [if_pos rfl] at pb ⊢
          refine he (xs[i]) σ2 G3 H3 s3.e _ _ pb fun y v G4 H4 py s4 hv => ?_
          have L4 := L3.step nD (s4.back L3.s.e hw hj tg)
          refine ⟨ws, L4.d, sz_lt ?_, acc ++ [y], by simp; omega, ⟨G4, ws ++ [v], ?_⟩, py⟩
          · rw [L4.a.length, List.length_map]
            omega
          · rw [List.map_append]
            exact L4.put hD nD hv
        | false =>
          rw [if_neg (by decide)] at pb ⊢
          exact ⟨acc, by omega, ⟨G3, ws, L3⟩, pb⟩
    · have e1 : i = xs.length := Nat.le_antisymm hi hge
      subst e1
      rw [List.drop_length] at w
      obtain ⟨G2, s2, hv⟩ := L.fin hD nD
      exact .inl ⟨it.stop H' (L.s.g.trans L.s.e.s), k acc _ G2 H' w (s1.trans s2) ⟨hv, by omega⟩⟩
end
end BR
/-! Own layer: operators and built-ins beside their plain mirrors. -/
namespace BR
open PySem PySem.Spec PyProof.Rows L2
def wIx {α : Type} (l : List α) (i : Int) : Wp α := fun P => ∃ x, atI l i = some x ∧ P x
/-! ### data -/
class DatE {α : Type} (e : α → Ty) where
  d : α → PyData
  n : Nat
  to : ∀ a G v, (e a).p G v → (dt (d a)).p G v
  lay : ∀ a, Lay (d a) n
class EqE {α : Type} [DecidableEq α] (e : α → Ty) extends DatE e where
  eq : ∀ a b, PyData.eqv (d a) (d b) = decide (a = b)
theorem All.dts {α : Type} {e : α → Ty} [DatE e] {G : Hp} : ∀ {l : List α} {vs : List V}, All G (l.map e) vs → All G ((l.map (DatE.d e)).map dt) vs
  | [], _, .nil => .nil
  | a :: l, _, .cons h t => .cons (DatE.to a _ _ h) t.dts
instance : DatE tI := ⟨.int, 1, fun a G v h => h, fun a => .int a⟩
instance : DatE tBo := ⟨.bool, 1, fun a G v h => h, fun a => .bool a⟩
instance : DatE eU := ⟨fun _ => .none, 1, fun a G v h => h, fun a => ⟨rfl, by simp [PyData.depth]⟩⟩
instance {α : Type} {e : α → Ty} [h : DatE e] : DatE (eL e) := ⟨fun l => .list (l.map h.d), h.n + 2, fun a G v hv => by
  obtain ⟨⟨p, vs, h1, h2, h3⟩, _⟩ := hv
  rw [dt_list]
  exact ⟨p, vs, h1, h2, h3.dts⟩, fun a => Lay.list fun d hd => by
  obtain ⟨x, _, rfl⟩ := List.mem_map.mp hd
  exact h.lay x⟩
instance {α : Type} {e : α → Ty} [h : DatE e] : DatE (eT e) := ⟨fun l => .tuple (l.map h.d), h.n + 2, fun a G v hv => by
  obtain ⟨⟨p, vs, h1, h2, h3⟩, _⟩ := hv
  rw [dt_tuple]
  exact ⟨p, vs, h1, h2, h3.dts⟩, fun a => Lay.tuple fun d hd => by
  obtain ⟨x, _, rfl⟩ := List.mem_map.mp hd
  exact h.lay x⟩
instance {α β : Type} {e : α → Ty} {f : β → Ty} [h : DatE e] [k : DatE f] : DatE (e2 e f) := ⟨fun p => .tuple [h.d p.1, k.d p.2], max h.n k.n + 2, fun a G v hv => by
  obtain ⟨p, vs, h1, h2, h3⟩ := hv
  rw [dt_tuple]
  cases h3 with
  | cons h4 h5 =>
    cases h5 with
    | cons h5 h6 =>
      cases h6
      exact ⟨p, _, h1, h2, .cons (h.to _ _ _ h4) (.cons (k.to _ _ _ h5) .nil)⟩, fun a => Lay.tuple fun d hd => by
  simp only [List.mem_cons, List.not_mem_nil, or_false] at hd
  rcases hd with rfl | rfl
  · exact (h.lay _).mono (Nat.le_max_left _ _)
  · exact (k.lay _).mono (Nat.le_max_right _ _)⟩
instance {α β γ : Type} {e : α → Ty} {f : β → Ty} {g : γ → Ty} [h : DatE e] [k : DatE f] [l : DatE g] : DatE (e3 e f g) := ⟨fun p => .tuple [h.d p.1, k.d p.2.1, l.d p.2.2], h.n + k.n + l.n + 2, fun a G v hv => by
  obtain ⟨p, vs, h1, h2, h3⟩ := hv
  rw [dt_tuple]
  cases h3 with
  | cons h4 h5 =>
    cases h5 with
    | cons h5 h6 =>
      cases h6 with
      | cons h6 h7 =>
        cases h7
        exact ⟨p, _, h1, h2, .cons (h.to _ _ _ h4) (.cons (k.to _ _ _ h5) (.cons (l.to _ _ _ h6) .nil))⟩, fun a => Lay.tuple fun d hd => by
  simp only [List.mem_cons, List.not_mem_nil, or_false] at hd
  rcases hd with rfl | rfl | rfl
  · exact (h.lay _).mono (by omega)
  · exact (k.lay _).mono (by omega)
  · exact (l.lay _).mono (by omega)⟩
instance {α β γ δ : Type} {e : α → Ty} {f : β → Ty} {g : γ → Ty} {i : δ → Ty} [h : DatE e] [k : DatE f] [l : DatE g] [m : DatE i] : DatE (e4 e f g i) := ⟨fun p => .tuple [h.d p.1, k.d p.2.1, l.d p.2.2.1, m.d p.2.2.2], h.n + k.n + l.n + m.n + 2, fun a G v hv => by
  obtain ⟨p, vs, h1, h2, h3⟩ := hv
  rw [dt_tuple]
  cases h3 with
  | cons h4 h5 =>
    cases h5 with
    | cons h5 h6 =>
      cases h6 with
      | cons h6 h7 =>
        cases h7 with
        | cons h7 h8 =>
          cases h8
          exact ⟨p, _, h1, h2, .cons (h.to _ _ _ h4) (.cons (k.to _ _ _ h5) (.cons (l.to _ _ _ h6) (.cons (m.to _ _ _ h7) .nil)))⟩, fun a => Lay.tuple fun d hd => by
  simp only [List.mem_cons, List.not_mem_nil, or_false] at hd
  rcases hd with rfl | rfl | rfl | rfl
  · exact (h.lay _).mono (by omega)
  · exact (k.lay _).mono (by omega)
  · exact (l.lay _).mono (by omega)
  · exact (m.lay _).mono (by omega)⟩
instance {α : Type} {e : α → Ty} [h : DatE e] : DatE (eO e) := ⟨fun o => match o with | some a => h.d a | none => .none, h.n + 1, fun a G v hv => by
  cases a with
  | none => exact hv
  | some a => exact h.to _ _ _ hv, fun a => by
  cases a with
  | none => exact ⟨rfl, by simp [PyData.depth]⟩
  | some a => exact (h.lay a).mono (by omega)⟩
instance : EqE tI := ⟨fun a b => by simp only [DatE.d, PyData.eqv]; rw [Bool.eq_iff_iff]; simp⟩
instance : EqE tBo := ⟨fun a b => by cases a <;> cases b <;> simp [DatE.d, PyData.eqv]⟩
instance {α : Type} [DecidableEq α] {e : α → Ty} [h : EqE e] : EqE (eL e) := ⟨fun a b => by
  simp only [DatE.d, PyData.eqv]
  exact eqvAll_map h.eq a b⟩
instance {α : Type} [DecidableEq α] {e : α → Ty} [h : EqE e] : EqE (eT e) := ⟨fun a b => by
  simp only [DatE.d, PyData.eqv]
  exact eqvAll_map h.eq a b⟩
instance {α β : Type} [DecidableEq α] [DecidableEq β] {e : α → Ty} {f : β → Ty} [h : EqE e] [k : EqE f] : EqE (e2 e f) := ⟨fun ⟨a, a'⟩ ⟨b, b'⟩ => by
  simp only [DatE.d, PyData.eqv, PyData.eqvAll, Bool.and_true, h.eq, k.eq, Prod.mk.injEq, Bool.decide_and]⟩
instance {α β γ : Type} [DecidableEq α] [DecidableEq β] [DecidableEq γ] {e : α → Ty} {f : β → Ty} {g : γ → Ty} [h : EqE e] [k : EqE f] [l : EqE g] : EqE (e3 e f g) := ⟨fun ⟨a, a', a''⟩ ⟨b, b', b''⟩ => by
  simp only [DatE.d, PyData.eqv, PyData.eqvAll, Bool.and_true, h.eq, k.eq, l.eq, Prod.mk.injEq, Bool.decide_and]⟩
instance {α β γ δ : Type} [DecidableEq α] [DecidableEq β] [DecidableEq γ] [DecidableEq δ] {e : α → Ty} {f : β → Ty} {g : γ → Ty} {i : δ → Ty} [h : EqE e] [k : EqE f] [l : EqE g] [m : EqE i] : EqE (e4 e f g i) := ⟨fun ⟨a, a', a'', a3⟩ ⟨b, b', b'', b3⟩ => by
  simp only [DatE.d, PyData.eqv, PyData.eqvAll, Bool.and_true, h.eq, k.eq, l.eq, m.eq, Prod.mk.injEq, Bool.decide_and]⟩
section
variable {K : Fg} {c : Cn} {Φ : Sts} {ta tb te tl tc : TE} {tr : TA} {α β γ : Type} {m n : Wp Int} {e : α → Ty} {f : β → Ty} {D : Ends}
/-! ### ints -/
theorem md_ii {r : R2} {C : Int → Int → Prop} {o : Int → Int → γ} {g : γ → Ty} (ha : MD Φ ta m tI) (hb : MD Φ tb n tI) (hr : ∀ i j σ G, C i j → PD (tOp r (tC (.int i)) (tC (.int j))) σ G G (g (o i j))) : MD Φ (tOp r ta tb) (wBind m fun i => wBind n fun j => wG (C i j) (o i j)) g :=
  md_op ha hb fun i j x y σ G P hx hy hp => by
    cases hx
    cases hy
    exact ⟨_, hp.2, hr i j σ G hp.1⟩
theorem md_i2 {r : R2} {o : Int → Int → γ} {g : γ → Ty} (ha : MD Φ ta m tI) (hb : MD Φ tb n tI) (hr : ∀ i j σ G, PD (tOp r (tC (.int i)) (tC (.int j))) σ G G (g (o i j))) : MD Φ (tOp r ta tb) (wBind m fun i => wBind n fun j => wPure (o i j)) g :=
  md_op ha hb fun i j x y σ G P hx hy hp => by
    cases hx
    cases hy
    exact ⟨_, hp, hr i j σ G⟩
theorem md_add (ha : MD Φ ta m tI) (hb : MD Φ tb n tI) : MD Φ (tOp (rAddX K) ta tb) (wBind m fun i => wBind n fun j => wPure (i + j)) tI := md_i2 ha hb fun i j σ G => pd_add pd_c pd_c
theorem md_sub (ha : MD Φ ta m tI) (hb : MD Φ tb n tI) : MD Φ (tOp rSubI ta tb) (wBind m fun i => wBind n fun j => wPure (i - j)) tI := md_i2 ha hb fun i j σ G => pd_sub pd_c pd_c
theorem md_mul (ha : MD Φ ta m tI) (hb : MD Φ tb n tI) : MD Φ (tOp rMulI ta tb) (wBind m fun i => wBind n fun j => wG (CMulW i j) (i * j)) tI := md_ii ha hb fun i j σ G h => pd_mul pd_c pd_c h
theorem md_div (ha : MD Φ ta m tI) (hb : MD Φ tb n tI) : MD Φ (tOp rDivI ta tb) (wBind m fun i => wBind n fun j => wG (CDivW i j) (i / j)) tI := md_ii ha hb fun i j σ G h => pd_div pd_c pd_c h
theorem md_mod (ha : MD Φ ta m tI) (hb : MD Φ tb n tI) : MD Φ (tOp rModI ta tb) (wBind m fun i => wBind n fun j => wG (0 < j) (i % j)) tI := md_ii (C := fun _ j => 0 < j) ha hb fun i j σ G h => pd_mod pd_c pd_c h
theorem md_pow (ha : MD Φ ta m tI) (hb : MD Φ tb n tI) : MD Φ (tOp rPowI ta tb) (wBind m fun i => wBind n fun j => wG (CPow i j) (i ^ j.toNat)) tI := md_ii ha hb fun i j σ G h => pd_pow pd_c pd_c h
theorem md_lt (ha : MD Φ ta m tI) (hb : MD Φ tb n tI) : MD Φ (tOp rLtI ta tb) (wBind m fun i => wBind n fun j => wPure (decide (i < j))) tBo := md_i2 ha hb fun i j σ G => pd_lt pd_c pd_c
theorem md_le (ha : MD Φ ta m tI) (hb : MD Φ tb n tI) : MD Φ (tOp rLeI ta tb) (wBind m fun i => wBind n fun j => wPure (decide (i ≤ j))) tBo := md_i2 ha hb fun i j σ G => pd_le pd_c pd_c
theorem md_gt (ha : MD Φ ta m tI) (hb : MD Φ tb n tI) : MD Φ (tOp rGtI ta tb) (wBind m fun i => wBind n fun j => wPure (decide (j < i))) tBo := md_i2 ha hb fun i j σ G => pd_gt pd_c pd_c
theorem md_ge (ha : MD Φ ta m tI) (hb : MD Φ tb n tI) : MD Φ (tOp rGeI ta tb) (wBind m fun i => wBind n fun j => wPure (decide (j ≤ i))) tBo := md_i2 ha hb fun i j σ G => pd_ge pd_c pd_c
theorem md_neg (ha : MD Φ ta m tI) : MD Φ (tUn rNegI ta) (wBind m fun i => wPure (-i)) tI := md_un ha fun i x σ G P hx hp => by
  cases hx
  exact ⟨_, hp, pd_neg pd_c⟩
/-- a < b < c, by values -/
def wChain (m n k : Wp Int) (r s : Int → Int → Bool) : Wp Bool := fun P => m fun i => n fun j => if r i j = true then k fun l => P (s j l) else P false
theorem md_chain {k : Wp Int} {r r' : R2} {p q : Int → Int → Bool} (ha : MD Φ ta m tI) (hb : MD Φ tb n tI) (hc : MD Φ tc k tI) (hr : ∀ i j H (Q : VK), Q (.bl (p i j)) H → r (.int i) (.int j) H Q) (hr' : ∀ i j H (Q : VK), Q (.bl (q i j)) H → r' (.int i) (.int j) H Q) :
    MD Φ (tChain r r' ta tb tc) (wChain m n k p q) tBo := fun σ G H ev P Q mp kk =>
  ha σ G H ev _ _ mp fun i v G1 H1 p1 s1 hv => hb σ G1 H1 s1.e _ _ p1 fun j w G2 H2 p2 s2 hw => by
    cases hv
    cases hw
    refine hr i j H2 _ ⟨p i j, rfl, ?_⟩
    cases hp : p i j with
    | true =>
      rw [hp, if_pos rfl] at p2
      rw [if_pos rfl]
      refine hc σ G2 H2 s2.e _ _ p2 fun l u G3 H3 p3 s3 hu => ?_
      cases hu
      exact hr' j l H3 _ (kk _ _ G3 H3 p3 ((s1.trans s2).trans s3) rfl)
    | false =>
      rw [hp, if_neg (by decide)] at p2
      rw [if_neg (by decide)]
      exact kk _ _ G2 H2 p2 (s1.trans s2) rfl
theorem r_lt (i j : Int) (H : Hp) (Q : VK) (q : Q (.bl (decide (i < j))) H) : rLtI (.int i) (.int j) H Q := ⟨i, j, rfl, rfl, q⟩
theorem r_le (i j : Int) (H : Hp) (Q : VK) (q : Q (.bl (decide (i ≤ j))) H) : rLeI (.int i) (.int j) H Q := ⟨i, j, rfl, rfl, q⟩
theorem r_gt (i j : Int) (H : Hp) (Q : VK) (q : Q (.bl (decide (j < i))) H) : rGtI (.int i) (.int j) H Q := ⟨i, j, rfl, rfl, q⟩
theorem r_ge (i j : Int) (H : Hp) (Q : VK) (q : Q (.bl (decide (j ≤ i))) H) : rGeI (.int i) (.int j) H Q := ⟨i, j, rfl, rfl, q⟩
/-! ### == -/
variable {p : Wp α} {q : Wp β}
theorem md_eq [DecidableEq α] [h : EqE e] {p q : Wp α} (ha : MD Φ ta p e) (hb : MD Φ tb q e) (hn : h.n ≤ 64 := by decide) : MD Φ (tOp (rEqX K) ta tb) (wBind p fun a => wBind q fun b => wPure (decide (a = b))) tBo :=
  md_op ha hb fun a b x y σ G P hx hy hp => ⟨_, hp, by
    rw [← h.eq]
    exact pd_eqD (pd_cv (h.to _ _ _ hx)) (pd_cv (h.to _ _ _ hy)) ((h.lay a).shaped hn) ((h.lay b).shaped hn)⟩
theorem md_ne [DecidableEq α] [h : EqE e] {p q : Wp α} (ha : MD Φ ta p e) (hb : MD Φ tb q e) (hn : h.n ≤ 64 := by decide) : MD Φ (tOp (rNeX K) ta tb) (wBind p fun a => wBind q fun b => wPure (!decide (a = b))) tBo :=
  md_op ha hb fun a b x y σ G P hx hy hp => ⟨_, hp, by
    rw [← h.eq]
    exact pd_neD (pd_cv (h.to _ _ _ hx)) (pd_cv (h.to _ _ _ hy)) ((h.lay a).shaped hn) ((h.lay b).shaped hn)⟩
theorem md_eqS {p q : Wp Str} (ha : MD Φ ta p tSt) (hb : MD Φ tb q tSt) : MD Φ (tOp (rEqX K) ta tb) (wBind p fun a => wBind q fun b => wPure (decide (a = b))) tBo :=
  md_op ha hb fun a b x y σ G P hx hy hp => ⟨_, hp, PD.is (pd_eqv (pd_cv hx) (pd_cv hy) rfl) (by congr 1; simp)⟩
theorem md_neS {p q : Wp Str} (ha : MD Φ ta p tSt) (hb : MD Φ tb q tSt) : MD Φ (tOp (rNeX K) ta tb) (wBind p fun a => wBind q fun b => wPure (!decide (a = b))) tBo :=
  md_op ha hb fun a b x y σ G P hx hy hp => ⟨_, hp, PD.is (pd_nev (pd_cv hx) (pd_cv hy) rfl) (by congr 1; simp)⟩
/-- is None, is not None -/
theorem md_isN {p : Wp (Option α)} (hs : ∀ a G v, (e a).p G v → v ≠ .non) (ha : MD Φ ta p (eO e)) : MD Φ (tOp rIsN ta (tC .non)) (wBind p fun a => wPure a.isNone) tBo := fun σ G H ev P Q mp k =>
  ha σ G H ev _ _ mp fun a v G1 H1 pa s1 hv => by
    refine ⟨rfl, k _ _ G1 H1 pa s1 ?_⟩
    cases a with
    | none =>
      cases hv
      rfl
    | some a =>
      have := hs a _ _ hv
      show V.bl _ = V.bl false
      congr 1
      simpa using this
theorem md_notN {p : Wp (Option α)} (hs : ∀ a G v, (e a).p G v → v ≠ .non) (ha : MD Φ ta p (eO e)) : MD Φ (tOp rNotN ta (tC .non)) (wBind p fun a => wPure a.isSome) tBo := fun σ G H ev P Q mp k =>
  ha σ G H ev _ _ mp fun a v G1 H1 pa s1 hv => by
    refine ⟨rfl, k _ _ G1 H1 pa s1 ?_⟩
    cases a with
    | none =>
      cases hv
      rfl
    | some a =>
      have := hs a _ _ hv
      show V.bl _ = V.bl true
      congr 1
      simpa using this
/-! ### lists and tuples -/
theorem md_nilL : MD Φ (tLst tNil) (wPure []) (eL e) := (md_lst ma_nil (fun _ => by simp)).conv (k := fun _ => ([] : List α)) fun a G v h => ⟨h, by simp⟩
theorem md_nilT : MD Φ (tTup tNil) (wPure []) (eT e) := (md_tup ma_nil (fun _ => by simp)).conv (k := fun _ => ([] : List α)) fun a G v h => ⟨h, by simp⟩
theorem md_toL {es : γ → List Ty} {r : Wp γ} {k : γ → List α} (h : MA Φ tr r es) (he : ∀ c, es c = (k c).map e) (hl : ∀ c, (k c).length ≤ 100000) : MD Φ (tLst tr) (wBind r fun c => wPure (k c)) (eL e) :=
  (md_lst h (fun c => by rw [he, List.length_map]; exact hl c)).conv fun a G v hv => ⟨by rw [← he]; exact hv, hl a⟩
theorem md_toT {es : γ → List Ty} {r : Wp γ} {k : γ → List α} (h : MA Φ tr r es) (he : ∀ c, es c = (k c).map e) (hl : ∀ c, (k c).length ≤ 100000) : MD Φ (tTup tr) (wBind r fun c => wPure (k c)) (eT e) :=
  (md_tup h (fun c => by rw [he, List.length_map]; exact hl c)).conv fun a G v hv => ⟨by rw [← he]; exact hv, hl a⟩
theorem md_catL {p q : Wp (List α)} (ha : MD Φ ta p (eL e)) (hb : MD Φ tb q (eL e)) : MD Φ (tOp (rAddX K) ta tb) (wBind p fun a => wBind q fun b => wG (a.length + b.length ≤ 100000) (a ++ b)) (eL e) :=
  md_op ha hb fun a b x y σ G P hx hy hp => ⟨_, hp.2, (pd_catL (pd_cv hx.1) (pd_cv hy.1) (by simpa using hp.1)).imp fun G v h => ⟨by rw [List.map_append]; exact h, by simpa using hp.1⟩⟩
theorem md_catT {p q : Wp (List α)} (ha : MD Φ ta p (eT e)) (hb : MD Φ tb q (eT e)) : MD Φ (tOp (rAddX K) ta tb) (wBind p fun a => wBind q fun b => wG (a.length + b.length ≤ 100000) (a ++ b)) (eT e) :=
  md_op ha hb fun a b x y σ G P hx hy hp => ⟨_, hp.2, (pd_catT (pd_cv hx.1) (pd_cv hy.1) (by simpa using hp.1)).imp fun G v h => ⟨by rw [List.map_append]; exact h, by simpa using hp.1⟩⟩
theorem md_cat {p q : Wp Str} (ha : MD Φ ta p tSt) (hb : MD Φ tb q tSt) : MD Φ (tOp (rAddX K) ta tb) (wBind p fun a => wBind q fun b => wG (a.length + b.length ≤ sizeLine) (a ++ b)) tSt :=
  md_op ha hb fun a b x y σ G P hx hy hp => ⟨_, hp.2, pd_cat (pd_cv hx) (pd_cv hy) hp.1⟩
theorem md_ixL {p : Wp (List α)} (ha : MD Φ ta p (eL e)) (hb : MD Φ tb n tI) : MD Φ (tOp (rIx K) ta tb) (wBind p fun a => wBind n fun i => wIx a i) e :=
  md_op ha hb fun a i x y σ G P hx hy ⟨c, h1, h2⟩ => ⟨c, h2, pd_ixLX (pd_cv hx.1) (pd_cv hy) (at_map h1)⟩
theorem md_ixT {p : Wp (List α)} (ha : MD Φ ta p (eT e)) (hb : MD Φ tb n tI) : MD Φ (tOp (rIx K) ta tb) (wBind p fun a => wBind n fun i => wIx a i) e :=
  md_op ha hb fun a i x y σ G P hx hy ⟨c, h1, h2⟩ => ⟨c, h2, pd_ixTX (pd_cv hx.1) (pd_cv hy) (at_map h1)⟩
/-- a place of a tuple of known length -/
theorem md_pl {i : Int} {es : γ → List Ty} {r : Wp γ} {k : γ → α} (ha : MD Φ ta r fun c => tT (es c)) (hi : ∀ c, atI (es c) i = some (e (k c))) : MD Φ (tOp (rIx K) ta (tC (.int i))) (wBind r fun c => wPure (k c)) e := fun σ G H ev P Q mp kk =>
  ha σ G H ev _ _ mp fun a v G1 H1 pa s1 hv => pd_ixTX (K := K) (σ := σ) (pd_cv hv) pd_c (hi a) H1 s1.e.s s1.e.s Q fun v G' H' gr hv => kk _ v G' H' pa (s1.trans (.grow s1.e gr)) hv
theorem md_plL {i : Int} {es : γ → List Ty} {r : Wp γ} {k : γ → α} (ha : MD Φ ta r fun c => tL (es c)) (hi : ∀ c, atI (es c) i = some (e (k c))) : MD Φ (tOp (rIx K) ta (tC (.int i))) (wBind r fun c => wPure (k c)) e := fun σ G H ev P Q mp kk =>
  ha σ G H ev _ _ mp fun a v G1 H1 pa s1 hv => pd_ixLX (K := K) (σ := σ) (pd_cv hv) pd_c (hi a) H1 s1.e.s s1.e.s Q fun v G' H' gr hv => kk _ v G' H' pa (s1.trans (.grow s1.e gr)) hv
theorem md_b1 {t : TE → TE} {g : β → Ty} {o : α → β} {p : Wp α} (hF : ∀ te σ H Q, te σ H (fun x H1 => t (tC x) σ H1 Q) → t te σ H Q) (ha : MD Φ ta p e) (hr : ∀ a x σ G, (e a).p G x → PD (t (tC x)) σ G G (g (o a))) : MD Φ (t ta) (wBind p fun a => wPure (o a)) g :=
  md_1 (F := t) (hF ta) ha fun a x σ G P hx hp => ⟨_, hp, hr a x σ G hx⟩
theorem hF1 {r : List V → Hp → VK → Prop} (te : TE) (σ : St) (H : Hp) (Q : VK) (h : te σ H fun x H1 => tCB r (tCons (tC x) tNil) σ H1 Q) : tCB r (tCons te tNil) σ H Q := h
theorem md_lenL {p : Wp (List α)} (ha : MD Φ ta p (eL e)) : MD Φ (tCB (rLenX K) (tCons ta tNil)) (wBind p fun a => wPure (a.length : Int)) tI :=
  md_b1 (t := fun te => tCB (rLenX K) (tCons te tNil)) hF1 ha fun a x σ G hx => PD.is (pd_lenL (pd_cv hx.1)) (by rw [List.length_map])
theorem md_lenT {p : Wp (List α)} (ha : MD Φ ta p (eT e)) : MD Φ (tCB (rLenX K) (tCons ta tNil)) (wBind p fun a => wPure (a.length : Int)) tI :=
  md_b1 (t := fun te => tCB (rLenX K) (tCons te tNil)) hF1 ha fun a x σ G hx => PD.is (pd_lenT (pd_cv hx.1)) (by rw [List.length_map])
theorem md_listT {p : Wp (List α)} (ha : MD Φ ta p (eT e)) : MD Φ (tCB (rListOf K) (tCons ta tNil)) (wBind p fun a => wPure a) (eL e) :=
  md_b1 (t := fun te => tCB (rListOf K) (tCons te tNil)) (g := eL e) (o := fun a => a) hF1 ha fun a x σ G hx => (pd_listT (pd_cv hx.1)).imp fun G v h => ⟨h, hx.2⟩
theorem md_listL {p : Wp (List α)} (ha : MD Φ ta p (eL e)) : MD Φ (tCB (rListOf K) (tCons ta tNil)) (wBind p fun a => wPure a) (eL e) :=
  md_b1 (t := fun te => tCB (rListOf K) (tCons te tNil)) (g := eL e) (o := fun a => a) hF1 ha fun a x σ G hx => (pd_listL (pd_cv hx.1)).imp fun G v h => ⟨h, hx.2⟩
theorem md_tupL {p : Wp (List α)} (ha : MD Φ ta p (eL e)) : MD Φ (tCB (rTupOf K) (tCons ta tNil)) (wBind p fun a => wPure a) (eT e) :=
  md_b1 (t := fun te => tCB (rTupOf K) (tCons te tNil)) (g := eT e) (o := fun a => a) hF1 ha fun a x σ G hx => (pd_tupL (pd_cv hx.1)).imp fun G v h => ⟨h, hx.2⟩
theorem md_any {p : Wp (List Bool)} (ha : MD Φ ta p (eL tBo)) : MD Φ (tCB (rAny K) (tCons ta tNil)) (wBind p fun a => wPure (a.any id)) tBo :=
  md_b1 (t := fun te => tCB (rAny K) (tCons te tNil)) hF1 ha fun a x σ G hx => pd_any (pd_cv hx.1)
theorem md_all {p : Wp (List Bool)} (ha : MD Φ ta p (eL tBo)) : MD Φ (tCB (rAll K) (tCons ta tNil)) (wBind p fun a => wPure (a.all id)) tBo :=
  md_b1 (t := fun te => tCB (rAll K) (tCons te tNil)) hF1 ha fun a x σ G hx => pd_all (pd_cv hx.1)
theorem md_sum {p : Wp (List Int)} (ha : MD Φ ta p (eL tI)) : MD Φ (tCB (rSum K) (tCons ta tNil)) (wBind p fun a => wPure a.sum) tI :=
  md_b1 (t := fun te => tCB (rSum K) (tCons te tNil)) hF1 ha fun a x σ G hx => pd_sum (pd_cv hx.1)
theorem md_max2 (ha : MD Φ ta m tI) (hb : MD Φ tb n tI) : MD Φ (tCB rMax2 (tCons ta (tCons tb tNil))) (wBind m fun i => wBind n fun j => wPure (max i j)) tI := fun σ G H ev P Q mp k =>
  ha σ G H ev _ _ mp fun i v G1 H1 p1 s1 hv => hb σ G1 H1 s1.e _ _ p1 fun j w G2 H2 p2 s2 hw => by
    cases hv
    cases hw
    exact ⟨i, j, rfl, k _ _ G2 H2 p2 (s1.trans s2) (by show V.int _ = V.int _; congr 1; split <;> omega)⟩
theorem md_min2 (ha : MD Φ ta m tI) (hb : MD Φ tb n tI) : MD Φ (tCB rMin2 (tCons ta (tCons tb tNil))) (wBind m fun i => wBind n fun j => wPure (min i j)) tI := fun σ G H ev P Q mp k =>
  ha σ G H ev _ _ mp fun i v G1 H1 p1 s1 hv => hb σ G1 H1 s1.e _ _ p1 fun j w G2 H2 p2 s2 hw => by
    cases hv
    cases hw
    exact ⟨i, j, rfl, k _ _ G2 H2 p2 (s1.trans s2) (by show V.int _ = V.int _; congr 1; split <;> omega)⟩
/-! slices -/
def MO (Φ : Sts) (to : TO) (m : Wp (Option Int)) : Prop := ∀ σ G H, EnvL Φ σ G H → ∀ (P : Option Int → Prop) (Q : Option Int → Hp → Prop), m P → (∀ o G' H', P o → Step Φ σ G H G' H' → Q o H') → to σ H Q
theorem mo_none : MO Φ tNoPart (wPure none) := fun σ G H ev P Q mp k => k none G H mp (.refl ev)
theorem mo_some (h : MD Φ te m tI) : MO Φ (tPart te) (wBind m fun i => wPure (some i)) := fun σ G H ev P Q mp k =>
  h σ G H ev _ _ mp fun i v G1 H1 p1 s1 hv => ⟨i, hv, k _ G1 H1 p1 s1⟩
theorem md_slL {tlo thi : TO} {p : Wp (List α)} {lo hi : Wp (Option Int)} (ha : MD Φ ta p (eL e)) (h1 : MO Φ tlo lo) (h2 : MO Φ thi hi) : MD Φ (tSl (rSlX K) ta tlo thi) (wBind p fun a => wBind lo fun i => wBind hi fun j => wPure (cutT a i j)) (eL e) := fun σ G H ev P Q mp k =>
  ha σ G H ev _ _ mp fun a v G1 H1 p1 s1 hv => h1 σ G1 H1 s1.e _ _ p1 fun i G2 H2 p2 s2 => h2 σ G2 H2 s2.e _ _ p2 fun j G3 H3 p3 s3 => by
    have hv3 := (eL e a).m _ _ _ (s2.g.trans s3.g) hv
    obtain ⟨⟨q, vs, rfl, e1, e2⟩, hz⟩ := hv3
    refine .inl ⟨q, vs, rfl, .of (s3.e.s _ _ e1), fun p hp => ?_⟩
    have g4 : Grow G3 H3 (upd G3 p (.lst (cutV vs i j))) (upd H3 p (.lst (cutV vs i j))) := .new s3.e.s hp
    refine k _ _ _ _ p3 (((s1.trans s2).trans s3).trans (.grow s3.e g4)) ⟨⟨p, _, rfl, upd_same, ?_⟩, Nat.le_trans (cutT_len a i j) hz⟩
    rw [← cutT_map]
    exact (e2.cut i j).mono g4.g
/-! owned lists, read -/
theorem md_ownLen {i : Nat} {l : List α} (hi : Φ[i]? = some (.own (cL (l.map e)))) : MD Φ (tCB (rLenX K) (tCons (tVar i) tNil)) (wPure (l.length : Int)) tI := fun σ G H ev P Q mp k => by
  obtain ⟨o, h1, q, u, rfl, h2, ⟨vs, rfl, h3, h5⟩, h4⟩ := ev.sl i _ hi
  exact ⟨.ref q, h1, .ref q, vs.length, rfl, .inl ⟨vs, .of h2, rfl⟩, k _ _ G H mp (.refl ev) (by rw [h3.length, List.length_map]; rfl)⟩
theorem md_ownIx {i : Nat} {l : List α} (hi : Φ[i]? = some (.own (cL (l.map e)))) (hb : MD Φ tb n tI) : MD Φ (tOp (rIx K) (tVar i) tb) (wBind n fun j => wIx l j) e := fun σ G H ev P Q mp k => by
  obtain ⟨o, h1, _⟩ := ev.sl i _ hi
  obtain ⟨o', h1', q, u, rfl, _⟩ := ev.sl i _ hi
  refine ⟨.ref q, h1', hb σ G H ev _ _ mp fun j v G1 H1 pj s1 hv => ?_⟩
  cases hv
  obtain ⟨x, e1, e2⟩ := pj
  obtain ⟨o2, h1'', q2, u2, e3, h2, ⟨vs2, rfl, h3, h5⟩, h4⟩ := s1.e.sl i _ hi
  rw [h1'] at h1''
  cases h1''
  cases e3
  obtain ⟨v, k1, k2⟩ := at_of_all h3 (at_map (f := e) e1)
  exact .inl ⟨q, vs2, j, v, rfl, rfl, .of h2, k1, k x v G1 H1 e2 s1 k2⟩
/-- an owned list is changed no more -/
theorem nx_freeze {t : TS} {M : Prop} {i : Nat} {l : List α} (hi : Φ[i]? = some (.own (cL (l.map e)))) (h : NxS c t D (Φ.set i (.val (eL e l))) M) : NxS c t D Φ M := fun σ G H ev mp => by
  obtain ⟨o, h1, q, u, rfl, h2, ⟨vs, rfl, h3, h5⟩, h4⟩ := ev.L.sl i _ hi
  have sg : Same G (upd G q (.lst vs)) := same_new h4
  have mi : MutAt Φ σ i q := ⟨⟨_, hi, rfl⟩, h1⟩
  have hz := ev.m i _ q hi h1
  have mm : ∀ (j : Nat) (p : Addr), MutAt (Φ.set i (.val (eL e l))) σ j p → MutAt Φ σ j p ∧ p ≠ q := by
    rintro j p ⟨⟨s, k1, k2⟩, k3⟩
    rcases set_at k1 with ⟨rfl, rfl, _⟩ | ⟨n, k1⟩
    · cases k2
    · refine ⟨⟨⟨s, k1, k2⟩, k3⟩, fun z => ?_⟩
      subst z
      exact n (ev.L.nd i j p mi ⟨⟨s, k1, k2⟩, k3⟩)
  refine h σ (upd G q (.lst vs)) H ⟨⟨fun a o e => ?_, by simp [ev.L.l], fun j s hj => ?_, fun x y p k1 k2 => ev.L.nd x y p (mm x p k1).1 (mm y p k2).1⟩, ev.g.trans sg, ev.b, fun a k1 k2 => ?_, fun j φs p k1 k2 => ?_, fun a ha => ?_, fun j p k1 k2 => ?_⟩ mp
  · by_cases z : a = q
    · subst z
      rw [upd_same] at e
      cases e
      exact h2
    · rw [upd_ne z] at e
      exact ev.L.s a o e
  · rcases set_at hj with ⟨rfl, rfl, _⟩ | ⟨n, hj'⟩
    · exact ⟨_, h1, .ref q, rfl, ⟨q, vs, rfl, upd_same, h3.mono sg⟩, by simpa using h5⟩
    · obtain ⟨o, k1, k2⟩ := ev.L.sl j s hj'
      refine ⟨o, k1, k2.keep sg (fun _ _ _ _ w => w) fun p m ho => ?_⟩
      subst ho
      have : p ≠ q := (mm j p ⟨⟨s, hj, m⟩, k1⟩).2
      rw [upd_ne this]
      exact (k2.mutH m).2
  · by_cases z : a = q
    · subst z
      exact hz.1
    · rw [upd_ne z] at k2
      exact ev.f a k1 k2
  · rcases set_at k1 with ⟨_, z, _⟩ | ⟨n, k1⟩
    · cases z
    · exact ev.m j φs p k1 k2
  · obtain ⟨k1, x, y, k2, k3⟩ := ev.k a ha
    have : a ≠ q := fun z => hz.2 (z ▸ ha)
    exact ⟨by rw [upd_ne this]; exact k1, x, y, k2, k3⟩
  · rcases set_at k1 with ⟨_, z, _⟩ | ⟨n, k1⟩
    · cases z
    · exact ev.r j p k1 k2
/-! ### defs -/
/-- the slots at a def's beginning -/
theorem start_at {N : List Str} {vs : List V} {i : Nat} : (L2.start N vs)[i]? = if i < vs.length then some vs[i]? else if i < N.length then some none else none := by
  unfold L2.start
  rw [List.getElem?_append]
  simp only [List.length_map]
  split
  · rename_i h
    simp [h]
  · rename_i h
    rw [List.getElem?_replicate]
    by_cases z : i < N.length
    · rw [if_pos (by omega), if_pos z]
    · rw [if_neg (by omega), if_neg z]
theorem start_ok {ex : Addr → Prop} {N : List Str} {G H : Hp} {Φ : Sts} {φs : List Ty} {vs : List V} {n : Nat} (s : Same G H) (h : All G φs vs) (hΦ : Φ = φs.map Slot.val ++ List.replicate n .un) (hn : N.length = φs.length + n) (hex : ∀ a, ¬ ex a) : EnvOk ⟨ex, G, H⟩ Φ (L2.start N vs) G H := by
  subst hΦ
  have hl := h.length
  have at_ : ∀ (i : Nat) (sl : Slot), (φs.map Slot.val ++ List.replicate n Slot.un)[i]? = some sl → (∃ φ, φs[i]? = some φ ∧ sl = .val φ) ∨ (sl = .un ∧ vs.length ≤ i ∧ i < N.length) := fun i sl hi => by
    rw [List.getElem?_append] at hi
    simp only [List.length_map] at hi
    split at hi
    · rw [List.getElem?_map] at hi
      obtain ⟨φ, h1, rfl⟩ := Option.map_eq_some_iff.mp hi
      exact .inl ⟨φ, h1, rfl⟩
    · rw [List.getElem?_replicate] at hi
      split at hi
      · cases hi
        exact .inr ⟨rfl, by omega, by omega⟩
      · cases hi
  have nm : ∀ (i : Nat) (q : Addr), ¬ MutAt (φs.map Slot.val ++ List.replicate n Slot.un) (L2.start N vs) i q := fun i q ⟨⟨sl, h1, h2⟩, _⟩ => by
    rcases at_ i sl h1 with ⟨φ, _, rfl⟩ | ⟨rfl, _⟩ <;> cases h2
  refine ⟨⟨s, by unfold L2.start; simp; omega, fun i sl hi => ?_, fun i j q h1 => absurd h1 (nm i q)⟩, same_refl _, fun _ _ _ e => e, fun _ h h' => absurd h h', fun i ψs q hi => ?_, fun a ha => absurd ha (hex a), fun i q hi => ?_⟩
  · rw [start_at]
    rcases at_ i sl hi with ⟨φ, h1, rfl⟩ | ⟨rfl, h1, h2⟩
    · obtain ⟨v, h2, h3⟩ := h.get h1
      have : i < vs.length := (List.getElem?_eq_some_iff.mp h2).1
      exact ⟨some v, by rw [if_pos this, h2], v, rfl, h3⟩
    · exact ⟨none, by rw [if_neg (by omega), if_pos h2], trivial⟩
  · rcases at_ i _ hi with ⟨φ, _, h⟩ | ⟨h, _⟩ <;> cases h
  · rcases at_ i _ hi with ⟨φ, _, h⟩ | ⟨h, _⟩ <;> cases h
theorem fin_grow {G H G' H' : Hp} {ex : Addr → Prop} (hex : ∀ a, ¬ ex a) (f : Fin ⟨ex, G, H⟩ G' H') : Grow G H G' H' := ⟨f.g, fun a o e => f.b a o (hex a) e, f.L.s, f.f⟩
/-- a def without a pool: its promise from its mirror -/
theorem pure_of {ρ : Type} {es : α → List Ty} {er : ρ → Ty} {k : α → Wp ρ} {t : TS} {N : List Str} {Φ : α → Sts} {n : Nat} (hΦ : ∀ a, Φ a = (es a).map Slot.val ++ List.replicate n .un) (hn : ∀ a, N.length = (es a).length + n)
    (h : ∀ c D a (R : ρ → Prop), RtOk c D.rt R er → NxS c t D (Φ a) (k a R)) : ∀ vs H (Q : VK) (E : XK), spM es er k vs H Q E → t { nx := fun _ H' => Q .non H', rt := Q } (L2.start N vs) H := by
  rintro vs H Q E ⟨G, a, R, s, hv, hk, hq⟩
  exact h ⟨fun _ => False, G, H⟩ _ a R (fun r v G' H' pr f hv => hq r v G' H' pr (fin_grow (fun _ x => x) f) hv) _ G H (start_ok s hv (hΦ a) (hn a) fun _ x => x) hk
theorem len_of {ρ : Type} {es : α → List Ty} {er : ρ → Ty} {k : α → Wp ρ} {n : Nat} (h : ∀ a, (es a).length = n) : ∀ vs H Q E, spM es er k vs H Q E → vs.length = n := by
  rintro vs H Q E ⟨G, a, R, s, hv, _⟩
  rw [hv.length]
  exact h a
theorem startK_ok {N : List Str} {G H : Hp} {Φ : Sts} {φs : List Ty} {vs : List V} {n : Nat} {p : Addr} (pi : PI p G H) (h : All G φs vs) (hΦ : Φ = .pool :: (φs.map Slot.val ++ List.replicate n .un)) (hn : N.length = φs.length + n + 1) : EnvOk ⟨(· = p), G, H⟩ Φ (L2.start N (.ref p :: vs)) G H := by
  subst hΦ
  have hl := h.length
  have at_ : ∀ (i : Nat) (sl : Slot), (Slot.pool :: (φs.map Slot.val ++ List.replicate n Slot.un))[i]? = some sl → (i = 0 ∧ sl = .pool) ∨ (∃ φ, φs[i - 1]? = some φ ∧ sl = .val φ ∧ 0 < i) ∨ (sl = .un ∧ vs.length + 1 ≤ i ∧ i < N.length) := fun i sl hi => by
    cases i with
    | zero =>
      simp at hi
      exact .inl ⟨rfl, hi.symm⟩
    | succ i =>
      rw [List.getElem?_cons_succ, List.getElem?_append] at hi
      simp only [List.length_map] at hi
      split at hi
      · rw [List.getElem?_map] at hi
        obtain ⟨φ, h1, rfl⟩ := Option.map_eq_some_iff.mp hi
        exact .inr (.inl ⟨φ, h1, rfl, by omega⟩)
      · rw [List.getElem?_replicate] at hi
        split at hi
        · cases hi
          exact .inr (.inr ⟨rfl, by omega, by omega⟩)
        · cases hi
  have s0 : (L2.start N (.ref p :: vs))[0]? = some (some (.ref p)) := by
    rw [start_at]
    simp
  have nm : ∀ (i : Nat) (q : Addr), MutAt (Slot.pool :: (φs.map Slot.val ++ List.replicate n Slot.un)) (L2.start N (.ref p :: vs)) i q → i = 0 := fun i q ⟨⟨sl, h1, h2⟩, _⟩ => by
    rcases at_ i sl h1 with ⟨h, _⟩ | ⟨φ, _, rfl, _⟩ | ⟨rfl, _⟩
    · exact h
    · cases h2
    · cases h2
  refine ⟨⟨pi.s, by unfold L2.start; simp; omega, fun i sl hi => ?_, fun i j q h1 h2 => by rw [nm i q h1, nm j q h2]⟩, same_refl _, fun _ _ _ e => e, fun _ h h' => absurd h h', fun i ψs q hi => ?_, fun a ha => ?_, fun i q hi hq => ?_⟩
  · rcases at_ i sl hi with ⟨rfl, rfl⟩ | ⟨φ, h1, rfl, h0⟩ | ⟨rfl, h1, h2⟩
    · obtain ⟨c, z, q1, q2⟩ := pi.h
      exact ⟨_, s0, p, c, z, rfl, q1, q2, pi.n⟩
    · obtain ⟨v, h2, h3⟩ := h.get h1
      have : i - 1 < vs.length := (List.getElem?_eq_some_iff.mp h2).1
      have hi' : (V.ref p :: vs)[i]? = some v := by
        obtain ⟨j, rfl⟩ : ∃ j, i = j + 1 := ⟨i - 1, by omega⟩
        simpa using h2
      exact ⟨some v, by rw [start_at, if_pos (by simp; omega), hi'], v, rfl, h3⟩
    · exact ⟨none, by rw [start_at, if_neg (by simp; omega), if_pos h2], trivial⟩
  · rcases at_ i _ hi with ⟨_, h⟩ | ⟨φ, _, h, _⟩ | ⟨h, _⟩ <;> cases h
  · subst ha
    exact ⟨pi.n, pi.h⟩
  · rcases at_ i _ hi with ⟨rfl, _⟩ | ⟨φ, _, h, _⟩ | ⟨h, _⟩
    · rw [s0] at hq
      cases hq
      exact .inl rfl
    · cases h
    · cases h
theorem pureK_of {ρ : Type} {es : α → List Ty} {er : ρ → Ty} {k : α → Wp ρ} {t : TS} {N : List Str} {Φ : α → Sts} {n : Nat} (hΦ : ∀ a, Φ a = .pool :: ((es a).map Slot.val ++ List.replicate n .un)) (hn : ∀ a, N.length = (es a).length + n + 1)
    (h : ∀ c D a (R : ρ → Prop), RtOk c D.rt R er → NxS c t D (Φ a) (k a R)) : ∀ vs H (Q : VK) (E : XK), spMK es er k vs H Q E → t { nx := fun _ H' => Q .non H', rt := Q } (L2.start N vs) H := by
  rintro vs H Q E ⟨p, G, a, R, ws, rfl, pi, hv, hk, hq⟩
  exact h ⟨(· = p), G, H⟩ _ a R (fun r v G' H' pr f hv => hq r v G' H' pr ⟨f.g, fun a o n e => f.b a o n e, ⟨f.L.s, (f.k p rfl).1, (f.k p rfl).2⟩, f.f⟩ hv) _ G H (startK_ok pi hv (hΦ a) (hn a)) hk
theorem lenK_of {ρ : Type} {es : α → List Ty} {er : ρ → Ty} {k : α → Wp ρ} {n : Nat} (h : ∀ a, (es a).length + 1 = n) : ∀ vs H Q E, spMK es er k vs H Q E → vs.length = n := by
  rintro vs H Q E ⟨p, G, a, R, ws, rfl, pi, hv, _⟩
  rw [List.length_cons, hv.length]
  exact h a
end
end BR
/-! Own layer: regions, draws, beside their plain mirrors. -/
namespace BR
open PySem PySem.Spec PyProof.Rows L2
abbrev eB4 : Bx → Ty := e4 tI tI tI tI
abbrev eP : Pr → Ty := e2 tI tI
abbrev eSp : List Pr → Ty := eT eP
abbrev eSl : Sl → Ty := e3 tI tI eSp
abbrev eForm : List Sl → Ty := eT eSl
section
variable {K : Fg} {c : Cn} {Φ : Sts} {ta tb te tl tc : TE} {tr : TA} {α β γ : Type} {m n : Wp Int} {e : α → Ty} {f : β → Ty} {D : Ends} {E : XK} {p q : Wp Reg}
theorem all_sub {G : Hp} {e g : α → Ty} (h : ∀ a v, (e a).p G v → (g a).p G v) : ∀ {l : List α} {vs : List V}, All G (l.map e) vs → All G (l.map g) vs
  | [], _, .nil => .nil
  | a :: l, _, .cons h1 t => .cons (h a _ h1) (all_sub h t)
theorem sp_to {G : Hp} {s : List Pr} {v : V} (h : (eSp s).p G v) : (tSp s).p G v := h.1
theorem slb_to {G : Hp} {s : Sl} {v : V} (h : (eSl s).p G v) : (tSlb s).p G v := by
  obtain ⟨a, vs, h1, h2, h3⟩ := h
  cases h3 with
  | cons h3 h4 =>
    cases h4 with
    | cons h4 h5 =>
      cases h5 with
      | cons h5 h6 =>
        cases h6
        exact ⟨a, _, h1, h2, .cons h3 (.cons h4 (.cons (sp_to h5) .nil))⟩
theorem form_to {G : Hp} {s : List Sl} {v : V} (h : (eForm s).p G v) : (tForm s).p G v := by
  obtain ⟨⟨a, vs, h1, h2, h3⟩, _⟩ := h
  exact ⟨a, vs, h1, h2, all_sub (fun _ _ h => slb_to h) h3⟩
theorem slb_of {G : Hp} {s : Sl} {v : V} (hz : s.2.2.length ≤ 1000) (h : (tSlb s).p G v) : (eSl s).p G v := by
  obtain ⟨a, vs, h1, h2, h3⟩ := h
  cases h3 with
  | cons h3 h4 =>
    cases h4 with
    | cons h4 h5 =>
      cases h5 with
      | cons h5 h6 =>
        cases h6
        exact ⟨a, _, h1, h2, .cons h3 (.cons h4 (.cons ⟨h5, by omega⟩ .nil))⟩
theorem slbs_of {G : Hp} : ∀ {l : List Sl} {vs : List V}, (∀ s ∈ l, s.2.2.length ≤ 1000) → All G (l.map tSlb) vs → All G (l.map eSl) vs
  | [], _, _, .nil => .nil
  | a :: l, _, h, .cons h1 t => .cons (slb_of (h a (by simp)) h1) (slbs_of (fun s hs => h s (by simp [hs])) t)
theorem form_of {G : Hp} {s : List Sl} {v : V} (hz : Small s) (h : (tForm s).p G v) : (eForm s).p G v := by
  obtain ⟨a, vs, h1, h2, h3⟩ := h
  exact ⟨⟨a, vs, h1, h2, slbs_of hz.2 h3⟩, by have := hz.1; omega⟩
/-! operators -/
theorem md_r2 {pre : List Ty → Ty → Prop} {C : Reg → Reg → Prop} {o : Reg → Reg → γ} {g : γ → Ty} (ha : MD Φ ta p (tReg K)) (hb : MD Φ tb q (tReg K)) (hp : ∀ a b, C a b → pre [tReg K a, tReg K b] (g (o a b))) :
    MD Φ (tOp (rOwn2 (RG K) (spT pre) E) ta tb) (wBind p fun a => wBind q fun b => wG (C a b) (o a b)) g :=
  md_op ha hb fun a b x y σ G P hx hy h => ⟨_, h.2, pd_own2 (pd_cv hx) (pd_cv hy) (hp a b h.1)⟩
theorem md_or (ha : MD Φ ta p (tReg K)) (hb : MD Φ tb q (tReg K)) : MD Φ (tOp (rOwn2 (RG K) (sp_or K) E) ta tb) (wBind p fun a => wBind q fun b => wG (Sm2 a b) (unite a b)) (tReg K) := md_r2 ha hb fun a b h => ⟨a, b, h, rfl, rfl⟩
theorem md_and (ha : MD Φ ta p (tReg K)) (hb : MD Φ tb q (tReg K)) : MD Φ (tOp (rOwn2 (RG K) (sp_and K) E) ta tb) (wBind p fun a => wBind q fun b => wG (Sm2 a b) (rand a b)) (tReg K) := md_r2 ha hb fun a b h => ⟨a, b, h, rfl, rfl⟩
theorem md_subR (ha : MD Φ ta p (tReg K)) (hb : MD Φ tb q (tReg K)) : MD Φ (tOp (rOwn2 (RG K) (sp_sub K) E) ta tb) (wBind p fun a => wBind q fun b => wG (Sm2 a b) (rsub a b)) (tReg K) := md_r2 ha hb fun a b h => ⟨a, b, h, rfl, rfl⟩
theorem md_xor (ha : MD Φ ta p (tReg K)) (hb : MD Φ tb q (tReg K)) : MD Φ (tOp (rOwn2 (RG K) (sp_xor K) E) ta tb) (wBind p fun a => wBind q fun b => wG (Sm2 a b) (rxor a b)) (tReg K) := md_r2 ha hb fun a b h => ⟨a, b, h, rfl, rfl⟩
theorem md_inv (ha : MD Φ ta p (tReg K)) : MD Φ (tUn (rInv (RG K) (sp_invert K) E) ta) (wBind p fun a => wPure (rout a)) (tReg K) :=
  md_un ha fun a x σ G P hx h => ⟨_, h, pd_inv (pd_cv hx) ⟨a, trivial, rfl, rfl⟩⟩
theorem md_eqR (F : RegF K) (ha : MD Φ ta p (tReg K)) (hb : MD Φ tb q (tReg K)) : MD Φ (tOp (rEqO K (RG K) (sp_eq K) E) ta tb) (wBind p fun a => wBind q fun b => wPure (decide (a = b))) tBo :=
  md_op ha hb fun a b x y σ G P hx hy h => ⟨_, h, pd_eqO F (pd_cv hx) (pd_cv hy)⟩
theorem md_neR (F : RegF K) (ha : MD Φ ta p (tReg K)) (hb : MD Φ tb q (tReg K)) : MD Φ (tOp (rNeO K (RG K) (sp_eq K) E) ta tb) (wBind p fun a => wBind q fun b => wPure (!decide (a = b))) tBo :=
  md_op ha hb fun a b x y σ G P hx hy h => ⟨_, h, pd_neO F (pd_cv hx) (pd_cv hy)⟩
theorem md_eqOther {s : Wp β} {n : String} (ht : ∀ b G v, (f b).p G v → TyX K G v (.type n)) (o : Oth K (RG K) n) (ha : MD Φ ta p (tReg K)) (hb : MD Φ tb s f) : MD Φ (tOp (rEqO K (RG K) (sp_eq K) E) ta tb) (wBind p fun a => wBind s fun b => wPure false) tBo :=
  md_op ha hb fun a b x y σ G P hx hy h => ⟨_, h, pd_eqOther (pd_cv hx) (pd_cv hy) (fun G v => ht b G v) o⟩
theorem tyx_L {n : List α} (G : Hp) (v : V) (h : (eL e n).p G v) : TyX K G v (.type "list") := by
  obtain ⟨⟨a, vs, rfl, h, _⟩, _⟩ := h
  exact .base (.lst h)
theorem md_inR {s : Wp Pr} (ha : MD Φ ta s eP) (hb : MD Φ tb q (tReg K)) : MD Φ (tOp (rInO (RG K) (sp_contains K) E) ta tb) (wBind s fun a => wBind q fun b => wG (Small b.1) (rhas b a)) tBo :=
  md_op ha hb fun a b x y σ G P hx hy h => ⟨_, h.2, pd_inO (pd_cv hx) (pd_cv hy) ⟨b, a, h.1, rfl, rfl⟩⟩
theorem md_nInR {s : Wp Pr} (ha : MD Φ ta s eP) (hb : MD Φ tb q (tReg K)) : MD Φ (tOp (rNInO (RG K) (sp_contains K) E) ta tb) (wBind s fun a => wBind q fun b => wG (Small b.1) (!rhas b a)) tBo :=
  md_op ha hb fun a b x y σ G P hx hy h => ⟨_, h.2, pd_nInO (pd_cv hx) (pd_cv hy) ⟨b, a, h.1, rfl, rfl⟩⟩
theorem hFp {sp : Sp} (te : TE) (σ : St) (H : Hp) (Q : VK) (h : te σ H fun x H1 => tPropR (RG K) sp E (tC x) σ H1 Q) : tPropR (RG K) sp E te σ H Q := h
theorem md_prop {pre : List Ty → Ty → Prop} {C : Reg → Prop} {o : Reg → γ} {g : γ → Ty} (ha : MD Φ ta p (tReg K)) (hp : ∀ a, C a → pre [tReg K a] (g (o a))) : MD Φ (tPropR (RG K) (spT pre) E ta) (wBind p fun a => wG (C a) (o a)) g :=
  md_1 (F := fun te => tPropR (RG K) (spT pre) E te) (hFp ta) ha fun a x σ G P hx h => ⟨_, h.2, pd_propR (pd_cv hx) (hp a h.1)⟩
abbrev eSlL : Sl → Ty := e3 tI tI (eL eP)
theorem slabs_of {G : Hp} {f : List Sl} {v : V} (hz : Small f) (h : (dt (dSlabs f)).p G v) : (eL eSlL f).p G v := by
  unfold dSlabs at h
  rw [dt_list] at h
  obtain ⟨a, vs, h1, h2, h3⟩ := h
  refine ⟨⟨a, vs, h1, h2, ?_⟩, by have := hz.1; omega⟩
  clear h1 h2
  revert vs
  have hz2 := hz.2
  clear hz
  induction f with
  | nil =>
    intro vs h3
    cases h3
    exact .nil
  | cons s f ih =>
    intro vs h3
    cases h3 with
    | cons h4 h5 =>
      refine .cons ?_ (ih (fun t ht => hz2 t (by simp [ht])) _ h5)
      rw [dt_tuple] at h4
      obtain ⟨b, ws, k1, k2, k3⟩ := h4
      cases k3 with
      | cons k3 k4 =>
        cases k4 with
        | cons k4 k5 =>
          cases k5 with
          | cons k5 k6 =>
            cases k6
            refine ⟨b, _, k1, k2, .cons k3 (.cons k4 (.cons ⟨?_, ?_⟩ .nil))⟩
            · rw [dt_list, ← tP_map_dt] at k5
              exact k5
            · have := hz2 s (by simp)
              omega
theorem md_slabs (ha : MD Φ ta p (tReg K)) : MD Φ (tPropR (RG K) (sp_slabs K) E ta) (wBind p fun a => wG (Small a.1) a.1) (eL eSlL) :=
  md_1 (F := fun te => tPropR (RG K) (sp_slabs K) E te) (hFp ta) ha fun a x σ G P hx h => ⟨_, h.2, (pd_propR (pre := _) (pd_cv hx) (χ := dt (dSlabs a.1)) ⟨a, h.1, rfl, rfl⟩).imp fun G v hv => slabs_of h.1 hv⟩
theorem md_reprR (ha : MD Φ ta p (tReg K)) : MD Φ (tCB (rReprO (RG K) (sp_repr K) E) (tCons ta tNil)) (wBind p fun a => wG (Small a.1 ∧ Shows (dSlabs a.1) 16000000) (reprR a)) tSt :=
  md_1 (F := fun te => tCB (rReprO (RG K) (sp_repr K) E) (tCons te tNil)) (hF1 ta) ha fun a x σ G P hx h => ⟨_, h.2, pd_reprO (pd_cv hx) ⟨a, h.1, rfl, rfl⟩⟩
theorem md_cls : MD Φ (tC (.ref (RG K))) (wPure ()) (fun _ => tv (.ref (RG K))) := md_c fun _ => rfl
theorem md_stat0 {pre : List Ty → Ty → Prop} {g : γ → Ty} {o : γ} (hp : pre [] (g o)) : MD Φ (tStat0 (RG K) (spT pre) E (tC (.ref (RG K)))) (wPure o) g := fun σ G H ev P Q mp k =>
  pd_stat0 (K := K) (σ := σ) (ta := tC (.ref (RG K))) pd_c hp H (same_refl _) ev.s Q fun v G' H' gr hv => k _ v G' H' mp (.grow ev gr) hv
theorem md_empty : MD Φ (tStat0 (RG K) (sp_empty K) E (tC (.ref (RG K)))) (wPure (([], false) : Reg)) (tReg K) := md_stat0 ⟨rfl, rfl⟩
theorem md_ofR {r : Wp γ} {es : γ → List Ty} {k : γ → List Bx} (h : MA Φ tr r es) (he : ∀ c, es c = (k c).map eB4) (hl : ∀ c, (k c).length ≤ 2000) : MD Φ (ClX.tCMeth (RG K) (sp_of K) E (tC (.ref (RG K))) tr) (wBind r fun c => wG (∀ b ∈ k c, bxOk b) (slabsOf (k c), false)) (tReg K) := fun σ G H ev P Q mp kk => by
  refine ⟨rfl, h σ G H ev _ _ mp fun a vs G1 H1 pa s1 hv => ?_⟩
  rw [he] at hv
  refine ⟨[.ref (RG K)], vs, rfl, rfl, sz_of (by rw [hv.length, List.length_map]; have := hl a; omega), fun p hp => ?_⟩
  have g2 : Grow G1 H1 (upd G1 p (.tup vs)) (upd H1 p (.tup vs)) := .new s1.e.s hp
  exact ⟨upd G1 p (.tup vs), [tv (.ref (RG K)), tT ((k a).map tB4)], tReg K (slabsOf (k a), false), g2.s, .cons rfl (.cons ⟨p, vs, rfl, upd_same, hv.mono g2.g⟩ .nil), ⟨k a, hl a, pa.1, rfl, rfl⟩, fun v G' H' gr hv => kk _ v G' H' pa.2 (s1.trans (.grow s1.e (g2.trans gr))) hv⟩
/-! draws that are told by conditions -/
theorem md_callP {T : Type} {pre : List Ty → (T → Prop) → (T → Ty) → Prop} {j : Nat} {r : Wp γ} {es φs : γ → List Ty} {er φ : T → Ty} {B : T → Prop} {k : γ → Wp T} (hj : Φ[j]? = some .pool) (h : MA Φ tr r es) (hes : ∀ a G vs, All G (es a) vs → All G (φs a) vs)
    (hp : ∀ a P, k a P → pre (φs a) (fun t => P t ∧ B t) φ) (he : ∀ t G v, B t → (φ t).p G v → (er t).p G v) : MD Φ (tCall (spK pre) [] E (tCons (tVar j) tr)) (wBind r k) er := fun σ G H ev P Q mp q => by
  obtain ⟨p, hp0, _⟩ := ev.pi hj
  refine ⟨.ref p, hp0, h σ G H ev _ _ mp fun a vs G1 H1 pa s1 hvs => ?_⟩
  show spK pre ((.ref p :: vs) ++ []) H1 Q E
  rw [List.append_nil]
  obtain ⟨p', hp', pi'⟩ := s1.e.pi hj
  rw [hp0] at hp'
  cases hp'
  exact ⟨p, G1, φs a, _, φ, vs, rfl, pi', hes a _ _ hvs, hp a P pa, fun t v G' H' kg ct hv => q t v G' H' ct.1 (s1.trans (.kg s1.e hj hp0 kg)) (he t _ _ ct.2 hv)⟩
def wLines (n : Int) : Wp (List Int) := fun P => 1 ≤ n ∧ n ≤ 20 ∧ ∀ L, LinesOk L n → P L
theorem md_lines {j : Nat} (hj : Φ[j]? = some .pool) (h : MD Φ te m tI) : MD Φ (tCall sp_l_lines [] E (tCons (tVar j) (tCons te tNil))) (wBind (wCons m wNil) fun z => wLines z.1) (eL tI) :=
  md_callP (φs := fun z => [tI z.1]) (φ := fun L => tL (L.map tI)) (B := fun L => L.length ≤ 100000) hj (ma_cons h ma_nil) (fun a G vs h => h) (fun a P ⟨h1, h2, h3⟩ => ⟨a.1, h1, h2, rfl, fun L hL => ⟨h3 L hL, by have := hL.l; omega⟩, rfl⟩) fun t G v hb hv => ⟨hv, hb⟩
def wBoxes (xs ys : List Int) (n : Int) : Wp (List Bx) := fun P => AxOk xs ∧ AxOk ys ∧ 0 ≤ n ∧ n ≤ 100 ∧ ∀ bs, BoxesOk xs ys n.toNat bs → P bs
theorem md_boxes {j : Nat} {r : Wp (List Int × List Int × Int × Unit)} (hj : Φ[j]? = some .pool) (h : MA Φ tr r fun z => [eL tI z.1, eL tI z.2.1, tI z.2.2.1]) : MD Φ (tCall sp_l_boxes [] E (tCons (tVar j) tr)) (wBind r fun z => wBoxes z.1 z.2.1 z.2.2.1) (eL eB4) :=
  md_callP (φs := fun z => [tL (z.1.map tI), tL (z.2.1.map tI), tI z.2.2.1]) (φ := fun L => tL (L.map tB4)) (B := fun L => L.length ≤ 100000) hj h (fun a G vs h => by
    cases h with
    | cons h1 h =>
      cases h with
      | cons h2 h => exact .cons h1.1 (.cons h2.1 h)) (fun a P ⟨h1, h2, h3, h4, h5⟩ => ⟨a.1, a.2.1, a.2.2.1.toNat, h1, h2, by omega, by
        have : ((a.2.2.1.toNat : Nat) : Int) = a.2.2.1 := by omega
        rw [this], fun L hL => ⟨h5 L hL, by have := hL.l; omega⟩, rfl⟩) fun t G v hb hv => ⟨hv, hb⟩
/-! the script -/
def tScr (K : Fg) (ns : List Int) : Ty := ⟨fun G v => ∃ a, v = .ref a ∧ SqL K G a (ns.map V.int), fun _ _ _ s ⟨a, e, h⟩ => ⟨a, e, sqL_mono s h⟩⟩
theorem md_lenScr {r : Wp (List Int)} (h : MD Φ te r (tScr K)) : MD Φ (tCB (rLenX K) (tCons te tNil)) (wBind r fun ns => wPure (ns.length : Int)) tI := fun σ G H ev P Q mp k =>
  h σ G H ev _ _ mp fun ns v G1 H1 pa s1 hv => by
    obtain ⟨a, rfl, hs⟩ := hv
    exact ⟨.ref a, (ns.map V.int).length, rfl, .inl ⟨_, sqL_mono s1.e.s hs, rfl⟩, k _ _ G1 H1 pa s1 (by rw [List.length_map]; rfl)⟩
/-- pool = _law_pool(script, k) -/
theorem EnvOk.newPool {i : Nat} {q : Addr} {x y : Int} {σ : St} {G H H' : Hp} (ev : EnvOk c Φ σ G H) (hq : H q = none) (s : Same H H') (hh : H' q = some (.lst [.int x, .int y])) (po : PoolOk x y) : EnvOk c (Φ.set i .pool) (σ.set i (some (.ref q))) G H' := by
  have st := ev.step (step_rest ev.L s)
  have gq : G q = none := ev.L.s.free hq
  have nex : ¬ c.ex q := fun z => by
    obtain ⟨_, x, y, h, _⟩ := ev.k q z
    rw [hq] at h
    cases h
  have h0 : c.H0 q = none := by
    cases z : c.H0 q with
    | none => rfl
    | some o =>
      have := ev.b q o nex z
      rw [hq] at this
      cases this
  have mm : ∀ (j : Nat) (p : Addr), MutAt (Φ.set i .pool) (σ.set i (some (.ref q))) j p → (j = i ∧ p = q) ∨ (j ≠ i ∧ MutAt Φ σ j p) := by
    rintro j p ⟨⟨s, h1, h2⟩, h3⟩
    rcases set_at h1 with ⟨rfl, rfl, _⟩ | ⟨n, h1⟩
    · rcases set_at h3 with ⟨_, z, _⟩ | ⟨n, _⟩
      · cases z
        exact .inl ⟨rfl, rfl⟩
      · exact absurd rfl n
    · rcases set_at h3 with ⟨z, _⟩ | ⟨_, h3⟩
      · exact absurd z n
      · exact .inr ⟨fun z => n z.symm, ⟨s, h1, h2⟩, h3⟩
  have mq : ∀ {p}, Muts Φ σ p → p ≠ q := fun h z => by
    obtain ⟨⟨vs, h1⟩, _⟩ := ev.L.mut h
    subst z
    rw [hq] at h1
    cases h1
  refine ⟨⟨st.L.s, by simp [ev.L.l], fun j s h => ?_, fun x y p h1 h2 => ?_⟩, st.g, st.b, st.f, fun j ψs p h1 h2 => ?_, st.k, fun j p h1 h2 => ?_⟩
  · rcases set_at h with ⟨rfl, rfl, hl⟩ | ⟨n, h⟩
    · exact ⟨_, by rw [List.getElem?_set]; simp [ev.L.l, hl], q, x, y, rfl, hh, po, gq⟩
    · obtain ⟨o, h1, h2⟩ := st.L.sl j s h
      exact ⟨o, by rw [List.getElem?_set]; simp [n, h1], h2⟩
  · rcases mm x p h1 with ⟨z1, z2⟩ | ⟨nx, k1⟩
    · rcases mm y p h2 with ⟨z3, _⟩ | ⟨ny, k2⟩
      · omega
      · exact absurd z2 (mq ⟨y, k2⟩)
    · rcases mm y p h2 with ⟨_, z4⟩ | ⟨ny, k2⟩
      · exact absurd z4 (mq ⟨x, k1⟩)
      · exact ev.L.nd x y p k1 k2
  · rcases set_at h1 with ⟨rfl, z, _⟩ | ⟨n, h1⟩
    · cases z
    · rcases set_at h2 with ⟨w, _⟩ | ⟨_, h2⟩
      · exact absurd w n
      · exact st.m j ψs p h1 h2
  · rcases set_at h1 with ⟨rfl, z, _⟩ | ⟨n, h1⟩
    · rcases set_at h2 with ⟨_, w, _⟩ | ⟨n, _⟩
      · cases w
        exact .inr h0
      · exact absurd rfl n
    · rcases set_at h2 with ⟨w, _⟩ | ⟨_, h2⟩
      · exact absurd w n
      · exact st.r j p h1 h2
theorem nx_pool {i : Nat} {M : Prop} {r : Wp (List Int)} (h : MD Φ te r (tScr K)) (hb : MD Φ tb n tI) (k : NxC c D (Φ.set i .pool) M) :
    NxS c (tAsg (tCall (sp_l_pool K) [] E (tCons te (tCons tb tNil))) (gName i)) D Φ (wRun r fun _ => n fun j => (0 ≤ j ∧ j ≤ 100) ∧ M) := fun σ G H ev mp =>
  h σ G H ev.L _ _ mp fun ns v G1 H1 pa s1 hv => hb σ G1 H1 s1.e _ _ pa fun j w G2 H2 pb s2 hw => by
    cases hw
    obtain ⟨a, rfl, hs⟩ := hv
    have ev2 := (ev.step s1).step s2
    exact ⟨a, ns, j, rfl, sqL_mono ev2.L.s (sqL_mono s2.g hs), pb.1.1, pb.1.2, fun p x y H' po hp hS hh => k _ G2 H' (ev2.newPool hp hS hh po) pb.2⟩
end
end BR
/-! Own layer: tuples by places, None, methods of regions; a law's own def. -/
namespace BR
open PySem PySem.Spec PyProof.Rows L2
/-! ### x.m(..) -/
section
variable {X : Cx} {CX : CXT} {k : Nat} {C f : Addr} {m : Str} {sp : Sp} {E : XK} {o e : Expr} {es : List Expr} {ta : TE} {t : TA} {apos pos : Pos}
theorem pe_methR {pl : Sem Bool} (he : PE X o ta) (c : Cls X.K C) (hm : Meth X.K C m f) (F : FnR X.prog X.w X.K X.mg X.base CX k f sp) (hr : Room k X.A) (hx : Passes CX X E) (ha : PA X (e :: es) t)
    (hst : starEach (e :: es) X.env = (false, eval e X.env) :: starEach es X.env := by rfl) (hpl : (backTo pos (starEach es X.env)).any (·.1) = false := by rfl)
    (ht : eval (.Call (.Attribute o m apos) (e :: es) [] pos) X.env = (do
      let ov ← eval o X.env
      standAt apos.atName
      let (f, first) ← holding [ov] (getMethod ov m pl)
      callWith pos f first (backTo pos (starEach (e :: es) X.env)) (backToKw pos (keywordEach [] X.env))) := by rfl) :
    PE X (.Call (.Attribute o m apos) (e :: es) [] pos) (tMeth C m sp [] E ta t) := by
  refine ⟨fun pins s σ H Q I h => ?_⟩
  refine PySem.W.methodCall_KW (pl := pl) (thn (he.run pins s σ H _ I h) fun u s1 ⟨x, H1, I1, rx, a, dx, fs, ex, ea, l, q⟩ => ?_) ht
  subst ex
  obtain rfl : u = Value.ref a := rx
  refine getmeth_ok I1 ea c hm l ?_
  refine PySem.W.callWith_K (first := [.ref a]) (h₀ := X.base) I.ok.mod.kin hm.kp (thn (ha.run pos pins s1 σ H1 _ I1 q) fun us s2 ⟨vs, H2, I2, r, q2⟩ => ⟨I2.kIn, ?_⟩) hst hpl
  have q3 : sp (.ref a :: vs) H2 Q E := by
    have q4 : sp (.ref a :: (vs ++ [])) H2 Q E := q2
    rw [List.append_nil] at q4
    exact q4
  exact run_sub (us := .ref a :: us) (vs := .ref a :: vs) ⟨hr, rfl⟩ F hx I2 (.cons rfl r) q3
end
class NN {α : Type} (e : α → Ty) : Prop where
  h : ∀ a G v, (e a).p G v → v ≠ .non
instance : NN tI := ⟨fun a G v h => by cases h; exact fun z => nomatch z⟩
instance : NN tBo := ⟨fun a G v h => by cases h; exact fun z => nomatch z⟩
instance : NN tSt := ⟨fun a G v h => by cases h; exact fun z => nomatch z⟩
instance {α : Type} {e : α → Ty} : NN (eL e) := ⟨fun a G v h => by obtain ⟨⟨p, vs, rfl, _⟩, _⟩ := h; exact fun z => nomatch z⟩
instance {α : Type} {e : α → Ty} : NN (eT e) := ⟨fun a G v h => by obtain ⟨⟨p, vs, rfl, _⟩, _⟩ := h; exact fun z => nomatch z⟩
instance {α β : Type} {e : α → Ty} {f : β → Ty} : NN (e2 e f) := ⟨fun a G v h => by obtain ⟨p, vs, rfl, _⟩ := h; exact fun z => nomatch z⟩
instance {α β γ : Type} {e : α → Ty} {f : β → Ty} {g : γ → Ty} : NN (e3 e f g) := ⟨fun a G v h => by obtain ⟨p, vs, rfl, _⟩ := h; exact fun z => nomatch z⟩
instance {α β γ δ : Type} {e : α → Ty} {f : β → Ty} {g : γ → Ty} {i : δ → Ty} : NN (e4 e f g i) := ⟨fun a G v h => by obtain ⟨p, vs, rfl, _⟩ := h; exact fun z => nomatch z⟩
instance {K : Fg} : NN (tReg K) := ⟨fun a G v h => by obtain ⟨p, dx, fv, rfl, _⟩ := h; exact fun z => nomatch z⟩
class TyE {α : Type} (e : α → Ty) where
  cls : String
  h : ∀ (K : Fg) a G v, (e a).p G v → TyX K G v (.type cls)
instance : TyE tI := ⟨"int", fun K a G v h => by cases h; exact .base (.int a)⟩
instance : TyE tBo := ⟨"bool", fun K a G v h => by cases h; exact .base (.bl a)⟩
instance : TyE tSt := ⟨"str", fun K a G v h => by cases h; exact .base (.str a)⟩
instance : TyE eU := ⟨"NoneType", fun K a G v h => by cases h; exact .base .non⟩
instance {α : Type} {e : α → Ty} : TyE (eL e) := ⟨"list", fun K a G v h => by obtain ⟨⟨p, vs, rfl, h, _⟩, _⟩ := h; exact .base (.lst h)⟩
instance {α : Type} {e : α → Ty} : TyE (eT e) := ⟨"tuple", fun K a G v h => by obtain ⟨⟨p, vs, rfl, h, _⟩, _⟩ := h; exact .base (.tup h)⟩
instance {α β : Type} {e : α → Ty} {f : β → Ty} : TyE (e2 e f) := ⟨"tuple", fun K a G v h => by obtain ⟨p, vs, rfl, h, _⟩ := h; exact .base (.tup h)⟩
instance {α β γ : Type} {e : α → Ty} {f : β → Ty} {g : γ → Ty} : TyE (e3 e f g) := ⟨"tuple", fun K a G v h => by obtain ⟨p, vs, rfl, h, _⟩ := h; exact .base (.tup h)⟩
instance {α β γ δ : Type} {e : α → Ty} {f : β → Ty} {g : γ → Ty} {i : δ → Ty} : TyE (e4 e f g i) := ⟨"tuple", fun K a G v h => by obtain ⟨p, vs, rfl, h, _⟩ := h; exact .base (.tup h)⟩
section
variable {K : Fg} {c : Cn} {Φ : Sts} {ta tb te tl tc td : TE} {tr : TA} {α β γ δ : Type} {m n : Wp Int} {e : α → Ty} {f : β → Ty} {g : γ → Ty} {h : δ → Ty} {D : Ends} {E : XK} {p q : Wp Reg} {wa : Wp α} {wb : Wp β} {wc : Wp γ} {wd : Wp δ}
theorem md_ma {es : α → List Ty} {g : γ → Ty} {k : α → γ} {T : List V → HO} {tf : TE} (h : MA Φ tr wa es) (ht : ∀ σ H Q, (tr σ H fun vs H1 => vs.length ≤ sizeLine ∧ ∀ q, H1 q = none → Q (.ref q) (upd H1 q (T vs))) → tf σ H Q) (hl : ∀ a, (es a).length ≤ 100000) (hg : ∀ a G q vs, G q = some (T vs) → All G (es a) vs → (g (k a)).p G (.ref q)) :
    MD Φ tf (wBind wa fun a => wPure (k a)) g := fun σ G H ev P Q mp q =>
  ht σ H Q (h σ G H ev _ _ mp fun a vs G1 H1 pa s1 hvs => ⟨sz_of (by rw [hvs.length]; exact hl a), fun p hp =>
    have g2 : Grow G1 H1 (upd G1 p (T vs)) (upd H1 p (T vs)) := .new s1.e.s hp
    q _ (.ref p) _ _ pa (s1.trans (.grow s1.e g2)) (hg a _ _ vs upd_same (hvs.mono g2.g))⟩)
theorem md_t2 (h1 : MD Φ ta wa e) (h2 : MD Φ tb wb f) : MD Φ (tTup (tCons ta (tCons tb tNil))) (wBind wa fun a => wBind wb fun b => wPure (a, b)) (e2 e f) :=
  md_ma (wa := wCons wa (wCons wb wNil)) (k := fun z => (z.1, z.2.1)) (T := .tup) (ma_cons h1 (ma_cons h2 ma_nil)) (fun _ _ _ h => h) (fun _ => by simp) fun a G q vs h k => ⟨q, vs, rfl, h, k⟩
theorem md_t3 (h1 : MD Φ ta wa e) (h2 : MD Φ tb wb f) (h3 : MD Φ tc wc g) : MD Φ (tTup (tCons ta (tCons tb (tCons tc tNil)))) (wBind wa fun a => wBind wb fun b => wBind wc fun c => wPure (a, b, c)) (e3 e f g) :=
  md_ma (wa := wCons wa (wCons wb (wCons wc wNil))) (k := fun z => (z.1, z.2.1, z.2.2.1)) (T := .tup) (ma_cons h1 (ma_cons h2 (ma_cons h3 ma_nil))) (fun _ _ _ h => h) (fun _ => by simp) fun a G q vs h k => ⟨q, vs, rfl, h, k⟩
theorem md_t4 (h1 : MD Φ ta wa e) (h2 : MD Φ tb wb f) (h3 : MD Φ tc wc g) (h4 : MD Φ td wd h) : MD Φ (tTup (tCons ta (tCons tb (tCons tc (tCons td tNil))))) (wBind wa fun a => wBind wb fun b => wBind wc fun c => wBind wd fun d => wPure (a, b, c, d)) (e4 e f g h) :=
  md_ma (wa := wCons wa (wCons wb (wCons wc (wCons wd wNil)))) (k := fun z => (z.1, z.2.1, z.2.2.1, z.2.2.2.1)) (T := .tup) (ma_cons h1 (ma_cons h2 (ma_cons h3 (ma_cons h4 ma_nil)))) (fun _ _ _ h => h) (fun _ => by simp) fun a G q vs h k => ⟨q, vs, rfl, h, k⟩
theorem md_h2 (h1 : MD Φ ta wa e) (h2 : MD Φ tb wb f) : MD Φ (tLst (tCons ta (tCons tb tNil))) (wBind wa fun a => wBind wb fun b => wPure (a, b)) (l2 e f) :=
  md_ma (wa := wCons wa (wCons wb wNil)) (k := fun z => (z.1, z.2.1)) (T := .lst) (ma_cons h1 (ma_cons h2 ma_nil)) (fun _ _ _ h => h) (fun _ => by simp) fun a G q vs h k => ⟨q, vs, rfl, h, k⟩
theorem md_h3 (h1 : MD Φ ta wa e) (h2 : MD Φ tb wb f) (h3 : MD Φ tc wc g) : MD Φ (tLst (tCons ta (tCons tb (tCons tc tNil)))) (wBind wa fun a => wBind wb fun b => wBind wc fun c => wPure (a, b, c)) (l3 e f g) :=
  md_ma (wa := wCons wa (wCons wb (wCons wc wNil))) (k := fun z => (z.1, z.2.1, z.2.2.1)) (T := .lst) (ma_cons h1 (ma_cons h2 (ma_cons h3 ma_nil))) (fun _ _ _ h => h) (fun _ => by simp) fun a G q vs h k => ⟨q, vs, rfl, h, k⟩
theorem md_e2_0 {r : Wp (α × β)} (ha : MD Φ ta r (e2 e f)) : MD Φ (tOp (rIx K) ta (tC (.int 0))) (wBind r fun a => wPure a.1) e := md_pl (es := fun (c : α × β) => [e c.1, f c.2]) ha fun _ => rfl
theorem md_e2_1 {r : Wp (α × β)} (ha : MD Φ ta r (e2 e f)) : MD Φ (tOp (rIx K) ta (tC (.int 1))) (wBind r fun a => wPure a.2) f := md_pl (es := fun (c : α × β) => [e c.1, f c.2]) ha fun _ => rfl
theorem md_e3_0 {r : Wp (α × β × γ)} (ha : MD Φ ta r (e3 e f g)) : MD Φ (tOp (rIx K) ta (tC (.int 0))) (wBind r fun a => wPure a.1) e := md_pl (es := fun (c : α × β × γ) => [e c.1, f c.2.1, g c.2.2]) ha fun _ => rfl
theorem md_e3_1 {r : Wp (α × β × γ)} (ha : MD Φ ta r (e3 e f g)) : MD Φ (tOp (rIx K) ta (tC (.int 1))) (wBind r fun a => wPure a.2.1) f := md_pl (es := fun (c : α × β × γ) => [e c.1, f c.2.1, g c.2.2]) ha fun _ => rfl
theorem md_e3_2 {r : Wp (α × β × γ)} (ha : MD Φ ta r (e3 e f g)) : MD Φ (tOp (rIx K) ta (tC (.int 2))) (wBind r fun a => wPure a.2.2) g := md_pl (es := fun (c : α × β × γ) => [e c.1, f c.2.1, g c.2.2]) ha fun _ => rfl
theorem md_e4_0 {r : Wp (α × β × γ × δ)} (ha : MD Φ ta r (e4 e f g h)) : MD Φ (tOp (rIx K) ta (tC (.int 0))) (wBind r fun a => wPure a.1) e := md_pl (es := fun (c : α × β × γ × δ) => [e c.1, f c.2.1, g c.2.2.1, h c.2.2.2]) ha fun _ => rfl
theorem md_e4_1 {r : Wp (α × β × γ × δ)} (ha : MD Φ ta r (e4 e f g h)) : MD Φ (tOp (rIx K) ta (tC (.int 1))) (wBind r fun a => wPure a.2.1) f := md_pl (es := fun (c : α × β × γ × δ) => [e c.1, f c.2.1, g c.2.2.1, h c.2.2.2]) ha fun _ => rfl
theorem md_e4_2 {r : Wp (α × β × γ × δ)} (ha : MD Φ ta r (e4 e f g h)) : MD Φ (tOp (rIx K) ta (tC (.int 2))) (wBind r fun a => wPure a.2.2.1) g := md_pl (es := fun (c : α × β × γ × δ) => [e c.1, f c.2.1, g c.2.2.1, h c.2.2.2]) ha fun _ => rfl
theorem md_e4_3 {r : Wp (α × β × γ × δ)} (ha : MD Φ ta r (e4 e f g h)) : MD Φ (tOp (rIx K) ta (tC (.int 3))) (wBind r fun a => wPure a.2.2.2) h := md_pl (es := fun (c : α × β × γ × δ) => [e c.1, f c.2.1, g c.2.2.1, h c.2.2.2]) ha fun _ => rfl
theorem md_l2_0 {r : Wp (α × β)} (ha : MD Φ ta r (l2 e f)) : MD Φ (tOp (rIx K) ta (tC (.int 0))) (wBind r fun a => wPure a.1) e := md_plL (es := fun (c : α × β) => [e c.1, f c.2]) ha fun _ => rfl
theorem md_l2_1 {r : Wp (α × β)} (ha : MD Φ ta r (l2 e f)) : MD Φ (tOp (rIx K) ta (tC (.int 1))) (wBind r fun a => wPure a.2) f := md_plL (es := fun (c : α × β) => [e c.1, f c.2]) ha fun _ => rfl
theorem md_l3_0 {r : Wp (α × β × γ)} (ha : MD Φ ta r (l3 e f g)) : MD Φ (tOp (rIx K) ta (tC (.int 0))) (wBind r fun a => wPure a.1) e := md_plL (es := fun (c : α × β × γ) => [e c.1, f c.2.1, g c.2.2]) ha fun _ => rfl
theorem md_l3_1 {r : Wp (α × β × γ)} (ha : MD Φ ta r (l3 e f g)) : MD Φ (tOp (rIx K) ta (tC (.int 1))) (wBind r fun a => wPure a.2.1) f := md_plL (es := fun (c : α × β × γ) => [e c.1, f c.2.1, g c.2.2]) ha fun _ => rfl
theorem md_l3_2 {r : Wp (α × β × γ)} (ha : MD Φ ta r (l3 e f g)) : MD Φ (tOp (rIx K) ta (tC (.int 2))) (wBind r fun a => wPure a.2.2) g := md_plL (es := fun (c : α × β × γ) => [e c.1, f c.2.1, g c.2.2]) ha fun _ => rfl
theorem md_isi [i : TyE e] {n : String} {b : Bool} (ha : MD Φ ta wa e) (hk : kitB i.cls n = some b) : MD Φ (tCB (rIsi K) (tCons ta (tCons (tC (.ty n)) tNil))) (wBind wa fun _ => wPure b) tBo :=
  md_1 (F := fun te => tCB (rIsi K) (tCons te (tCons (tC (.ty n)) tNil))) (fun _ _ _ h => h) ha fun a x σ G P hx hp => ⟨_, hp, pd_isi (pd_cv hx) (fun G v h => i.h K a G v h) (kitB_of hk)⟩
theorem md_lenK {es : α → List Ty} {k : Nat} (ha : MD Φ ta wa fun c => tT (es c)) (hk : ∀ c, (es c).length = k) : MD Φ (tCB (rLenX K) (tCons ta tNil)) (wBind wa fun _ => wPure (k : Int)) tI :=
  md_1 (F := fun te => tCB (rLenX K) (tCons te tNil)) (hF1 ta) ha fun a x σ G P hx hp => ⟨_, hp, PD.is (pd_lenT (pd_cv hx)) (by rw [hk])⟩
theorem md_lenE2 {r : Wp (α × β)} (ha : MD Φ ta r (e2 e f)) : MD Φ (tCB (rLenX K) (tCons ta tNil)) (wBind r fun _ => wPure ((2 : Nat) : Int)) tI := md_lenK (es := fun (c : α × β) => [e c.1, f c.2]) ha fun _ => rfl
theorem md_lenE3 {r : Wp (α × β × γ)} (ha : MD Φ ta r (e3 e f g)) : MD Φ (tCB (rLenX K) (tCons ta tNil)) (wBind r fun _ => wPure ((3 : Nat) : Int)) tI := md_lenK (es := fun (c : α × β × γ) => [e c.1, f c.2.1, g c.2.2]) ha fun _ => rfl
theorem md_lenE4 {r : Wp (α × β × γ × δ)} (ha : MD Φ ta r (e4 e f g h)) : MD Φ (tCB (rLenX K) (tCons ta tNil)) (wBind r fun _ => wPure ((4 : Nat) : Int)) tI := md_lenK (es := fun (c : α × β × γ × δ) => [e c.1, f c.2.1, g c.2.2.1, h c.2.2.2]) ha fun _ => rfl
/-! None -/
theorem md_nonU : MD Φ (tC .non) (wPure ()) eU := md_c fun _ => rfl
theorem md_none : MD Φ (tC .non) (wPure none) (eO e) := md_c fun _ => rfl
theorem MD.some (h : MD Φ te wa e) : MD Φ te (wBind wa fun a => wPure (some a)) (eO e) := h.conv fun _ _ _ h => h
theorem md_isNo [i : NN e] {p : Wp (Option α)} (ha : MD Φ ta p (eO e)) : MD Φ (tOp rIsN ta (tC .non)) (wBind p fun a => wPure a.isNone) tBo := md_isN i.h ha
theorem md_notNo [i : NN e] {p : Wp (Option α)} (ha : MD Φ ta p (eO e)) : MD Φ (tOp rNotN ta (tC .non)) (wBind p fun a => wPure a.isSome) tBo := md_notN i.h ha
theorem md_isBl {p q : Wp Bool} (ha : MD Φ ta p tBo) (hb : MD Φ tb q tBo) : MD Φ (tOp rIsB ta tb) (wBind p fun a => wBind q fun b => wPure (decide (a = b))) tBo :=
  md_op ha hb fun a b x y σ G P hx hy hp => ⟨_, hp, pd_isB (pd_cv hx) (pd_cv hy)⟩
theorem md_notBl {p q : Wp Bool} (ha : MD Φ ta p tBo) (hb : MD Φ tb q tBo) : MD Φ (tOp rNotB ta tb) (wBind p fun a => wBind q fun b => wPure (!decide (a = b))) tBo :=
  md_op ha hb fun a b x y σ G P hx hy hp => ⟨_, hp, pd_notB (pd_cv hx) (pd_cv hy)⟩
theorem md_revL {p : Wp (List α)} (ha : MD Φ ta p (eL e)) : MD Φ (tRevL K ta) (wBind p fun a => wPure a.reverse) (eL e) :=
  md_1 (F := fun te => tRevL K te) (fun _ _ _ h => h) ha fun a x σ G P hx hp => ⟨_, hp, (pd_revL (pd_cv hx.1)).imp fun G v h => ⟨by rw [List.map_reverse]; exact h, by rw [List.length_reverse]; exact hx.2⟩⟩
theorem md_boolB {p : Wp Bool} (ha : MD Φ ta p tBo) : MD Φ (tCB rBool1 (tCons ta tNil)) (wBind p fun a => wPure a) tBo :=
  md_b1 (t := fun te => tCB rBool1 (tCons te tNil)) (o := fun a => a) hF1 ha fun a x σ G hx => pd_bool (pd_cv hx)
def wMax (l : List Int) : Wp Int := fun P => l ≠ [] ∧ P (lMax l)
def wMin (l : List Int) : Wp Int := fun P => l ≠ [] ∧ P (lMin l)
theorem md_maxL {p : Wp (List Int)} (ha : MD Φ ta p (eL tI)) : MD Φ (tCB (rMax K) (tCons ta tNil)) (wBind p fun a => wMax a) tI :=
  md_1 (F := fun te => tCB (rMax K) (tCons te tNil)) (hF1 ta) ha fun a x σ G P hx hp => ⟨_, hp.2, pd_maxL (pd_cv hx.1) hp.1⟩
theorem md_minL {p : Wp (List Int)} (ha : MD Φ ta p (eL tI)) : MD Φ (tCB (rMin K) (tCons ta tNil)) (wBind p fun a => wMin a) tI :=
  md_1 (F := fun te => tCB (rMin K) (tCons te tNil)) (hF1 ta) ha fun a x σ G P hx hp => ⟨_, hp.2, pd_minL (pd_cv hx.1) hp.1⟩
/-- an owned list beside [] -/
theorem own_cmp [i0 : DatE e] {i : Nat} {l : List α} (hi : Φ[i]? = some (.own (cL (l.map e)))) (hn : i0.n ≤ 60 := by decide) : MD Φ (tOp (rEqX K) (tVar i) (tLst tNil)) (wPure l.isEmpty) tBo := fun σ G H ev P Q mp k => by
  obtain ⟨o, h1, q, u, rfl, h2, ⟨vs, rfl, h3, h5⟩, h4⟩ := ev.sl i _ hi
  have hv : (dt (.list (l.map i0.d))).p H (.ref q) := by
    rw [dt_list]
    exact ⟨q, vs, rfl, h2, (h3.dts).mono ev.s⟩
  have hl : Lay (.list (l.map i0.d)) (i0.n + 2) := Lay.list fun d hd => by
    obtain ⟨x, _, rfl⟩ := List.mem_map.mp hd
    exact i0.lay x
  have e0 : PyData.eqv (.list (l.map i0.d)) (.list []) = l.isEmpty := by cases l <;> simp [PyData.eqv, PyData.eqvAll]
  have k1 := pd_eqD (K := K) (σ := σ) (G := H) (R := H) (ta := tVar i) (tb := tLst tNil) (pd_var h1 hv) (e := .list []) (by rw [dt_list]; exact pd_lst ad_nil (by simp)) (hl.shaped (by omega)) rfl
  rw [e0] at k1
  exact k1 H (same_refl _) (same_refl _) Q fun v G' H' gr hv => k _ v G H' mp (step_rest ev gr.h) hv
theorem md_ownEq [i0 : DatE e] {i : Nat} {l : List α} (hi : Φ[i]? = some (.own (cL (l.map e)))) (hn : i0.n ≤ 60 := by decide) : MD Φ (tOp (rEqX K) (tVar i) (tLst tNil)) (wPure l.isEmpty) tBo := own_cmp hi hn
theorem md_ownNe [i0 : DatE e] {i : Nat} {l : List α} (hi : Φ[i]? = some (.own (cL (l.map e)))) (hn : i0.n ≤ 60 := by decide) : MD Φ (tOp (rNeX K) (tVar i) (tLst tNil)) (wPure (!l.isEmpty)) tBo := fun σ G H ev P Q mp k => by
  obtain ⟨o, h1, q, u, rfl, h2, ⟨vs, rfl, h3, h5⟩, h4⟩ := ev.sl i _ hi
  have hv : (dt (.list (l.map i0.d))).p H (.ref q) := by
    rw [dt_list]
    exact ⟨q, vs, rfl, h2, (h3.dts).mono ev.s⟩
  have hl : Lay (.list (l.map i0.d)) (i0.n + 2) := Lay.list fun d hd => by
    obtain ⟨x, _, rfl⟩ := List.mem_map.mp hd
    exact i0.lay x
  have e0 : PyData.eqv (.list (l.map i0.d)) (.list []) = l.isEmpty := by cases l <;> simp [PyData.eqv, PyData.eqvAll]
  have k1 := pd_neD (K := K) (σ := σ) (G := H) (R := H) (ta := tVar i) (tb := tLst tNil) (pd_var h1 hv) (e := .list []) (by rw [dt_list]; exact pd_lst ad_nil (by simp)) (hl.shaped (by omega)) rfl
  rw [e0] at k1
  exact k1 H (same_refl _) (same_refl _) Q fun v G' H' gr hv => k _ v G H' mp (step_rest ev gr.h) hv
/-- x += e -/
theorem nx_augA {i : Nat} {a : Int} {M : Int → Prop} (hi : Φ[i]? = some (.val (tI a))) (hb : MD Φ tb n tI) (k : ∀ b, NxC c D (Φ.set i (.val (tI (a + b)))) (M b)) : NxS c (tAug i tb (ipI (· + ·))) D Φ (wRun n M) := fun σ G H ev mp => by
  obtain ⟨o, h1, v, rfl, h2⟩ := ev.L.sl i _ hi
  cases h2
  refine ⟨_, h1, hb σ G H ev.L _ _ mp fun b w G' H' pb s hw => ?_⟩
  cases hw
  exact ⟨a, b, rfl, rfl, k b _ G' H' ((ev.step s).set (s := .val (tI (a + b))) rfl ⟨_, rfl, rfl⟩) pb⟩
theorem nx_augS {i : Nat} {a : Int} {M : Int → Prop} (hi : Φ[i]? = some (.val (tI a))) (hb : MD Φ tb n tI) (k : ∀ b, NxC c D (Φ.set i (.val (tI (a - b)))) (M b)) : NxS c (tAug i tb (ipI (· - ·))) D Φ (wRun n M) := fun σ G H ev mp => by
  obtain ⟨o, h1, v, rfl, h2⟩ := ev.L.sl i _ hi
  cases h2
  refine ⟨_, h1, hb σ G H ev.L _ _ mp fun b w G' H' pb s hw => ?_⟩
  cases hw
  exact ⟨a, b, rfl, rfl, k b _ G' H' ((ev.step s).set (s := .val (tI (a - b))) rfl ⟨_, rfl, rfl⟩) pb⟩
/-- a tuple of known length, walked -/
theorem md_asS2 {r : Wp (α × α)} (ha : MD Φ ta r (e2 e e)) : MD Φ ta (wBind r fun a => wPure [a.1, a.2]) (eS e) := MD.conv (g := eS e) (k := fun (a : α × α) => [a.1, a.2]) ha fun a G v ⟨p, vs, h1, h2, h3⟩ => ⟨⟨p, vs, h1, .inr h2, h3⟩, by simp⟩
theorem md_asS3 {r : Wp (α × α × α)} (ha : MD Φ ta r (e3 e e e)) : MD Φ ta (wBind r fun a => wPure [a.1, a.2.1, a.2.2]) (eS e) := MD.conv (g := eS e) (k := fun (a : α × α × α) => [a.1, a.2.1, a.2.2]) ha fun a G v ⟨p, vs, h1, h2, h3⟩ => ⟨⟨p, vs, h1, .inr h2, h3⟩, by simp⟩
theorem md_asS4 {r : Wp (α × α × α × α)} (ha : MD Φ ta r (e4 e e e e)) : MD Φ ta (wBind r fun a => wPure [a.1, a.2.1, a.2.2.1, a.2.2.2]) (eS e) := MD.conv (g := eS e) (k := fun (a : α × α × α × α) => [a.1, a.2.1, a.2.2.1, a.2.2.2]) ha fun a G v ⟨p, vs, h1, h2, h3⟩ => ⟨⟨p, vs, h1, .inr h2, h3⟩, by simp⟩
theorem tyx_S {x : Str} (G : Hp) (v : V) (h : (tSt x).p G v) : TyX K G v (.type "str") := by
  cases h
  exact .base (.str _)
/-! ### regions, further -/
def sp_everything (K : Fg) : Sp := spT fun φs φ => φs = [] ∧ φ = tReg K ([], true)
def sp_is_bounded (K : Fg) : Sp := spR1 K (fun _ => True) fun a => tBo (!a.2)
def rwithin (a b : Reg) : Bool := decide (unite (rout a) b = ([], true))
def sp_within (K : Fg) : Sp := spR2 K Sm2 fun a b => tBo (rwithin a b)
def t_Region_everything (K : Fg) : TS :=
  (tRet (StX.tMakeR (RG K) (sp_init K) E0 (tCons (tTup tNil) (tCons (tC (.bl true)) tNil))))
theorem pure_Region_everything : ∀ vs H (Q : VK) (E : XK), sp_everything K vs H Q E → t_Region_everything K { nx := fun _ H' => Q .non H', rt := Q } (L2.start [] vs) H := by
  refine pureT ?_
  rintro G φs φ vs H s1 hv ⟨rfl, rfl⟩ D k
  cases hv
  exact s_ret (G := G) (R := G) (σ := []) (φ := tReg K ([], true)) (pd_makeR (a := ([], true)) (ad_cons pd_nilF (ad_cons pd_c ad_nil))) s1 s1 k
theorem len_Region_everything : ∀ vs H Q E, sp_everything K vs H Q E → vs.length = ([] : List Str).length := lenT (by rintro φs φ ⟨rfl, _⟩; rfl)
def t_Region_is_bounded (K : Fg) : TS :=
  (tRet (tNotV (tFld K (tVar 0) "is_outside")))
theorem pure_Region_is_bounded (F : RegF K) : ∀ vs H (Q : VK) (E : XK), sp_is_bounded K vs H Q E → t_Region_is_bounded K { nx := fun _ H' => Q .non H', rt := Q } (L2.start ["self"] vs) H := by
  refine pureT ?_
  rintro G φs φ vs H s1 hv ⟨a, _, rfl, rfl⟩ D k
  obtain ⟨v0, rfl, h0⟩ := all1 hv
  exact s_ret (G := G) (R := G) (σ := [some v0]) (φ := tBo (!a.2)) (pd_notV (pd_isout F (pd_var rfl h0))) s1 s1 k
theorem len_Region_is_bounded : ∀ vs H Q E, sp_is_bounded K vs H Q E → vs.length = (["self"] : List Str).length := lenT (by rintro φs φ ⟨_, _, rfl, _⟩; rfl)
def t_Region_within (K : Fg) : TS :=
  (tSeq (tDrop (tCall (sp_check_region K) [] E0 (tCons (tVar 1) tNil)))
  (tSeq (tAsg (tCall (sp_united K) [] E0 (tCons (tCall (sp_turned_out K) [] E0 (tCons (tVar 0) tNil)) (tCons (tVar 1) tNil))) (gName 2))
  (tRet (tAndV (tOp (rEqX K) (tFld K (tVar 2) "form") (tTup tNil)) (tFld K (tVar 2) "is_outside")))))
theorem pure_Region_within (F : RegF K) : ∀ vs H (Q : VK) (E : XK), sp_within K vs H Q E → t_Region_within K { nx := fun _ H' => Q .non H', rt := Q } (L2.start ["self", "other", "both"] vs) H := by
  refine pureT ?_
  rintro G φs φ vs H s1 hv ⟨a, b, z, rfl, rfl⟩ D k
  obtain ⟨v0, v1, rfl, h0, h1⟩ := all2 hv
  refine q_drop (G := G) (R := G) (φ := tN) (σ := [some v0, some v1, none]) (pd_call (φs := [tReg K b]) (ad_cons (pd_var rfl h1) ad_nil) ⟨_, rfl, rfl⟩) s1 s1 fun G1 H1 g1 => ?_
  refine q_asg (G := G1) (R := G1) (φ := tReg K (unite (rout a) b)) (σ := [some v0, some v1, none]) (pd_unite (pd_tout (pd_var rfl ((tReg K a).m _ _ _ g1.g h0))) (pd_var rfl ((tReg K b).m _ _ _ g1.g h1)) z) g1.s g1.s fun v2 G2 H2 g2 h2 => ?_
  refine s_ret (G := G2) (R := G2) (σ := [some v0, some v1, some v2]) (φ := tBo (rwithin a b)) (PD.is (pd_andV (pd_eqForm (pd_form F (a := unite (rout a) b) (pd_var rfl h2)) pd_nilF) fun _ => pd_isout F (a := unite (rout a) b) (pd_var rfl h2)) ?_) g2.s g2.s fun v G' H' g hv => k v G' H' ((g1.trans g2).trans g) hv
  unfold rwithin
  congr 1
  generalize unite (rout a) b = u
  obtain ⟨u1, u2⟩ := u
  cases u2 <;> simp
theorem len_Region_within : ∀ vs H Q E, sp_within K vs H Q E → vs.length = (["self", "other"] : List Str).length := lenT (by rintro φs φ ⟨_, _, _, rfl, _⟩; rfl)
theorem md_everything : MD Φ (tStat0 (RG K) (sp_everything K) E (tC (.ref (RG K)))) (wPure (([], true) : Reg)) (tReg K) := md_stat0 ⟨rfl, rfl⟩
theorem md_isB (ha : MD Φ ta p (tReg K)) : MD Φ (tPropR (RG K) (sp_is_bounded K) E ta) (wBind p fun a => wPure (!a.2)) tBo :=
  md_1 (F := fun te => tPropR (RG K) (sp_is_bounded K) E te) (hFp ta) ha fun a x σ G P hx h => ⟨_, h, pd_propR (pd_cv hx) ⟨a, trivial, rfl, rfl⟩⟩
def wWithin (a b : Reg) : Wp Bool := fun P => Sm2 a b ∧ P (rwithin a b)
theorem md_within (ha : MD Φ ta p (tReg K)) (hb : MD Φ tb q (tReg K)) : MD Φ (tMeth (RG K) "within" (sp_within K) [] E ta (tCons tb tNil)) (wBind p fun a => wBind q fun b => wWithin a b) tBo := fun σ G H ev P Q mp k =>
  ha σ G H ev _ _ mp fun a v G1 H1 p1 s1 hv => by
    obtain ⟨x, dx, fv, rfl, e1, e2⟩ := hv
    refine ⟨x, dx, _, rfl, s1.e.s _ _ e1, rfl, hb σ G1 H1 s1.e _ _ p1 fun b w G2 H2 p2 s2 hw => ?_⟩
    exact ⟨G2, [tReg K a, tReg K b], tBo (rwithin a b), s2.e.s, .cons ((tReg K a).m _ _ _ s2.g ⟨x, dx, fv, rfl, e1, e2⟩) (.cons hw .nil), ⟨a, b, p2.1, rfl, rfl⟩, fun v G' H' gr hv => k _ v G' H' p2.2 ((s1.trans s2).trans (.grow s2.e gr)) hv⟩
/-- a law's own def -/
theorem pure_law_of {t : TS} {N : List Str} {k : List Int → (Bool → Prop) → Prop} {n : Nat} (hn : N.length = n + 1) (h : ∀ c D ns (R : Bool → Prop), RtOk c D.rt R tBo → NxS c t D (.val (tScr K ns) :: List.replicate n .un) (k ns R)) (hk : ∀ ns : List Int, ns.length ≤ 63 → k ns (· = true)) :
    ∀ vs H (Q : VK) (E : XK), sp_law K vs H Q E → t { nx := fun _ H' => Q .non H', rt := Q } (L2.start N vs) H := by
  rintro vs H Q E ⟨a, ns, rfl, hs, hl, q⟩
  refine h ⟨fun _ => False, H, H⟩ _ ns (· = true) (fun b v G' H' hb _ hv => ?_) _ H H (start_ok (φs := [tScr K ns]) (n := n) (same_refl H) (.cons ⟨a, rfl, hs⟩ .nil) rfl (by simp; omega) fun _ x => x) (hk ns hl)
  subst hb
  cases hv
  exact q H'
end
end BR
/-! Own layer: calls of the program's defs on forms, regions made, lists taken apart. -/
namespace BR
open PySem PySem.Spec PyProof.Rows L2
section
variable {K : Fg} {c : Cn} {Φ Ψ : Sts} {ta tb te tl tc td : TE} {tr : TA} {α β γ δ : Type} {m n : Wp Int} {e : α → Ty} {f : β → Ty} {g : γ → Ty} {h : δ → Ty} {D : Ends} {E : XK} {p q : Wp Reg} {wa : Wp α} {wb : Wp β} {wc : Wp γ} {wd : Wp δ}
/-! lists taken apart -/
theorem gm_unl {n : Nat} {t : TGs} {φ : Ty} {φs : List Ty} {js : List Nat} (h : GMs t Φ φs Ψ js) (hφ : φ = tL φs) (hn : φs.length = n) : GM (gUnl K n t) Φ φ Ψ js := fun σ G H v ev hv Q q => by
  subst hφ
  obtain ⟨a, vs, rfl, h1, h2⟩ := hv
  exact ⟨a, vs, rfl, .of (ev.s _ _ h1), by rw [h2.length]; exact hn, h σ G H vs ev h2 Q q⟩
theorem nx_asgL {tg : TG} {js : List Nat} {Ψ : γ → Sts} {k : γ → List α} {M : γ → Prop} {wl : Wp (List α)} (h : MD Φ te wl (eL e)) (hg : ∀ z, GM tg Φ (tL ((k z).map e)) (Ψ z) js) (kk : ∀ z, NxC c D (Ψ z) (M z)) : NxS c (tAsg te tg) D Φ (wRun wl fun l => ∃ z, l = k z ∧ M z) := fun σ G H ev mp =>
  h σ G H ev.L _ _ mp fun l v G' H' ⟨z, hz, hm⟩ s hv => by
    subst hz
    exact hg z σ G' H' v s.e hv.1 _ fun σ' t => kk z σ' G' H' (t.envOk (ev.step s)) hm
/-! fields, regions made -/
theorem hFf {fl : Str} (te : TE) (σ : St) (H : Hp) (Q : VK) (h : te σ H fun x H1 => tFld K (tC x) fl σ H1 Q) : tFld K te fl σ H Q := h
theorem md_form (F : RegF K) (ha : MD Φ ta p (tReg K)) : MD Φ (tFld K ta "form") (wBind p fun a => wPure a.1) tForm :=
  md_1 (F := fun te => tFld K te "form") (hFf ta) ha fun a x σ G P hx h => ⟨_, h, pd_form F (pd_cv hx)⟩
theorem md_isout (F : RegF K) (ha : MD Φ ta p (tReg K)) : MD Φ (tFld K ta "is_outside") (wBind p fun a => wPure a.2) tBo :=
  md_1 (F := fun te => tFld K te "is_outside") (hFf ta) ha fun a x σ G P hx h => ⟨_, h, pd_isout F (pd_cv hx)⟩
theorem md_make {wf : Wp (List Sl)} {wo : Wp Bool} (ha : MD Φ ta wf tForm) (hb : MD Φ tb wo tBo) : MD Φ (StX.tMakeR (RG K) (sp_init K) E (tCons ta (tCons tb tNil))) (wBind wf fun f => wBind wo fun o => wPure ((f, o) : Reg)) (tReg K) := fun σ G H ev P Q mp k =>
  ha σ G H ev _ _ mp fun f v G1 H1 p1 s1 hv => hb σ G1 H1 s1.e _ _ p1 fun o w G2 H2 p2 s2 hw =>
    (pd_makeR (K := K) (E := E) (σ := σ) (a := (f, o)) (ad_cons (pd_cv ((tForm f).m _ _ _ s2.g hv)) (ad_cons (pd_cv hw) ad_nil)) : PD (StX.tMakeR (RG K) (sp_init K) E (tCons (tC v) (tCons (tC w) tNil))) σ G2 H2 _) H2 (same_refl _) s2.e.s Q fun u G' H' gr hu => k _ u G' H' p2 ((s1.trans s2).trans (.grow s2.e gr)) hu
/-- x op t -/
theorem md_ownT {ρ : Type} {es : Reg × β × Unit → List Ty} {er : ρ → Ty} {k : Reg × β × Unit → Wp ρ} (ha : MD Φ ta p (tReg K)) (hb : MD Φ tb wb f) (hes : ∀ z, es z = [tReg K z.1, f z.2.1]) (ht : ∀ b G v, (f b).p G v → ∃ a ys, v = .ref a ∧ G a = some (.tup ys)) :
    MD Φ (tOp (rOwnT (RG K) (spM es er k) E) ta tb) (wBind p fun a => wBind wb fun b => k (a, b, ())) er := fun σ G H ev P Q mp kk =>
  ha σ G H ev _ _ mp fun a v G1 H1 p1 s1 hv => hb σ G1 H1 s1.e _ _ p1 fun b w G2 H2 p2 s2 hw => by
    have hv2 := (tReg K a).m _ _ _ s2.g hv
    obtain ⟨x, ys, rfl, hx⟩ := ht b _ _ hw
    exact ⟨isC_of hv2 s2.e.s, ⟨x, ys, rfl, s2.e.s _ _ hx⟩, G2, (a, b, ()), P, s2.e.s, by rw [hes]; exact .cons hv2 (.cons hw .nil), p2, fun r v G' H' pr gr hv => kk r v G' H' pr ((s1.trans s2).trans (.grow s2.e gr)) hv⟩
theorem tup_e4 {e : α → Ty} {f : β → Ty} {g : γ → Ty} {h : δ → Ty} (b : α × β × γ × δ) (G : Hp) (v : V) (hv : (e4 e f g h b).p G v) : ∃ a ys, v = .ref a ∧ G a = some (.tup ys) := by
  obtain ⟨a, vs, h1, h2, _⟩ := hv
  exact ⟨a, vs, h1, h2⟩
/-! calls of defs whose promises are told by types -/
theorem md_callT' {ρ : Type} {pre : List Ty → Ty → Prop} {es es' : α → List Ty} {er : ρ → Ty} {k : α → Wp ρ} (h : MA Φ tr wa es') (hes : ∀ a G vs, All G (es' a) vs → All G (es a) vs) (hp : ∀ a P, k a P → ∃ c φ, P c ∧ pre (es a) φ ∧ ∀ G v, φ.p G v → (er c).p G v) : MD Φ (tCall (spT pre) [] E tr) (wBind wa k) er := fun σ G H ev P Q mp q =>
  h σ G H ev _ _ mp fun a vs G1 H1 pa s1 hvs => by
    rw [List.append_nil]
    obtain ⟨c, φ, pc, hc, hi⟩ := hp a P pa
    exact ⟨G1, es a, φ, s1.e.s, hes a _ _ hvs, hc, fun v G' H' gr hv => q c v G' H' pc (s1.trans (.grow s1.e gr)) (hi _ _ hv)⟩
theorem md_check_region (ha : MD Φ ta p (tReg K)) : MD Φ (tCall (sp_check_region K) [] E (tCons ta tNil)) (wBind (wCons p wNil) fun _ => wPure ()) eU :=
  md_callT (ma_cons ha ma_nil) fun a P h => ⟨_, h, a.1, rfl, rfl⟩
theorem md_check_bounded (ha : MD Φ ta p (tReg K)) : MD Φ (tCall (sp_check_bounded K) [] E (tCons ta tNil)) (wBind (wCons p wNil) fun z => wG (z.1.2 = false) ()) eU :=
  md_callT (ma_cons ha ma_nil) fun a P h => ⟨_, h.2, a.1.1, by rw [← h.1], rfl⟩
theorem md_check_box {w : Wp Bx} (ha : MD Φ ta w eB4) : MD Φ (tCall sp_check_box [] E (tCons ta tNil)) (wBind (wCons w wNil) fun z => wG (bxOk z.1) ()) eU :=
  md_callT (ma_cons ha ma_nil) fun a P h => ⟨_, h.2, a.1, h.1, rfl, rfl⟩
theorem md_check_square {w : Wp Pr} (ha : MD Φ ta w eP) : MD Φ (tCall sp_check_square [] E (tCons ta tNil)) (wBind (wCons w wNil) fun _ => wPure ()) eU :=
  md_callT (ma_cons ha ma_nil) fun a P h => ⟨_, h, a.1, rfl, rfl⟩
theorem md_opposite {w : Wp Bx} (ha : MD Φ ta w eB4) : MD Φ (tCall sp_opposite [] E (tCons ta tNil)) (wBind (wCons w wNil) fun z => wPure (opposite z.1)) eB4 :=
  md_callT (ma_cons ha ma_nil) fun a P h => ⟨_, h, a.1, rfl, rfl⟩
theorem md_added_box {w w' : Wp Bx} (ha : MD Φ ta w eB4) (hb : MD Φ tb w' eB4) : MD Φ (tCall sp_added_box [] E (tCons ta (tCons tb tNil))) (wBind (wCons w (wCons w' wNil)) fun z => wPure (addedBox z.1 z.2.1)) eB4 :=
  md_callT (ma_cons ha (ma_cons hb ma_nil)) fun a P h => ⟨_, h, a.1, a.2.1, rfl, rfl⟩
theorem md_grown {w : Wp (List Sl)} {w' : Wp Bx} (ha : MD Φ ta w tForm) (hb : MD Φ tb w' eB4) : MD Φ (tCall sp_grown [] E (tCons ta (tCons tb tNil))) (wBind (wCons w (wCons w' wNil)) fun z => wG ((boxesOf z.1).length ≤ 2000) (grown z.1 z.2.1)) tForm :=
  md_callT (ma_cons ha (ma_cons hb ma_nil)) fun a P h => ⟨_, h.2, a.1, a.2.1, h.1, rfl, rfl⟩
theorem md_shrunk {w : Wp (List Sl)} {w' : Wp Bx} (ha : MD Φ ta w tForm) (hb : MD Φ tb w' eB4) : MD Φ (tCall sp_shrunk [] E (tCons ta (tCons tb tNil))) (wBind (wCons w (wCons w' wNil)) fun z => wG (ShOk z.1 z.2.1) (shrunk z.1 z.2.1)) tForm :=
  md_callT (ma_cons ha (ma_cons hb ma_nil)) fun a P h => ⟨_, h.2, a.1, a.2.1, h.1, rfl, rfl⟩
theorem md_boxes_of {w : Wp (List Sl)} (ha : MD Φ ta w tForm) : MD Φ (tCall sp_boxes_of [] E (tCons ta tNil)) (wBind (wCons w wNil) fun z => wG ((boxesOf z.1).length ≤ 50000) (boxesOf z.1)) (eL eB4) :=
  md_callT' (es := fun z => [tForm z.1]) (ma_cons ha ma_nil) (fun _ _ _ h => h) fun a P h => ⟨_, _, h.2, ⟨a.1, h.1, rfl, rfl⟩, fun G v hv => ⟨hv, by have := h.1; omega⟩⟩
theorem md_slabs_of {w : Wp (List Bx)} (ha : MD Φ ta w (eL eB4)) : MD Φ (tCall sp_slabs_of [] E (tCons ta tNil)) (wBind (wCons w wNil) fun z => wG (z.1.length ≤ 2000) (slabsOf z.1)) tForm :=
  md_callT' (es := fun z => [tL (z.1.map tB4)]) (ma_cons ha ma_nil) (fun a G vs h => by cases h with | cons h1 h2 => exact .cons h1.1 h2) fun a P h => ⟨_, _, h.2, ⟨a.1, h.1, rfl, rfl⟩, fun G v hv => hv⟩
theorem md_spans_at {w : Wp (List Sl)} (ha : MD Φ ta w tForm) (hb : MD Φ tb n tI) : MD Φ (tCall sp_spans_at [] E (tCons ta (tCons tb tNil))) (wBind (wCons w (wCons n wNil)) fun z => wPure (spansAt z.1 z.2.1)) tSp :=
  md_callT (ma_cons ha (ma_cons hb ma_nil)) fun a P h => ⟨_, h, a.1, a.2.1, rfl, rfl⟩
theorem md_cuts_of {w : Wp (List Sl)} (ha : MD Φ ta w tForm) : MD Φ (tCall sp_cuts_of [] E (tCons ta tNil)) (wBind (wCons w wNil) fun z => wG (z.1.length ≤ 2000) (cutsOf z.1)) (eL tI) :=
  md_callT' (es := fun z => [tForm z.1]) (ma_cons ha ma_nil) (fun _ _ _ h => h) fun a P h => ⟨_, _, h.2, ⟨a.1, h.1, rfl, rfl⟩, fun G v hv => ⟨hv, by have := cutsOf_len a.1; have := h.1; omega⟩⟩
theorem md_combined {w w' : Wp (List Pr)} {x : Wd} {ws : Wp Str} (ha : MD Φ ta w tSp) (hb : MD Φ tb w' tSp) (hs : MD Φ tc ws tSt) : MD Φ (tCall sp_combined [] E (tCons ta (tCons tb (tCons tc tNil)))) (wBind (wCons w (wCons w' (wCons ws wNil))) fun z => wG (z.2.2.1 = x.str ∧ z.1.length + z.2.1.length ≤ 2000) (combined z.1 z.2.1 x)) tSp :=
  md_callT (ma_cons ha (ma_cons hb (ma_cons hs ma_nil))) fun a P h => ⟨_, h.2, a.1, a.2.1, x, h.1.2, by rw [← h.1.1], rfl⟩
theorem md_mixed {w w' : Wp (List Sl)} {x : Wd} {ws : Wp Str} (ha : MD Φ ta w tForm) (hb : MD Φ tb w' tForm) (hs : MD Φ tc ws tSt) : MD Φ (tCall sp_mixed [] E (tCons ta (tCons tb (tCons tc tNil)))) (wBind (wCons w (wCons w' (wCons ws wNil))) fun z => wG (z.2.2.1 = x.str ∧ Small z.1 ∧ Small z.2.1) (mixed z.1 z.2.1 x)) tForm :=
  md_callT (ma_cons ha (ma_cons hb (ma_cons hs ma_nil))) fun a P h => ⟨_, h.2, a.1, a.2.1, x, h.1.2.1, h.1.2.2, by rw [← h.1.1], rfl⟩
theorem md_is_integer (ha : MD Φ ta m tI) : MD Φ (tCall sp_is_integer [] E (tCons ta tNil)) (wBind (wCons m wNil) fun _ => wPure true) tBo :=
  md_callT' (es := fun (z : Int × Unit) => [dt (.int z.1)]) (ma_cons ha ma_nil) (fun _ _ _ h => h) fun a P h => ⟨_, _, h, ⟨.int a.1, rfl, rfl⟩, fun _ _ h => h⟩
theorem nx_norm {t : TS} {M : Prop} (h : NxS c t D Ψ M) (e : Φ = Ψ) : NxS c t D Φ M := e ▸ h
theorem nx_never : NxS c tNever D Φ False := fun _ _ _ _ h => h.elim
/-- walked: a form, spans -/
theorem mi_form {w : Wp (List Sl)} (h : MD Φ te w tForm) : MI Φ (iSeq K te) (wBind w fun f => wG (Small f) f) eSl := fun σ G H ev P R mp k =>
  mi_seq (K := K) (m := wBind w fun f => wG (Small f) f) (e := eSl) (fun σ G H ev P Q mp q => h σ G H ev _ _ mp fun f v G' H' pf s hv => q f v G' H' pf.2 s (by
    obtain ⟨⟨a, vs, h1, h2, h3⟩, h4⟩ := form_of pf.1 hv
    exact ⟨⟨a, vs, h1, .inr h2, h3⟩, h4⟩)) σ G H ev P R mp k
end
end BR
namespace BR
open PySem PySem.Spec PyProof.Rows L2
section
variable {K : Fg}

def m_Region_add (a_self : Reg) (a_box : (Int × Int × Int × Int)) (R : Reg → Prop) : Prop :=
  (wRun (wBind (wCons (wPure a_box) wNil) fun z => wG (bxOk z.1) ()) fun _ => (wRun (wBind (wPure a_self) fun a => wPure a.2) fun b => if b = true then (wRun (wBind (wBind (wCons (wBind (wPure a_self) fun a => wPure a.1) (wCons (wBind (wCons (wPure a_box) wNil) fun z => wPure (opposite z.1)) wNil)) fun z => wG (ShOk z.1 z.2.1) (shrunk z.1 z.2.1)) fun f => wBind (wPure true) fun o => wPure ((f, o) : Reg)) R) else (wRun (wBind (wBind (wCons (wBind (wPure a_self) fun a => wPure a.1) (wCons (wPure a_box) wNil)) fun z => wG ((boxesOf z.1).length ≤ 2000) (grown z.1 z.2.1)) fun f => wBind (wPure false) fun o => wPure ((f, o) : Reg)) R)))
def sp_Region_add (K : Fg) : Sp := spM (fun z : Reg × (Int × Int × Int × Int) × Unit => [(tReg K) z.1, (e4 tI tI tI tI) z.2.1]) (tReg K) (fun z => m_Region_add z.1 z.2.1)
def t_Region_add (K : Fg) : TS :=
  (tSeq (tDrop (tCall sp_check_box [] E0 (tCons (tVar 1) tNil)))
  (tSeq (tIfS (tB (tFld K (tVar 0) "is_outside"))
  (tRet (StX.tMakeR (RG K) (sp_init K) E0 (tCons (tCall sp_shrunk [] E0 (tCons (tFld K (tVar 0) "form") (tCons (tCall sp_opposite [] E0 (tCons (tVar 1) tNil)) tNil))) (tCons (tC (.bl true)) tNil))))
  tNext)
  (tRet (StX.tMakeR (RG K) (sp_init K) E0 (tCons (tCall sp_grown [] E0 (tCons (tFld K (tVar 0) "form") (tCons (tVar 1) tNil))) (tCons (tC (.bl false)) tNil))))))
theorem cert_Region_add (F : RegF K) {c : Cn} {D : Ends} (a_self : Reg) (a_box : (Int × Int × Int × Int)) {R : Reg → Prop} (hr : RtOk c D.rt R (tReg K)) : NxS c (t_Region_add K) D [.val ((tReg K) a_self), .val ((e4 tI tI tI tI) a_box)] (m_Region_add a_self a_box R) :=
  (nx_seq (nx_drop (md_check_box (md_var (i := 1) (e := (e4 tI tI tI tI)) (a := a_box) rfl)) (fun _ => (nx_go (nx_seq (nx_if (mt_B (md_isout F (md_var (i := 0) (e := (tReg K)) (a := a_self) rfl))) (nx_ret (md_make (md_shrunk (md_form F (md_var (i := 0) (e := (tReg K)) (a := a_self) rfl)) (md_opposite (md_var (i := 1) (e := (e4 tI tI tI tI)) (a := a_box) rfl))) md_bl) hr) (nx_next (nx_go (nx_ret (md_make (md_grown (md_form F (md_var (i := 0) (e := (tReg K)) (a := a_self) rfl)) (md_var (i := 1) (e := (e4 tI tI tI tI)) (a := a_box) rfl)) md_bl) hr)))))))))
theorem pure_Region_add (F : RegF K) : ∀ vs H (Q : VK) (E : XK), sp_Region_add K vs H Q E → t_Region_add K { nx := fun _ H' => Q .non H', rt := Q } (L2.start ["self", "box"] vs) H :=
  pure_of (n := 0) (fun _ => rfl) (fun _ => rfl) (fun c D z R hr => cert_Region_add F _ _ hr)
theorem len_Region_add : ∀ vs H Q E, sp_Region_add K vs H Q E → vs.length = (["self", "box"] : List Str).length := len_of fun _ => rfl
def m_Region_floordiv (a_self : Reg) (a_box : (Int × Int × Int × Int)) (R : Reg → Prop) : Prop :=
  (wRun (wBind (wCons (wPure a_box) wNil) fun z => wG (bxOk z.1) ()) fun _ => (wRun (wBind (wPure a_self) fun a => wPure a.2) fun b => if b = true then (wRun (wBind (wBind (wCons (wBind (wPure a_self) fun a => wPure a.1) (wCons (wBind (wCons (wPure a_box) wNil) fun z => wPure (opposite z.1)) wNil)) fun z => wG ((boxesOf z.1).length ≤ 2000) (grown z.1 z.2.1)) fun f => wBind (wPure true) fun o => wPure ((f, o) : Reg)) R) else (wRun (wBind (wBind (wCons (wBind (wPure a_self) fun a => wPure a.1) (wCons (wPure a_box) wNil)) fun z => wG (ShOk z.1 z.2.1) (shrunk z.1 z.2.1)) fun f => wBind (wPure false) fun o => wPure ((f, o) : Reg)) R)))
def sp_Region_floordiv (K : Fg) : Sp := spM (fun z : Reg × (Int × Int × Int × Int) × Unit => [(tReg K) z.1, (e4 tI tI tI tI) z.2.1]) (tReg K) (fun z => m_Region_floordiv z.1 z.2.1)
def t_Region_floordiv (K : Fg) : TS :=
  (tSeq (tDrop (tCall sp_check_box [] E0 (tCons (tVar 1) tNil)))
  (tSeq (tIfS (tB (tFld K (tVar 0) "is_outside"))
  (tRet (StX.tMakeR (RG K) (sp_init K) E0 (tCons (tCall sp_grown [] E0 (tCons (tFld K (tVar 0) "form") (tCons (tCall sp_opposite [] E0 (tCons (tVar 1) tNil)) tNil))) (tCons (tC (.bl true)) tNil))))
  tNext)
  (tRet (StX.tMakeR (RG K) (sp_init K) E0 (tCons (tCall sp_shrunk [] E0 (tCons (tFld K (tVar 0) "form") (tCons (tVar 1) tNil))) (tCons (tC (.bl false)) tNil))))))
theorem cert_Region_floordiv (F : RegF K) {c : Cn} {D : Ends} (a_self : Reg) (a_box : (Int × Int × Int × Int)) {R : Reg → Prop} (hr : RtOk c D.rt R (tReg K)) : NxS c (t_Region_floordiv K) D [.val ((tReg K) a_self), .val ((e4 tI tI tI tI) a_box)] (m_Region_floordiv a_self a_box R) :=
  (nx_seq (nx_drop (md_check_box (md_var (i := 1) (e := (e4 tI tI tI tI)) (a := a_box) rfl)) (fun _ => (nx_go (nx_seq (nx_if (mt_B (md_isout F (md_var (i := 0) (e := (tReg K)) (a := a_self) rfl))) (nx_ret (md_make (md_grown (md_form F (md_var (i := 0) (e := (tReg K)) (a := a_self) rfl)) (md_opposite (md_var (i := 1) (e := (e4 tI tI tI tI)) (a := a_box) rfl))) md_bl) hr) (nx_next (nx_go (nx_ret (md_make (md_shrunk (md_form F (md_var (i := 0) (e := (tReg K)) (a := a_self) rfl)) (md_var (i := 1) (e := (e4 tI tI tI tI)) (a := a_box) rfl)) md_bl) hr)))))))))
theorem pure_Region_floordiv (F : RegF K) : ∀ vs H (Q : VK) (E : XK), sp_Region_floordiv K vs H Q E → t_Region_floordiv K { nx := fun _ H' => Q .non H', rt := Q } (L2.start ["self", "box"] vs) H :=
  pure_of (n := 0) (fun _ => rfl) (fun _ => rfl) (fun c D z R hr => cert_Region_floordiv F _ _ hr)
theorem len_Region_floordiv : ∀ vs H Q E, sp_Region_floordiv K vs H Q E → vs.length = (["self", "box"] : List Str).length := len_of fun _ => rfl
def m_opened (a_region : Reg) (a_box : (Int × Int × Int × Int)) (R : Reg → Prop) : Prop :=
  (wRun (wBind (wCons (wPure a_region) wNil) fun _ => wPure ()) fun _ => (wRun (wBind (wCons (wPure a_box) wNil) fun z => wG (bxOk z.1) ()) fun _ => (wRun (wBind (wBind (wPure a_region) fun a => wBind (wPure a_box) fun b => m_Region_floordiv a b) fun a => wBind (wPure a_box) fun b => m_Region_add a b) R)))
def sp_opened (K : Fg) : Sp := spM (fun z : Reg × (Int × Int × Int × Int) × Unit => [(tReg K) z.1, (e4 tI tI tI tI) z.2.1]) (tReg K) (fun z => m_opened z.1 z.2.1)
def t_opened (K : Fg) : TS :=
  (tSeq (tDrop (tCall (sp_check_region K) [] E0 (tCons (tVar 0) tNil)))
  (tSeq (tDrop (tCall sp_check_box [] E0 (tCons (tVar 1) tNil)))
  (tRet (tOp (rOwnT (RG K) (sp_Region_add K) E0) (tOp (rOwnT (RG K) (sp_Region_floordiv K) E0) (tVar 0) (tVar 1)) (tVar 1)))))
theorem cert_opened {c : Cn} {D : Ends} (a_region : Reg) (a_box : (Int × Int × Int × Int)) {R : Reg → Prop} (hr : RtOk c D.rt R (tReg K)) : NxS c (t_opened K) D [.val ((tReg K) a_region), .val ((e4 tI tI tI tI) a_box)] (m_opened a_region a_box R) :=
  (nx_seq (nx_drop (md_check_region (md_var (i := 0) (e := (tReg K)) (a := a_region) rfl)) (fun _ => (nx_go (nx_seq (nx_drop (md_check_box (md_var (i := 1) (e := (e4 tI tI tI tI)) (a := a_box) rfl)) (fun _ => (nx_go (nx_ret (md_ownT (md_ownT (md_var (i := 0) (e := (tReg K)) (a := a_region) rfl) (md_var (i := 1) (e := (e4 tI tI tI tI)) (a := a_box) rfl) (fun _ => rfl) (fun b G v h => tup_e4 b G v h)) (md_var (i := 1) (e := (e4 tI tI tI tI)) (a := a_box) rfl) (fun _ => rfl) (fun b G v h => tup_e4 b G v h)) hr)))))))))
theorem pure_opened : ∀ vs H (Q : VK) (E : XK), sp_opened K vs H Q E → t_opened K { nx := fun _ H' => Q .non H', rt := Q } (L2.start ["region", "box"] vs) H :=
  pure_of (n := 0) (fun _ => rfl) (fun _ => rfl) (fun c D z R hr => cert_opened _ _ hr)
theorem len_opened : ∀ vs H Q E, sp_opened K vs H Q E → vs.length = (["region", "box"] : List Str).length := len_of fun _ => rfl
def m_closed (a_region : Reg) (a_box : (Int × Int × Int × Int)) (R : Reg → Prop) : Prop :=
  (wRun (wBind (wCons (wPure a_region) wNil) fun _ => wPure ()) fun _ => (wRun (wBind (wCons (wPure a_box) wNil) fun z => wG (bxOk z.1) ()) fun _ => (wRun (wBind (wBind (wPure a_region) fun a => wBind (wPure a_box) fun b => m_Region_add a b) fun a => wBind (wPure a_box) fun b => m_Region_floordiv a b) R)))
def sp_closed (K : Fg) : Sp := spM (fun z : Reg × (Int × Int × Int × Int) × Unit => [(tReg K) z.1, (e4 tI tI tI tI) z.2.1]) (tReg K) (fun z => m_closed z.1 z.2.1)
def t_closed (K : Fg) : TS :=
  (tSeq (tDrop (tCall (sp_check_region K) [] E0 (tCons (tVar 0) tNil)))
  (tSeq (tDrop (tCall sp_check_box [] E0 (tCons (tVar 1) tNil)))
  (tRet (tOp (rOwnT (RG K) (sp_Region_floordiv K) E0) (tOp (rOwnT (RG K) (sp_Region_add K) E0) (tVar 0) (tVar 1)) (tVar 1)))))
theorem cert_closed {c : Cn} {D : Ends} (a_region : Reg) (a_box : (Int × Int × Int × Int)) {R : Reg → Prop} (hr : RtOk c D.rt R (tReg K)) : NxS c (t_closed K) D [.val ((tReg K) a_region), .val ((e4 tI tI tI tI) a_box)] (m_closed a_region a_box R) :=
  (nx_seq (nx_drop (md_check_region (md_var (i := 0) (e := (tReg K)) (a := a_region) rfl)) (fun _ => (nx_go (nx_seq (nx_drop (md_check_box (md_var (i := 1) (e := (e4 tI tI tI tI)) (a := a_box) rfl)) (fun _ => (nx_go (nx_ret (md_ownT (md_ownT (md_var (i := 0) (e := (tReg K)) (a := a_region) rfl) (md_var (i := 1) (e := (e4 tI tI tI tI)) (a := a_box) rfl) (fun _ => rfl) (fun b G v h => tup_e4 b G v h)) (md_var (i := 1) (e := (e4 tI tI tI tI)) (a := a_box) rfl) (fun _ => rfl) (fun b G v h => tup_e4 b G v h)) hr)))))))))
theorem pure_closed : ∀ vs H (Q : VK) (E : XK), sp_closed K vs H Q E → t_closed K { nx := fun _ H' => Q .non H', rt := Q } (L2.start ["region", "box"] vs) H :=
  pure_of (n := 0) (fun _ => rfl) (fun _ => rfl) (fun c D z R hr => cert_closed _ _ hr)
theorem len_closed : ∀ vs H Q E, sp_closed K vs H Q E → vs.length = (["region", "box"] : List Str).length := len_of fun _ => rfl
def m_around (a_distance : Int) (R : (Int × Int × Int × Int) → Prop) : Prop :=
  (wRun (wOr (wNot (wBind (wCons (wPure a_distance) wNil) fun _ => wPure true)) (wBind (wPure a_distance) fun a => wBind (wPure (0 : Int)) fun b => wPure (decide (a < b)))) fun b => if b = true then False else (wRun (wBind (wBind (wPure (0 : Int)) fun a => wBind (wPure a_distance) fun b => wPure (a - b)) fun a0 => wBind (wBind (wPure (0 : Int)) fun a => wBind (wPure a_distance) fun b => wPure (a - b)) fun a1 => wBind (wBind (wPure a_distance) fun a => wBind (wPure (1 : Int)) fun b => wPure (a + b)) fun a2 => wBind (wBind (wPure a_distance) fun a => wBind (wPure (1 : Int)) fun b => wPure (a + b)) fun a3 => wPure (a0, a1, a2, a3)) R))
def sp_around (K : Fg) : Sp := spM (fun z : Int × Unit => [tI z.1]) (e4 tI tI tI tI) (fun z => m_around z.1)
def t_around (K : Fg) : TS :=
  (tSeq (tIfS (tOr (tNot (tB (tCall sp_is_integer [] E0 (tCons (tVar 0) tNil)))) (tTest (tOp rLtI (tVar 0) (tC (.int 0)))))
  tNever
  tNext)
  (tRet (tTup (tCons (tOp rSubI (tC (.int 0)) (tVar 0)) (tCons (tOp rSubI (tC (.int 0)) (tVar 0)) (tCons (tOp (rAddX K) (tVar 0) (tC (.int 1))) (tCons (tOp (rAddX K) (tVar 0) (tC (.int 1))) tNil)))))))
theorem cert_around {c : Cn} {D : Ends} (a_distance : Int) {R : (Int × Int × Int × Int) → Prop} (hr : RtOk c D.rt R (e4 tI tI tI tI)) : NxS c (t_around K) D [.val (tI a_distance)] (m_around a_distance R) :=
  (nx_seq (nx_if (mt_or (mt_not (mt_B (md_is_integer (md_var (i := 0) (e := tI) (a := a_distance) rfl)))) (mt_test (md_lt (md_var (i := 0) (e := tI) (a := a_distance) rfl) md_int))) nx_never (nx_next (nx_go (nx_ret (md_t4 (md_sub md_int (md_var (i := 0) (e := tI) (a := a_distance) rfl)) (md_sub md_int (md_var (i := 0) (e := tI) (a := a_distance) rfl)) (md_add (md_var (i := 0) (e := tI) (a := a_distance) rfl) md_int) (md_add (md_var (i := 0) (e := tI) (a := a_distance) rfl) md_int)) hr)))))
theorem pure_around : ∀ vs H (Q : VK) (E : XK), sp_around K vs H Q E → t_around K { nx := fun _ H' => Q .non H', rt := Q } (L2.start ["distance"] vs) H :=
  pure_of (n := 0) (fun _ => rfl) (fun _ => rfl) (fun c D z R hr => cert_around _ hr)
theorem len_around : ∀ vs H Q E, sp_around K vs H Q E → vs.length = (["distance"] : List Str).length := len_of fun _ => rfl
def m_moved (a_region : Reg) (a_boxes : (List (Int × Int × Int × Int))) (R : Reg → Prop) : Prop :=
  (wRun (wBind (wBind (wCons (wPure a_boxes) wNil) fun z => wG (z.1.length ≤ 2000) (slabsOf z.1)) fun f => wBind (wBind (wPure a_region) fun a => wPure a.2) fun o => wPure ((f, o) : Reg)) R)
def sp_moved (K : Fg) : Sp := spM (fun z : Reg × (List (Int × Int × Int × Int)) × Unit => [(tReg K) z.1, (eL (e4 tI tI tI tI)) z.2.1]) (tReg K) (fun z => m_moved z.1 z.2.1)
def t_moved (K : Fg) : TS :=
  (tRet (StX.tMakeR (RG K) (sp_init K) E0 (tCons (tCall sp_slabs_of [] E0 (tCons (tVar 1) tNil)) (tCons (tFld K (tVar 0) "is_outside") tNil))))
theorem cert_moved (F : RegF K) {c : Cn} {D : Ends} (a_region : Reg) (a_boxes : (List (Int × Int × Int × Int))) {R : Reg → Prop} (hr : RtOk c D.rt R (tReg K)) : NxS c (t_moved K) D [.val ((tReg K) a_region), .val ((eL (e4 tI tI tI tI)) a_boxes)] (m_moved a_region a_boxes R) :=
  (nx_ret (md_make (md_slabs_of (md_var (i := 1) (e := (eL (e4 tI tI tI tI))) (a := a_boxes) rfl)) (md_isout F (md_var (i := 0) (e := (tReg K)) (a := a_region) rfl))) hr)
theorem pure_moved (F : RegF K) : ∀ vs H (Q : VK) (E : XK), sp_moved K vs H Q E → t_moved K { nx := fun _ H' => Q .non H', rt := Q } (L2.start ["region", "boxes"] vs) H :=
  pure_of (n := 0) (fun _ => rfl) (fun _ => rfl) (fun c D z R hr => cert_moved F _ _ hr)
theorem len_moved : ∀ vs H Q E, sp_moved K vs H Q E → vs.length = (["region", "boxes"] : List Str).length := len_of fun _ => rfl
def m_shifted (a_region : Reg) (a_by_x : Int) (a_by_y : Int) (R : Reg → Prop) : Prop :=
  (wRun (wBind (wCons (wPure a_region) wNil) fun _ => wPure ()) fun _ => (wRun (wBind (wBind (wPure a_by_x) fun a0 => wBind (wPure a_by_y) fun a1 => wPure (a0, a1)) fun a => wPure [a.1, a.2]) fun xs => wFor xs () (fun x7 (s1 : Unit) n2 k6 => (wRun (wNot (wBind (wCons (wPure x7) wNil) fun _ => wPure true)) fun b => if b = true then False else (n2 ()))) (fun (s1 : Unit) => (wRun (wBind (wBind (wCons (wBind (wPure a_region) fun a => wPure a.1) wNil) fun z => wG ((boxesOf z.1).length ≤ 50000) (boxesOf z.1)) fun xs => wLc xs (fun x10 => (wPure true)) (fun x10 => (wBind (wBind (wPure x10.1) fun a => wBind (wPure a_by_x) fun b => wPure (a + b)) fun a0 => wBind (wBind (wPure x10.2.1) fun a => wBind (wPure a_by_y) fun b => wPure (a + b)) fun a1 => wBind (wBind (wPure x10.2.2.1) fun a => wBind (wPure a_by_x) fun b => wPure (a + b)) fun a2 => wBind (wBind (wPure x10.2.2.2) fun a => wBind (wPure a_by_y) fun b => wPure (a + b)) fun a3 => wPure (a0, a1, a2, a3)))) fun v11 => (wRun (wBind (wCons (wPure a_region) (wCons (wPure v11) wNil)) fun z => m_moved z.1 z.2.1) R)))))
def sp_shifted (K : Fg) : Sp := spM (fun z : Reg × Int × Int × Unit => [(tReg K) z.1, tI z.2.1, tI z.2.2.1]) (tReg K) (fun z => m_shifted z.1 z.2.1 z.2.2.1)
def t_shifted (K : Fg) : TS :=
  (tSeq (tDrop (tCall (sp_check_region K) [] E0 (tCons (tVar 0) tNil)))
  (tSeq (tFor (iSeq K (tTup (tCons (tVar 1) (tCons (tVar 2) tNil)))) (gName 3)
  (tIfS (tNot (tB (tCall sp_is_integer [] E0 (tCons (tVar 3) tNil))))
  tNever
  tNext))
  (tSeq (tAsg (tLc (iSeq K (tCall sp_boxes_of [] E0 (tCons (tFld K (tVar 0) "form") tNil))) (gTup K 4 (gCons (gName 5) (gCons (gName 6) (gCons (gName 7) (gCons (gName 8) gNil))))) tYes (tTup (tCons (tOp (rAddX K) (tVar 5) (tVar 1)) (tCons (tOp (rAddX K) (tVar 6) (tVar 2)) (tCons (tOp (rAddX K) (tVar 7) (tVar 1)) (tCons (tOp (rAddX K) (tVar 8) (tVar 2)) tNil))))) [5, 6, 7, 8]) (gName 4))
  (tRet (tCall (sp_moved K) [] E0 (tCons (tVar 0) (tCons (tVar 4) tNil)))))))
theorem cert_shifted (F : RegF K) {c : Cn} {D : Ends} (a_region : Reg) (a_by_x : Int) (a_by_y : Int) {R : Reg → Prop} (hr : RtOk c D.rt R (tReg K)) : NxS c (t_shifted K) D [.val ((tReg K) a_region), .val (tI a_by_x), .val (tI a_by_y), .un, .un, .un, .un, .un, .un] (m_shifted a_region a_by_x a_by_y R) :=
  (nx_seq (nx_drop (md_check_region (md_var (i := 0) (e := (tReg K)) (a := a_region) rfl)) (fun _ => (nx_go (nx_seq (nx_for (Ψ := fun (s1 : Unit) => [.val ((tReg K) a_region), .val (tI a_by_x), .val (tI a_by_y), .un, .un, .un, .un, .un, .un]) (s0 := ()) (mi_seq (md_asS2 (md_t2 (md_var (i := 1) (e := tI) (a := a_by_x) rfl) (md_var (i := 2) (e := tI) (a := a_by_y) rfl)))) (.eq (.eq (.eq (.un (.un (.un (.un (.un (.un .nil))))))))) (fun x7 s1 => (gm_name rfl)) (fun s1 => (nx_go (nx_seq (nx_asg (i := 4) (e := (eL (e4 tI tI tI tI))) (md_lc (mi_seq (MD.ofL (md_boxes_of (md_form F (md_var (i := 0) (e := (tReg K)) (a := a_region) rfl))))) rfl (fun x10 => (gm_tup (gms_cons (gm_name rfl) (gms_cons (gm_name rfl) (gms_cons (gm_name rfl) (gms_cons (gm_name rfl) gms_nil)))) rfl rfl)) (by decide) (fun x10 => mt_yes) (fun x10 => (md_t4 (md_add (md_var (i := 5) (e := tI) (a := x10.1) rfl) (md_var (i := 1) (e := tI) (a := a_by_x) rfl)) (md_add (md_var (i := 6) (e := tI) (a := x10.2.1) rfl) (md_var (i := 2) (e := tI) (a := a_by_y) rfl)) (md_add (md_var (i := 7) (e := tI) (a := x10.2.2.1) rfl) (md_var (i := 1) (e := tI) (a := a_by_x) rfl)) (md_add (md_var (i := 8) (e := tI) (a := x10.2.2.2) rfl) (md_var (i := 2) (e := tI) (a := a_by_y) rfl))))) (fun v11 => (nx_go (nx_ret (md_call (ma_cons (md_var (i := 0) (e := (tReg K)) (a := a_region) rfl) (ma_cons (md_var (i := 4) (e := (eL (e4 tI tI tI tI))) (a := v11) rfl) ma_nil)) (fun _ => rfl)) hr))))))) (fun c8 hc9 hk5 x7 s1 n2 N3 hn4 => (nx_if (mt_not (mt_B (md_is_integer (md_var (i := 3) (e := tI) (a := x7) rfl)))) nx_never (nx_next (nx_end (nx_less (.eq (.eq (.eq (.un (.un (.un (.un (.un (.un .nil))))))))) (hn4 ()))))))))))))
theorem pure_shifted (F : RegF K) : ∀ vs H (Q : VK) (E : XK), sp_shifted K vs H Q E → t_shifted K { nx := fun _ H' => Q .non H', rt := Q } (L2.start ["region", "by_x", "by_y", "number", "boxes", "x1", "y1", "x2", "y2"] vs) H :=
  pure_of (n := 6) (fun _ => rfl) (fun _ => rfl) (fun c D z R hr => cert_shifted F _ _ _ hr)
theorem len_shifted : ∀ vs H Q E, sp_shifted K vs H Q E → vs.length = (["region", "by_x", "by_y"] : List Str).length := len_of fun _ => rfl
def m_mirrored (a_region : Reg) (R : Reg → Prop) : Prop :=
  (wRun (wBind (wCons (wPure a_region) wNil) fun _ => wPure ()) fun _ => (wRun (wBind (wCons (wPure a_region) (wCons (wBind (wBind (wCons (wBind (wPure a_region) fun a => wPure a.1) wNil) fun z => wG ((boxesOf z.1).length ≤ 50000) (boxesOf z.1)) fun xs => wLc xs (fun x1 => (wPure true)) (fun x1 => (wBind (wBind (wPure (0 : Int)) fun a => wBind (wPure x1.2.2.1) fun b => wPure (a - b)) fun a0 => wBind (wPure x1.2.1) fun a1 => wBind (wBind (wPure (0 : Int)) fun a => wBind (wPure x1.1) fun b => wPure (a - b)) fun a2 => wBind (wPure x1.2.2.2) fun a3 => wPure (a0, a1, a2, a3)))) wNil)) fun z => m_moved z.1 z.2.1) R))
def sp_mirrored (K : Fg) : Sp := spM (fun z : Reg × Unit => [(tReg K) z.1]) (tReg K) (fun z => m_mirrored z.1)
def t_mirrored (K : Fg) : TS :=
  (tSeq (tDrop (tCall (sp_check_region K) [] E0 (tCons (tVar 0) tNil)))
  (tRet (tCall (sp_moved K) [] E0 (tCons (tVar 0) (tCons (tLc (iSeq K (tCall sp_boxes_of [] E0 (tCons (tFld K (tVar 0) "form") tNil))) (gTup K 4 (gCons (gName 1) (gCons (gName 2) (gCons (gName 3) (gCons (gName 4) gNil))))) tYes (tTup (tCons (tOp rSubI (tC (.int 0)) (tVar 3)) (tCons (tVar 2) (tCons (tOp rSubI (tC (.int 0)) (tVar 1)) (tCons (tVar 4) tNil))))) [1, 2, 3, 4]) tNil)))))
theorem cert_mirrored (F : RegF K) {c : Cn} {D : Ends} (a_region : Reg) {R : Reg → Prop} (hr : RtOk c D.rt R (tReg K)) : NxS c (t_mirrored K) D [.val ((tReg K) a_region), .un, .un, .un, .un] (m_mirrored a_region R) :=
  (nx_seq (nx_drop (md_check_region (md_var (i := 0) (e := (tReg K)) (a := a_region) rfl)) (fun _ => (nx_go (nx_ret (md_call (ma_cons (md_var (i := 0) (e := (tReg K)) (a := a_region) rfl) (ma_cons (md_lc (mi_seq (MD.ofL (md_boxes_of (md_form F (md_var (i := 0) (e := (tReg K)) (a := a_region) rfl))))) rfl (fun x1 => (gm_tup (gms_cons (gm_name rfl) (gms_cons (gm_name rfl) (gms_cons (gm_name rfl) (gms_cons (gm_name rfl) gms_nil)))) rfl rfl)) (by decide) (fun x1 => mt_yes) (fun x1 => (md_t4 (md_sub md_int (md_var (i := 3) (e := tI) (a := x1.2.2.1) rfl)) (md_var (i := 2) (e := tI) (a := x1.2.1) rfl) (md_sub md_int (md_var (i := 1) (e := tI) (a := x1.1) rfl)) (md_var (i := 4) (e := tI) (a := x1.2.2.2) rfl)))) ma_nil)) (fun _ => rfl)) hr)))))
theorem pure_mirrored (F : RegF K) : ∀ vs H (Q : VK) (E : XK), sp_mirrored K vs H Q E → t_mirrored K { nx := fun _ H' => Q .non H', rt := Q } (L2.start ["region", "x1", "y1", "x2", "y2"] vs) H :=
  pure_of (n := 4) (fun _ => rfl) (fun _ => rfl) (fun c D z R hr => cert_mirrored F _ hr)
theorem len_mirrored : ∀ vs H Q E, sp_mirrored K vs H Q E → vs.length = (["region"] : List Str).length := len_of fun _ => rfl
def m_turned (a_region : Reg) (R : Reg → Prop) : Prop :=
  (wRun (wBind (wCons (wPure a_region) wNil) fun _ => wPure ()) fun _ => (wRun (wBind (wCons (wPure a_region) (wCons (wBind (wBind (wCons (wBind (wPure a_region) fun a => wPure a.1) wNil) fun z => wG ((boxesOf z.1).length ≤ 50000) (boxesOf z.1)) fun xs => wLc xs (fun x1 => (wPure true)) (fun x1 => (wBind (wBind (wPure (0 : Int)) fun a => wBind (wPure x1.2.2.2) fun b => wPure (a - b)) fun a0 => wBind (wPure x1.1) fun a1 => wBind (wBind (wPure (0 : Int)) fun a => wBind (wPure x1.2.1) fun b => wPure (a - b)) fun a2 => wBind (wPure x1.2.2.1) fun a3 => wPure (a0, a1, a2, a3)))) wNil)) fun z => m_moved z.1 z.2.1) R))
def sp_turned (K : Fg) : Sp := spM (fun z : Reg × Unit => [(tReg K) z.1]) (tReg K) (fun z => m_turned z.1)
def t_turned (K : Fg) : TS :=
  (tSeq (tDrop (tCall (sp_check_region K) [] E0 (tCons (tVar 0) tNil)))
  (tRet (tCall (sp_moved K) [] E0 (tCons (tVar 0) (tCons (tLc (iSeq K (tCall sp_boxes_of [] E0 (tCons (tFld K (tVar 0) "form") tNil))) (gTup K 4 (gCons (gName 1) (gCons (gName 2) (gCons (gName 3) (gCons (gName 4) gNil))))) tYes (tTup (tCons (tOp rSubI (tC (.int 0)) (tVar 4)) (tCons (tVar 1) (tCons (tOp rSubI (tC (.int 0)) (tVar 2)) (tCons (tVar 3) tNil))))) [1, 2, 3, 4]) tNil)))))
theorem cert_turned (F : RegF K) {c : Cn} {D : Ends} (a_region : Reg) {R : Reg → Prop} (hr : RtOk c D.rt R (tReg K)) : NxS c (t_turned K) D [.val ((tReg K) a_region), .un, .un, .un, .un] (m_turned a_region R) :=
  (nx_seq (nx_drop (md_check_region (md_var (i := 0) (e := (tReg K)) (a := a_region) rfl)) (fun _ => (nx_go (nx_ret (md_call (ma_cons (md_var (i := 0) (e := (tReg K)) (a := a_region) rfl) (ma_cons (md_lc (mi_seq (MD.ofL (md_boxes_of (md_form F (md_var (i := 0) (e := (tReg K)) (a := a_region) rfl))))) rfl (fun x1 => (gm_tup (gms_cons (gm_name rfl) (gms_cons (gm_name rfl) (gms_cons (gm_name rfl) (gms_cons (gm_name rfl) gms_nil)))) rfl rfl)) (by decide) (fun x1 => mt_yes) (fun x1 => (md_t4 (md_sub md_int (md_var (i := 4) (e := tI) (a := x1.2.2.2) rfl)) (md_var (i := 1) (e := tI) (a := x1.1) rfl) (md_sub md_int (md_var (i := 2) (e := tI) (a := x1.2.1) rfl)) (md_var (i := 3) (e := tI) (a := x1.2.2.1) rfl)))) ma_nil)) (fun _ => rfl)) hr)))))
theorem pure_turned (F : RegF K) : ∀ vs H (Q : VK) (E : XK), sp_turned K vs H Q E → t_turned K { nx := fun _ H' => Q .non H', rt := Q } (L2.start ["region", "x1", "y1", "x2", "y2"] vs) H :=
  pure_of (n := 4) (fun _ => rfl) (fun _ => rfl) (fun c D z R hr => cert_turned F _ hr)
theorem len_turned : ∀ vs H Q E, sp_turned K vs H Q E → vs.length = (["region"] : List Str).length := len_of fun _ => rfl
end
end BR
/-! Growing and shrinking forms and regions: what they have. -/
namespace BR
open PySem PySem.Spec PyProof.Rows L2
/-! ### boxes of a form -/
def InB (b : Bx) (u v : Int) : Prop := b.1 ≤ u ∧ u < b.2.2.1 ∧ b.2.1 ≤ v ∧ v < b.2.2.2
theorem inB_iff {b : Bx} {x y : Int} : inB b x y = true ↔ InB b x y := by
  unfold inB InB
  simp only [Bool.and_eq_true, decide_eq_true_eq]
  constructor
  · rintro ⟨⟨h1, h2⟩, h3, h4⟩
    exact ⟨h1, h2, h3, h4⟩
  · rintro ⟨h1, h2, h3, h4⟩
    exact ⟨⟨h1, h2⟩, h3, h4⟩
theorem mem_boxes {f : List Sl} {c : Bx} : c ∈ boxesOf f ↔ ∃ s ∈ f, ∃ p ∈ s.2.2, c = (s.1, p.1, s.2.1, p.2) := by
  unfold boxesOf
  simp only [List.mem_flatMap, List.mem_map]
  constructor
  · rintro ⟨s, hs, p, hp, rfl⟩
    exact ⟨s, hs, p, hp, rfl⟩
  · rintro ⟨s, hs, p, hp, rfl⟩
    exact ⟨s, hs, p, hp, rfl⟩
theorem boxes_ok {f : List Sl} (h : FmOk f) : ∀ c ∈ boxesOf f, bxOk c := fun c hc => by
  obtain ⟨s, hs, p, hp, rfl⟩ := mem_boxes.mp hc
  obtain ⟨h1, h2, h3⟩ := h.w s hs
  exact ⟨h1, h3.w p hp⟩
theorem cv_iff {f : List Sl} (h : FmOk f) {x y : Int} : cv f x y = true ↔ ∃ c ∈ boxesOf f, InB c x y := by
  unfold cv
  constructor
  · intro hc
    obtain ⟨p, hp, h1, h2⟩ := cov_iff.mp hc
    have ne : spansAt f x ≠ [] := by
      intro z
      rw [z] at hp
      cases hp
    obtain ⟨s, hs, hh, e⟩ := spansAt_mem ne
    rw [e] at hp
    exact ⟨_, mem_boxes.mpr ⟨s, hs, p, hp, rfl⟩, hh.1, hh.2, h1, h2⟩
  · rintro ⟨c, hc, h1, h2, h3, h4⟩
    obtain ⟨s, hs, p, hp, rfl⟩ := mem_boxes.mp hc
    rw [spansAt_hit h.chn hs ⟨h1, h2⟩]
    exact cov_iff.mpr ⟨p, hp, h3, h4⟩
/-! ### grown -/
theorem added_iff {c b : Bx} (hc : bxOk c) (hb : bxOk b) {x y : Int} : InB (addedBox c b) x y ↔ ∃ u v, InB b u v ∧ InB c (x - u) (y - v) := by
  unfold InB addedBox bxOk at *
  dsimp only
  constructor
  · rintro ⟨h1, h2, h3, h4⟩
    refine ⟨max b.1 (x - c.2.2.1 + 1), max b.2.1 (y - c.2.2.2 + 1), ?_, ?_⟩ <;> omega
  · rintro ⟨u, v, ⟨h1, h2, h3, h4⟩, h5, h6, h7, h8⟩
    omega
theorem added_ok {c b : Bx} (hc : bxOk c) (hb : bxOk b) : bxOk (addedBox c b) := by
  unfold addedBox bxOk at *
  dsimp only
  omega
theorem opp_ok {b : Bx} (hb : bxOk b) : bxOk (opposite b) := by
  unfold opposite bxOk at *
  dsimp only
  omega
theorem opp_iff {b : Bx} {u v : Int} : InB (opposite b) u v ↔ InB b (-u) (-v) := by
  unfold InB opposite
  dsimp only
  omega
theorem opp_opp (b : Bx) : opposite (opposite b) = b := by
  obtain ⟨a, b, c, d⟩ := b
  unfold opposite
  dsimp only
  simp only [Prod.mk.injEq]
  omega
theorem grown_ok {f : List Sl} {b : Bx} (h : FmOk f) (hb : bxOk b) : FmOk (grown f b) ∧ ∀ x y, cv (grown f b) x y = true ↔ ∃ u v, InB b u v ∧ cv f (x - u) (y - v) = true := by
  have hz : ∀ c ∈ (boxesOf f).map fun o => addedBox o b, c.1 < c.2.2.1 ∧ c.2.1 < c.2.2.2 := fun c hc => by
    obtain ⟨o, ho, rfl⟩ := List.mem_map.mp hc
    exact added_ok (boxes_ok h o ho) hb
  obtain ⟨h1, h2⟩ := slabsOf_ok hz
  refine ⟨h1, fun x y => ?_⟩
  unfold grown
  rw [h2, List.any_eq_true]
  constructor
  · rintro ⟨c, hc, hi⟩
    obtain ⟨o, ho, rfl⟩ := List.mem_map.mp hc
    obtain ⟨u, v, k1, k2⟩ := (added_iff (boxes_ok h o ho) hb).mp (inB_iff.mp hi)
    exact ⟨u, v, k1, (cv_iff h).mpr ⟨o, ho, k2⟩⟩
  · rintro ⟨u, v, k1, k2⟩
    obtain ⟨o, ho, k3⟩ := (cv_iff h).mp k2
    exact ⟨_, List.mem_map.mpr ⟨o, ho, rfl⟩, inB_iff.mpr ((added_iff (boxes_ok h o ho) hb).mpr ⟨u, v, k1, k3⟩)⟩
/-! ### the frame -/
theorem head_le : ∀ {sp : List Pr}, SpOk sp → ∀ p ∈ sp, (sp.headD (0, 0)).1 ≤ p.1 ∧ p.2 ≤ (sp.getLastD (0, 0)).2
  | [], _, p, hp => nomatch hp
  | q :: sp, h, p, hp => by
    have hs := List.pairwise_cons.mp h.s
    have h' : SpOk sp := ⟨fun p hp => h.w p (by simp [hp]), hs.2⟩
    have hq := h.w q (by simp)
    rcases List.mem_cons.mp hp with rfl | hp
    · refine ⟨Int.le_refl _, ?_⟩
      cases sp with
      | nil => exact Int.le_refl _
      | cons r sp =>
        have hr := hs.1 r (by simp)
        have := (head_le h' r (by simp)).2
        have hw := h'.w r (by simp)
        simp only [List.getLastD_cons] at *
        omega
    · have k1 := hs.1 p hp
      have k2 := (head_le h' p hp).2
      have k3 := h'.w p hp
      refine ⟨by simp; omega, ?_⟩
      cases sp with
      | nil => cases hp
      | cons r sp =>
        simp only [List.getLastD_cons] at *
        exact k2
theorem slab_le : ∀ {f : List Sl}, Chn f → ∀ s ∈ f, (f.headD (0, 0, [])).1 ≤ s.1 ∧ s.2.1 ≤ (f.getLastD (0, 0, [])).2.1
  | [], _, p, hp => nomatch hp
  | q :: sp, h, p, hp => by
    have hs := List.pairwise_cons.mp h.s
    have h' : Chn sp := ⟨fun p hp => h.w p (by simp [hp]), hs.2⟩
    have hq := h.w q (by simp)
    rcases List.mem_cons.mp hp with rfl | hp
    · refine ⟨Int.le_refl _, ?_⟩
      cases sp with
      | nil => exact Int.le_refl _
      | cons r sp =>
        have hr := hs.1 r (by simp)
        have := (slab_le h' r (by simp)).2
        have hw := h'.w r (by simp)
        simp only [List.getLastD_cons] at *
        omega
    · have k1 := hs.1 p hp
      have k2 := (slab_le h' p hp).2
      have k3 := h'.w p hp
      refine ⟨by simp; omega, ?_⟩
      cases sp with
      | nil => cases hp
      | cons r sp =>
        simp only [List.getLastD_cons] at *
        exact k2
theorem frame_in {f : List Sl} (h : FmOk f) (hn : f ≠ []) {x y : Int} (hc : cv f x y = true) : InB ((frameOf f).getD (0, 0, 0, 0)) x y := by
  unfold frameOf
  rw [if_neg hn]
  obtain ⟨c, hc, h1, h2, h3, h4⟩ := (cv_iff h).mp hc
  obtain ⟨s, hs, p, hp, rfl⟩ := mem_boxes.mp hc
  dsimp only at h1 h2 h3 h4
  have k1 := slab_le h.chn s hs
  have k2 := head_le (h.w s hs).2.2 p hp
  have k3 := lMin_le (List.mem_map.mpr ⟨s, hs, rfl⟩ : (s.2.2.headD (0, 0)).1 ∈ f.map fun s => (s.2.2.headD (0, 0)).1)
  have k4 := le_lMax (List.mem_map.mpr ⟨s, hs, rfl⟩ : (s.2.2.getLastD (0, 0)).2 ∈ f.map fun s => (s.2.2.getLastD (0, 0)).2)
  unfold InB
  simp only [Option.getD_some]
  omega
end BR
/-! Shrunk forms; grown, shrunk and shifted regions; how great they are. -/
namespace BR
open PySem PySem.Spec PyProof.Rows L2
theorem cv_nil (x y : Int) : cv [] x y = false := rfl
theorem cv_ex {f : List Sl} (h : FmOk f) (hn : f ≠ []) : ∃ x y, cv f x y = true := by
  cases f with
  | nil => exact absurd rfl hn
  | cons s f =>
    obtain ⟨h1, h2, h3⟩ := h.w s (by simp)
    cases e : s.2.2 with
    | nil => exact absurd e h2
    | cons p sp =>
      have hp := h3.w p (by rw [e]; simp)
      exact ⟨s.1, p.1, (cv_iff h).mpr ⟨_, mem_boxes.mpr ⟨s, by simp, p, by rw [e]; simp, rfl⟩, Int.le_refl _, h1, Int.le_refl _, hp⟩⟩
theorem corner_iff {b : Bx} {u v : Int} : InB (0 - b.1, 0 - b.2.1, 1 - b.1, 1 - b.2.1) u v ↔ u = -b.1 ∧ v = -b.2.1 := by
  unfold InB
  dsimp only
  omega
theorem corner_ok (b : Bx) : bxOk (0 - b.1, 0 - b.2.1, 1 - b.1, 1 - b.2.1) := by
  unfold bxOk
  dsimp only
  omega
theorem places_ok {f : List Sl} {b : Bx} (h : FmOk f) : FmOk (grown f (0 - b.1, 0 - b.2.1, 1 - b.1, 1 - b.2.1)) ∧ ∀ x y, cv (grown f (0 - b.1, 0 - b.2.1, 1 - b.1, 1 - b.2.1)) x y = true ↔ cv f (x + b.1) (y + b.2.1) = true := by
  obtain ⟨h1, h2⟩ := grown_ok h (corner_ok b)
  refine ⟨h1, fun x y => ?_⟩
  rw [h2]
  constructor
  · rintro ⟨u, v, k1, k2⟩
    obtain ⟨rfl, rfl⟩ := corner_iff.mp k1
    rw [Int.sub_neg, Int.sub_neg] at k2
    exact k2
  · intro k
    exact ⟨-b.1, -b.2.1, corner_iff.mpr ⟨rfl, rfl⟩, by rw [Int.sub_neg, Int.sub_neg]; exact k⟩
theorem places_ne {f : List Sl} {b : Bx} (h : FmOk f) (hn : f ≠ []) : grown f (0 - b.1, 0 - b.2.1, 1 - b.1, 1 - b.2.1) ≠ [] := fun z => by
  obtain ⟨x, y, hc⟩ := cv_ex h hn
  have := ((places_ok (b := b) h).2 (x - b.1) (y - b.2.1)).mpr (by rw [Int.sub_add_cancel, Int.sub_add_cancel]; exact hc)
  rw [z, cv_nil] at this
  cases this
theorem one_ok {c : Bx} (hc : bxOk c) : FmOk (slabsOf [c]) ∧ ∀ x y, cv (slabsOf [c]) x y = true ↔ InB c x y := by
  obtain ⟨h1, h2⟩ := slabsOf_ok (bs := [c]) (fun b hb => by rw [List.mem_singleton.mp hb]; exact hc)
  exact ⟨h1, fun x y => by rw [h2]; simp only [List.any_cons, List.any_nil, Bool.or_false]; exact inB_iff⟩
theorem frame_ok {f : List Sl} (h : FmOk f) (hn : f ≠ []) : bxOk ((frameOf f).getD (0, 0, 0, 0)) := by
  obtain ⟨x, y, hc⟩ := cv_ex h hn
  obtain ⟨h1, h2, h3, h4⟩ := frame_in h hn hc
  exact ⟨by omega, by omega⟩
theorem shrunk_nil (b : Bx) : shrunk [] b = [] := by
  unfold shrunk
  rw [if_pos rfl]
theorem shrunk_eq {f : List Sl} (hn : f ≠ []) (b : Bx) : shrunk f b = mixed (grown f (0 - b.1, 0 - b.2.1, 1 - b.1, 1 - b.2.1)) (grown (mixed (slabsOf [addedBox ((frameOf (grown f (0 - b.1, 0 - b.2.1, 1 - b.1, 1 - b.2.1))).getD (0, 0, 0, 0)) b]) f .less) (opposite b)) .less := by
  unfold shrunk
  rw [if_neg hn]
theorem shrunk_ok {f : List Sl} {b : Bx} (h : FmOk f) (hb : bxOk b) : FmOk (shrunk f b) ∧ ∀ x y, cv (shrunk f b) x y = true ↔ ∀ u v, InB b u v → cv f (x + u) (y + v) = true := by
  by_cases hn : f = []
  · subst hn
    rw [shrunk_nil]
    refine ⟨FmOk.nil, fun x y => ?_⟩
    rw [cv_nil]
    constructor
    · intro z
      cases z
    · intro z
      have := z b.1 b.2.1 ⟨Int.le_refl _, hb.1, Int.le_refl _, hb.2⟩
      rw [cv_nil] at this
      cases this
  · rw [shrunk_eq hn]
    obtain ⟨p1, p2⟩ := places_ok (b := b) h
    have pn := places_ne (b := b) h hn
    generalize grown f (0 - b.1, 0 - b.2.1, 1 - b.1, 1 - b.2.1) = P at p1 p2 pn
    have fo := frame_ok p1 pn
    have fi := fun {x y} => frame_in p1 pn (x := x) (y := y)
    generalize (frameOf P).getD (0, 0, 0, 0) = fr at fo fi
    obtain ⟨a1, a2⟩ := one_ok (added_ok fo hb)
    obtain ⟨m1, m2⟩ := mixed_ok (one := slabsOf [addedBox fr b]) (other := f) (w := .less)
    generalize mixed (slabsOf [addedBox fr b]) f .less = M at m1 m2
    obtain ⟨g1, g2⟩ := grown_ok m1 (opp_ok hb)
    obtain ⟨r1, r2⟩ := mixed_ok (one := P) (other := grown M (opposite b)) (w := .less)
    refine ⟨r1, fun x y => ?_⟩
    rw [r2]
    unfold wanted
    simp only [Bool.and_eq_true, Bool.not_eq_true']
    have mm : ∀ x y, cv M x y = true ↔ InB (addedBox fr b) x y ∧ cv f x y = false := fun x y => by
      rw [m2]
      unfold wanted
      simp only [Bool.and_eq_true, Bool.not_eq_true']
      rw [a2]
    constructor
    · rintro ⟨h1, h2⟩ u v huv
      cases hc : cv f (x + u) (y + v) with
      | true => rfl
      | false =>
        have k1 := fi h1
        have k2 : cv (grown M (opposite b)) x y = true := (g2 x y).mpr ⟨-u, -v, opp_iff.mpr (by rw [Int.neg_neg, Int.neg_neg]; exact huv), by
          rw [Int.sub_neg, Int.sub_neg]
          exact (mm _ _).mpr ⟨(added_iff fo hb).mpr ⟨u, v, huv, by rw [Int.add_sub_cancel, Int.add_sub_cancel]; exact k1⟩, hc⟩⟩
        rw [h2] at k2
        cases k2
    · intro hu
      refine ⟨(p2 x y).mpr (hu _ _ ⟨Int.le_refl _, hb.1, Int.le_refl _, hb.2⟩), ?_⟩
      cases hc : cv (grown M (opposite b)) x y with
      | false => rfl
      | true =>
        obtain ⟨u, v, k1, k2⟩ := (g2 x y).mp hc
        have k3 := ((mm _ _).mp k2).2
        have k4 := hu (-u) (-v) (opp_iff.mp k1)
        rw [← Int.sub_eq_add_neg, ← Int.sub_eq_add_neg, k3] at k4
        cases k4
/-! ### regions -/
def rgrow (a : Reg) (b : Bx) : Reg := if a.2 = true then (shrunk a.1 (opposite b), true) else (grown a.1 b, false)
def rshrink (a : Reg) (b : Bx) : Reg := if a.2 = true then (grown a.1 (opposite b), true) else (shrunk a.1 b, false)
theorem rshrink_eq (a : Reg) (b : Bx) : rshrink a b = rout (rgrow (rout a) (opposite b)) := by
  obtain ⟨f, o⟩ := a
  cases o <;> simp [rshrink, rgrow, rout, opp_opp]
theorem rhas_f (f : List Sl) (x y : Int) : rhas (f, false) (x, y) = cv f x y := by
  unfold rhas cv
  cases cov (spansAt f x) y <;> rfl
theorem rhas_t (f : List Sl) (x y : Int) : rhas (f, true) (x, y) = !cv f x y := by
  unfold rhas cv
  cases cov (spansAt f x) y <;> rfl
theorem rgrow_ok {a : Reg} {b : Bx} (h : FmOk a.1) (hb : bxOk b) : FmOk (rgrow a b).1 := by
  unfold rgrow
  split
  · exact (shrunk_ok h (opp_ok hb)).1
  · exact (grown_ok h hb).1
theorem rgrow_has {a : Reg} {b : Bx} (h : FmOk a.1) (hb : bxOk b) {x y : Int} : rhas (rgrow a b) (x, y) = true ↔ ∃ u v, InB b u v ∧ rhas a (x - u, y - v) = true := by
  obtain ⟨f, o⟩ := a
  cases o with
  | false =>
    show rhas (grown f b, false) (x, y) = true ↔ _
    rw [rhas_f, (grown_ok h hb).2]
    simp only [rhas_f]
  | true =>
    show rhas (shrunk f (opposite b), true) (x, y) = true ↔ _
    rw [rhas_t, Bool.not_eq_true', ← Bool.not_eq_true, (shrunk_ok h (opp_ok hb)).2]
    simp only [rhas_t]
    constructor
    · intro k
      refine Classical.byContradiction fun n => k fun u v huv => ?_
      cases hc : cv f (x + u) (y + v) with
      | true => rfl
      | false => exact absurd ⟨-u, -v, opp_iff.mp huv, by rw [Int.sub_neg, Int.sub_neg, hc]; rfl⟩ n
    · rintro ⟨u, v, k1, k2⟩ k
      have := k (-u) (-v) (opp_iff.mpr (by rw [Int.neg_neg, Int.neg_neg]; exact k1))
      rw [← Int.sub_eq_add_neg, ← Int.sub_eq_add_neg] at this
      rw [this] at k2
      cases k2
theorem rhas_rout (a : Reg) (p : Pr) : rhas (rout a) p = true ↔ ¬ rhas a p = true := by
  rw [rhas_out]
  cases rhas a p <;> simp
theorem rshrink_ok {a : Reg} {b : Bx} (h : FmOk a.1) (hb : bxOk b) : FmOk (rshrink a b).1 := by
  rw [rshrink_eq]
  exact rgrow_ok (a := rout a) h (opp_ok hb)
theorem rshrink_has {a : Reg} {b : Bx} (h : FmOk a.1) (hb : bxOk b) {x y : Int} : rhas (rshrink a b) (x, y) = true ↔ ∀ u v, InB b u v → rhas a (x + u, y + v) = true := by
  rw [rshrink_eq, rhas_rout, rgrow_has (a := rout a) h (opp_ok hb)]
  constructor
  · intro n u v huv
    refine Classical.byContradiction fun k => n ⟨-u, -v, opp_iff.mpr (by rw [Int.neg_neg, Int.neg_neg]; exact huv), ?_⟩
    rw [rhas_rout, Int.sub_neg, Int.sub_neg]
    exact k
  · rintro k ⟨u, v, h1, h2⟩
    rw [rhas_rout] at h2
    exact h2 (by
      have := k (-u) (-v) (opp_iff.mp h1)
      rw [← Int.sub_eq_add_neg, ← Int.sub_eq_add_neg] at this
      exact this)
def shiftB (u v : Int) (c : Bx) : Bx := (c.1 + u, c.2.1 + v, c.2.2.1 + u, c.2.2.2 + v)
def rshift (a : Reg) (u v : Int) : Reg := (slabsOf ((boxesOf a.1).map (shiftB u v)), a.2)
theorem rshift_ok {a : Reg} {u v : Int} (h : FmOk a.1) : FmOk (rshift a u v).1 ∧ ∀ x y, rhas (rshift a u v) (x, y) = rhas a (x - u, y - v) := by
  have hz : ∀ c ∈ (boxesOf a.1).map (shiftB u v), c.1 < c.2.2.1 ∧ c.2.1 < c.2.2.2 := fun c hc => by
    obtain ⟨o, ho, rfl⟩ := List.mem_map.mp hc
    have := boxes_ok h o ho
    unfold bxOk at this
    unfold shiftB
    dsimp only
    omega
  obtain ⟨h1, h2⟩ := slabsOf_ok hz
  refine ⟨h1, fun x y => ?_⟩
  have key : cv (slabsOf ((boxesOf a.1).map (shiftB u v))) x y = cv a.1 (x - u) (y - v) := by
    rw [h2, Bool.eq_iff_iff, cv_iff h, List.any_eq_true]
    constructor
    · rintro ⟨c, hc, hi⟩
      obtain ⟨o, ho, rfl⟩ := List.mem_map.mp hc
      refine ⟨o, ho, ?_⟩
      have := inB_iff.mp hi
      unfold InB shiftB at *
      dsimp only at this
      omega
    · rintro ⟨o, ho, hi⟩
      refine ⟨_, List.mem_map.mpr ⟨o, ho, rfl⟩, inB_iff.mpr ?_⟩
      unfold InB shiftB at *
      dsimp only
      omega
  unfold rshift
  obtain ⟨f, o⟩ := a
  cases o
  · rw [rhas_f, rhas_f]
    exact key
  · rw [rhas_t, rhas_t]
    exact congrArg _ key
end BR
namespace BR
open PySem PySem.Spec PyProof.Rows L2
/-! ### the lines of a region, by what it has -/
structure RegS (X Y : List Int) (a : Reg) : Prop where
  ok : FmOk a.1
  lx : ∀ x y, rhas a (x - 1, y) ≠ rhas a (x, y) → x ∈ X
  ly : ∀ x y, rhas a (x, y - 1) ≠ rhas a (x, y) → y ∈ Y
theorem rhas_ne {a : Reg} {p q : Pr} (h : cv a.1 p.1 p.2 ≠ cv a.1 q.1 q.2) : rhas a p ≠ rhas a q := by
  obtain ⟨f, o⟩ := a
  obtain ⟨x, y⟩ := p
  obtain ⟨x', y'⟩ := q
  dsimp only at h
  cases o
  · rw [rhas_f, rhas_f]
    exact h
  · rw [rhas_t, rhas_t]
    intro z
    exact h (by revert z; cases cv f x y <;> cases cv f x' y' <;> simp)
theorem RegS.on {X Y : List Int} {a : Reg} (h : RegS X Y a) : On X Y a.1 := by
  intro s hs
  obtain ⟨w1, w2, w3⟩ := h.ok.w s hs
  have at1 : spansAt a.1 s.1 = s.2.2 := spansAt_hit h.ok.chn hs ⟨Int.le_refl _, w1⟩
  have at2 : spansAt a.1 (s.2.1 - 1) = s.2.2 := spansAt_hit h.ok.chn hs ⟨by omega, by omega⟩
  have oks : ∀ x, SpOk (spansAt a.1 x) := fun x => spansAt_ok (fun s hs => (h.ok.w s hs).2.2) x
  refine ⟨?_, ?_, fun p hp => ⟨?_, ?_⟩⟩
  · refine Classical.byContradiction fun n => ?_
    have eq : spansAt a.1 (s.1 - 1) = spansAt a.1 s.1 := sp_uniq (oks _) (oks _) fun y => Classical.byContradiction fun k => n (h.lx s.1 y (rhas_ne k))
    rw [at1] at eq
    obtain ⟨t, ht, hh, e⟩ := spansAt_mem (f := a.1) (x := s.1 - 1) (by rw [eq]; exact w2)
    rw [e] at eq
    by_cases z : t = s
    · subst z
      have := hh.1
      omega
    · have sep : t.2.1 ≤ s.1 ∧ (t.2.1 = s.1 → t.2.2 ≠ s.2.2) ∨ s.2.1 ≤ t.1 := by
        obtain ⟨i, hi⟩ := List.getElem?_of_mem ht
        obtain ⟨j, hj⟩ := List.getElem?_of_mem hs
        have pw := List.pairwise_iff_getElem.mp h.ok.s
        obtain ⟨hi1, hi2⟩ := List.getElem?_eq_some_iff.mp hi
        obtain ⟨hj1, hj2⟩ := List.getElem?_eq_some_iff.mp hj
        rcases Nat.lt_trichotomy i j with k | k | k
        · have := pw i j hi1 hj1 k
          rw [hi2, hj2] at this
          exact .inl this
        · subst k
          rw [hi2] at hj2
          exact absurd hj2 z
        · have := pw j i hj1 hi1 k
          rw [hi2, hj2] at this
          exact .inr this.1
      have h1 := hh.1
      have h2 := hh.2
      rcases sep with ⟨k1, k2⟩ | k
      · exact k2 (by omega) eq
      · omega
  · refine Classical.byContradiction fun n => ?_
    have eq : spansAt a.1 (s.2.1 - 1) = spansAt a.1 s.2.1 := sp_uniq (oks _) (oks _) fun y => Classical.byContradiction fun k => n (h.lx s.2.1 y (rhas_ne k))
    rw [at2] at eq
    obtain ⟨t, ht, hh, e⟩ := spansAt_mem (f := a.1) (x := s.2.1) (by rw [← eq]; exact w2)
    rw [e] at eq
    by_cases z : t = s
    · subst z
      have := hh.2
      omega
    · have sep : t.2.1 ≤ s.1 ∨ s.2.1 ≤ t.1 ∧ (s.2.1 = t.1 → s.2.2 ≠ t.2.2) := by
        obtain ⟨i, hi⟩ := List.getElem?_of_mem ht
        obtain ⟨j, hj⟩ := List.getElem?_of_mem hs
        have pw := List.pairwise_iff_getElem.mp h.ok.s
        obtain ⟨hi1, hi2⟩ := List.getElem?_eq_some_iff.mp hi
        obtain ⟨hj1, hj2⟩ := List.getElem?_eq_some_iff.mp hj
        rcases Nat.lt_trichotomy i j with k | k | k
        · have := pw i j hi1 hj1 k
          rw [hi2, hj2] at this
          exact .inl this.1
        · subst k
          rw [hi2] at hj2
          exact absurd hj2 z
        · have := pw j i hj1 hi1 k
          rw [hi2, hj2] at this
          exact .inr this
      have h1 := hh.1
      have h2 := hh.2
      rcases sep with k | ⟨k1, k2⟩
      · omega
      · exact k2 (by omega) eq
  · have pw := w3.w p hp
    refine h.ly s.1 p.1 (rhas_ne ?_)
    show cov (spansAt a.1 s.1) (p.1 - 1) ≠ cov (spansAt a.1 s.1) p.1
    rw [at1, cov_iff.mpr ⟨p, hp, Int.le_refl _, pw⟩]
    intro z
    obtain ⟨q, hq, k1, k2⟩ := cov_iff.mp z
    obtain ⟨i, hi⟩ := List.getElem?_of_mem hp
    obtain ⟨j, hj⟩ := List.getElem?_of_mem hq
    have pr := List.pairwise_iff_getElem.mp w3.s
    obtain ⟨hi1, hi2⟩ := List.getElem?_eq_some_iff.mp hi
    obtain ⟨hj1, hj2⟩ := List.getElem?_eq_some_iff.mp hj
    have qw := w3.w q hq
    rcases Nat.lt_trichotomy i j with k | k | k
    · have := pr i j hi1 hj1 k
      rw [hi2, hj2] at this
      omega
    · subst k
      rw [hi2] at hj2
      subst hj2
      omega
    · have := pr j i hj1 hi1 k
      rw [hi2, hj2] at this
      omega
  · have pw := w3.w p hp
    refine h.ly s.1 p.2 (rhas_ne ?_)
    show cov (spansAt a.1 s.1) (p.2 - 1) ≠ cov (spansAt a.1 s.1) p.2
    rw [at1, cov_iff.mpr ⟨p, hp, by omega, by omega⟩]
    intro z
    obtain ⟨q, hq, k1, k2⟩ := cov_iff.mp z.symm
    obtain ⟨i, hi⟩ := List.getElem?_of_mem hp
    obtain ⟨j, hj⟩ := List.getElem?_of_mem hq
    have pr := List.pairwise_iff_getElem.mp w3.s
    obtain ⟨hi1, hi2⟩ := List.getElem?_eq_some_iff.mp hi
    obtain ⟨hj1, hj2⟩ := List.getElem?_eq_some_iff.mp hj
    have qw := w3.w q hq
    rcases Nat.lt_trichotomy i j with k | k | k
    · have := pr i j hi1 hj1 k
      rw [hi2, hj2] at this
      omega
    · subst k
      rw [hi2] at hj2
      subst hj2
      omega
    · have := pr j i hj1 hi1 k
      rw [hi2, hj2] at this
      omega
/-- .. from lines that were told by the form -/
theorem On.col {X Y : List Int} {f : List Sl} (h : On X Y f) {x : Int} (hx : x ∉ X) : spansAt f (x - 1) = spansAt f x := by
  unfold spansAt
  have e : (fun s : Sl => decide (s.1 ≤ x - 1) && decide (x - 1 < s.2.1)) = (fun s : Sl => decide (s.1 ≤ x - 1) && decide (x - 1 < s.2.1)) := rfl
  have key : f.find? (fun s => decide (s.1 ≤ x - 1) && decide (x - 1 < s.2.1)) = f.find? (fun s => decide (s.1 ≤ x) && decide (x < s.2.1)) := by
    clear e
    induction f with
    | nil => rfl
    | cons s f ih =>
      obtain ⟨h1, h2, _⟩ := h s (by simp)
      have n1 : s.1 ≠ x := fun z => hx (z ▸ h1)
      have n2 : s.2.1 ≠ x := fun z => hx (z ▸ h2)
      have q : (decide (s.1 ≤ x - 1) && decide (x - 1 < s.2.1)) = (decide (s.1 ≤ x) && decide (x < s.2.1)) := by
        rw [Bool.eq_iff_iff]
        simp only [Bool.and_eq_true, decide_eq_true_eq]
        omega
      rw [List.find?_cons, List.find?_cons, q]
      split
      · rfl
      · exact ih fun t ht => h t (by simp [ht])
  rw [key]
theorem OnS.row {Y : List Int} {sp : List Pr} (h : OnS Y sp) {y : Int} (hy : y ∉ Y) : cov sp (y - 1) = cov sp y := by
  rw [Bool.eq_iff_iff, cov_iff, cov_iff]
  constructor
  · rintro ⟨s, hs, h1, h2⟩
    have n1 : s.1 ≠ y := fun z => hy (z ▸ (h s hs).1)
    have n2 : s.2 ≠ y := fun z => hy (z ▸ (h s hs).2)
    exact ⟨s, hs, by omega, by omega⟩
  · rintro ⟨s, hs, h1, h2⟩
    have n1 : s.1 ≠ y := fun z => hy (z ▸ (h s hs).1)
    have n2 : s.2 ≠ y := fun z => hy (z ▸ (h s hs).2)
    exact ⟨s, hs, by omega, by omega⟩
theorem RegOn.s {X Y : List Int} {a : Reg} (h : RegOn X Y a) : RegS X Y a := by
  refine ⟨h.ok, fun x y k => Classical.byContradiction fun n => k ?_, fun x y k => Classical.byContradiction fun n => k ?_⟩
  · unfold rhas
    dsimp only
    rw [h.on.col n]
  · unfold rhas
    dsimp only
    rw [(spansAt_on h.on x).row n]
theorem RegS.mono {X Y X' Y' : List Int} {a : Reg} (h : RegS X Y a) (hx : ∀ k ∈ X, k ∈ X') (hy : ∀ k ∈ Y, k ∈ Y') : RegS X' Y' a := ⟨h.ok, fun x y k => hx _ (h.lx x y k), fun x y k => hy _ (h.ly x y k)⟩
theorem RegS.regOn {X Y : List Int} {a : Reg} (h : RegS X Y a) : RegOn X Y a := ⟨h.ok, h.on⟩
theorem RegS.small {X Y : List Int} {a : Reg} (h : RegS X Y a) (hX : X.length ≤ 1000) (hY : Y.length ≤ 1000) : Small a.1 := h.regOn.small hX hY
theorem flatMap_len {α β : Type} {f : α → List β} {n : Nat} : ∀ (l : List α), (∀ x ∈ l, (f x).length ≤ n) → (l.flatMap f).length ≤ l.length * n
  | [], _ => by simp
  | x :: l, h => by
    rw [List.flatMap_cons, List.length_append, List.length_cons, Nat.add_mul]
    have h1 := h x (by simp)
    have h2 := flatMap_len l fun y hy => h y (by simp [hy])
    omega
theorem RegS.boxes {X Y : List Int} {a : Reg} (h : RegS X Y a) : (boxesOf a.1).length ≤ X.length * Y.length := by
  unfold boxesOf
  refine Nat.le_trans (flatMap_len (n := Y.length) _ fun s hs => ?_) (Nat.mul_le_mul_right _ (fm_len h.ok h.on))
  rw [List.length_map]
  exact sp_len (h.ok.w s hs).2.2 (h.on s hs).2.2
def gl (X : List Int) (lo hi : Int) : List Int := X.map (· + lo) ++ X.map (· + (hi - 1))
theorem gl_len (X : List Int) (lo hi : Int) : (gl X lo hi).length = 2 * X.length := by
  unfold gl
  simp
  omega
theorem mem_gl {X : List Int} {lo hi k : Int} : k ∈ gl X lo hi ↔ k - lo ∈ X ∨ k - (hi - 1) ∈ X := by
  unfold gl
  simp only [List.mem_append, List.mem_map]
  constructor
  · rintro (⟨a, h, rfl⟩ | ⟨a, h, rfl⟩)
    · exact .inl (by rw [Int.add_sub_cancel]; exact h)
    · exact .inr (by rw [Int.add_sub_cancel]; exact h)
  · rintro (h | h)
    · exact .inl ⟨_, h, by omega⟩
    · exact .inr ⟨_, h, by omega⟩
theorem bool_ne {a b : Bool} (h : a ≠ b) : (a = true ∧ b = false) ∨ (a = false ∧ b = true) := by revert h; cases a <;> cases b <;> simp
theorem RegS.grow {X Y : List Int} {a : Reg} {b : Bx} (h : RegS X Y a) (hb : bxOk b) : RegS (gl X b.1 b.2.2.1) (gl Y b.2.1 b.2.2.2) (rgrow a b) := by
  have nt : ∀ {x y}, rhas (rgrow a b) (x, y) = false → ∀ u v, InB b u v → rhas a (x - u, y - v) = false := fun {x y} hn u v huv => by
    cases hc : rhas a (x - u, y - v) with
    | false => rfl
    | true =>
      have := (rgrow_has h.ok hb (x := x) (y := y)).mpr ⟨u, v, huv, hc⟩
      rw [hn] at this
      cases this
  refine ⟨rgrow_ok h.ok hb, fun x y k => ?_, fun x y k => ?_⟩
  · rw [mem_gl]
    rcases bool_ne k with ⟨k1, k2⟩ | ⟨k1, k2⟩
    · obtain ⟨u, v, ⟨b1, b2, b3, b4⟩, hu⟩ := (rgrow_has h.ok hb).mp k1
      by_cases z : u + 1 < b.2.2.1
      · have := nt k2 (u + 1) v ⟨by omega, z, b3, b4⟩
        rw [show x - (u + 1) = x - 1 - u by omega, hu] at this
        cases this
      · refine .inr (h.lx _ (y - v) ?_)
        have k3 := nt k2 u v ⟨b1, b2, b3, b4⟩
        rw [show x - (b.2.2.1 - 1) - 1 = x - 1 - u by omega, show x - (b.2.2.1 - 1) = x - u by omega, hu, k3]
        decide
    · obtain ⟨u, v, ⟨b1, b2, b3, b4⟩, hu⟩ := (rgrow_has h.ok hb).mp k2
      by_cases z : b.1 ≤ u - 1
      · have := nt k1 (u - 1) v ⟨z, by omega, b3, b4⟩
        rw [show x - 1 - (u - 1) = x - u by omega, hu] at this
        cases this
      · refine .inl (h.lx _ (y - v) ?_)
        have k3 := nt k1 u v ⟨b1, b2, b3, b4⟩
        rw [show x - b.1 - 1 = x - 1 - u by omega, show x - b.1 = x - u by omega, hu, k3]
        decide
  · rw [mem_gl]
    rcases bool_ne k with ⟨k1, k2⟩ | ⟨k1, k2⟩
    · obtain ⟨u, v, ⟨b1, b2, b3, b4⟩, hu⟩ := (rgrow_has h.ok hb).mp k1
      by_cases z : v + 1 < b.2.2.2
      · have := nt k2 u (v + 1) ⟨b1, b2, by omega, z⟩
        rw [show y - (v + 1) = y - 1 - v by omega, hu] at this
        cases this
      · refine .inr (h.ly (x - u) _ ?_)
        have k3 := nt k2 u v ⟨b1, b2, b3, b4⟩
        rw [show y - (b.2.2.2 - 1) - 1 = y - 1 - v by omega, show y - (b.2.2.2 - 1) = y - v by omega, hu, k3]
        decide
    · obtain ⟨u, v, ⟨b1, b2, b3, b4⟩, hu⟩ := (rgrow_has h.ok hb).mp k2
      by_cases z : b.2.1 ≤ v - 1
      · have := nt k1 u (v - 1) ⟨b1, b2, z, by omega⟩
        rw [show y - 1 - (v - 1) = y - v by omega, hu] at this
        cases this
      · refine .inl (h.ly (x - u) _ ?_)
        have k3 := nt k1 u v ⟨b1, b2, b3, b4⟩
        rw [show y - b.2.1 - 1 = y - 1 - v by omega, show y - b.2.1 = y - v by omega, hu, k3]
        decide
theorem RegS.out {X Y : List Int} {a : Reg} (h : RegS X Y a) : RegS X Y (rout a) := ⟨h.ok, fun x y k => h.lx x y fun z => k (by rw [rhas_out, rhas_out, z]), fun x y k => h.ly x y fun z => k (by rw [rhas_out, rhas_out, z])⟩
theorem RegS.shrink {X Y : List Int} {a : Reg} {b : Bx} (h : RegS X Y a) (hb : bxOk b) : RegS (gl X (1 - b.2.2.1) (1 - b.1)) (gl Y (1 - b.2.2.2) (1 - b.2.1)) (rshrink a b) := by
  rw [rshrink_eq]
  exact (h.out.grow (opp_ok hb)).out
theorem RegS.bin {X Y : List Int} {a b c : Reg} {f : Bool → Bool → Bool} (ok : FmOk c.1) (hc : ∀ p, rhas c p = f (rhas a p) (rhas b p)) (ha : RegS X Y a) (hb : RegS X Y b) : RegS X Y c := by
  refine ⟨ok, fun x y k => ?_, fun x y k => ?_⟩
  · by_cases z : rhas a (x - 1, y) = rhas a (x, y)
    · by_cases w : rhas b (x - 1, y) = rhas b (x, y)
      · exact absurd (by rw [hc, hc, z, w]) k
      · exact hb.lx x y w
    · exact ha.lx x y z
  · by_cases z : rhas a (x, y - 1) = rhas a (x, y)
    · by_cases w : rhas b (x, y - 1) = rhas b (x, y)
      · exact absurd (by rw [hc, hc, z, w]) k
      · exact hb.ly x y w
    · exact ha.ly x y z
theorem RegS.unite {X Y : List Int} {a b : Reg} (ha : RegS X Y a) (hb : RegS X Y b) : RegS X Y (BR.unite a b) := .bin (f := fun a b => a || b) (unite_ok a b) (rhas_unite a b) ha hb
theorem RegS.and {X Y : List Int} {a b : Reg} (ha : RegS X Y a) (hb : RegS X Y b) : RegS X Y (rand a b) := .bin (f := fun a b => a && b) (rand_ok a b) (rhas_and a b) ha hb
theorem RegS.sub {X Y : List Int} {a b : Reg} (ha : RegS X Y a) (hb : RegS X Y b) : RegS X Y (rsub a b) := .bin (f := fun a b => a && !b) (rsub_ok a b) (rhas_sub a b) ha hb
theorem RegS.xor {X Y : List Int} {a b : Reg} (ha : RegS X Y a) (hb : RegS X Y b) : RegS X Y (rxor a b) := .bin (f := fun a b => a != b) (rxor_ok a b) (rhas_xor a b) ha hb
theorem RegS.nil {X Y : List Int} {o : Bool} : RegS X Y ([], o) := ⟨FmOk.nil, fun x y k => absurd (by rw [rhas_nil, rhas_nil]) k, fun x y k => absurd (by rw [rhas_nil, rhas_nil]) k⟩
theorem RegS.shift {X Y : List Int} {a : Reg} {u v : Int} (h : RegS X Y a) : RegS (X.map (· + u)) (Y.map (· + v)) (rshift a u v) := by
  obtain ⟨h1, h2⟩ := rshift_ok (u := u) (v := v) h.ok
  refine ⟨h1, fun x y k => ?_, fun x y k => ?_⟩
  · rw [h2, h2, show x - 1 - u = x - u - 1 by omega] at k
    exact List.mem_map.mpr ⟨_, h.lx _ _ k, by omega⟩
  · rw [h2, h2, show y - 1 - v = y - v - 1 by omega] at k
    exact List.mem_map.mpr ⟨_, h.ly _ _ k, by omega⟩
end BR
namespace BR
open PySem PySem.Spec PyProof.Rows L2
theorem rgrow_f (f : List Sl) (b : Bx) : rgrow (f, false) b = (grown f b, false) := by
  unfold rgrow
  rw [if_neg (fun z => by cases z)]
theorem rgrow_t (f : List Sl) (b : Bx) : rgrow (f, true) b = (shrunk f (opposite b), true) := by
  unfold rgrow
  rw [if_pos rfl]
theorem RegS.grown {X Y : List Int} {f : List Sl} {b : Bx} (h : RegS X Y (f, false)) (hb : bxOk b) : RegS (gl X b.1 b.2.2.1) (gl Y b.2.1 b.2.2.2) (BR.grown f b, false) := by
  have := h.grow hb
  rw [rgrow_f] at this
  exact this
theorem mul42 {m n : Nat} (h1 : m ≤ 42) (h2 : n ≤ 42) : m * n ≤ 2000 := Nat.le_trans (Nat.mul_le_mul h1 h2) (by decide)
theorem RegS.bounded {X Y : List Int} {f : List Sl} {o : Bool} (h : RegS X Y (f, o)) : RegS X Y (f, false) :=
  ⟨h.ok, fun x y k => h.lx x y (rhas_ne (by rw [rhas_f, rhas_f] at k; exact k)), fun x y k => h.ly x y (rhas_ne (by rw [rhas_f, rhas_f] at k; exact k))⟩
theorem RegS.less {X Y : List Int} {f : List Sl} {A : Bx} (h : RegS X Y (f, false)) : RegS (X ++ [A.1, A.2.2.1]) (Y ++ [A.2.1, A.2.2.2]) (mixed (slabsOf [A]) f .less, false) := by
  refine RegOn.s ⟨mixed_ok.1, mixed_on (slabsOf_on fun c hc => ?_) fun s hs => ?_⟩
  · rw [List.mem_singleton.mp hc]
    exact ⟨by simp, by simp, by simp, by simp⟩
  · obtain ⟨k1, k2, k3⟩ := h.on s hs
    exact ⟨by simp [k1], by simp [k2], fun p hp => by simp [(k3 p hp).1, (k3 p hp).2]⟩
theorem RegS.less_small {X Y : List Int} {f : List Sl} {A b : Bx} (h : RegS X Y (f, false)) (hb : bxOk b) (hX : X.length ≤ 40) (hY : Y.length ≤ 40) : Small (BR.grown (mixed (slabsOf [A]) f .less) b) := by
  have h1 := h.less (A := A)
  generalize mixed (slabsOf [A]) f .less = M at h1
  have lX : (X ++ [A.1, A.2.2.1]).length ≤ 42 := by
    rw [List.length_append]
    show X.length + 2 ≤ 42
    omega
  have lY : (Y ++ [A.2.1, A.2.2.2]).length ≤ 42 := by
    rw [List.length_append]
    show Y.length + 2 ≤ 42
    omega
  generalize X ++ [A.1, A.2.2.1] = X' at h1 lX
  generalize Y ++ [A.2.1, A.2.2.2] = Y' at h1 lY
  have h2 := h1.grown hb
  have e1 := gl_len X' b.1 b.2.2.1
  have e2 := gl_len Y' b.2.1 b.2.2.2
  exact h2.small (by omega) (by omega)
/-- what shrunk asks for -/
theorem RegS.shOk {X Y : List Int} {f : List Sl} {o : Bool} {b : Bx} (h : RegS X Y (f, o)) (hb : bxOk b) (hX : X.length ≤ 40) (hY : Y.length ≤ 40) : ShOk f b := by
  have h0 := h.bounded
  have hp := h0.grown (corner_ok b)
  have pn := fun hn : f ≠ [] => places_ne (b := b) h.ok hn
  refine ⟨h.small (by omega) (by omega), ?_, ?_, ?_, pn, ?_, ?_⟩
  · exact Nat.le_trans h.boxes (mul42 (by omega) (by omega))
  · exact hp.small (by rw [gl_len]; omega) (by rw [gl_len]; omega)
  · exact fun s hs => (hp.ok.w s hs).2.1
  · generalize addedBox _ b = A
    refine Nat.le_trans (h0.less (A := A)).boxes (mul42 ?_ ?_)
    · rw [List.length_append]
      show X.length + 2 ≤ 42
      omega
    · rw [List.length_append]
      show Y.length + 2 ≤ 42
      omega
  · generalize addedBox _ b = A
    exact h0.less_small (A := A) (opp_ok hb) hX hY
end BR
/-! What the program's mirrors give. -/
namespace BR
open PySem PySem.Spec PyProof.Rows L2
/-! ### wishes, opened (not by rfl: the kernel would look into the mirrors) -/
section
variable {α β : Type}
theorem w_run {m : Wp α} {P : α → Prop} : wRun m P = m P := propext ⟨fun h => h, fun h => h⟩
theorem w_bind {m : Wp α} {f : α → Wp β} {P : β → Prop} : wBind m f P = m fun a => f a P := propext ⟨fun h => h, fun h => h⟩
theorem w_pure {a : α} {P : α → Prop} : wPure a P = P a := propext ⟨fun h => h, fun h => h⟩
theorem w_nil {P : Unit → Prop} : wNil P = P () := propext ⟨fun h => h, fun h => h⟩
theorem w_cons {m : Wp α} {r : Wp β} {P : α × β → Prop} : wCons m r P = m fun a => r fun b => P (a, b) := propext ⟨fun h => h, fun h => h⟩
theorem w_g {c : Prop} {a : α} {P : α → Prop} : wG c a P = (c ∧ P a) := propext ⟨fun h => h, fun h => h⟩
theorem w_if {b : Bool} {m n : Wp α} {P : α → Prop} : wIf b m n P = (if b = true then m P else n P) := propext ⟨fun h => h, fun h => h⟩
theorem w_or {m n : Wp Bool} {P : Bool → Prop} : wOr m n P = m fun a => if a = true then P true else n P := propext ⟨fun h => h, fun h => h⟩
theorem w_and {m n : Wp Bool} {P : Bool → Prop} : wAnd m n P = m fun a => if a = true then n P else P false := propext ⟨fun h => h, fun h => h⟩
theorem w_not {m : Wp Bool} {P : Bool → Prop} : wNot m P = m fun a => P (!a) := propext ⟨fun h => h, fun h => h⟩
theorem w_chain {m n k : Wp Int} {r s : Int → Int → Bool} {P : Bool → Prop} : wChain m n k r s P = m fun i => n fun j => if r i j = true then k fun l => P (s j l) else P false := propext ⟨fun h => h, fun h => h⟩
end
/-! ### loops and comprehensions -/
theorem wFor_inv {α τ : Type} {b : α → τ → (τ → Prop) → (τ → Prop) → Prop} {k : τ → Prop} (I : List α → τ → Prop) (hk : ∀ s, I [] s → k s) (hb : ∀ x xs s (n : τ → Prop), I (x :: xs) s → (∀ s', I xs s' → n s') → b x s n k) : ∀ (xs : List α) (s : τ), I xs s → wFor xs s b k
  | [], s, h => hk s h
  | x :: xs, s, h => hb x xs s _ h fun s' h' => wFor_inv I hk hb xs s' h'
theorem wLcA_map {α β : Type} {e : α → Wp β} {g : α → β} : ∀ (xs : List α) (acc : List β) (P : List β → Prop), (∀ x ∈ xs, ∀ Q : β → Prop, Q (g x) → e x Q) → P (acc ++ xs.map g) → wLcA xs (fun _ => wPure true) e acc P
  | [], acc, P, _, h => by simpa [wLcA, wPure] using h
  | x :: xs, acc, P, he, h => by
    show (if true = true then e x fun y => wLcA xs (fun _ => wPure true) e (acc ++ [y]) P else wLcA xs (fun _ => wPure true) e acc P)
    rw [if_pos rfl]
    exact he x (by simp) _ (wLcA_map xs _ P (fun y hy => he y (by simp [hy])) (by simpa using h))
theorem wLc_map {α β : Type} {e : α → Wp β} {g : α → β} {xs : List α} {P : List β → Prop} (he : ∀ x ∈ xs, ∀ Q : β → Prop, Q (g x) → e x Q) (h : P (xs.map g)) : wLc xs (fun _ => wPure true) e P := wLcA_map xs [] P he (by simpa using h)
theorem wLcA_filter {α β : Type} {c : α → Wp Bool} {e : α → Wp β} {t : α → Bool} {g : α → β} : ∀ (xs : List α) (acc : List β) (P : List β → Prop), (∀ x ∈ xs, ∀ Q : Bool → Prop, Q (t x) → c x Q) → (∀ x ∈ xs, t x = true → ∀ Q : β → Prop, Q (g x) → e x Q) → P (acc ++ (xs.filter t).map g) → wLcA xs c e acc P
  | [], acc, P, _, _, h => by simpa [wLcA, wPure] using h
  | x :: xs, acc, P, hc, he, h => by
    refine hc x (by simp) _ ?_
    cases ht : t x with
    | true =>
      rw [if_pos rfl]
      refine he x (by simp) ht _ (wLcA_filter xs _ P (fun y hy => hc y (by simp [hy])) (fun y hy => he y (by simp [hy])) ?_)
      rw [List.filter_cons, ht, if_pos rfl] at h
      simpa using h
    | false =>
      rw [if_neg (by decide)]
      refine wLcA_filter xs _ P (fun y hy => hc y (by simp [hy])) (fun y hy => he y (by simp [hy])) ?_
      rw [List.filter_cons, ht, if_neg (by decide)] at h
      exact h
theorem wLc_filter {α β : Type} {c : α → Wp Bool} {e : α → Wp β} {t : α → Bool} {g : α → β} {xs : List α} {P : List β → Prop} (hc : ∀ x ∈ xs, ∀ Q : Bool → Prop, Q (t x) → c x Q) (he : ∀ x ∈ xs, t x = true → ∀ Q : β → Prop, Q (g x) → e x Q) (h : P ((xs.filter t).map g)) : wLc xs c e P := wLcA_filter xs [] P hc he (by simpa using h)
theorem mem_rng {i j k : Int} : k ∈ rng i j ↔ i ≤ k ∧ k < j := by
  unfold rng
  simp only [List.mem_map, List.mem_range]
  constructor
  · rintro ⟨n, hn, rfl⟩
    omega
  · rintro ⟨h1, h2⟩
    exact ⟨(k - i).toNat, by omega, by omega⟩
theorem wTake_ok {n : Int} {P : Int → Prop} (h0 : 0 < n) (h1 : n < 2 ^ 200) (k : ∀ r, 0 ≤ r → r < n → P r) : wTake n P := ⟨h0, h1, k⟩
theorem wIx_ok {α : Type} {l : List α} {i : Int} {P : α → Prop} (h0 : 0 ≤ i) (h1 : i < (l.length : Int)) (k : ∀ x ∈ l, P x) : wIx l i P := by
  obtain ⟨x, h2, h3⟩ := atI_nat h0 h1
  exact ⟨x, h2, k x (List.mem_of_getElem? h3)⟩
/-! ### regions -/
section
variable {X Y : List Int} {a : Reg} {b : Bx} {R : Reg → Prop}
theorem mul44 {m n : Nat} (h1 : m ≤ 44) (h2 : n ≤ 44) : m * n ≤ 2000 := Nat.le_trans (Nat.mul_le_mul h1 h2) (by decide)
theorem add_ok (h : RegS X Y a) (hb : bxOk b) (hX : X.length ≤ 40) (hY : Y.length ≤ 40) (k : R (rgrow a b)) : m_Region_add a b R := by
  unfold m_Region_add
  simp only [w_run, w_bind, w_pure, w_cons, w_nil, w_g]
  refine ⟨hb, ?_⟩
  unfold rgrow at k
  split
  · rename_i e
    rw [if_pos e] at k
    exact ⟨RegS.shOk (o := a.2) h (opp_ok hb) hX hY, k⟩
  · rename_i e
    rw [if_neg e] at k
    exact ⟨Nat.le_trans h.boxes (mul44 (by omega) (by omega)), k⟩
theorem floordiv_ok (h : RegS X Y a) (hb : bxOk b) (hX : X.length ≤ 40) (hY : Y.length ≤ 40) (k : R (rshrink a b)) : m_Region_floordiv a b R := by
  unfold m_Region_floordiv
  simp only [w_run, w_bind, w_pure, w_cons, w_nil, w_g]
  refine ⟨hb, ?_⟩
  unfold rshrink at k
  split
  · rename_i e
    rw [if_pos e] at k
    exact ⟨Nat.le_trans h.boxes (mul44 (by omega) (by omega)), k⟩
  · rename_i e
    rw [if_neg e] at k
    exact ⟨RegS.shOk (o := a.2) h hb hX hY, k⟩
theorem opened_ok (h : RegS X Y a) (hb : bxOk b) (hX : X.length ≤ 20) (hY : Y.length ≤ 20) (k : R (rgrow (rshrink a b) b)) : m_opened a b R := by
  unfold m_opened
  simp only [w_run, w_bind, w_pure, w_cons, w_nil, w_g]
  refine ⟨hb, floordiv_ok h hb (by omega) (by omega) (add_ok (h.shrink hb) hb ?_ ?_ k)⟩
  · rw [gl_len]
    omega
  · rw [gl_len]
    omega
theorem closed_ok (h : RegS X Y a) (hb : bxOk b) (hX : X.length ≤ 20) (hY : Y.length ≤ 20) (k : R (rshrink (rgrow a b) b)) : m_closed a b R := by
  unfold m_closed
  simp only [w_run, w_bind, w_pure, w_cons, w_nil, w_g]
  refine ⟨hb, add_ok h hb (by omega) (by omega) (floordiv_ok (h.grow hb) hb ?_ ?_ k)⟩
  · rw [gl_len]
    omega
  · rw [gl_len]
    omega
theorem shifted_ok {u v : Int} (h : RegS X Y a) (hX : X.length ≤ 44) (hY : Y.length ≤ 44) (k : R (rshift a u v)) : m_shifted a u v R := by
  unfold m_shifted
  simp only [w_run, w_bind, w_pure, w_cons, w_nil, w_g, wFor, w_not, Bool.not_true, Bool.false_eq_true, if_false]
  have hz := Nat.le_trans h.boxes (mul44 hX hY)
  refine ⟨by omega, wLc_map (g := shiftB u v) (fun x _ Q q => q) ?_⟩
  unfold m_moved
  simp only [w_run, w_bind, w_pure, w_cons, w_nil, w_g]
  exact ⟨by simpa using hz, k⟩
end
/-! ### regions of boxes, however a law makes them -/
theorem madeB_cons (b : Bx) (bs : List Bx) (r : Reg) : (b :: bs).foldl (fun r b => unite r (slabsOf [b], false)) r = bs.foldl (fun r b => unite r (slabsOf [b], false)) (unite r (slabsOf [b], false)) := rfl
end BR
/-! Own layer: in, lists taken several times. -/
namespace BR
open PySem PySem.Spec PyProof.Rows L2
theorem room65 {k : Nat} {A : Around} (r : Room k A) : A.units + 65 < cLine := by have := r.un; omega
section
variable {K : Fg} {c : Cn} {Φ Ψ : Sts} {ta tb te : TE} {α β : Type} {m n : Wp Int} {e : α → Ty} {D : Ends} {wa : Wp α} {wl : Wp (List α)}
theorem any_mem [DecidableEq α] [h : EqE e] (a : α) : ∀ l : List α, ((l.map h.d).any fun z => PyData.eqv z (h.d a)) = decide (a ∈ l)
  | [] => by simp
  | b :: l => by
    rw [List.map_cons, List.any_cons, any_mem a l, h.eq, Bool.eq_iff_iff]
    simp only [Bool.or_eq_true, decide_eq_true_eq, List.mem_cons]
    constructor
    · rintro (h | h)
      · exact .inl h.symm
      · exact .inr h
    · rintro (h | h)
      · exact .inl h.symm
      · exact .inr h
theorem dp_list [i : DatE e] {l : List α} {G H : Hp} {v : V} (h : (eL e l).p G v) (s : Same G H) : Dp K H v (.list (l.map i.d)) := by
  have h1 := (DatE.to (e := eL e) l G v h)
  exact dt_dp (K := K) (G := H) _ _ (DatE.lay (e := eL e) l).1 (Ty.m _ _ _ _ s h1)
theorem dp_one [i : DatE e] {a : α} {G H : Hp} {v : V} (h : (e a).p G v) (s : Same G H) : Dp K H v (i.d a) := dt_dp (K := K) (G := H) _ _ (i.lay a).1 (Ty.m _ _ _ _ s (i.to a G v h))
theorem md_inL [DecidableEq α] [i : EqE e] (ha : MD Φ ta wa e) (hb : MD Φ tb wl (eL e)) (hn : i.n ≤ 60 := by decide) : MD Φ (tOp (rInD K) ta tb) (wBind wa fun a => wBind wl fun b => wPure (decide (a ∈ b))) tBo := fun σ G H ev P Q mp k =>
  ha σ G H ev _ _ mp fun a v G1 H1 p1 s1 hv => hb σ G1 H1 s1.e _ _ p1 fun l w G2 H2 p2 s2 hw =>
    ⟨i.d a, l.map i.d, dp_one ((e a).m _ _ _ s2.g hv) s2.e.s, dp_list hw s2.e.s, (i.lay a).shaped (by omega), (Lay.list fun d hd => by
      obtain ⟨x, _, rfl⟩ := List.mem_map.mp hd
      exact i.lay x).shaped (by omega), by
      rw [any_mem]
      exact k _ _ G2 H2 p2 (s1.trans s2) rfl⟩
theorem md_notInL [DecidableEq α] [i : EqE e] (ha : MD Φ ta wa e) (hb : MD Φ tb wl (eL e)) (hn : i.n ≤ 60 := by decide) : MD Φ (tOp (rNotInD K) ta tb) (wBind wa fun a => wBind wl fun b => wPure (!decide (a ∈ b))) tBo := fun σ G H ev P Q mp k =>
  ha σ G H ev _ _ mp fun a v G1 H1 p1 s1 hv => hb σ G1 H1 s1.e _ _ p1 fun l w G2 H2 p2 s2 hw =>
    ⟨i.d a, l.map i.d, dp_one ((e a).m _ _ _ s2.g hv) s2.e.s, dp_list hw s2.e.s, (i.lay a).shaped (by omega), (Lay.list fun d hd => by
      obtain ⟨x, _, rfl⟩ := List.mem_map.mp hd
      exact i.lay x).shaped (by omega), by
      rw [any_mem]
      exact k _ _ G2 H2 p2 (s1.trans s2) rfl⟩
theorem All.rep {G : Hp} {φs : List Ty} {vs : List V} (h : All G φs vs) : ∀ k : Nat, All G (List.replicate k φs).flatten (List.replicate k vs).flatten
  | 0 => .nil
  | k + 1 => by
    rw [List.replicate_succ, List.replicate_succ, List.flatten_cons, List.flatten_cons]
    exact h.append (h.rep k)
theorem rep_len {α : Type} (l : List α) (k : Nat) : (List.replicate k l).flatten.length = k * l.length := by simp
theorem md_rep (ha : MD Φ ta wl (eL e)) (hb : MD Φ tb n tI) : MD Φ (tOp rRep ta tb) (wBind wl fun a => wBind n fun b => wG (a.length * b.toNat ≤ 100000 ∧ InR b) (List.replicate b.toNat a).flatten) (eL e) := fun σ G H ev P Q mp k =>
  ha σ G H ev _ _ mp fun l v G1 H1 p1 s1 hv => hb σ G1 H1 s1.e _ _ p1 fun b w G2 H2 p2 s2 hw => by
    cases hw
    obtain ⟨⟨h1, h2⟩, p2⟩ := p2
    obtain ⟨⟨q, vs, rfl, e1, e2⟩, hz⟩ := (eL e l).m _ _ _ s2.g hv
    have hl : vs.length = l.length := by rw [e2.length, List.length_map]
    refine ⟨q, b, vs, rfl, rfl, s2.e.s _ _ e1, ?_, ?_, ?_, fun p hp => ?_⟩
    · have := h2.1
      omega
    · have := h2.2
      omega
    · rw [hl]
      exact sz_of h1
    · have g4 : Grow G2 H2 (upd G2 p (.lst (List.replicate b.toNat vs).flatten)) (upd H2 p (.lst (List.replicate b.toNat vs).flatten)) := .new s2.e.s hp
      refine k _ _ _ _ p2 ((s1.trans s2).trans (.grow s2.e g4)) ⟨⟨p, _, rfl, upd_same, ?_⟩, ?_⟩
      · have e3 : (List.replicate b.toNat l).flatten.map e = (List.replicate b.toNat (l.map e)).flatten := by
          rw [List.map_flatten, List.map_replicate]
        rw [e3]
        exact (e2.rep _).mono g4.g
      · rw [rep_len, Nat.mul_comm]
        exact h1
end
end BR
/-! Own layer: dicts whose keys are tuples of ints. -/
namespace BR
open PySem PySem.Spec PyProof.Rows L2
theorem room1 {k : Nat} {A : Around} (r : Room k A) : A.units + 1 < cLine := by have := r.un; omega
class KeyE {κ : Type} (e : κ → Ty) where
  k : κ → List Key
  tup : ∀ a G v, (e a).p G v → ∃ b, v = .ref b ∧ G b = some (.tup ((k a).map kV))
  inj : ∀ a b, k a = k b → a = b
instance : KeyE (e2 tI tI) := ⟨fun p => [.inl p.1, .inl p.2], fun a G v h => by
  obtain ⟨b, vs, rfl, h1, h2⟩ := h
  cases h2 with
  | cons h3 h4 =>
    cases h4 with
    | cons h4 h5 =>
      cases h5
      cases h3
      cases h4
      exact ⟨b, rfl, h1⟩, fun a b h => by
  obtain ⟨a1, a2⟩ := a
  obtain ⟨b1, b2⟩ := b
  simp only [List.cons.injEq, Sum.inl.injEq, and_true] at h
  rw [h.1, h.2]⟩
instance : KeyE (e4 tI tI tI tI) := ⟨fun p => [.inl p.1, .inl p.2.1, .inl p.2.2.1, .inl p.2.2.2], fun a G v h => by
  obtain ⟨b, vs, rfl, h1, h2⟩ := h
  cases h2 with
  | cons h3 h4 =>
    cases h4 with
    | cons h4 h5 =>
      cases h5 with
      | cons h5 h6 =>
        cases h6 with
        | cons h6 h7 =>
          cases h7
          cases h3
          cases h4
          cases h5
          cases h6
          exact ⟨b, rfl, h1⟩, fun a b h => by
  obtain ⟨a1, a2, a3, a4⟩ := a
  obtain ⟨b1, b2, b3, b4⟩ := b
  simp only [List.cons.injEq, Sum.inl.injEq, and_true] at h
  rw [h.1, h.2.1, h.2.2.1, h.2.2.2]⟩
/-! plain dicts -/
section
variable {κ β : Type} [DecidableEq κ]
def dHas (l : List (κ × β)) (k : κ) : Bool := l.any fun p => decide (p.1 = k)
def dGet (l : List (κ × β)) (k : κ) : Option β := (l.find? fun p => decide (p.1 = k)).map (·.2)
def dPut (l : List (κ × β)) (k : κ) (v : β) : List (κ × β) := if dHas l k = true then l.map (fun p => if p.1 = k then (p.1, v) else p) else l ++ [(k, v)]
theorem dHas_put {l : List (κ × β)} {k k' : κ} {v : β} : dHas (dPut l k v) k' = (dHas l k' || decide (k = k')) := by
  unfold dPut
  split
  · rename_i h
    have e : dHas (l.map fun p => if p.1 = k then (p.1, v) else p) k' = dHas l k' := by
      unfold dHas
      rw [List.any_map]
      congr 1
      funext p
      simp only [Function.comp_apply]
      split <;> rfl
    rw [e]
    by_cases z : k = k'
    · subst z
      rw [h]
      rfl
    · simp [z]
  · unfold dHas
    rw [List.any_append]
    simp
theorem dPut_len {l : List (κ × β)} {k : κ} {v : β} : (dPut l k v).length ≤ l.length + 1 := by
  unfold dPut
  split <;> simp
end
/-! what stands -/
structure DOk {κ β : Type} (ek : κ → Ty) [i : KeyE ek] (ev : β → Ty) (G : Hp) (l : List (κ × β)) (kvs : List (List Key × V)) : Prop where
  ks : kvs.map (·.1) = l.map fun p => i.k p.1
  vs : All G (l.map fun p => ev p.2) (kvs.map (·.2))
  z : l.length ≤ 100000
def eD {κ β : Type} (ek : κ → Ty) [KeyE ek] (ev : β → Ty) (l : List (κ × β)) : Ty := ⟨fun G v => ∃ a kvs, v = .ref a ∧ G a = some (.dT kvs) ∧ DOk ek ev G l kvs, fun _ _ _ s ⟨a, kvs, e, h1, h2⟩ => ⟨a, kvs, e, s _ _ h1, h2.ks, h2.vs.mono s, h2.z⟩⟩
def cD {κ β : Type} (ek : κ → Ty) [KeyE ek] (ev : β → Ty) (l : List (κ × β)) : Ct := ⟨fun G u => ∃ kvs, u = .dT kvs ∧ DOk ek ev G l kvs, fun _ _ _ s ⟨kvs, e, h2⟩ => ⟨kvs, e, h2.ks, h2.vs.mono s, h2.z⟩⟩
section
variable {κ β : Type} [DecidableEq κ] {ek : κ → Ty} [i : KeyE ek] {ev : β → Ty} {G : Hp} {l : List (κ × β)} {kvs : List (List Key × V)}
theorem dok_has (k : κ) : ∀ {l : List (κ × β)} {kvs : List (List Key × V)}, kvs.map (·.1) = l.map (fun p => i.k p.1) → (kvs.any fun kv => decide (kv.1 = i.k k)) = dHas l k
  | [], [], _ => rfl
  | [], _ :: _, h => by simp at h
  | _ :: _, [], h => by simp at h
  | p :: l, q :: kvs, h => by
    simp only [List.map_cons, List.cons.injEq] at h
    unfold dHas
    rw [List.any_cons, List.any_cons, dok_has k h.2, h.1]
    congr 1
    rw [Bool.eq_iff_iff]
    simp only [decide_eq_true_eq]
    exact ⟨fun z => i.inj _ _ z, fun z => by rw [z]⟩
theorem val_some {l : List (List Key × V)} {k : List Key} : (valV l k).isSome = l.any fun kv => decide (kv.1 = k) := by
  unfold valV
  rw [Option.isSome_map, Bool.eq_iff_iff, List.find?_isSome, List.any_eq_true]
theorem dok_put (k : κ) {v : V} {b : β} (hv : (ev b).p G v) (hz : l.length < 100000) (h : DOk ek ev G l kvs) : DOk ek ev G (dPut l k b) (putK kvs (i.k k) v) := by
  have hh := dok_has (i := i) k h.ks
  refine ⟨?_, ?_, Nat.le_trans dPut_len hz⟩
  · unfold putK dPut
    rw [hh]
    split
    · rw [List.map_map, List.map_map]
      have e1 : kvs.map ((fun x : List Key × V => x.1) ∘ fun kv => if kv.1 = i.k k then (kv.1, v) else kv) = kvs.map (·.1) := List.map_congr_left fun p _ => by simp only [Function.comp_apply]; split <;> rfl
      have e2 : l.map ((fun p : κ × β => i.k p.1) ∘ fun p => if p.1 = k then (p.1, b) else p) = l.map fun p => i.k p.1 := List.map_congr_left fun p _ => by simp only [Function.comp_apply]; split <;> rfl
      rw [e1, e2]
      exact h.ks
    · rw [List.map_append, List.map_append, h.ks]
      rfl
  · unfold putK dPut
    rw [hh]
    split
    · have key : ∀ (l : List (κ × β)) (kvs : List (List Key × V)), kvs.map (·.1) = l.map (fun p => i.k p.1) → All G (l.map fun p => ev p.2) (kvs.map (·.2)) → All G ((l.map fun p => if p.1 = k then (p.1, b) else p).map fun p => ev p.2) ((kvs.map fun kv => if kv.1 = i.k k then (kv.1, v) else kv).map (·.2)) := by
        intro l
        induction l with
        | nil =>
          intro kvs h1 h2
          cases kvs with
          | nil => exact .nil
          | cons a b => simp at h1
        | cons p l ih =>
          intro kvs h1 h2
          cases kvs with
          | nil => simp at h1
          | cons q kvs =>
            simp only [List.map_cons, List.cons.injEq] at h1
            simp only [List.map_cons] at h2 ⊢
            cases h2 with
            | cons h3 h4 =>
              refine .cons ?_ (ih kvs h1.2 h4)
              by_cases z : p.1 = k
              · rw [if_pos z, if_pos (by rw [h1.1, z])]
                exact hv
              · rw [if_neg z, if_neg (fun w => z (i.inj _ _ (by rw [← h1.1]; exact w)))]
                exact h3
      exact key l kvs h.ks h.vs
    · rw [List.map_append, List.map_append]
      exact h.vs.append (.cons hv .nil)
end
section
variable {K : Fg} {c : Cn} {Φ Ψ : Sts} {ta tb te tk : TE} {κ β : Type} [DecidableEq κ] {ek : κ → Ty} [ii : KeyE ek] {ev : β → Ty} {D : Ends} {wk : Wp κ} {wv : Wp β} {l : List (κ × β)} {i : Nat}
/-- x = {} -/
theorem nx_dnew {M : Prop} (k : NxC c D (Φ.set i (.own (cD ek ev ([] : List (κ × β))))) M) : NxS c (tAsg tDNewT (gName i)) D Φ M := fun σ G H ev' mp p hp => k _ G _ (ev'.new (φs := cD ek ev []) hp ⟨[], rfl, rfl, .nil, by simp⟩) mp
/-- x[k] = v -/
theorem nx_dput {M : κ → β → Prop} (hi : Φ[i]? = some (.own (cD ek ev l))) (hv : MD Φ tb wv ev) (hk : MD Φ tk wk ek) (k : ∀ a b, NxC c D (Φ.set i (.own (cD ek ev (dPut l a b)))) (M a b)) :
    NxS c (sDPut (tVar i) tk tb) D Φ (wRun wv fun b => wk fun a => l.length < 100000 ∧ M a b) := fun σ G H env mp =>
  hv σ G H env.L _ _ mp fun b v G1 H1 p1 s1 hv1 => by
    obtain ⟨o, h1, q, u, rfl, _⟩ := s1.e.sl i _ hi
    refine ⟨.ref q, h1, hk σ G1 H1 s1.e _ _ p1 fun a y G2 H2 p2 s2 hy => ?_⟩
    obtain ⟨o', h1', q', u', e1, h2, ⟨kvs, rfl, hd⟩, h4⟩ := s2.e.sl i _ hi
    rw [h1] at h1'
    cases h1'
    cases e1
    obtain ⟨b', rfl, hb⟩ := ii.tup a _ _ hy
    have hl : kvs.length = l.length := by
      have := congrArg List.length hd.ks
      simpa using this
    exact ⟨q, _, rfl, DPut.t h2 (s2.e.s _ _ hb) (sz_lt (by rw [hl]; exact p2.1)), k a b σ G2 _ (((env.step s1).step s2).put hi h1 ⟨_, rfl, dok_put a ((ev b).m _ _ _ s2.g hv1) p2.1 hd⟩) p2.2⟩
theorem dget_has {G H : Hp} {a : Addr} {kvs : List (List Key × V)} {k : κ} {b : Addr} (h : H a = some (.dT kvs)) (hd : DOk ek ev G l kvs) (hb : H b = some (.tup ((ii.k k).map kV))) : ∃ o, DGet H a (.ref b) o ∧ o.isSome = dHas l k :=
  ⟨_, DGet.t h hb, by rw [val_some]; exact dok_has k hd.ks⟩
theorem md_din {wl : Wp (List (κ × β))} (hk : MD Φ tk wk ek) (hb : MD Φ tb wl (eD ek ev)) : MD Φ (tDIn tk tb) (wBind wk fun a => wBind wl fun b => wPure (dHas b a)) tBo := fun σ G H env P Q mp q =>
  hk σ G H env _ _ mp fun a y G1 H1 p1 s1 hy => hb σ G1 H1 s1.e _ _ p1 fun l w G2 H2 p2 s2 hw => by
    obtain ⟨d, kvs, rfl, h1, h2⟩ := hw
    obtain ⟨b', rfl, hb'⟩ := ii.tup a _ _ ((ek a).m _ _ _ s2.g hy)
    obtain ⟨o, g1, g2⟩ := dget_has (ev := ev) (s2.e.s _ _ h1) h2 (s2.e.s _ _ hb')
    exact ⟨d, o, rfl, g1, by rw [g2]; exact q _ _ G2 H2 p2 (s1.trans s2) rfl⟩
theorem md_dnin {wl : Wp (List (κ × β))} (hk : MD Φ tk wk ek) (hb : MD Φ tb wl (eD ek ev)) : MD Φ (tDNotIn tk tb) (wBind wk fun a => wBind wl fun b => wPure (!dHas b a)) tBo := fun σ G H env P Q mp q =>
  hk σ G H env _ _ mp fun a y G1 H1 p1 s1 hy => hb σ G1 H1 s1.e _ _ p1 fun l w G2 H2 p2 s2 hw => by
    obtain ⟨d, kvs, rfl, h1, h2⟩ := hw
    obtain ⟨b', rfl, hb'⟩ := ii.tup a _ _ ((ek a).m _ _ _ s2.g hy)
    obtain ⟨o, g1, g2⟩ := dget_has (ev := ev) (s2.e.s _ _ h1) h2 (s2.e.s _ _ hb')
    exact ⟨d, o, rfl, g1, by rw [g2]; exact q _ _ G2 H2 p2 (s1.trans s2) rfl⟩
end
/-! an owned object is changed no more -/
section
variable {c : Cn} {Φ : Sts} {D : Ends}
theorem nx_freezeG {t : TS} {M : Prop} {i : Nat} {C : Ct} {φ : Ty} (hi : Φ[i]? = some (.own C)) (hφ : ∀ G q u, C.p G u → G q = some u → φ.p G (.ref q)) (h : NxS c t D (Φ.set i (.val φ)) M) : NxS c t D Φ M := fun σ G H ev mp => by
  obtain ⟨o, h1, q, u, rfl, h2, h3, h4⟩ := ev.L.sl i _ hi
  have sg : Same G (upd G q u) := same_new h4
  have mi : MutAt Φ σ i q := ⟨⟨_, hi, rfl⟩, h1⟩
  have hz := ev.m i _ q hi h1
  have mm : ∀ (j : Nat) (p : Addr), MutAt (Φ.set i (.val φ)) σ j p → MutAt Φ σ j p ∧ p ≠ q := by
    rintro j p ⟨⟨s, k1, k2⟩, k3⟩
    rcases set_at k1 with ⟨rfl, rfl, _⟩ | ⟨n, k1⟩
    · cases k2
    · refine ⟨⟨⟨s, k1, k2⟩, k3⟩, fun z => ?_⟩
      subst z
      exact n (ev.L.nd i j p mi ⟨⟨s, k1, k2⟩, k3⟩)
  refine h σ (upd G q u) H ⟨⟨fun a o e => ?_, by simp [ev.L.l], fun j s hj => ?_, fun x y p k1 k2 => ev.L.nd x y p (mm x p k1).1 (mm y p k2).1⟩, ev.g.trans sg, ev.b, fun a k1 k2 => ?_, fun j φs p k1 k2 => ?_, fun a ha => ?_, fun j p k1 k2 => ?_⟩ mp
  · by_cases z : a = q
    · subst z
      rw [upd_same] at e
      cases e
      exact h2
    · rw [upd_ne z] at e
      exact ev.L.s a o e
  · rcases set_at hj with ⟨rfl, rfl, _⟩ | ⟨n, hj'⟩
    · exact ⟨_, h1, .ref q, rfl, hφ _ q u (C.m _ _ _ sg h3) upd_same⟩
    · obtain ⟨o, k1, k2⟩ := ev.L.sl j s hj'
      refine ⟨o, k1, k2.keep sg (fun _ _ _ _ w => w) fun p m ho => ?_⟩
      subst ho
      have : p ≠ q := (mm j p ⟨⟨s, hj, m⟩, k1⟩).2
      rw [upd_ne this]
      exact (k2.mutH m).2
  · by_cases z : a = q
    · subst z
      exact hz.1
    · rw [upd_ne z] at k2
      exact ev.f a k1 k2
  · rcases set_at k1 with ⟨_, z, _⟩ | ⟨n, k1⟩
    · cases z
    · exact ev.m j φs p k1 k2
  · obtain ⟨k1, x, y, k2, k3⟩ := ev.k a ha
    have : a ≠ q := fun z => hz.2 (z ▸ ha)
    exact ⟨by rw [upd_ne this]; exact k1, x, y, k2, k3⟩
  · rcases set_at k1 with ⟨_, z, _⟩ | ⟨n, k1⟩
    · cases z
    · exact ev.r j p k1 k2
theorem nx_freezeD {κ β : Type} {ek : κ → Ty} [KeyE ek] {ev : β → Ty} {t : TS} {M : Prop} {i : Nat} {l : List (κ × β)} (hi : Φ[i]? = some (.own (cD ek ev l))) (h : NxS c t D (Φ.set i (.val (eD ek ev l))) M) : NxS c t D Φ M :=
  nx_freezeG (φ := eD ek ev l) hi (fun G q u ⟨kvs, e, hd⟩ hg => ⟨q, kvs, rfl, by rw [hg, e], hd⟩) h
end
end BR
/-! Own layer: comprehensions of two clauses. -/
namespace BR
open PySem PySem.Spec PyProof.Rows L2
def wLcB {β γ : Type} : List β → (β → Wp Bool) → (β → Wp γ) → List γ → Wp (List γ)
  | [], _, _, acc => wPure acc
  | y :: ys, c, e, acc => fun P => c y fun b => if b = true then e y fun z => acc.length < 100000 ∧ wLcB ys c e (acc ++ [z]) P else wLcB ys c e acc P
def wLc2A {α β γ : Type} : List α → (α → Wp Bool) → (α → Wp (List β)) → (α → β → Wp Bool) → (α → β → Wp γ) → List γ → Wp (List γ)
  | [], _, _, _, _, acc => wPure acc
  | x :: xs, c, i, d, e, acc => fun P => c x fun b => if b = true then i x fun ys => wLcB ys (d x) (e x) acc fun acc' => wLc2A xs c i d e acc' P else wLc2A xs c i d e acc P
def wLc2 {α β γ : Type} (xs : List α) (c : α → Wp Bool) (i : α → Wp (List β)) (d : α → β → Wp Bool) (e : α → β → Wp γ) : Wp (List γ) := wLc2A xs c i d e []
theorem Tgt.mono {Φ Ψ : Sts} {σ σ' : St} {js : List Nat} {G G' : Hp} (t : Tgt Φ σ Ψ σ' js G) (s : Same G G') : Tgt Φ σ Ψ σ' js G' :=
  ⟨t.l, t.l', t.o, fun i h => by
    obtain ⟨φ, v, h1, h2, h3⟩ := t.n i h
    exact ⟨φ, v, h1, h2, φ.m _ _ _ s h3⟩⟩
section
variable {K : Fg} {Φ : Sts} {σ : St} {α β γ : Type} {e : α → Ty} {e1 : β → Ty} {f : γ → Ty} {tt tt1 : TT}
theorem md_lc2 {wi wi1 : TI} {g g1 : TG} {te : TE} {vs js vs1 js1 : List Nat} {m : Wp (List α)} {mc : α → Wp Bool} {mi : α → Wp (List β)} {md : α → β → Wp Bool} {me : α → β → Wp γ} {Χ : α → Sts} {Ω : α → β → Sts} (h : MI Φ wi m e) (hw : calmE Φ vs = true) (hg : ∀ x, GM g (wipeE Φ vs) (e x) (Χ x) js) (hj : ∀ j ∈ js, j ∈ vs)
    (hc : ∀ x, MT (Χ x) tt (mc x)) (hi : ∀ x, MI (Χ x) wi1 (mi x) e1) (hw1 : ∀ x, calmE (Χ x) vs1 = true) (hg1 : ∀ x y, GM g1 (wipeE (Χ x) vs1) (e1 y) (Ω x y) js1) (hj1 : ∀ j ∈ js1, j ∈ vs1)
    (hd : ∀ x y, MT (Ω x y) tt1 (md x y)) (he : ∀ x y, MD (Ω x y) te (me x y) f) : MD Φ (tLc2 wi g tt wi1 g1 tt1 te vs vs1) (wBind m fun xs => wLc2 xs mc mi md me) (eL f) := fun σ G H ev P Q mp k =>
  h σ G H ev _ _ mp fun xs J G1 H1 pa hz s1 it => by
    intro D hD
    have nD := notMut s1.e hD
    refine ⟨fun i m H' => m = xs.length - i ∧ i ≤ xs.length ∧ ∃ acc : List γ, acc.length ≤ 100000 ∧ (∃ G' ws, LcI Φ σ G1 H1 D (acc.map f) H' G' ws) ∧ wLc2A (xs.drop i) mc mi md me acc P, ⟨_, rfl, Nat.zero_le _, [], by simp, ⟨G1, [], step_rest s1.e (same_new hD), s1.e.s.free hD, upd_same, .nil⟩, by rw [List.drop_zero]; exact pa⟩, ?_⟩
    rintro i m H' ⟨rfl, hi', acc, ha, ⟨G', ws, L⟩, w⟩
    rcases Nat.lt_or_ge i xs.length with hlt | hge
    · refine .inr ⟨it.go i H' hlt (L.s.g.trans L.s.e.s), fun H2 => ∃ acc : List γ, acc.length ≤ 100000 ∧ (∃ G' ws, LcI Φ σ G1 H1 D (acc.map f) H2 G' ws) ∧ wLc2A (xs.drop (i + 1)) mc mi md me acc P, fun H2 ⟨acc, p1, p2, p3⟩ => ⟨_, by omega, rfl, hlt, acc, p1, p2, p3⟩, ?_⟩
      intro x H2 hy
      obtain ⟨G2, gr, hx⟩ := it.yld i (xs[i]) H' x H2 G' (by simp [hlt]) L.s.g L.s.e.s hy
      have L2 := L.step nD (.grow L.s.e gr)
      rw [List.drop_eq_getElem_cons hlt] at w
      refine hg (xs[i]) _ G2 H2 x L2.s.e.wipe hx _ fun σ2 tg => ⟨?_, ?_⟩
      · rw [tg.wipe hj, wipe_wipe]
      · refine hc (xs[i]) σ2 G2 H2 (tg.envL L2.s.e.wipe) _ _ w fun b G3 H3 pb s3 => ?_
        have L3 := L2.step nD (s3.back L2.s.e hw hj tg)
        cases b with
        | true =>
          rw [if_pos rfl] at pb ⊢
          refine hi (xs[i]) σ2 G3 H3 s3.e _ _ pb fun ys J1 G4 H4 py hzy s4 it1 => ?_
          have L4 := L3.step nD (s4.back L3.s.e hw hj tg)
          have g24 : Same G2 G4 := s3.g.trans s4.g
          refine ⟨fun j k H5 => k = ys.length - j ∧ j ≤ ys.length ∧ ∃ acc : List γ, acc.length ≤ 100000 ∧ (∃ G' ws, Same G4 G' ∧ LcI Φ σ G1 H1 D (acc.map f) H5 G' ws) ∧ wLcB (ys.drop j) (md xs[i]) (me xs[i]) acc fun acc' => wLc2A (xs.drop (i + 1)) mc mi md me acc' P, ⟨_, rfl, Nat.zero_le _, acc, ha, ⟨G4, ws, same_refl _, L4⟩, by rw [List.drop_zero]; exact py⟩, ?_⟩
          rintro j k5 H5 ⟨rfl, hj', acc, ha, ⟨G5, ws, g45, L5⟩, w⟩
          rcases Nat.lt_or_ge j ys.length with jlt | jge
          · refine .inr ⟨it1.go j H5 jlt (g45.trans L5.s.e.s), fun H6 => ∃ acc : List γ, acc.length ≤ 100000 ∧ (∃ G' ws, Same G4 G' ∧ LcI Φ σ G1 H1 D (acc.map f) H6 G' ws) ∧ wLcB (ys.drop (j + 1)) (md xs[i]) (me xs[i]) acc fun acc' => wLc2A (xs.drop (i + 1)) mc mi md me acc' P, fun H2 ⟨acc, p1, p2, p3⟩ => ⟨_, by omega, rfl, jlt, acc, p1, p2, p3⟩, ?_⟩
            intro y H6 hy
            obtain ⟨G6, gr6, hy6⟩ := it1.yld j (ys[j]) H5 y H6 G5 (by simp [jlt]) g45 L5.s.e.s hy
            have L6 := L5.step nD (.grow L5.s.e gr6)
            have g46 : Same G4 G6 := g45.trans gr6.g
            rw [List.drop_eq_getElem_cons jlt] at w
            have tg6 := tg.mono (g24.trans g46)
            have e6 := tg6.envL L6.s.e.wipe
            refine hg1 (xs[i]) (ys[j]) _ G6 H6 y e6.wipe hy6 _ fun σ3 tg1 => ⟨?_, ?_⟩
            · rw [tg1.wipe hj1, wipe_wipe]
            · refine hd (xs[i]) (ys[j]) σ3 G6 H6 (tg1.envL e6.wipe) _ _ w fun b G7 H7 pb s7 => ?_
              have b7 := s7.back e6 (hw1 _) hj1 tg1
              have L7 := L6.step nD (b7.back L6.s.e hw hj tg6)
              cases b with
              | true =>
                rw [if_pos rfl] at pb ⊢
                refine he (xs[i]) (ys[j]) σ3 G7 H7 s7.e _ _ pb fun z v G8 H8 pz s8 hv => ?_
                have L8 := L7.step nD ((s8.back b7.e (hw1 _) hj1 tg1).back L7.s.e hw hj tg6)
                refine ⟨ws, L8.d, sz_lt ?_, acc ++ [z], ?_, ⟨G8, ws ++ [v], g46.trans (s7.g.trans s8.g), ?_⟩, pz.2⟩
                · rw [L8.a.length, List.length_map]
                  have := pz.1
                  omega
                · have := pz.1
                  simp
                  omega
                · rw [List.map_append]
                  exact L8.put hD nD hv
              | false =>
                rw [if_neg (by decide)] at pb ⊢
                exact ⟨acc, ha, ⟨G7, ws, g46.trans s7.g, L7⟩, pb⟩
          · have e1 : j = ys.length := Nat.le_antisymm hj' jge
            subst e1
            rw [List.drop_length] at w
            exact .inl ⟨it1.stop H5 (g45.trans L5.s.e.s), acc, ha, ⟨G5, ws, L5⟩, w⟩
        | false =>
          rw [if_neg (by decide)] at pb ⊢
          exact ⟨acc, ha, ⟨G3, ws, L3⟩, pb⟩
    · have e1 : i = xs.length := Nat.le_antisymm hi' hge
      subst e1
      rw [List.drop_length] at w
      obtain ⟨G2, s2, hv⟩ := L.fin hD nD
      exact .inl ⟨it.stop H' (L.s.g.trans L.s.e.s), k acc _ G2 H' w (s1.trans s2) ⟨hv, ha⟩⟩
end
end BR
/-! Own layer: bool of an own object. -/
namespace BR
open PySem PySem.Spec PyProof.Rows L2
theorem bool_new_in {prog : Program} {w : World} (x : Addr) : MeetsIn prog w (Builtin.«bool.__new__» ⟨[.type "bool", .ref x], []⟩) (fun A R s => wpAny (model prog w) A.in1 (truthy (.ref x)) (fun b s' => R (.ok (.ret (.bool b))) s') (fun e s' => R (.error e) s') s) :=
  .of_wp fun A R s h => by
    obtain ⟨hp, g, d, tk, os⟩ := s
    have f1 := F.conv_sub_bool
    have tr : ∀ Q' : Bool → Shared → Prop, (∀ b s', R (.ok (.ret (.bool b))) s' → Q' b s') → wpAny (model prog w) A.in1 (truthy (.ref x)) Q' (fun e s' => R (.error e) s') ⟨hp, g, d, tk, os⟩ := fun Q' k => wpAny_mono h k fun _ _ z => z
    repeat (any_goals (first | assumption | (with_reducible refine tr _ fun b s' q => ?_) | wp_step))
    all_goals exact ⟨_, rfl, q⟩
def rBoolO (C : Addr) (sp : Sp) (E : XK) : List V → Hp → VK → Prop := fun xs H Q => ∃ x, xs = [x] ∧ IsC C H x ∧ sp [x] H (fun r H' => ∃ b, r = .bl b ∧ Q (.bl b) H') E
theorem call_boolO {X : Cx} {CX : CXT} {n : Nat} {f C : Addr} {sp : Sp} {E : XK} (F : FnR X.prog X.w X.K X.mg X.base CX n f sp) (hr : Room (n + 2) X.A) (hx : Passes CX X E) (m : OpM X.K C "__bool__" f) : CallR X (.type "bool") (rBoolO C sp E) := by
  rintro pins s σ H xs us Q I r ⟨x, rfl, hx1, h⟩
  cases r with
  | cons r1 r2 =>
    cases r2
    obtain ⟨a, od, rfl, rfl, dx, J⟩ := hx1.at I r1
    obtain ⟨m', hF⟩ := I.fr
    refine callType_newIn PySem.F.called_bool PySem.F.newNe_bool (PySem.F.typeCall_bool_1 _) (PySem.F.newCall_bool_1 _) (fun obj => PySem.F.args_object_init_2 obj _) PySem.F.entry_bool_new (bool_new_in a) ?_
    refine PySem.W.truthy_K hF I.ok.mod.kin J m.at_ m.fn ?_
    refine thn (run_sub ⟨hr.in1.in1, rfl⟩ F hx I va1 h) ?_
    rintro w s' ⟨z, H', I', rz, b, rfl, q⟩
    cases rz
    exact ⟨rfl, .bl b, H', I', rfl, q⟩
section
variable {K : Fg} {c : Cn} {Φ : Sts} {σ : St} {G R : Hp} {ta tb te : TE} {α β γ : Type} {e : α → Ty} {E : XK} {p : Wp Reg} {pre : List Ty → Ty → Prop}
theorem pd_boolO {a : Reg} {b : Bool} (ha : PD ta σ G R (tReg K a)) (hp : pre [tReg K a] (tBo b)) : PD (tCB (rBoolO (RG K) (spT pre) E) (tCons ta tNil)) σ G R (tBo b) :=
  pd_callB (ad_cons ha ad_nil) fun vs G1 H _ s1 hv Q q => by
    obtain ⟨x, rfl, hx⟩ := all1 hv
    exact ⟨x, rfl, isC_of hx s1, G1, _, tBo b, s1, .cons hx .nil, hp, fun v G2 H2 g2 hv => ⟨b, hv, q _ G2 H2 g2 rfl⟩⟩
theorem md_boolR (ha : MD Φ ta p (tReg K)) : MD Φ (tCB (rBoolO (RG K) (sp_bool K) E) (tCons ta tNil)) (wBind p fun a => wPure (a.2 || !a.1.isEmpty)) tBo :=
  md_1 (F := fun te => tCB (rBoolO (RG K) (sp_bool K) E) (tCons te tNil)) (hF1 ta) ha fun a x σ G P hx h => ⟨_, h, pd_boolO (pd_cv hx) ⟨a, trivial, rfl, rfl⟩⟩
theorem md_spT {w : Wp (List Pr)} (ha : MD Φ ta w tSp) : MD Φ ta (wBind w fun f => wG (f.length ≤ 100000) f) eSp := fun σ G H ev P Q mp k =>
  ha σ G H ev _ _ mp fun a v G1 H1 p1 s1 hv => k a v G1 H1 p1.2 s1 ⟨hv, p1.1⟩
theorem md_merged {w : Wp (List Pr)} (ha : MD Φ ta w (eL eP)) : MD Φ (tCall sp_merged [] E (tCons ta tNil)) (wBind (wCons w wNil) fun z => wG (z.1.length ≤ 50000) (merged z.1)) tSp :=
  md_callT' (es := fun z => [tL (z.1.map tP)]) (ma_cons ha ma_nil) (fun a G vs h => by cases h with | cons h1 h2 => exact .cons h1.1 h2) fun a P h => ⟨_, _, h.2, ⟨a.1, h.1, rfl, rfl⟩, fun G v hv => hv⟩
/-- flat values -/
class FlatE {α : Type} (e : α → Ty) where
  v : α → V
  to : ∀ a G w, (e a).p G w → w = v a
  flat : ∀ a, flatV (v a) = true
  eq : ∀ a b, a = b ↔ eqV (v a) (v b) = true
instance : FlatE tI := ⟨.int, fun a G w h => h, fun _ => rfl, fun a b => by simp [eqV]⟩
instance : FlatE tSt := ⟨.str, fun a G w h => h, fun _ => rfl, fun a b => by simp [eqV]⟩
theorem flat_all [h : FlatE e] {G : Hp} : ∀ {l : List α} {vs : List V}, All G (l.map e) vs → vs = l.map h.v
  | [], _, .nil => rfl
  | a :: l, _, .cons h1 h2 => by rw [h.to a _ _ h1, flat_all h2, List.map_cons]
theorem flat_in [DecidableEq α] [h : FlatE e] (a : α) : ∀ l : List α, inV (h.v a) (l.map h.v) = decide (a ∈ l)
  | [] => by simp [inV]
  | b :: l => by
    have ih := flat_in a l
    unfold inV at ih ⊢
    rw [List.map_cons, List.any_cons, ih, Bool.eq_iff_iff]
    simp only [Bool.or_eq_true, decide_eq_true_eq, List.mem_cons, ← h.eq]
    constructor
    · rintro (h | h)
      · exact .inl h.symm
      · exact .inr h
    · rintro (h | h)
      · exact .inl h.symm
      · exact .inr h
theorem md_inF0 [DecidableEq α] [i : FlatE e] {neg : Bool} {wa : Wp α} {wl : Wp (List α)} (ha : MD Φ ta wa e) (hb : MD Φ tb wl (eS e)) : MD Φ (tOp (rIn K neg) ta tb) (wBind wa fun a => wBind wl fun b => wPure (if neg = true then !decide (a ∈ b) else decide (a ∈ b))) tBo := fun σ G H ev P Q mp k =>
  ha σ G H ev _ _ mp fun a v G1 H1 p1 s1 hv => hb σ G1 H1 s1.e _ _ p1 fun l w G2 H2 p2 s2 hw => by
    obtain ⟨⟨q, vs, rfl, hl, hall⟩, hz⟩ := hw
    cases i.to a _ _ hv
    cases flat_all hall
    refine ⟨q, _, rfl, hl.imp (fun h => .inl (.of (s2.e.s _ _ h))) (fun h => .inl (.of (s2.e.s _ _ h))), i.flat a, ?_, ?_⟩
    · rw [List.all_map, List.all_eq_true]
      exact fun x _ => i.flat x
    · rw [flat_in]
      refine k _ _ G2 H2 p2 (s1.trans s2) ?_
      cases neg <;> rfl
theorem md_inF [DecidableEq α] [i : FlatE e] {wa : Wp α} {wl : Wp (List α)} (ha : MD Φ ta wa e) (hb : MD Φ tb wl (eS e)) : MD Φ (tOp (rIn K false) ta tb) (wBind wa fun a => wBind wl fun b => wPure (decide (a ∈ b))) tBo := md_inF0 ha hb
theorem md_notInF [DecidableEq α] [i : FlatE e] {wa : Wp α} {wl : Wp (List α)} (ha : MD Φ ta wa e) (hb : MD Φ tb wl (eS e)) : MD Φ (tOp (rIn K true) ta tb) (wBind wa fun a => wBind wl fun b => wPure (!decide (a ∈ b))) tBo := md_inF0 ha hb
end
end BR
/-! The algebra of growing and shrinking. -/
namespace BR
open PySem PySem.Spec PyProof.Rows L2
section
variable {X Y : List Int} {a c d : Reg} {b e : Bx}
theorem reg_ext (ha : FmOk a.1) (hc : FmOk c.1) (h : ∀ x y, rhas a (x, y) = true ↔ rhas c (x, y) = true) : a = c := reg_uniq ha hc fun ⟨x, y⟩ => by rw [Bool.eq_iff_iff]; exact h x y
theorem rwithin_iff : rwithin a c = true ↔ ∀ x y, rhas a (x, y) = true → rhas c (x, y) = true := by
  unfold rwithin
  rw [decide_eq_true_eq]
  constructor
  · intro h x y hx
    have k := rhas_unite (rout a) c (x, y)
    rw [h, rhas_nil, rhas_out, hx] at k
    simpa using k.symm
  · intro h
    refine reg_uniq (unite_ok _ _) FmOk.nil fun ⟨x, y⟩ => ?_
    rw [rhas_unite, rhas_out, rhas_nil]
    cases hx : rhas a (x, y) with
    | false => rfl
    | true => rw [h x y hx]; rfl
theorem within_eq {a' c' : Reg} (h : (∀ x y, rhas a (x, y) = true → rhas c (x, y) = true) ↔ ∀ x y, rhas a' (x, y) = true → rhas c' (x, y) = true) : rwithin a c = rwithin a' c' := by
  rw [Bool.eq_iff_iff, rwithin_iff, rwithin_iff]
  exact h
theorem has_unite {x y : Int} : rhas (unite a c) (x, y) = true ↔ rhas a (x, y) = true ∨ rhas c (x, y) = true := by rw [rhas_unite, Bool.or_eq_true]
theorem has_and {x y : Int} : rhas (rand a c) (x, y) = true ↔ rhas a (x, y) = true ∧ rhas c (x, y) = true := by rw [rhas_and, Bool.and_eq_true]
/-- a + b within c exactly if a within c // b -/
theorem adj (ha : FmOk a.1) (hc : FmOk c.1) (hb : bxOk b) : rwithin (rgrow a b) c = rwithin a (rshrink c b) := within_eq (by
  constructor
  · intro h x y hx
    rw [rshrink_has hc hb]
    intro u v huv
    exact h _ _ ((rgrow_has ha hb).mpr ⟨u, v, huv, by rw [Int.add_sub_cancel, Int.add_sub_cancel]; exact hx⟩)
  · intro h x y hx
    obtain ⟨u, v, huv, hr⟩ := (rgrow_has ha hb).mp hx
    have := (rshrink_has hc hb).mp (h _ _ hr) u v huv
    rw [Int.sub_add_cancel, Int.sub_add_cancel] at this
    exact this)
theorem open_in (ha : FmOk a.1) (hb : bxOk b) {x y : Int} (h : rhas (rgrow (rshrink a b) b) (x, y) = true) : rhas a (x, y) = true := by
  obtain ⟨u, v, huv, hr⟩ := (rgrow_has (rshrink_ok ha hb) hb).mp h
  have := (rshrink_has ha hb).mp hr u v huv
  rw [Int.sub_add_cancel, Int.sub_add_cancel] at this
  exact this
theorem in_close (ha : FmOk a.1) (hb : bxOk b) {x y : Int} (h : rhas a (x, y) = true) : rhas (rshrink (rgrow a b) b) (x, y) = true := by
  rw [rshrink_has (rgrow_ok ha hb) hb]
  intro u v huv
  exact (rgrow_has ha hb).mpr ⟨u, v, huv, by rw [Int.add_sub_cancel, Int.add_sub_cancel]; exact h⟩
theorem sgs (ha : FmOk a.1) (hb : bxOk b) : rshrink (rgrow (rshrink a b) b) b = rshrink a b :=
  reg_ext (rshrink_ok (rgrow_ok (rshrink_ok ha hb) hb) hb) (rshrink_ok ha hb) fun x y => by
    constructor
    · intro h
      rw [rshrink_has ha hb]
      intro u v huv
      exact open_in ha hb ((rshrink_has (rgrow_ok (rshrink_ok ha hb) hb) hb).mp h u v huv)
    · exact in_close (rshrink_ok ha hb) hb
theorem gsg (ha : FmOk a.1) (hb : bxOk b) : rgrow (rshrink (rgrow a b) b) b = rgrow a b :=
  reg_ext (rgrow_ok (rshrink_ok (rgrow_ok ha hb) hb) hb) (rgrow_ok ha hb) fun x y => by
    constructor
    · exact open_in (rgrow_ok ha hb) hb
    · intro h
      obtain ⟨u, v, huv, hr⟩ := (rgrow_has ha hb).mp h
      exact (rgrow_has (rshrink_ok (rgrow_ok ha hb) hb) hb).mpr ⟨u, v, huv, in_close ha hb hr⟩
theorem rout_rout (a : Reg) : rout (rout a) = a := by
  obtain ⟨f, o⟩ := a
  cases o <;> rfl
theorem rout_grow (a : Reg) (b : Bx) : rout (rgrow a b) = rshrink (rout a) (opposite b) := by
  rw [rshrink_eq, rout_rout, opp_opp]
theorem rout_shrink (a : Reg) (b : Bx) : rout (rshrink a b) = rgrow (rout a) (opposite b) := by
  rw [rshrink_eq, rout_rout]
theorem grow_unite (ha : FmOk a.1) (hc : FmOk c.1) (hb : bxOk b) : rgrow (unite a c) b = unite (rgrow a b) (rgrow c b) :=
  reg_ext (rgrow_ok (unite_ok a c) hb) (unite_ok _ _) fun x y => by
    rw [rgrow_has (unite_ok a c) hb, has_unite, rgrow_has ha hb, rgrow_has hc hb]
    simp only [has_unite]
    constructor
    · rintro ⟨u, v, huv, h | h⟩
      · exact .inl ⟨u, v, huv, h⟩
      · exact .inr ⟨u, v, huv, h⟩
    · rintro (⟨u, v, huv, h⟩ | ⟨u, v, huv, h⟩)
      · exact ⟨u, v, huv, .inl h⟩
      · exact ⟨u, v, huv, .inr h⟩
theorem shrink_and (ha : FmOk a.1) (hc : FmOk c.1) (hb : bxOk b) : rshrink (rand a c) b = rand (rshrink a b) (rshrink c b) :=
  reg_ext (rshrink_ok (rand_ok a c) hb) (rand_ok _ _) fun x y => by
    rw [rshrink_has (rand_ok a c) hb, has_and, rshrink_has ha hb, rshrink_has hc hb]
    simp only [has_and]
    constructor
    · intro h
      exact ⟨fun u v huv => (h u v huv).1, fun u v huv => (h u v huv).2⟩
    · intro h u v huv
      exact ⟨h.1 u v huv, h.2 u v huv⟩
theorem grow_and (ha : FmOk a.1) (hc : FmOk c.1) (hb : bxOk b) : rwithin (rgrow (rand a c) b) (rand (rgrow a b) (rgrow c b)) = true := rwithin_iff.mpr fun x y h => by
  obtain ⟨u, v, huv, hr⟩ := (rgrow_has (rand_ok a c) hb).mp h
  rw [has_and] at hr ⊢
  exact ⟨(rgrow_has ha hb).mpr ⟨u, v, huv, hr.1⟩, (rgrow_has hc hb).mpr ⟨u, v, huv, hr.2⟩⟩
theorem shrink_unite (ha : FmOk a.1) (hc : FmOk c.1) (hb : bxOk b) : rwithin (unite (rshrink a b) (rshrink c b)) (rshrink (unite a c) b) = true := rwithin_iff.mpr fun x y h => by
  rw [rshrink_has (unite_ok a c) hb]
  intro u v huv
  rw [has_unite] at h ⊢
  rcases h with h | h
  · exact .inl ((rshrink_has ha hb).mp h u v huv)
  · exact .inr ((rshrink_has hc hb).mp h u v huv)
theorem grow_grow (ha : FmOk a.1) (hb : bxOk b) (he : bxOk e) : rgrow (rgrow a b) e = rgrow a (addedBox b e) :=
  reg_ext (rgrow_ok (rgrow_ok ha hb) he) (rgrow_ok ha (added_ok hb he)) fun x y => by
    rw [rgrow_has (rgrow_ok ha hb) he, rgrow_has ha (added_ok hb he)]
    constructor
    · rintro ⟨u, v, huv, h⟩
      obtain ⟨s, t, hst, hr⟩ := (rgrow_has ha hb).mp h
      exact ⟨s + u, t + v, (added_iff hb he).mpr ⟨u, v, huv, by rw [Int.add_sub_cancel, Int.add_sub_cancel]; exact hst⟩, by rw [show x - (s + u) = x - u - s by omega, show y - (t + v) = y - v - t by omega]; exact hr⟩
    · rintro ⟨s, t, hst, hr⟩
      obtain ⟨u, v, huv, h⟩ := (added_iff hb he).mp hst
      exact ⟨u, v, huv, (rgrow_has ha hb).mpr ⟨s - u, t - v, h, by rw [show x - u - (s - u) = x - s by omega, show y - v - (t - v) = y - t by omega]; exact hr⟩⟩
theorem opp_added (b e : Bx) : opposite (addedBox b e) = addedBox (opposite b) (opposite e) := by
  obtain ⟨b1, b2, b3, b4⟩ := b
  obtain ⟨e1, e2, e3, e4⟩ := e
  unfold opposite addedBox
  dsimp only
  simp only [Prod.mk.injEq]
  omega
theorem shrink_shrink (ha : FmOk a.1) (hb : bxOk b) (he : bxOk e) : rshrink (rshrink a b) e = rshrink a (addedBox b e) := by
  rw [rshrink_eq, rout_shrink, grow_grow (a := rout a) ha (opp_ok hb) (opp_ok he), rshrink_eq, opp_added]
theorem grow_one {u v : Int} (ha : FmOk a.1) : rgrow a (u, v, u + 1, v + 1) = rshift a u v :=
  reg_ext (rgrow_ok ha ⟨by dsimp only; omega, by dsimp only; omega⟩) (rshift_ok ha).1 fun x y => by
    rw [rgrow_has ha ⟨by dsimp only; omega, by dsimp only; omega⟩, (rshift_ok ha).2]
    constructor
    · rintro ⟨s, t, ⟨h1, h2, h3, h4⟩, hr⟩
      dsimp only at h1 h2 h3 h4
      rw [show x - u = x - s by omega, show y - v = y - t by omega]
      exact hr
    · intro h
      exact ⟨u, v, ⟨Int.le_refl _, by dsimp only; omega, Int.le_refl _, by dsimp only; omega⟩, h⟩
theorem shrink_one {u v : Int} (ha : FmOk a.1) : rshrink a (u, v, u + 1, v + 1) = rshift a (0 - u) (0 - v) :=
  reg_ext (rshrink_ok ha ⟨by dsimp only; omega, by dsimp only; omega⟩) (rshift_ok ha).1 fun x y => by
    rw [rshrink_has ha ⟨by dsimp only; omega, by dsimp only; omega⟩, (rshift_ok ha).2]
    constructor
    · intro h
      rw [show x - (0 - u) = x + u by omega, show y - (0 - v) = y + v by omega]
      exact h u v ⟨Int.le_refl _, by dsimp only; omega, Int.le_refl _, by dsimp only; omega⟩
    · rintro h s t ⟨h1, h2, h3, h4⟩
      dsimp only at h1 h2 h3 h4
      rw [show x + s = x - (0 - u) by omega, show y + t = y - (0 - v) by omega]
      exact h
theorem shift_0 (ha : FmOk a.1) : rshift a 0 0 = a := reg_ext (rshift_ok ha).1 ha fun x y => by
  rw [(rshift_ok ha).2, Int.sub_zero, Int.sub_zero]
/-- an opened region has the lines of the region -/
theorem RegS.opened (h : RegS X Y a) (hb : bxOk b) : RegS X Y (rgrow (rshrink a b) b) := by
  have hs := rshrink_ok h.ok hb
  have key : ∀ {x y}, rhas (rgrow (rshrink a b) b) (x, y) = true ↔ ∃ u v, InB b u v ∧ ∀ s t, InB b s t → rhas a (x - u + s, y - v + t) = true := fun {x y} => by
    rw [rgrow_has hs hb]
    constructor
    · rintro ⟨u, v, huv, hr⟩
      exact ⟨u, v, huv, (rshrink_has h.ok hb).mp hr⟩
    · rintro ⟨u, v, huv, hr⟩
      exact ⟨u, v, huv, (rshrink_has h.ok hb).mpr hr⟩
  have nt : ∀ {x y}, rhas (rgrow (rshrink a b) b) (x, y) = false → ∀ u v, InB b u v → ∃ s t, InB b s t ∧ rhas a (x - u + s, y - v + t) = false := fun {x y} hn u v huv => by
    refine Classical.byContradiction fun k => ?_
    have : rhas (rgrow (rshrink a b) b) (x, y) = true := key.mpr ⟨u, v, huv, fun s t hst => by
      cases hc : rhas a (x - u + s, y - v + t) with
      | true => rfl
      | false => exact absurd ⟨s, t, hst, hc⟩ k⟩
    rw [hn] at this
    cases this
  refine ⟨rgrow_ok hs hb, fun x y k => ?_, fun x y k => ?_⟩
  · rcases bool_ne k with ⟨k1, k2⟩ | ⟨k1, k2⟩
    · obtain ⟨u, v, ⟨b1, b2, b3, b4⟩, hr⟩ := key.mp k1
      have hu : u = b.2.2.1 - 1 := by
        refine Classical.byContradiction fun z => ?_
        have : rhas (rgrow (rshrink a b) b) (x, y) = true := key.mpr ⟨u + 1, v, ⟨by omega, by omega, b3, b4⟩, fun s t hst => by
          have := hr s t hst
          rw [show x - (u + 1) + s = x - 1 - u + s by omega]
          exact this⟩
        rw [k2] at this
        cases this
      obtain ⟨s, t, ⟨c1, c2, c3, c4⟩, hst⟩ := nt k2 u v ⟨b1, b2, b3, b4⟩
      have hs' : s = b.2.2.1 - 1 := by
        refine Classical.byContradiction fun z => ?_
        have := hr (s + 1) t ⟨by omega, by omega, c3, c4⟩
        rw [show x - 1 - u + (s + 1) = x - u + s by omega, hst] at this
        cases this
      have k3 := hr s t ⟨c1, c2, c3, c4⟩
      refine h.lx x (y - v + t) ?_
      rw [show x - 1 = x - 1 - u + s by omega, k3, show x = x - u + s by omega, hst]
      decide
    · obtain ⟨u, v, ⟨b1, b2, b3, b4⟩, hr⟩ := key.mp k2
      have hu : u = b.1 := by
        refine Classical.byContradiction fun z => ?_
        have : rhas (rgrow (rshrink a b) b) (x - 1, y) = true := key.mpr ⟨u - 1, v, ⟨by omega, by omega, b3, b4⟩, fun s t hst => by
          have := hr s t hst
          rw [show x - 1 - (u - 1) + s = x - u + s by omega]
          exact this⟩
        rw [k1] at this
        cases this
      obtain ⟨s, t, ⟨c1, c2, c3, c4⟩, hst⟩ := nt k1 u v ⟨b1, b2, b3, b4⟩
      have hs' : s = b.1 := by
        refine Classical.byContradiction fun z => ?_
        have := hr (s - 1) t ⟨by omega, by omega, c3, c4⟩
        rw [show x - u + (s - 1) = x - 1 - u + s by omega, hst] at this
        cases this
      have k3 := hr s t ⟨c1, c2, c3, c4⟩
      refine h.lx x (y - v + t) ?_
      rw [show x - 1 = x - 1 - u + s by omega, hst, show x = x - u + s by omega, k3]
      decide
  · rcases bool_ne k with ⟨k1, k2⟩ | ⟨k1, k2⟩
    · obtain ⟨u, v, ⟨b1, b2, b3, b4⟩, hr⟩ := key.mp k1
      have hu : v = b.2.2.2 - 1 := by
        refine Classical.byContradiction fun z => ?_
        have : rhas (rgrow (rshrink a b) b) (x, y) = true := key.mpr ⟨u, v + 1, ⟨b1, b2, by omega, by omega⟩, fun s t hst => by
          have := hr s t hst
          rw [show y - (v + 1) + t = y - 1 - v + t by omega]
          exact this⟩
        rw [k2] at this
        cases this
      obtain ⟨s, t, ⟨c1, c2, c3, c4⟩, hst⟩ := nt k2 u v ⟨b1, b2, b3, b4⟩
      have hs' : t = b.2.2.2 - 1 := by
        refine Classical.byContradiction fun z => ?_
        have := hr s (t + 1) ⟨c1, c2, by omega, by omega⟩
        rw [show y - 1 - v + (t + 1) = y - v + t by omega, hst] at this
        cases this
      have k3 := hr s t ⟨c1, c2, c3, c4⟩
      refine h.ly (x - u + s) y ?_
      rw [show y - 1 = y - 1 - v + t by omega, k3, show y = y - v + t by omega, hst]
      decide
    · obtain ⟨u, v, ⟨b1, b2, b3, b4⟩, hr⟩ := key.mp k2
      have hu : v = b.2.1 := by
        refine Classical.byContradiction fun z => ?_
        have : rhas (rgrow (rshrink a b) b) (x, y - 1) = true := key.mpr ⟨u, v - 1, ⟨b1, b2, by omega, by omega⟩, fun s t hst => by
          have := hr s t hst
          rw [show y - 1 - (v - 1) + t = y - v + t by omega]
          exact this⟩
        rw [k1] at this
        cases this
      obtain ⟨s, t, ⟨c1, c2, c3, c4⟩, hst⟩ := nt k1 u v ⟨b1, b2, b3, b4⟩
      have hs' : t = b.2.1 := by
        refine Classical.byContradiction fun z => ?_
        have := hr s (t - 1) ⟨c1, c2, by omega, by omega⟩
        rw [show y - v + (t - 1) = y - 1 - v + t by omega, hst] at this
        cases this
      have k3 := hr s t ⟨c1, c2, c3, c4⟩
      refine h.ly (x - u + s) y ?_
      rw [show y - 1 = y - 1 - v + t by omega, hst, show y = y - v + t by omega, k3]
      decide
theorem close_eq (a : Reg) (b : Bx) : rshrink (rgrow a b) b = rout (rgrow (rshrink (rout a) (opposite b)) (opposite b)) := by
  have e1 := rshrink_eq (rgrow a b) b
  rw [show rout (rgrow a b) = rshrink (rout a) (opposite b) from rout_grow a b] at e1
  exact e1
theorem RegS.closed (h : RegS X Y a) (hb : bxOk b) : RegS X Y (rshrink (rgrow a b) b) := by
  rw [close_eq]
  exact (h.out.opened (opp_ok hb)).out
/-! ### around -/
theorem around_ok {n : Int} {R : Bx → Prop} (h : 0 ≤ n) (k : R (0 - n, 0 - n, n + 1, n + 1)) : m_around n R := by
  unfold m_around
  simp only [w_run, w_bind, w_pure, w_cons, w_nil, w_g, w_if, w_or, w_not, Bool.not_true, Bool.false_eq_true, if_false]
  rw [if_neg (by simp; omega)]
  exact k
end
end BR
/-! Sums over ranges of ints; lengths of spans, counts of forms. -/
namespace BR
open PySem PySem.Spec PyProof.Rows L2
def isum (lo : Int) : Nat → (Int → Int) → Int
  | 0, _ => 0
  | n + 1, f => isum lo n f + f (lo + n)
theorem isum_congr {lo : Int} {f g : Int → Int} : ∀ {n : Nat}, (∀ x, lo ≤ x → x < lo + n → f x = g x) → isum lo n f = isum lo n g
  | 0, _ => rfl
  | n + 1, h => by
    unfold isum
    rw [isum_congr (n := n) fun x h1 h2 => h x h1 (by omega), h (lo + n) (by omega) (by omega)]
theorem isum_add {lo : Int} {f g : Int → Int} : ∀ {n : Nat}, isum lo n (fun x => f x + g x) = isum lo n f + isum lo n g
  | 0 => rfl
  | n + 1 => by
    show isum lo n (fun x => f x + g x) + (f (lo + n) + g (lo + n)) = (isum lo n f + f (lo + n)) + (isum lo n g + g (lo + n))
    rw [isum_add]
    omega
theorem isum_zero {lo : Int} {f : Int → Int} : ∀ {n : Nat}, (∀ x, lo ≤ x → x < lo + n → f x = 0) → isum lo n f = 0
  | 0, _ => rfl
  | n + 1, h => by
    unfold isum
    rw [isum_zero (n := n) fun x h1 h2 => h x h1 (by omega), h (lo + n) (by omega) (by omega)]
    rfl
theorem isum_const {lo c : Int} : ∀ {n : Nat}, isum lo n (fun _ => c) = n * c
  | 0 => by simp [isum]
  | n + 1 => by
    show isum lo n (fun _ => c) + c = _
    rw [isum_const, Int.natCast_succ, Int.add_mul]
    omega
theorem isum_le {lo : Int} {f g : Int → Int} : ∀ {n : Nat}, (∀ x, lo ≤ x → x < lo + n → f x ≤ g x) → isum lo n f ≤ isum lo n g
  | 0, _ => Int.le_refl _
  | n + 1, h => by
    unfold isum
    have h1 := isum_le (n := n) fun x h1 h2 => h x h1 (by omega)
    have h2 := h (lo + n) (by omega) (by omega)
    omega
theorem isum_split {lo : Int} {f : Int → Int} {m : Nat} : ∀ {n : Nat}, isum lo (m + n) f = isum lo m f + isum (lo + m) n f
  | 0 => by simp [isum]
  | n + 1 => by
    rw [← Nat.add_assoc]
    show isum lo (m + n) f + f (lo + ((m + n : Nat) : Int)) = isum lo m f + (isum (lo + m) n f + f (lo + m + n))
    rw [isum_split (n := n)]
    have : lo + ((m + n : Nat) : Int) = lo + m + n := by omega
    rw [this]
    omega
theorem isum_nonneg {lo : Int} {f : Int → Int} {n : Nat} (h : ∀ x, lo ≤ x → x < lo + n → 0 ≤ f x) : 0 ≤ isum lo n f := by
  have := isum_le (lo := lo) (n := n) (f := fun _ => 0) (g := f) h
  rw [isum_const] at this
  omega
/-- a sum of what is not negative is 0 only if all is 0 -/
theorem isum_eq_zero {lo : Int} {f : Int → Int} : ∀ {n : Nat}, (∀ x, lo ≤ x → x < lo + n → 0 ≤ f x) → isum lo n f = 0 → ∀ x, lo ≤ x → x < lo + n → f x = 0
  | 0, _, _, x, h1, h2 => by omega
  | n + 1, h, hz, x, h1, h2 => by
    unfold isum at hz
    have k1 := isum_nonneg (lo := lo) (n := n) (f := f) fun x h1 h2 => h x h1 (by omega)
    have k2 := h (lo + n) (by omega) (by omega)
    by_cases e : x = lo + n
    · rw [e]
      omega
    · exact isum_eq_zero (n := n) (fun x h1 h2 => h x h1 (by omega)) (by omega) x h1 (by omega)
def ind (b : Bool) : Int := if b = true then 1 else 0
theorem ind_nonneg (b : Bool) : 0 ≤ ind b := by cases b <;> decide
/-- an interval -/
theorem isum_iv {lo : Int} {n : Nat} {a b : Int} {c : Int} (h1 : lo ≤ a) (h2 : a ≤ b) (h3 : b ≤ lo + n) : isum lo n (fun x => if a ≤ x ∧ x < b then c else 0) = (b - a) * c := by
  obtain ⟨p, hp⟩ : ∃ p : Nat, (p : Int) = a - lo := ⟨(a - lo).toNat, by omega⟩
  obtain ⟨q, hq⟩ : ∃ q : Nat, (q : Int) = b - a := ⟨(b - a).toNat, by omega⟩
  obtain ⟨r, hr⟩ : ∃ r : Nat, n = p + (q + r) := ⟨n - p - q, by omega⟩
  subst hr
  rw [isum_split, isum_split]
  have e1 : isum lo p (fun x => if a ≤ x ∧ x < b then c else 0) = 0 := isum_zero fun x k1 k2 => if_neg (by omega)
  have e2 : isum (lo + p) q (fun x => if a ≤ x ∧ x < b then c else 0) = isum (lo + p) q (fun _ => c) := isum_congr fun x k1 k2 => if_pos (by omega)
  have e3 : isum (lo + p + q) r (fun x => if a ≤ x ∧ x < b then c else 0) = 0 := isum_zero fun x k1 k2 => if_neg (by omega)
  rw [e1, e2, e3, isum_const, hq]
  omega
def lenS (sp : List Pr) : Int := (sp.map fun p => p.2 - p.1).sum
theorem len_cov {lo : Int} {n : Nat} : ∀ {sp : List Pr}, SpOk sp → (∀ p ∈ sp, lo ≤ p.1 ∧ p.2 ≤ lo + n) → lenS sp = isum lo n fun y => ind (cov sp y)
  | [], _, _ => by
    exact (isum_zero (f := fun y => ind (cov [] y)) fun x _ _ => rfl).symm
  | p :: sp, h, hb => by
    have hs := List.pairwise_cons.mp h.s
    have h' : SpOk sp := ⟨fun q hq => h.w q (by simp [hq]), hs.2⟩
    have hp := hb p (by simp)
    have hw := h.w p (by simp)
    have e : isum lo n (fun y => ind (cov (p :: sp) y)) = isum lo n (fun y => (if p.1 ≤ y ∧ y < p.2 then 1 else 0) + ind (cov sp y)) := isum_congr fun y _ _ => by
      unfold cov
      rw [List.any_cons]
      by_cases z : p.1 ≤ y ∧ y < p.2
      · rw [if_pos z]
        have n2 : (sp.any fun s => decide (s.1 ≤ y) && decide (y < s.2)) = false := by
          rw [← Bool.not_eq_true, List.any_eq_true]
          rintro ⟨q, hq, hy⟩
          simp only [Bool.and_eq_true, decide_eq_true_eq] at hy
          have := hs.1 q hq
          omega
        rw [n2]
        simp [z, ind]
      · rw [if_neg z]
        have n1 : (decide (p.1 ≤ y) && decide (y < p.2)) = false := by
          rw [← Bool.not_eq_true]
          simpa using z
        rw [n1, Bool.false_or]
        omega
    rw [e, isum_add, isum_iv hp.1 (by omega) hp.2, ← len_cov h' fun q hq => hb q (by simp [hq])]
    unfold lenS
    rw [List.map_cons, List.sum_cons]
    omega
/-- sums along the columns of a form -/
theorem col_sum {g : List Pr → Int} (g0 : g [] = 0) {lo : Int} {n : Nat} : ∀ {f : List Sl}, Chn f → (∀ s ∈ f, lo ≤ s.1 ∧ s.2.1 ≤ lo + n) → (f.map fun s => (s.2.1 - s.1) * g s.2.2).sum = isum lo n fun x => g (spansAt f x)
  | [], _, _ => by
    exact (isum_zero (f := fun x => g (spansAt [] x)) fun x _ _ => g0).symm
  | s :: f, h, hb => by
    have hs := List.pairwise_cons.mp h.s
    have h' : Chn f := ⟨fun t ht => h.w t (by simp [ht]), hs.2⟩
    have hp := hb s (by simp)
    have hw := h.w s (by simp)
    have e : isum lo n (fun x => g (spansAt (s :: f) x)) = isum lo n (fun x => (if s.1 ≤ x ∧ x < s.2.1 then g s.2.2 else 0) + g (spansAt f x)) := isum_congr fun x _ _ => by
      by_cases z : s.1 ≤ x ∧ x < s.2.1
      · rw [if_pos z, spansAt_hit h (s := s) (by simp) z, spansAt_none (f := f) fun t ht hh => by
          have := hs.1 t ht
          have := hh.1
          omega, g0]
        omega
      · rw [if_neg z]
        have : spansAt (s :: f) x = spansAt f x := by
          unfold spansAt
          rw [List.find?_cons]
          have n1 : (decide (s.1 ≤ x) && decide (x < s.2.1)) = false := by
            rw [← Bool.not_eq_true]
            simpa using z
          rw [n1]
        rw [this]
        omega
    rw [e, isum_add, isum_iv hp.1 (by omega) hp.2, ← col_sum g0 h' fun q hq => hb q (by simp [hq]), List.map_cons, List.sum_cons]
def cnt (f : List Sl) : Int := (f.map fun s => (s.2.1 - s.1) * lenS s.2.2).sum
/-- all of a form lies in a window -/
structure Win (f : List Sl) (x0 : Int) (n : Nat) (y0 : Int) (m : Nat) : Prop where
  x : ∀ s ∈ f, x0 ≤ s.1 ∧ s.2.1 ≤ x0 + n
  y : ∀ s ∈ f, ∀ p ∈ s.2.2, y0 ≤ p.1 ∧ p.2 ≤ y0 + m
theorem Win.sp {f : List Sl} {x0 y0 : Int} {n m : Nat} (h : Win f x0 n y0 m) (x : Int) : ∀ p ∈ spansAt f x, y0 ≤ p.1 ∧ p.2 ≤ y0 + m := fun p hp => by
  obtain ⟨s, hs, _, e⟩ := spansAt_mem (f := f) (x := x) (fun z => by rw [z] at hp; cases hp)
  rw [e] at hp
  exact h.y s hs p hp
theorem cnt_eq {f : List Sl} {x0 y0 : Int} {n m : Nat} (h : FmOk f) (w : Win f x0 n y0 m) : cnt f = isum x0 n fun x => isum y0 m fun y => ind (cv f x y) := by
  unfold cnt
  rw [col_sum rfl h.chn w.x]
  exact isum_congr fun x _ _ => len_cov (spansAt_ok (fun s hs => (h.w s hs).2.2) x) (w.sp x)
theorem win_ex (f : List Sl) : ∃ x0 n y0 m, Win f x0 n y0 m := by
  have key : ∀ l : List Int, ∃ lo : Int, ∃ n : Nat, ∀ k ∈ l, lo ≤ k ∧ k ≤ lo + n := fun l => by
    induction l with
    | nil => exact ⟨0, 0, fun k hk => by cases hk⟩
    | cons a l ih =>
      obtain ⟨lo, n, h⟩ := ih
      refine ⟨min lo a, (max (lo + n) a - min lo a).toNat, fun k hk => ?_⟩
      rcases List.mem_cons.mp hk with rfl | hk
      · omega
      · have := h k hk
        omega
  obtain ⟨x0, n, hx⟩ := key (f.flatMap fun s => [s.1, s.2.1])
  obtain ⟨y0, m, hy⟩ := key (f.flatMap fun s => s.2.2.flatMap fun p => [p.1, p.2])
  refine ⟨x0, n, y0, m, fun s hs => ⟨(hx s.1 ?_).1, (hx s.2.1 ?_).2⟩, fun s hs p hp => ⟨(hy p.1 ?_).1, (hy p.2 ?_).2⟩⟩
  · exact List.mem_flatMap.mpr ⟨s, hs, by simp⟩
  · exact List.mem_flatMap.mpr ⟨s, hs, by simp⟩
  · exact List.mem_flatMap.mpr ⟨s, hs, List.mem_flatMap.mpr ⟨p, hp, by simp⟩⟩
  · exact List.mem_flatMap.mpr ⟨s, hs, List.mem_flatMap.mpr ⟨p, hp, by simp⟩⟩
end BR
/-! Borders: sums over edges. -/
namespace BR
open PySem PySem.Spec PyProof.Rows L2
theorem isum_comm {lo lo' : Int} {f : Int → Int → Int} {m : Nat} : ∀ {n : Nat}, isum lo n (fun x => isum lo' m fun y => f x y) = isum lo' m fun y => isum lo n fun x => f x y
  | 0 => (isum_zero (f := fun y => isum lo 0 fun x => f x y) fun _ _ _ => rfl).symm
  | n + 1 => by
    show isum lo n (fun x => isum lo' m fun y => f x y) + isum lo' m (fun y => f (lo + n) y) = isum lo' m fun y => isum lo n (fun x => f x y) + f (lo + n) y
    rw [isum_add, isum_comm]
theorem isum_mul {lo c : Int} {f : Int → Int} : ∀ {n : Nat}, isum lo n (fun x => c * f x) = c * isum lo n f
  | 0 => by simp [isum]
  | n + 1 => by
    show isum lo n (fun x => c * f x) + c * f (lo + n) = c * (isum lo n f + f (lo + n))
    rw [isum_mul, Int.mul_add]
theorem isum_at {lo k c : Int} {n : Nat} (h1 : lo ≤ k) (h2 : k < lo + n) : isum lo n (fun x => if x = k then c else 0) = c := by
  have e : isum lo n (fun x => if x = k then c else 0) = isum lo n (fun x => if k ≤ x ∧ x < k + 1 then c else 0) := isum_congr fun x _ _ => by
    by_cases z : x = k
    · rw [if_pos z, if_pos (by omega)]
    · rw [if_neg z, if_neg (by omega)]
  rw [e, isum_iv h1 (by omega) (by omega)]
  have : k + 1 - k = 1 := by omega
  rw [this]
  omega
theorem ind_le (b : Bool) : ind b ≤ 1 := by cases b <;> decide
theorem ind_pos {b : Bool} (h : b = true) : ind b = 1 := by rw [h]; rfl
theorem ind_neg {b : Bool} (h : b = false) : ind b = 0 := by rw [h]; rfl
theorem ind_bne {a b : Bool} (h : a ≠ b) : ind (a != b) = 1 := ind_pos (by simpa using h)
theorem ind_beq {a b : Bool} (h : a = b) : ind (a != b) = 0 := ind_neg (by simpa using h)
theorem chg1 {g : Int → Bool} {lo : Int} : ∀ {n : Nat}, g (lo - 1) ≠ g (lo + n - 1) → 1 ≤ isum lo n fun x => ind (g (x - 1) != g x)
  | 0, h => absurd (by congr 1; omega) h
  | n + 1, h => by
    show 1 ≤ isum lo n (fun x => ind (g (x - 1) != g x)) + ind (g (lo + n - 1) != g (lo + n))
    by_cases z : g (lo - 1) = g (lo + n - 1)
    · have : g (lo + n - 1) ≠ g (lo + n) := fun w => h (by
        rw [z, w]
        congr 1
        omega)
      rw [ind_bne this]
      have := isum_nonneg (lo := lo) (n := n) (f := fun x => ind (g (x - 1) != g x)) fun x _ _ => ind_nonneg _
      omega
    · have := chg1 z
      have := ind_nonneg (g (lo + n - 1) != g (lo + n))
      omega
theorem chg2 {g : Int → Bool} {lo x : Int} {n : Nat} (h1 : g (lo - 1) = false) (h2 : g (lo + n - 1) = false) (h3 : lo ≤ x) (h4 : x < lo + n) (h5 : g x = true) : 2 ≤ isum lo n fun x => ind (g (x - 1) != g x) := by
  obtain ⟨k, hk⟩ : ∃ k : Nat, (k : Int) = x - lo := ⟨(x - lo).toNat, by omega⟩
  obtain ⟨r, hr⟩ : ∃ r : Nat, n = (k + 1) + r := ⟨n - k - 1, by omega⟩
  subst hr
  rw [isum_split]
  have e1 : lo + ((k + 1 : Nat) : Int) - 1 = x := by omega
  have a := chg1 (g := g) (lo := lo) (n := k + 1) (by rw [e1, h1, h5]; decide)
  have b := chg1 (g := g) (lo := lo + ((k + 1 : Nat) : Int)) (n := r) (by
    have e2 : lo + ((k + 1 : Nat) : Int) + (r : Int) - 1 = lo + ((k + 1 + r : Nat) : Int) - 1 := by omega
    rw [e1, e2, h2, h5]
    decide)
  omega
theorem chg_len {lo : Int} {n : Nat} : ∀ {sp : List Pr}, SpOk sp → (∀ p ∈ sp, lo ≤ p.1 ∧ p.2 < lo + n) → 2 * (sp.length : Int) = isum lo n fun y => ind (cov sp (y - 1) != cov sp y)
  | [], _, _ => (isum_zero (f := fun y => ind (cov [] (y - 1) != cov [] y)) fun x _ _ => rfl).symm
  | p :: sp, h, hb => by
    have hs := List.pairwise_cons.mp h.s
    have h' : SpOk sp := ⟨fun q hq => h.w q (by simp [hq]), hs.2⟩
    have hp := hb p (by simp)
    have hw := h.w p (by simp)
    have out : ∀ y, y ≤ p.2 → cov sp y = false := fun y hy => by
      rw [← Bool.not_eq_true, cov_iff]
      rintro ⟨q, hq, h1, h2⟩
      have := hs.1 q hq
      omega
    have cc : ∀ y, cov (p :: sp) y = ((decide (p.1 ≤ y) && decide (y < p.2)) || cov sp y) := fun y => rfl
    have e : isum lo n (fun y => ind (cov (p :: sp) (y - 1) != cov (p :: sp) y)) = isum lo n (fun y => ((if y = p.1 then 1 else 0) + (if y = p.2 then 1 else 0)) + ind (cov sp (y - 1) != cov sp y)) := isum_congr fun y _ _ => by
      rw [cc, cc]
      by_cases z : y ≤ p.2
      · rw [out y z, out (y - 1) (by omega), Bool.or_false, Bool.or_false]
        by_cases e1 : y = p.1
        · rw [if_pos e1, if_neg (by omega), decide_eq_false (p := p.1 ≤ y - 1) (by omega), decide_eq_true (p := p.1 ≤ y) (by omega), decide_eq_true (p := y < p.2) (by omega)]
          rfl
        · by_cases e2 : y = p.2
          · rw [if_neg e1, if_pos e2, decide_eq_true (p := p.1 ≤ y - 1) (by omega), decide_eq_true (p := y - 1 < p.2) (by omega), decide_eq_false (p := y < p.2) (by omega), Bool.and_false]
            rfl
          · rw [if_neg e1, if_neg e2]
            by_cases l : p.1 ≤ y
            · rw [decide_eq_true (p := p.1 ≤ y - 1) (by omega), decide_eq_true (p := y - 1 < p.2) (by omega), decide_eq_true (p := p.1 ≤ y) (by omega), decide_eq_true (p := y < p.2) (by omega)]
              rfl
            · rw [decide_eq_false (p := p.1 ≤ y - 1) (by omega), decide_eq_false (p := p.1 ≤ y) (by omega)]
              rfl
      · rw [if_neg (by omega), if_neg (by omega), decide_eq_false (p := y - 1 < p.2) (by omega), decide_eq_false (p := y < p.2) (by omega), Bool.and_false, Bool.and_false, Bool.false_or, Bool.false_or]
        omega
    rw [e, isum_add, isum_add, isum_at (by omega) (by omega), isum_at (by omega) (by omega), ← chg_len h' fun q hq => hb q (by simp [hq]), List.length_cons]
    omega
/-- all of a list lies in a window -/
def Wn (X : List Int) (x0 : Int) (n : Nat) : Prop := ∀ k ∈ X, x0 ≤ k ∧ k < x0 + n
theorem wn_ex : ∀ X : List Int, ∃ x0 n, Wn X x0 n
  | [] => ⟨0, 0, fun k hk => by cases hk⟩
  | a :: l => by
    obtain ⟨lo, n, h⟩ := wn_ex l
    refine ⟨min lo a, (max (lo + n) (a + 1) - min lo a).toNat, fun k hk => ?_⟩
    rcases List.mem_cons.mp hk with rfl | hk
    · omega
    · have := h k hk
      omega
theorem list_isum {g : Int → Int} {lo : Int} {n : Nat} : ∀ {l : List Int}, l.Pairwise (· < ·) → Wn l lo n → (l.map g).sum = isum lo n fun x => if x ∈ l then g x else 0
  | [], _, _ => (isum_zero (f := fun x => if x ∈ ([] : List Int) then g x else 0) fun x _ _ => by simp).symm
  | k :: l, h, w => by
    have hs := List.pairwise_cons.mp h
    have hk := w k (by simp)
    have e : isum lo n (fun x => if x ∈ k :: l then g x else 0) = isum lo n (fun x => (if x = k then g k else 0) + (if x ∈ l then g x else 0)) := isum_congr fun x _ _ => by
      by_cases z : x = k
      · subst z
        rw [if_pos (by simp), if_pos rfl, if_neg fun m => by have := hs.1 x m; omega]
        omega
      · rw [if_neg z]
        by_cases m : x ∈ l
        · rw [if_pos (by simp [m]), if_pos m]
          omega
        · rw [if_neg (by simp [m, z]), if_neg m]
          rfl
    rw [e, isum_add, isum_at hk.1 hk.2, List.map_cons, List.sum_cons, list_isum hs.2 fun x hx => w x (by simp [hx])]
def edg (a : Reg) (x y : Int) : Int := ind (rhas a (x, y - 1) != rhas a (x, y)) + ind (rhas a (x - 1, y) != rhas a (x, y))
theorem rhas_cv (a : Reg) (x y : Int) : rhas a (x, y) = (cv a.1 x y != a.2) := rfl
theorem bne3 (u v o : Bool) : ((u != o) != (v != o)) = (u != v) := by cases u <;> cases v <;> cases o <;> rfl
theorem edg_cv (a : Reg) (x y : Int) : edg a x y = ind (cv a.1 x (y - 1) != cv a.1 x y) + ind (cv a.1 (x - 1) y != cv a.1 x y) := by
  unfold edg
  rw [rhas_cv, rhas_cv, rhas_cv, bne3, bne3]
def bl (f : List Sl) : Int := (f.map fun s => 2 * (s.2.2.length : Int) * (s.2.1 - s.1)).sum + ((cutsOf f).map fun x => lenS (combined (spansAt f (x - 1)) (spansAt f x) .either)).sum
theorem cv_ends {f : List Sl} {X Y : List Int} {x0 y0 x y : Int} {n m : Nat} (h : FmOk f) (o : On X Y f) (wx : Wn X x0 n) (wy : Wn Y y0 m) (hc : cv f x y = true) : (x0 ≤ x ∧ x < x0 + n - 1) ∧ y0 ≤ y ∧ y < y0 + m - 1 := by
  obtain ⟨c, h1, h2⟩ := (cv_iff h).mp hc
  obtain ⟨s, hs, p, hp, rfl⟩ := mem_boxes.mp h1
  obtain ⟨o1, o2, o3⟩ := o s hs
  have a := wx _ o1
  have b := wx _ o2
  have a' := wy _ (o3 p hp).1
  have b' := wy _ (o3 p hp).2
  obtain ⟨i1, i2, i3, i4⟩ := h2
  dsimp only at i1 i2 i3 i4
  omega
theorem cuts_rise (f : List Sl) : (cutsOf f).Pairwise (· < ·) := sd_rise _
theorem col_chg {f : List Sl} {X Y : List Int} {y0 : Int} {m : Nat} (h : FmOk f) (o : On X Y f) (wy : Wn Y y0 m) (x : Int) : lenS (combined (spansAt f (x - 1)) (spansAt f x) .either) = isum y0 m fun y => ind (cv f (x - 1) y != cv f x y) := by
  have c := combined_ok (one := spansAt f (x - 1)) (other := spansAt f x) (w := .either)
  have co := combined_on (w := .either) (spansAt_on o (x - 1)) (spansAt_on o x)
  rw [len_cov (lo := y0) (n := m) c.1 fun p hp => by
    have a := wy _ (co p hp).1
    have b := wy _ (co p hp).2
    omega]
  exact isum_congr fun y _ _ => by rw [c.2]; rfl
theorem bl_eq {X Y : List Int} {a : Reg} {x0 y0 : Int} {n m : Nat} (h : RegOn X Y a) (wx : Wn X x0 n) (wy : Wn Y y0 m) : bl a.1 = isum x0 n fun x => isum y0 m fun y => edg a x y := by
  have e1 : (a.1.map fun s => 2 * (s.2.2.length : Int) * (s.2.1 - s.1)).sum = isum x0 n fun x => isum y0 m fun y => ind (cv a.1 x (y - 1) != cv a.1 x y) := by
    have e : (a.1.map fun s => 2 * (s.2.2.length : Int) * (s.2.1 - s.1)) = a.1.map fun s => (s.2.1 - s.1) * (fun sp : List Pr => 2 * (sp.length : Int)) s.2.2 := List.map_congr_left fun s _ => Int.mul_comm _ _
    rw [e]
    refine (col_sum (g := fun sp : List Pr => 2 * (sp.length : Int)) rfl (lo := x0) (n := n) h.ok.chn fun s hs => by
      have a := wx _ (h.on s hs).1
      have b := wx _ (h.on s hs).2.1
      omega).trans ?_
    exact isum_congr fun x _ _ => chg_len (spansAt_ok (fun s hs => (h.ok.w s hs).2.2) x) fun p hp => by
      have := spansAt_on h.on x p hp
      have a := wy _ this.1
      have b := wy _ this.2
      omega
  have e2 : ((cutsOf a.1).map fun x => lenS (combined (spansAt a.1 (x - 1)) (spansAt a.1 x) .either)).sum = isum x0 n fun x => isum y0 m fun y => ind (cv a.1 (x - 1) y != cv a.1 x y) := by
    rw [list_isum (cuts_rise a.1) fun k hk => by
      obtain ⟨s, hs, rfl | rfl⟩ := mem_cuts.mp hk
      · exact wx _ (h.on s hs).1
      · exact wx _ (h.on s hs).2.1]
    refine isum_congr fun x _ _ => ?_
    by_cases z : x ∈ cutsOf a.1
    · rw [if_pos z, col_chg h.ok h.on wy]
    · rw [if_neg z]
      have o' : On (cutsOf a.1) Y a.1 := fun s hs => ⟨mem_cuts.mpr ⟨s, hs, .inl rfl⟩, mem_cuts.mpr ⟨s, hs, .inr rfl⟩, (h.on s hs).2.2⟩
      have q := o'.col z
      refine (isum_zero fun y _ _ => ?_).symm
      unfold cv
      rw [q]
      exact ind_beq rfl
  unfold bl
  rw [e1, e2, ← isum_add]
  refine isum_congr fun x _ _ => ?_
  rw [← isum_add]
  exact isum_congr fun y _ _ => (edg_cv a x y).symm
end BR
/-! Borders: union and meet, shadows, boxes. -/
namespace BR
open PySem PySem.Spec PyProof.Rows L2
/-- two neighbours, one of them only in the one, the other only in the other region -/
def crs (a b : Reg) (p q : Pr) : Bool := (rhas a p && !rhas b p && (!rhas a q && rhas b q)) || (!rhas a p && rhas b p && (rhas a q && !rhas b q))
theorem sub1 (p q r s : Bool) : ind ((p && r) != (q && s)) + ind ((p || r) != (q || s)) + 2 * ind ((p && !r && (!q && s)) || (!p && r && (q && !s))) = ind (p != q) + ind (r != s) := by
  cases p <;> cases q <;> cases r <;> cases s <;> decide
theorem edg_sub (a b : Reg) (x y : Int) : edg (rand a b) x y + edg (unite a b) x y + 2 * (ind (crs a b (x, y - 1) (x, y)) + ind (crs a b (x - 1, y) (x, y))) = edg a x y + edg b x y := by
  unfold edg crs
  simp only [rhas_and, rhas_unite]
  have h1 := sub1 (rhas a (x, y - 1)) (rhas a (x, y)) (rhas b (x, y - 1)) (rhas b (x, y))
  have h2 := sub1 (rhas a (x - 1, y)) (rhas a (x, y)) (rhas b (x - 1, y)) (rhas b (x, y))
  omega
def crsAt (a b : Reg) (x y : Int) : Int := ind (crs a b (x, y - 1) (x, y)) + ind (crs a b (x - 1, y) (x, y))
theorem bl_sub {X Y : List Int} {a b : Reg} {x0 y0 : Int} {n m : Nat} (ha : RegOn X Y a) (hb : RegOn X Y b) (wx : Wn X x0 n) (wy : Wn Y y0 m) : bl (rand a b).1 + bl (unite a b).1 + 2 * isum x0 n (fun x => isum y0 m fun y => crsAt a b x y) = bl a.1 + bl b.1 := by
  rw [bl_eq (ha.and hb) wx wy, bl_eq (ha.unite hb) wx wy, bl_eq ha wx wy, bl_eq hb wx wy, ← isum_mul, ← isum_add, ← isum_add, ← isum_add]
  refine isum_congr fun x _ _ => ?_
  rw [← isum_mul, ← isum_add, ← isum_add, ← isum_add]
  exact isum_congr fun y _ _ => edg_sub a b x y
theorem crsAt_nonneg (a b : Reg) (x y : Int) : 0 ≤ crsAt a b x y := by
  unfold crsAt
  have := ind_nonneg (crs a b (x, y - 1) (x, y))
  have := ind_nonneg (crs a b (x - 1, y) (x, y))
  omega
theorem bl_le {X Y : List Int} {a b : Reg} (ha : RegOn X Y a) (hb : RegOn X Y b) : bl (rand a b).1 + bl (unite a b).1 ≤ bl a.1 + bl b.1 := by
  obtain ⟨x0, n, wx⟩ := wn_ex X
  obtain ⟨y0, m, wy⟩ := wn_ex Y
  have := bl_sub ha hb wx wy
  have := isum_nonneg (lo := x0) (n := n) (f := fun x => isum y0 m fun y => crsAt a b x y) fun x _ _ => isum_nonneg fun y _ _ => crsAt_nonneg a b x y
  omega
theorem crs_ne {a b : Reg} {p q : Pr} (h : crs a b p q = true) : cv a.1 p.1 p.2 ≠ cv a.1 q.1 q.2 := fun z => by
  have e : rhas a p = rhas a q := by
    show (cv a.1 p.1 p.2 != a.2) = (cv a.1 q.1 q.2 != a.2)
    rw [z]
  unfold crs at h
  rw [e] at h
  revert h
  cases rhas a q <;> simp
theorem bl_eq_iff {X Y : List Int} {a b : Reg} (ha : RegOn X Y a) (hb : RegOn X Y b) : bl (rand a b).1 + bl (unite a b).1 = bl a.1 + bl b.1 ↔ ∀ x y, crs a b (x, y - 1) (x, y) = false ∧ crs a b (x - 1, y) (x, y) = false := by
  obtain ⟨x0, n, wx⟩ := wn_ex X
  obtain ⟨y0, m, wy⟩ := wn_ex Y
  have e := bl_sub ha hb wx wy
  constructor
  · intro h x y
    have z := isum_eq_zero (lo := x0) (n := n) (f := fun x => isum y0 m fun y => crsAt a b x y) (fun x _ _ => isum_nonneg fun y _ _ => crsAt_nonneg a b x y) (by omega)
    have zz : ∀ x y, x0 ≤ x → x < x0 + n → y0 ≤ y → y < y0 + m → crsAt a b x y = 0 := fun x y h1 h2 h3 h4 => isum_eq_zero (f := fun y => crsAt a b x y) (fun y _ _ => crsAt_nonneg a b x y) (z x h1 h2) y h3 h4
    have one : ∀ x y, crs a b (x, y - 1) (x, y) = true ∨ crs a b (x - 1, y) (x, y) = true → False := fun x y hc => by
      have pos : 0 < crsAt a b x y := by
        unfold crsAt
        have := ind_nonneg (crs a b (x, y - 1) (x, y))
        have := ind_nonneg (crs a b (x - 1, y) (x, y))
        rcases hc with hc | hc
        · rw [ind_pos hc]
          omega
        · rw [ind_pos hc]
          omega
      have win : (x0 ≤ x ∧ x < x0 + n) ∧ y0 ≤ y ∧ y < y0 + m := by
        have use : ∀ {u v : Int}, cv a.1 u v = true → (x0 ≤ u ∧ u < x0 + n - 1) ∧ y0 ≤ v ∧ v < y0 + m - 1 := fun h => cv_ends ha.ok ha.on wx wy h
        rcases hc with hc | hc
        · rcases bool_ne (crs_ne hc) with ⟨q, _⟩ | ⟨_, q⟩
          · have := use q
            omega
          · have := use q
            omega
        · rcases bool_ne (crs_ne hc) with ⟨q, _⟩ | ⟨_, q⟩
          · have := use q
            omega
          · have := use q
            omega
      have := zz x y win.1.1 win.1.2 win.2.1 win.2.2
      omega
    exact ⟨by rw [← Bool.not_eq_true]; exact fun h => one x y (.inl h), by rw [← Bool.not_eq_true]; exact fun h => one x y (.inr h)⟩
  · intro h
    have z : isum x0 n (fun x => isum y0 m fun y => crsAt a b x y) = 0 := isum_zero fun x _ _ => isum_zero fun y _ _ => by
      unfold crsAt
      rw [(h x y).1, (h x y).2]
      rfl
    omega
theorem bool_iff {a : Reg} (h : FmOk a.1) : (a.2 || !a.1.isEmpty) = true ↔ ∃ p, rhas a p = true := by
  constructor
  · intro e
    cases z : firstSq a with
    | none =>
      rw [firstSq_none z] at e
      cases e
    | some p => exact ⟨p, firstSq_some h z⟩
  · rintro ⟨p, hp⟩
    cases z : (a.2 || !a.1.isEmpty) with
    | true => rfl
    | false =>
      obtain ⟨f, o⟩ := a
      simp only [Bool.or_eq_false_iff, Bool.not_eq_false', List.isEmpty_iff] at z
      obtain ⟨rfl, rfl⟩ := z
      rw [rhas_nil] at hp
      cases hp
/-- the region of what lies beside -/
def besR (a b : Reg) : Reg := rand (unite (rgrow (rsub a b) (-1, 0, 2, 1)) (rgrow (rsub a b) (0, -1, 1, 2))) (rsub b a)
theorem bes_iff (a b : Reg) : ((besR a b).2 || !(besR a b).1.isEmpty) = true ↔ ∃ x y, crs a b (x, y - 1) (x, y) = true ∨ crs a b (x - 1, y) (x, y) = true := by
  have ok := rsub_ok a b
  have b1 : bxOk ((-1, 0, 2, 1) : Bx) := ⟨by decide, by decide⟩
  have b2 : bxOk ((0, -1, 1, 2) : Bx) := ⟨by decide, by decide⟩
  rw [bool_iff (a := besR a b) (rand_ok _ _)]
  unfold besR
  simp only [rhas_and, rhas_unite, Bool.and_eq_true, Bool.or_eq_true]
  constructor
  · rintro ⟨⟨x, y⟩, h1, h2⟩
    rw [rgrow_has ok b1, rgrow_has ok b2] at h1
    rw [rhas_sub, Bool.and_eq_true, Bool.not_eq_true'] at h2
    have no : ¬ rhas (rsub a b) (x, y) = true := fun z => by
      rw [rhas_sub, h2.1] at z
      simp at z
    rcases h1 with ⟨u, v, ⟨i1, i2, i3, i4⟩, h⟩ | ⟨u, v, ⟨i1, i2, i3, i4⟩, h⟩
    · dsimp only at i1 i2 i3 i4
      obtain rfl : v = 0 := by omega
      rw [Int.sub_zero] at h
      have hu : u = -1 ∨ u = 1 := by
        by_cases z : u = 0
        · subst z
          rw [Int.sub_zero] at h
          exact absurd h no
        · omega
      rw [rhas_sub, Bool.and_eq_true, Bool.not_eq_true'] at h
      rcases hu with rfl | rfl
      · refine ⟨x + 1, y, .inr ?_⟩
        rw [show x - -1 = x + 1 by omega] at h
        unfold crs
        rw [show x + 1 - 1 = x by omega, h.1, h.2, h2.1, h2.2]
        rfl
      · refine ⟨x, y, .inr ?_⟩
        unfold crs
        rw [h.1, h.2, h2.1, h2.2]
        rfl
    · dsimp only at i1 i2 i3 i4
      obtain rfl : u = 0 := by omega
      rw [Int.sub_zero] at h
      have hu : v = -1 ∨ v = 1 := by
        by_cases z : v = 0
        · subst z
          rw [Int.sub_zero] at h
          exact absurd h no
        · omega
      rw [rhas_sub, Bool.and_eq_true, Bool.not_eq_true'] at h
      rcases hu with rfl | rfl
      · refine ⟨x, y + 1, .inl ?_⟩
        rw [show y - -1 = y + 1 by omega] at h
        unfold crs
        rw [show y + 1 - 1 = y by omega, h.1, h.2, h2.1, h2.2]
        rfl
      · refine ⟨x, y, .inl ?_⟩
        unfold crs
        rw [h.1, h.2, h2.1, h2.2]
        rfl
  · have two : ∀ {p q : Pr}, crs a b p q = true → (rhas (rsub a b) p = true ∧ rhas (rsub b a) q = true) ∨ (rhas (rsub a b) q = true ∧ rhas (rsub b a) p = true) := fun {p q} h => by
      unfold crs at h
      rw [rhas_sub, rhas_sub, rhas_sub, rhas_sub]
      revert h
      cases rhas a p <;> cases rhas b p <;> cases rhas a q <;> cases rhas b q <;> simp
    rintro ⟨x, y, h | h⟩
    · rcases two h with ⟨h1, h2⟩ | ⟨h1, h2⟩
      · exact ⟨(x, y), .inr ((rgrow_has ok b2).mpr ⟨0, 1, ⟨by decide, by decide, by decide, by decide⟩, by rw [Int.sub_zero]; exact h1⟩), h2⟩
      · exact ⟨(x, y - 1), .inr ((rgrow_has ok b2).mpr ⟨0, -1, ⟨by decide, by decide, by decide, by decide⟩, by rw [Int.sub_zero, show y - 1 - -1 = y by omega]; exact h1⟩), h2⟩
    · rcases two h with ⟨h1, h2⟩ | ⟨h1, h2⟩
      · exact ⟨(x, y), .inl ((rgrow_has ok b1).mpr ⟨1, 0, ⟨by decide, by decide, by decide, by decide⟩, by rw [Int.sub_zero]; exact h1⟩), h2⟩
      · exact ⟨(x - 1, y), .inl ((rgrow_has ok b1).mpr ⟨-1, 0, ⟨by decide, by decide, by decide, by decide⟩, by rw [Int.sub_zero, show x - 1 - -1 = x by omega]; exact h1⟩), h2⟩
theorem bes_false {X Y : List Int} {a b : Reg} (ha : RegOn X Y a) (hb : RegOn X Y b) : bl (rand a b).1 + bl (unite a b).1 = bl a.1 + bl b.1 ↔ ((besR a b).2 || !(besR a b).1.isEmpty) = false := by
  rw [bl_eq_iff ha hb, ← Bool.not_eq_true, bes_iff]
  constructor
  · rintro h ⟨x, y, z | z⟩
    · rw [(h x y).1] at z
      cases z
    · rw [(h x y).2] at z
      cases z
  · intro h x y
    exact ⟨by rw [← Bool.not_eq_true]; exact fun z => h ⟨x, y, .inl z⟩, by rw [← Bool.not_eq_true]; exact fun z => h ⟨x, y, .inr z⟩⟩
/-! shadows -/
def shX (f : List Sl) : List Pr := merged (f.map fun s => (s.1, s.2.1))
def shY (f : List Sl) : List Pr := merged (f.flatMap fun s => s.2.2)
theorem shX_on {X Y : List Int} {f : List Sl} (o : On X Y f) : OnS X (shX f) := merged_on fun p hp => by
  obtain ⟨s, hs, rfl⟩ := List.mem_map.mp hp
  exact ⟨(o s hs).1, (o s hs).2.1⟩
theorem shY_on {X Y : List Int} {f : List Sl} (o : On X Y f) : OnS Y (shY f) := merged_on fun p hp => by
  obtain ⟨s, hs, hp⟩ := List.mem_flatMap.mp hp
  exact (o s hs).2.2 p hp
theorem shX_ok {f : List Sl} (h : FmOk f) : SpOk (shX f) ∧ ∀ n, cov (shX f) n = cov (f.map fun s => (s.1, s.2.1)) n := merged_ok fun p hp => by
  obtain ⟨s, hs, rfl⟩ := List.mem_map.mp hp
  exact (h.w s hs).1
theorem shY_ok {f : List Sl} (h : FmOk f) : SpOk (shY f) ∧ ∀ n, cov (shY f) n = cov (f.flatMap fun s => s.2.2) n := merged_ok fun p hp => by
  obtain ⟨s, hs, hp⟩ := List.mem_flatMap.mp hp
  exact (h.w s hs).2.2.w p hp
theorem on_win {Y : List Int} {sp : List Pr} {y0 : Int} {m : Nat} (o : OnS Y sp) (wy : Wn Y y0 m) : ∀ p ∈ sp, y0 ≤ p.1 ∧ p.2 < y0 + m := fun p hp => ⟨(wy _ (o p hp).1).1, (wy _ (o p hp).2).2⟩
theorem shadow_le {X Y : List Int} {a : Reg} (ha : RegOn X Y a) : 2 * (lenS (shX a.1) + lenS (shY a.1)) ≤ bl a.1 := by
  obtain ⟨x0, n, wx⟩ := wn_ex X
  obtain ⟨y0, m, wy⟩ := wn_ex Y
  have ey : isum x0 n (fun x => isum y0 m fun y => edg a x y) = isum x0 n (fun x => isum y0 m fun y => ind (cv a.1 x (y - 1) != cv a.1 x y)) + isum y0 m (fun y => isum x0 n fun x => ind (cv a.1 (x - 1) y != cv a.1 x y)) := by
    rw [← isum_comm (lo := x0) (n := n), ← isum_add]
    refine isum_congr fun x _ _ => ?_
    rw [← isum_add]
    exact isum_congr fun y _ _ => edg_cv a x y
  rw [bl_eq ha wx wy, ey, len_cov (lo := x0) (n := n) (shX_ok ha.ok).1 fun p hp => by have := on_win (shX_on ha.on) wx p hp; omega, len_cov (lo := y0) (n := m) (shY_ok ha.ok).1 fun p hp => by have := on_win (shY_on ha.on) wy p hp; omega, Int.mul_add, ← isum_mul, ← isum_mul]
  have h1 : isum x0 n (fun x => 2 * ind (cov (shX a.1) x)) ≤ isum x0 n (fun x => isum y0 m fun y => ind (cv a.1 x (y - 1) != cv a.1 x y)) := isum_le fun x _ _ => by
    cases z : cov (shX a.1) x with
    | false =>
      rw [ind_neg rfl]
      exact isum_nonneg fun y _ _ => ind_nonneg _
    | true =>
      rw [(shX_ok ha.ok).2, cov_iff] at z
      obtain ⟨p, hp, h1, h2⟩ := z
      obtain ⟨s, hs, rfl⟩ := List.mem_map.mp hp
      have e := spansAt_hit ha.ok.chn hs ⟨h1, h2⟩
      have q := chg_len (lo := y0) (n := m) (ha.ok.w s hs).2.2 (on_win (ha.on s hs).2.2 wy)
      have r : 0 < s.2.2.length := List.length_pos_iff.mpr (ha.ok.w s hs).2.1
      rw [ind_pos rfl]
      unfold cv
      rw [e, ← q]
      omega
  have h2 : isum y0 m (fun y => 2 * ind (cov (shY a.1) y)) ≤ isum y0 m (fun y => isum x0 n fun x => ind (cv a.1 (x - 1) y != cv a.1 x y)) := isum_le fun y _ _ => by
    cases z : cov (shY a.1) y with
    | false =>
      rw [ind_neg rfl]
      exact isum_nonneg fun x _ _ => ind_nonneg _
    | true =>
      rw [(shY_ok ha.ok).2, cov_iff] at z
      obtain ⟨p, hp, h1, h2⟩ := z
      obtain ⟨s, hs, hp⟩ := List.mem_flatMap.mp hp
      have hw := (ha.ok.w s hs).1
      have t : cv a.1 s.1 y = true := (cv_iff ha.ok).mpr ⟨_, mem_boxes.mpr ⟨s, hs, p, hp, rfl⟩, Int.le_refl _, hw, h1, h2⟩
      have w := cv_ends ha.ok ha.on wx wy t
      have o1 : cv a.1 (x0 - 1) y = false := by
        rw [← Bool.not_eq_true]
        intro q
        have := cv_ends ha.ok ha.on wx wy q
        omega
      have o2 : cv a.1 (x0 + n - 1) y = false := by
        rw [← Bool.not_eq_true]
        intro q
        have := cv_ends ha.ok ha.on wx wy q
        omega
      have := chg2 (g := fun x => cv a.1 x y) (lo := x0) (n := n) (x := s.1) o1 o2 (by omega) (by omega) t
      rw [ind_pos rfl]
      omega
  omega
theorem box_len {c : Bx} (hc : bxOk c) : bl (slabsOf [c]) = 2 * (c.2.2.1 - c.1 + c.2.2.2 - c.2.1) := by
  have on : RegOn [c.1, c.2.2.1] [c.2.1, c.2.2.2] (slabsOf [c], false) := RegOn.of fun b hb => by
    rw [List.mem_singleton.mp hb]
    exact ⟨hc, by simp, by simp, by simp, by simp⟩
  obtain ⟨x0, n, wx⟩ := wn_ex [c.1, c.2.2.1]
  obtain ⟨y0, m, wy⟩ := wn_ex [c.2.1, c.2.2.2]
  have x1 := wx c.1 (by simp)
  have x2 := wx c.2.2.1 (by simp)
  have y1 := wy c.2.1 (by simp)
  have y2 := wy c.2.2.2 (by simp)
  obtain ⟨p1, p2⟩ := hc
  have sx : SpOk [(c.1, c.2.2.1)] := ⟨by simpa using p1, by simp⟩
  have sy : SpOk [(c.2.1, c.2.2.2)] := ⟨by simpa using p2, by simp⟩
  have cvb : ∀ x y, cv (slabsOf [c]) x y = (cov [(c.1, c.2.2.1)] x && cov [(c.2.1, c.2.2.2)] y) := fun x y => by
    rw [(slabsOf_ok (bs := [c]) fun b hb => by rw [List.mem_singleton.mp hb]; exact ⟨p1, p2⟩).2]
    simp [inB, cov]
  have e0 := bl_eq on wx wy
  dsimp only at e0
  have ey : isum x0 n (fun x => isum y0 m fun y => edg (slabsOf [c], false) x y) = isum x0 n (fun x => isum y0 m fun y => ind (cv (slabsOf [c]) x (y - 1) != cv (slabsOf [c]) x y)) + isum y0 m (fun y => isum x0 n fun x => ind (cv (slabsOf [c]) (x - 1) y != cv (slabsOf [c]) x y)) := by
    rw [← isum_comm (lo := x0) (n := n), ← isum_add]
    refine isum_congr fun x _ _ => ?_
    rw [← isum_add]
    exact isum_congr fun y _ _ => edg_cv _ x y
  rw [e0, ey]
  have f1 : isum x0 n (fun x => isum y0 m fun y => ind (cv (slabsOf [c]) x (y - 1) != cv (slabsOf [c]) x y)) = isum x0 n (fun x => if c.1 ≤ x ∧ x < c.2.2.1 then 2 else 0) := isum_congr fun x _ _ => by
    simp only [cvb]
    by_cases z : c.1 ≤ x ∧ x < c.2.2.1
    · rw [if_pos z]
      have : cov [(c.1, c.2.2.1)] x = true := by simpa [cov] using z
      simp only [this, Bool.true_and]
      rw [← chg_len sy fun p hp => by rw [List.mem_singleton.mp hp]; exact ⟨y1.1, y2.2⟩]
      rfl
    · rw [if_neg z]
      have : cov [(c.1, c.2.2.1)] x = false := by
        rw [← Bool.not_eq_true]
        simpa [cov] using z
      simp only [this, Bool.false_and]
      exact isum_zero fun _ _ _ => rfl
  have f2 : isum y0 m (fun y => isum x0 n fun x => ind (cv (slabsOf [c]) (x - 1) y != cv (slabsOf [c]) x y)) = isum y0 m (fun y => if c.2.1 ≤ y ∧ y < c.2.2.2 then 2 else 0) := isum_congr fun y _ _ => by
    simp only [cvb]
    by_cases z : c.2.1 ≤ y ∧ y < c.2.2.2
    · rw [if_pos z]
      have : cov [(c.2.1, c.2.2.2)] y = true := by simpa [cov] using z
      simp only [this, Bool.and_true]
      rw [← chg_len sx fun p hp => by rw [List.mem_singleton.mp hp]; exact ⟨x1.1, x2.2⟩]
      rfl
    · rw [if_neg z]
      have : cov [(c.2.1, c.2.2.2)] y = false := by
        rw [← Bool.not_eq_true]
        simpa [cov] using z
      simp only [this, Bool.and_false]
      exact isum_zero fun _ _ _ => rfl
  rw [f1, f2, isum_iv x1.1 (by omega) (by omega), isum_iv y1.1 (by omega) (by omega)]
  omega
end BR
namespace BR
open PySem PySem.Spec PyProof.Rows L2
section
variable {K : Fg}

def m_length (a_spans : (List Pr)) (R : Int → Prop) : Prop :=
  (wRun (wBind (wBind (wBind (wPure a_spans) fun f => wG (f.length ≤ 100000) f) fun xs => wLc xs (fun x1 => (wPure true)) (fun x1 => (wBind (wPure x1.2) fun a => wBind (wPure x1.1) fun b => wPure (a - b)))) fun a => wPure a.sum) R)
def sp_length (K : Fg) : Sp := spM (fun z : (List Pr) × Unit => [tSp z.1]) tI (fun z => m_length z.1)
def t_length (K : Fg) : TS :=
  (tRet (tCB (rSum K) (tCons (tLc (iSeq K (tVar 0)) (gTup K 2 (gCons (gName 1) (gCons (gName 2) gNil))) tYes (tOp rSubI (tVar 2) (tVar 1)) [1, 2]) tNil)))
theorem cert_length {c : Cn} {D : Ends} (a_spans : (List Pr)) {R : Int → Prop} (hr : RtOk c D.rt R tI) : NxS c (t_length K) D [.val (tSp a_spans), .un, .un] (m_length a_spans R) :=
  (nx_ret (md_sum (md_lc (mi_seq (MD.ofT (md_spT (md_var (i := 0) (e := tSp) (a := a_spans) rfl)))) rfl (fun x1 => (gm_tup (gms_cons (gm_name rfl) (gms_cons (gm_name rfl) gms_nil)) rfl rfl)) (by decide) (fun x1 => mt_yes) (fun x1 => (md_sub (md_var (i := 2) (e := tI) (a := x1.2) rfl) (md_var (i := 1) (e := tI) (a := x1.1) rfl))))) hr)
theorem pure_length : ∀ vs H (Q : VK) (E : XK), sp_length K vs H Q E → t_length K { nx := fun _ H' => Q .non H', rt := Q } (L2.start ["spans", "a", "b"] vs) H :=
  pure_of (n := 2) (fun _ => rfl) (fun _ => rfl) (fun c D z R hr => cert_length _ hr)
theorem len_length : ∀ vs H Q E, sp_length K vs H Q E → vs.length = (["spans"] : List Str).length := len_of fun _ => rfl
def m_border_length (a_region : Reg) (R : Int → Prop) : Prop :=
  (wRun (wBind (wCons (wPure a_region) wNil) fun _ => wPure ()) fun _ => (wRun (wBind (wBind (wBind (wBind (wPure a_region) fun a => wPure a.1) fun f => wG (Small f) f) fun xs => wLc xs (fun x1 => (wPure true)) (fun x1 => (wBind (wBind (wPure (2 : Int)) fun a => wBind (wBind (wPure x1.2.2) fun a => wPure (a.length : Int)) fun b => wG (CMulW a b) (a * b)) fun a => wBind (wBind (wPure x1.2.1) fun a => wBind (wPure x1.1) fun b => wPure (a - b)) fun b => wG (CMulW a b) (a * b)))) fun a => wPure a.sum) fun v2 => (wRun (wBind (wCons (wBind (wPure a_region) fun a => wPure a.1) wNil) fun z => wG (z.1.length ≤ 2000) (cutsOf z.1)) fun xs => wFor xs v2 (fun x9 (s3 : Int) n4 k8 => (wRun (wBind (wCons (wBind (wCons (wBind (wCons (wBind (wPure a_region) fun a => wPure a.1) (wCons (wBind (wPure x9) fun a => wBind (wPure (1 : Int)) fun b => wPure (a - b)) wNil)) fun z => wPure (spansAt z.1 z.2.1)) (wCons (wBind (wCons (wBind (wPure a_region) fun a => wPure a.1) (wCons (wPure x9) wNil)) fun z => wPure (spansAt z.1 z.2.1)) (wCons (wPure ("either" : Str)) wNil))) fun z => wG (z.2.2.1 = Wd.either.str ∧ z.1.length + z.2.1.length ≤ 2000) (combined z.1 z.2.1 .either)) wNil) fun z => m_length z.1) fun v12 => (n4 (s3 + v12)))) (fun (s3 : Int) => (wRun (wPure s3) R)))))
def sp_border_length (K : Fg) : Sp := spM (fun z : Reg × Unit => [(tReg K) z.1]) tI (fun z => m_border_length z.1)
def t_border_length (K : Fg) : TS :=
  (tSeq (tDrop (tCall (sp_check_region K) [] E0 (tCons (tVar 0) tNil)))
  (tSeq (tAsg (tCB (rSum K) (tCons (tLc (iSeq K (tFld K (tVar 0) "form")) (gTup K 3 (gCons (gName 3) (gCons (gName 4) (gCons (gName 5) gNil)))) tYes (tOp rMulI (tOp rMulI (tC (.int 2)) (tCB (rLenX K) (tCons (tVar 5) tNil))) (tOp rSubI (tVar 4) (tVar 3))) [3, 4, 5]) tNil)) (gName 1))
  (tSeq (tFor (iSeq K (tCall sp_cuts_of [] E0 (tCons (tFld K (tVar 0) "form") tNil))) (gName 2)
  (tAug 1 (tCall (sp_length K) [] E0 (tCons (tCall sp_combined [] E0 (tCons (tCall sp_spans_at [] E0 (tCons (tFld K (tVar 0) "form") (tCons (tOp rSubI (tVar 2) (tC (.int 1))) tNil))) (tCons (tCall sp_spans_at [] E0 (tCons (tFld K (tVar 0) "form") (tCons (tVar 2) tNil))) (tCons (tC (.str ("either" : Str))) tNil)))) tNil)) (ipI (· + ·))))
  (tRet (tVar 1)))))
theorem cert_border_length (F : RegF K) {c : Cn} {D : Ends} (a_region : Reg) {R : Int → Prop} (hr : RtOk c D.rt R tI) : NxS c (t_border_length K) D [.val ((tReg K) a_region), .un, .un, .un, .un, .un] (m_border_length a_region R) :=
  (nx_seq (nx_drop (md_check_region (md_var (i := 0) (e := (tReg K)) (a := a_region) rfl)) (fun _ => (nx_go (nx_norm (Ψ := [.val ((tReg K) a_region), .un, .un, .un, .un, .un]) (nx_seq (nx_asg (i := 1) (e := tI) (md_sum (md_lc (mi_form (md_form F (md_var (i := 0) (e := (tReg K)) (a := a_region) rfl))) rfl (fun x1 => (gm_tup (gms_cons (gm_name rfl) (gms_cons (gm_name rfl) (gms_cons (gm_name rfl) gms_nil))) rfl rfl)) (by decide) (fun x1 => mt_yes) (fun x1 => (md_mul (md_mul md_int (md_lenT (md_var (i := 5) (e := (eT (e2 tI tI))) (a := x1.2.2) rfl))) (md_sub (md_var (i := 4) (e := tI) (a := x1.2.1) rfl) (md_var (i := 3) (e := tI) (a := x1.1) rfl)))))) (fun v2 => (nx_go (nx_norm (Ψ := [.val ((tReg K) a_region), .val (tI v2), .un, .un, .un, .un]) (nx_seq (nx_for (Ψ := fun (s3 : Int) => [.val ((tReg K) a_region), .val (tI s3), .un, .un, .un, .un]) (s0 := v2) (mi_seq (MD.ofL (md_cuts_of (md_form F (md_var (i := 0) (e := (tReg K)) (a := a_region) rfl))))) (.eq (.eq (.un (.un (.un (.un .nil)))))) (fun x9 s3 => (gm_name rfl)) (fun s3 => (nx_go (nx_norm (Ψ := [.val ((tReg K) a_region), .val (tI s3), .un, .un, .un, .un]) (nx_ret (md_var (i := 1) (e := tI) (a := s3) rfl) hr) rfl))) (fun c10 hc11 hk7 x9 s3 n4 N5 hn6 => (nx_augA (i := 1) (a := s3) rfl (md_call (ma_cons (md_combined (x := .either) (md_spans_at (md_form F (md_var (i := 0) (e := (tReg K)) (a := a_region) rfl)) (md_sub (md_var (i := 2) (e := tI) (a := x9) rfl) md_int)) (md_spans_at (md_form F (md_var (i := 0) (e := (tReg K)) (a := a_region) rfl)) (md_var (i := 2) (e := tI) (a := x9) rfl)) md_str) ma_nil) (fun _ => rfl)) (fun v12 => (nx_end (nx_less (.eq (.eq (.un (.un (.un (.un .nil)))))) (hn6 (s3 + v12))))))))) rfl))))) rfl)))))
theorem pure_border_length (F : RegF K) : ∀ vs H (Q : VK) (E : XK), sp_border_length K vs H Q E → t_border_length K { nx := fun _ H' => Q .non H', rt := Q } (L2.start ["region", "found", "x", "x1", "x2", "spans"] vs) H :=
  pure_of (n := 5) (fun _ => rfl) (fun _ => rfl) (fun c D z R hr => cert_border_length F _ hr)
theorem len_border_length : ∀ vs H Q E, sp_border_length K vs H Q E → vs.length = (["region"] : List Str).length := len_of fun _ => rfl
def m_shadow (a_region : Reg) (a_axis : Str) (R : (List (Int × Int)) → Prop) : Prop :=
  (wRun (wBind (wCons (wPure a_region) wNil) fun z => wG (z.1.2 = false) ()) fun _ => (wRun (wOr (wNot (wBind (wPure a_axis) fun _ => wPure true)) (wBind (wPure a_axis) fun a => wBind (wBind (wBind (wPure ("x" : Str)) fun a0 => wBind (wPure ("y" : Str)) fun a1 => wPure (a0, a1)) fun a => wPure [a.1, a.2]) fun b => wPure (!decide (a ∈ b)))) fun b => if b = true then False else (wRun (wBind (wPure a_axis) fun a => wBind (wPure ("x" : Str)) fun b => wPure (decide (a = b))) fun b => if b = true then (wRun (wBind (wBind (wBind (wCons (wBind (wBind (wBind (wPure a_region) fun a => wPure a.1) fun f => wG (Small f) f) fun xs => wLc xs (fun x1 => (wPure true)) (fun x1 => (wBind (wPure x1.1) fun a0 => wBind (wPure x1.2.1) fun a1 => wPure (a0, a1)))) wNil) fun z => wG (z.1.length ≤ 50000) (merged z.1)) fun f => wG (f.length ≤ 100000) f) fun a => wPure a) R) else (wRun (wBind (wBind (wBind (wCons (wBind (wBind (wBind (wPure a_region) fun a => wPure a.1) fun f => wG (Small f) f) fun xs => wLc2 xs (fun x3 => (wPure true)) (fun x3 => (wPure x3.2.2)) (fun x3 y4 => (wPure true)) (fun x3 y4 => (wPure y4))) wNil) fun z => wG (z.1.length ≤ 50000) (merged z.1)) fun f => wG (f.length ≤ 100000) f) fun a => wPure a) R))))
def sp_shadow (K : Fg) : Sp := spM (fun z : Reg × Str × Unit => [(tReg K) z.1, tSt z.2.1]) (eL (e2 tI tI)) (fun z => m_shadow z.1 z.2.1)
def t_shadow (K : Fg) : TS :=
  (tSeq (tDrop (tCall (sp_check_bounded K) [] E0 (tCons (tVar 0) tNil)))
  (tSeq (tIfS (tOr (tNot (tB (tCB (rIsi K) (tCons (tVar 1) (tCons (tC (.ty "str")) tNil))))) (tTest (tOp (rIn K true) (tVar 1) (tTup (tCons (tC (.str ("x" : Str))) (tCons (tC (.str ("y" : Str))) tNil))))))
  tNever
  tNext)
  (tSeq (tIfS (tTest (tOp (rEqX K) (tVar 1) (tC (.str ("x" : Str)))))
  (tRet (tCB (rListOf K) (tCons (tCall sp_merged [] E0 (tCons (tLc (iSeq K (tFld K (tVar 0) "form")) (gTup K 3 (gCons (gName 2) (gCons (gName 3) (gCons (gName 4) gNil)))) tYes (tTup (tCons (tVar 2) (tCons (tVar 3) tNil))) [2, 3, 4]) tNil)) tNil)))
  tNext)
  (tRet (tCB (rListOf K) (tCons (tCall sp_merged [] E0 (tCons (tLc2 (iSeq K (tFld K (tVar 0) "form")) (gTup K 3 (gCons (gName 2) (gCons (gName 3) (gCons (gName 4) gNil)))) tYes (iSeq K (tVar 4)) (gName 5) tYes (tVar 5) [2, 3, 4, 5] [5]) tNil)) tNil))))))
theorem cert_shadow (F : RegF K) {c : Cn} {D : Ends} (a_region : Reg) (a_axis : Str) {R : (List (Int × Int)) → Prop} (hr : RtOk c D.rt R (eL (e2 tI tI))) : NxS c (t_shadow K) D [.val ((tReg K) a_region), .val (tSt a_axis), .un, .un, .un, .un] (m_shadow a_region a_axis R) :=
  (nx_seq (nx_drop (md_check_bounded (md_var (i := 0) (e := (tReg K)) (a := a_region) rfl)) (fun _ => (nx_go (nx_norm (Ψ := [.val ((tReg K) a_region), .val (tSt a_axis), .un, .un, .un, .un]) (nx_seq (nx_if (mt_or (mt_not (mt_B (md_isi (b := true) (md_var (i := 1) (e := tSt) (a := a_axis) rfl) rfl))) (mt_test (md_notInF (md_var (i := 1) (e := tSt) (a := a_axis) rfl) (md_asS2 (md_t2 md_str md_str))))) nx_never (nx_next (nx_go (nx_norm (Ψ := [.val ((tReg K) a_region), .val (tSt a_axis), .un, .un, .un, .un]) (nx_seq (nx_if (mt_test (md_eqS (md_var (i := 1) (e := tSt) (a := a_axis) rfl) md_str)) (nx_ret (md_listT (md_spT (md_merged (md_lc (mi_form (md_form F (md_var (i := 0) (e := (tReg K)) (a := a_region) rfl))) rfl (fun x2 => (gm_tup (gms_cons (gm_name rfl) (gms_cons (gm_name rfl) (gms_cons (gm_name rfl) gms_nil))) rfl rfl)) (by decide) (fun x2 => mt_yes) (fun x2 => (md_t2 (md_var (i := 2) (e := tI) (a := x2.1) rfl) (md_var (i := 3) (e := tI) (a := x2.2.1) rfl))))))) hr) (nx_next (nx_go (nx_norm (Ψ := [.val ((tReg K) a_region), .val (tSt a_axis), .un, .un, .un, .un]) (nx_ret (md_listT (md_spT (md_merged (md_lc2 (mi_form (md_form F (md_var (i := 0) (e := (tReg K)) (a := a_region) rfl))) rfl (fun x5 => (gm_tup (gms_cons (gm_name rfl) (gms_cons (gm_name rfl) (gms_cons (gm_name rfl) gms_nil))) rfl rfl)) (by decide) (fun x5 => mt_yes) (fun x5 => (mi_seq (MD.ofT (md_var (i := 4) (e := (eT (e2 tI tI))) (a := x5.2.2) rfl)))) (fun x5 => rfl) (fun x5 y6 => (gm_name rfl)) (by decide) (fun x5 y6 => mt_yes) (fun x5 y6 => (md_var (i := 5) (e := (e2 tI tI)) (a := y6) rfl)))))) hr) rfl))))) rfl))))) rfl)))))
theorem pure_shadow (F : RegF K) : ∀ vs H (Q : VK) (E : XK), sp_shadow K vs H Q E → t_shadow K { nx := fun _ H' => Q .non H', rt := Q } (L2.start ["region", "axis", "x1", "x2", "spans", "span"] vs) H :=
  pure_of (n := 4) (fun _ => rfl) (fun _ => rfl) (fun c D z R hr => cert_shadow F _ _ hr)
theorem len_shadow : ∀ vs H Q E, sp_shadow K vs H Q E → vs.length = (["region", "axis"] : List Str).length := len_of fun _ => rfl
end
end BR
/-! What border_length and shadow give. -/
namespace BR
open PySem PySem.Spec PyProof.Rows L2
theorem lenS_bd {sp : List Pr} {lo hi : Int} (h : SpOk sp) (hb : ∀ p ∈ sp, lo ≤ p.1 ∧ p.2 ≤ hi) (hl : lo ≤ hi) : 0 ≤ lenS sp ∧ lenS sp ≤ hi - lo := by
  obtain ⟨n, hn⟩ : ∃ n : Nat, (n : Int) = hi - lo := ⟨(hi - lo).toNat, by omega⟩
  rw [len_cov (lo := lo) (n := n) h fun p hp => by have := hb p hp; omega]
  have a := isum_nonneg (lo := lo) (n := n) (f := fun y => ind (cov sp y)) fun y _ _ => ind_nonneg _
  have b := isum_le (lo := lo) (n := n) (f := fun y => ind (cov sp y)) (g := fun _ => 1) fun y _ _ => ind_le _
  rw [isum_const] at b
  omega
theorem length_ok {sp : List Pr} {R : Int → Prop} (h : sp.length ≤ 100000) (k : R (lenS sp)) : m_length sp R := by
  unfold m_length
  simp only [w_run, w_bind, w_pure, w_g]
  exact ⟨h, wLc_map (g := fun (p : Pr) => p.2 - p.1) (fun x hx Q q => q) k⟩
theorem border_ok {X Y : List Int} {a : Reg} {R : Int → Prop} (h : RegS X Y a) (hX : X.length ≤ 1000) (hY : Y.length ≤ 1000) (bx : ∀ k ∈ X, k.natAbs < 2 ^ 130) (k : R (bl a.1)) : m_border_length a R := by
  have on := h.regOn
  have sm := h.small hX hY
  unfold m_border_length
  simp only [w_run, w_bind, w_pure, w_g, w_cons, w_nil]
  refine ⟨sm, wLc_map (g := fun (s : Sl) => 2 * (s.2.2.length : Int) * (s.2.1 - s.1)) (fun s hs Q q => ?_) ⟨by have := sm.1; omega, ?_⟩⟩
  · have l := sm.2 s hs
    have b1 := bx _ (on.on s hs).1
    have b2 := bx _ (on.on s hs).2.1
    have p : (2 : Nat) ^ 130 < 2 ^ 240 := by decide
    exact ⟨mulW_small (by decide) (by have : (1000 : Nat) < 2 ^ 250 := by decide
                                      omega), mulW_small (by have : (10000 : Nat) < 2 ^ 250 := by decide
                                                             omega) (by have : (2 : Nat) ^ 240 + 2 ^ 240 < 2 ^ 250 := by decide
                                                                        omega), q⟩
  · refine wFor_inv (fun (xs : List Int) (s : Int) => s + (xs.map fun x => lenS (combined (spansAt a.1 (x - 1)) (spansAt a.1 x) .either)).sum = bl a.1) (fun s hs => ?_) (fun x xs s n hs hn => ?_) _ _ rfl
    · have : s = bl a.1 := by simpa using hs
      rw [this]
      exact k
    · have l1 := sp_len (spansAt_ok (fun s hs => (on.ok.w s hs).2.2) (x - 1)) (spansAt_on on.on (x - 1))
      have l2 := sp_len (spansAt_ok (fun s hs => (on.ok.w s hs).2.2) x) (spansAt_on on.on x)
      have l3 := sp_len combined_ok.1 (combined_on (w := .either) (spansAt_on on.on (x - 1)) (spansAt_on on.on x))
      refine ⟨⟨rfl, by omega⟩, length_ok (by omega) (hn _ ?_)⟩
      rw [List.map_cons, List.sum_cons] at hs
      omega
theorem wLcB_map {β γ : Type} {e : β → Wp γ} {g : β → γ} : ∀ (ys : List β) (acc : List γ) (P : List γ → Prop), (∀ y ∈ ys, ∀ Q : γ → Prop, Q (g y) → e y Q) → acc.length + ys.length ≤ 100000 → P (acc ++ ys.map g) → wLcB ys (fun _ => wPure true) e acc P
  | [], acc, P, _, _, h => by simpa [wLcB, wPure] using h
  | y :: ys, acc, P, he, hz, h => by
    show (if true = true then e y fun z => acc.length < 100000 ∧ wLcB ys (fun _ => wPure true) e (acc ++ [z]) P else wLcB ys (fun _ => wPure true) e acc P)
    rw [if_pos rfl]
    rw [List.length_cons] at hz
    exact he y (by simp) _ ⟨by omega, wLcB_map ys _ P (fun y hy => he y (by simp [hy])) (by simp; omega) (by simpa using h)⟩
theorem wLc2A_map {α β γ : Type} {i : α → Wp (List β)} {e : α → β → Wp γ} {l : α → List β} {g : α → β → γ} : ∀ (xs : List α) (acc : List γ) (P : List γ → Prop), (∀ x ∈ xs, ∀ Q : List β → Prop, Q (l x) → i x Q) → (∀ x ∈ xs, ∀ y ∈ l x, ∀ Q : γ → Prop, Q (g x y) → e x y Q) → acc.length + (xs.flatMap fun x => (l x).map (g x)).length ≤ 100000 → P (acc ++ xs.flatMap fun x => (l x).map (g x)) → wLc2A xs (fun _ => wPure true) i (fun _ _ => wPure true) e acc P
  | [], acc, P, _, _, _, h => by simpa [wLc2A, wPure] using h
  | x :: xs, acc, P, hi, he, hz, h => by
    show (if true = true then i x fun ys => wLcB ys (fun _ => wPure true) (e x) acc fun acc' => wLc2A xs (fun _ => wPure true) i (fun _ _ => wPure true) e acc' P else wLc2A xs (fun _ => wPure true) i (fun _ _ => wPure true) e acc P)
    rw [if_pos rfl]
    rw [List.flatMap_cons] at hz h
    rw [List.length_append, List.length_map] at hz
    refine hi x (by simp) _ (wLcB_map _ _ _ (he x (by simp)) (by omega) ?_)
    exact wLc2A_map xs _ P (fun x hx => hi x (by simp [hx])) (fun x hx => he x (by simp [hx])) (by rw [List.length_append, List.length_map]; omega) (by simpa using h)
theorem wLc2_map {α β γ : Type} {i : α → Wp (List β)} {e : α → β → Wp γ} {l : α → List β} {g : α → β → γ} {xs : List α} {P : List γ → Prop} (hi : ∀ x ∈ xs, ∀ Q : List β → Prop, Q (l x) → i x Q) (he : ∀ x ∈ xs, ∀ y ∈ l x, ∀ Q : γ → Prop, Q (g x y) → e x y Q) (hz : (xs.flatMap fun x => (l x).map (g x)).length ≤ 100000) (h : P (xs.flatMap fun x => (l x).map (g x))) : wLc2 xs (fun _ => wPure true) i (fun _ _ => wPure true) e P :=
  wLc2A_map xs [] P hi he (by simpa using hz) (by simpa using h)
theorem shadowX_ok {X Y : List Int} {a : Reg} {R : List Pr → Prop} (h : RegS X Y a) (hX : X.length ≤ 200) (hY : Y.length ≤ 200) (ho : a.2 = false) (k : R (shX a.1)) : m_shadow a "x" R := by
  have on := h.regOn
  have sm := h.small (by omega) (by omega)
  unfold m_shadow
  simp only [w_run, w_bind, w_pure, w_g, w_cons, w_nil, w_or, w_not]
  refine ⟨ho, ?_⟩
  rw [if_neg (by decide), if_neg (by decide), if_pos (by decide)]
  refine ⟨sm, wLc_map (g := fun (s : Sl) => ((s.1, s.2.1) : Pr)) (fun s hs Q q => q) ?_⟩
  have := sp_len (shX_ok on.ok).1 (shX_on on.on)
  exact ⟨by rw [List.length_map]; have := sm.1; omega, Nat.le_trans this (by omega), k⟩
theorem shadowY_ok {X Y : List Int} {a : Reg} {R : List Pr → Prop} (h : RegS X Y a) (hX : X.length ≤ 200) (hY : Y.length ≤ 200) (ho : a.2 = false) (k : R (shY a.1)) : m_shadow a "y" R := by
  have on := h.regOn
  have sm := h.small (by omega) (by omega)
  have z : (a.1.flatMap fun s => s.2.2).length ≤ 40000 := by
    have l := flatMap_len (f := fun (s : Sl) => s.2.2) (n := Y.length) a.1 fun s hs => sp_len (on.ok.w s hs).2.2 (on.on s hs).2.2
    have q := fm_len on.ok on.on
    have := Nat.mul_le_mul (Nat.le_trans q hX) hY
    omega
  have e : (a.1.flatMap fun s => s.2.2.map fun y => y) = a.1.flatMap fun s => s.2.2 := by simp
  unfold m_shadow
  simp only [w_run, w_bind, w_pure, w_g, w_cons, w_nil, w_or, w_not]
  refine ⟨ho, ?_⟩
  rw [if_neg (by decide), if_neg (by decide), if_neg (by decide)]
  refine ⟨sm, wLc2_map (l := fun (s : Sl) => s.2.2) (g := fun _ (y : Pr) => y) (fun s hs Q q => q) (fun s hs y hy Q q => q) (by rw [e]; omega) ?_⟩
  rw [e]
  have := sp_len (shY_ok on.ok).1 (shY_on on.on)
  exact ⟨by omega, Nat.le_trans this (by omega), k⟩
end BR
namespace BR
open PySem PySem.Spec PyProof.Rows L2
namespace K99
section
variable {K : Fg}

def m_l_made (a_boxes_here : (List (Int × Int × Int × Int))) (a_is_out : Bool) (R : Reg → Prop) : Prop :=
  (wRun (wPure (([], false) : Reg)) fun v1 => (wRun (wPure a_boxes_here) fun xs => wFor xs v1 (fun x8 (s2 : Reg) n3 k7 => (wRun (wBind (wPure s2) fun a => wBind (wBind (wCons (wPure x8) wNil) fun z => wG (∀ b ∈ ([z.1] : List Bx), bxOk b) (slabsOf [z.1], false)) fun b => wG (Sm2 a b) (unite a b)) fun v11 => (n3 v11))) (fun (s2 : Reg) => (wRun (wBind (wPure a_is_out) fun b => wIf b (wBind (wPure s2) fun a => wPure (rout a)) (wPure s2)) R))))
def sp_l_made (K : Fg) : Sp := spM (fun z : (List (Int × Int × Int × Int)) × Bool × Unit => [(eL (e4 tI tI tI tI)) z.1, tBo z.2.1]) (tReg K) (fun z => m_l_made z.1 z.2.1)
def t_l_made (K : Fg) : TS :=
  (tSeq (tAsg (tStat0 (RG K) (sp_empty K) E0 (tC (.ref (RG K)))) (gName 2))
  (tSeq (tFor (iSeq K (tVar 0)) (gName 3)
  (tAsg (tOp (rOwn2 (RG K) (sp_or K) E0) (tVar 2) (ClX.tCMeth (RG K) (sp_of K) E0 (tC (.ref (RG K))) (tCons (tVar 3) tNil))) (gName 2)))
  (tRet (tIf (tB (tVar 1)) (tUn (rInv (RG K) (sp_invert K) E0) (tVar 2)) (tVar 2)))))
theorem cert_l_made {c : Cn} {D : Ends} (a_boxes_here : (List (Int × Int × Int × Int))) (a_is_out : Bool) {R : Reg → Prop} (hr : RtOk c D.rt R (tReg K)) : NxS c (t_l_made K) D [.val ((eL (e4 tI tI tI tI)) a_boxes_here), .val (tBo a_is_out), .un, .un] (m_l_made a_boxes_here a_is_out R) :=
  (nx_seq (nx_asg (i := 2) (e := (tReg K)) md_empty (fun v1 => (nx_go (nx_norm (Ψ := [.val ((eL (e4 tI tI tI tI)) a_boxes_here), .val (tBo a_is_out), .val ((tReg K) v1), .un]) (nx_seq (nx_for (Ψ := fun (s2 : Reg) => [.val ((eL (e4 tI tI tI tI)) a_boxes_here), .val (tBo a_is_out), .val ((tReg K) s2), .un]) (s0 := v1) (mi_seq (MD.ofL (md_var (i := 0) (e := (eL (e4 tI tI tI tI))) (a := a_boxes_here) rfl))) (.eq (.eq (.eq (.un .nil)))) (fun x8 s2 => (gm_name rfl)) (fun s2 => (nx_go (nx_norm (Ψ := [.val ((eL (e4 tI tI tI tI)) a_boxes_here), .val (tBo a_is_out), .val ((tReg K) s2), .un]) (nx_ret (md_if (mt_B (md_var (i := 1) (e := tBo) (a := a_is_out) rfl)) (md_inv (md_var (i := 2) (e := (tReg K)) (a := s2) rfl)) (md_var (i := 2) (e := (tReg K)) (a := s2) rfl)) hr) rfl))) (fun c9 hc10 hk6 x8 s2 n3 N4 hn5 => (nx_asg (i := 2) (e := (tReg K)) (md_or (md_var (i := 2) (e := (tReg K)) (a := s2) rfl) (md_ofR (k := fun (z : Bx × Unit) => [z.1]) (ma_cons (md_var (i := 3) (e := (e4 tI tI tI tI)) (a := x8) rfl) ma_nil) (fun _ => rfl) (fun _ => by simp))) (fun v11 => (nx_end (nx_less (.eq (.eq (.eq (.un .nil)))) (hn5 v11)))))))) rfl)))))
theorem pure_l_made : ∀ vs H (Q : VK) (E : XK), sp_l_made K vs H Q E → t_l_made K { nx := fun _ H' => Q .non H', rt := Q } (L2.start ["_law_boxes_here", "_law_is_out", "_law_found", "_law_box"] vs) H :=
  pure_of (n := 2) (fun _ => rfl) (fun _ => rfl) (fun c D z R hr => cert_l_made _ _ hr)
theorem len_l_made : ∀ vs H Q E, sp_l_made K vs H Q E → vs.length = (["_law_boxes_here", "_law_is_out"] : List Str).length := len_of fun _ => rfl
def m_l_sum (a_spans : (List (Int × Int))) (R : Int → Prop) : Prop :=
  (wRun (wBind (wBind (wPure a_spans) fun xs => wLc xs (fun x1 => (wPure true)) (fun x1 => (wBind (wPure x1.2) fun a => wBind (wPure x1.1) fun b => wPure (a - b)))) fun a => wPure a.sum) R)
def sp_l_sum (K : Fg) : Sp := spM (fun z : (List (Int × Int)) × Unit => [(eL (e2 tI tI)) z.1]) tI (fun z => m_l_sum z.1)
def t_l_sum (K : Fg) : TS :=
  (tRet (tCB (rSum K) (tCons (tLc (iSeq K (tVar 0)) (gTup K 2 (gCons (gName 1) (gCons (gName 2) gNil))) tYes (tOp rSubI (tVar 2) (tVar 1)) [1, 2]) tNil)))
theorem cert_l_sum {c : Cn} {D : Ends} (a_spans : (List (Int × Int))) {R : Int → Prop} (hr : RtOk c D.rt R tI) : NxS c (t_l_sum K) D [.val ((eL (e2 tI tI)) a_spans), .un, .un] (m_l_sum a_spans R) :=
  (nx_ret (md_sum (md_lc (mi_seq (MD.ofL (md_var (i := 0) (e := (eL (e2 tI tI))) (a := a_spans) rfl))) rfl (fun x1 => (gm_tup (gms_cons (gm_name rfl) (gms_cons (gm_name rfl) gms_nil)) rfl rfl)) (by decide) (fun x1 => mt_yes) (fun x1 => (md_sub (md_var (i := 2) (e := tI) (a := x1.2) rfl) (md_var (i := 1) (e := tI) (a := x1.1) rfl))))) hr)
theorem pure_l_sum : ∀ vs H (Q : VK) (E : XK), sp_l_sum K vs H Q E → t_l_sum K { nx := fun _ H' => Q .non H', rt := Q } (L2.start ["_law_spans", "_law_a", "_law_b"] vs) H :=
  pure_of (n := 2) (fun _ => rfl) (fun _ => rfl) (fun c D z R hr => cert_l_sum _ hr)
theorem len_l_sum : ∀ vs H Q E, sp_l_sum K vs H Q E → vs.length = (["_law_spans"] : List Str).length := len_of fun _ => rfl
def m_l_beside (a_one : Reg) (a_other : Reg) (R : Bool → Prop) : Prop :=
  (wRun (wBind (wBind (wPure a_one) fun a => wBind (wBind (wBind (wPure (1 : Int)) fun a => wPure (-a)) fun a0 => wBind (wPure (0 : Int)) fun a1 => wBind (wPure (2 : Int)) fun a2 => wBind (wPure (1 : Int)) fun a3 => wPure (a0, a1, a2, a3)) fun b => m_Region_add a b) fun a => wBind (wBind (wPure a_one) fun a => wBind (wBind (wPure (0 : Int)) fun a0 => wBind (wBind (wPure (1 : Int)) fun a => wPure (-a)) fun a1 => wBind (wPure (1 : Int)) fun a2 => wBind (wPure (2 : Int)) fun a3 => wPure (a0, a1, a2, a3)) fun b => m_Region_add a b) fun b => wG (Sm2 a b) (unite a b)) fun v1 => (wRun (wBind (wBind (wPure v1) fun a => wBind (wPure a_other) fun b => wG (Sm2 a b) (rand a b)) fun a => wPure (a.2 || !a.1.isEmpty)) R))
def sp_l_beside (K : Fg) : Sp := spM (fun z : Reg × Reg × Unit => [(tReg K) z.1, (tReg K) z.2.1]) tBo (fun z => m_l_beside z.1 z.2.1)
def t_l_beside (K : Fg) : TS :=
  (tSeq (tAsg (tOp (rOwn2 (RG K) (sp_or K) E0) (tOp (rOwnT (RG K) (sp_Region_add K) E0) (tVar 0) (tTup (tCons (tUn rNegI (tC (.int 1))) (tCons (tC (.int 0)) (tCons (tC (.int 2)) (tCons (tC (.int 1)) tNil)))))) (tOp (rOwnT (RG K) (sp_Region_add K) E0) (tVar 0) (tTup (tCons (tC (.int 0)) (tCons (tUn rNegI (tC (.int 1))) (tCons (tC (.int 1)) (tCons (tC (.int 2)) tNil))))))) (gName 2))
  (tRet (tCB (rBoolO (RG K) (sp_bool K) E0) (tCons (tOp (rOwn2 (RG K) (sp_and K) E0) (tVar 2) (tVar 1)) tNil))))
theorem cert_l_beside {c : Cn} {D : Ends} (a_one : Reg) (a_other : Reg) {R : Bool → Prop} (hr : RtOk c D.rt R tBo) : NxS c (t_l_beside K) D [.val ((tReg K) a_one), .val ((tReg K) a_other), .un] (m_l_beside a_one a_other R) :=
  (nx_seq (nx_asg (i := 2) (e := (tReg K)) (md_or (md_ownT (md_var (i := 0) (e := (tReg K)) (a := a_one) rfl) (md_t4 (md_neg md_int) md_int md_int md_int) (fun _ => rfl) (fun b G v h => tup_e4 b G v h)) (md_ownT (md_var (i := 0) (e := (tReg K)) (a := a_one) rfl) (md_t4 md_int (md_neg md_int) md_int md_int) (fun _ => rfl) (fun b G v h => tup_e4 b G v h))) (fun v1 => (nx_go (nx_norm (Ψ := [.val ((tReg K) a_one), .val ((tReg K) a_other), .val ((tReg K) v1)]) (nx_ret (md_boolR (md_and (md_var (i := 2) (e := (tReg K)) (a := v1) rfl) (md_var (i := 1) (e := (tReg K)) (a := a_other) rfl))) hr) rfl)))))
theorem pure_l_beside : ∀ vs H (Q : VK) (E : XK), sp_l_beside K vs H Q E → t_l_beside K { nx := fun _ H' => Q .non H', rt := Q } (L2.start ["_law_one", "_law_other", "_law_near"] vs) H :=
  pure_of (n := 1) (fun _ => rfl) (fun _ => rfl) (fun c D z R hr => cert_l_beside _ _ hr)
theorem len_l_beside : ∀ vs H Q E, sp_l_beside K vs H Q E → vs.length = (["_law_one", "_law_other"] : List Str).length := len_of fun _ => rfl
def m_l_right (a_a : Reg) (a_b : Reg) (R : Bool → Prop) : Prop :=
  (wRun (wCons (wBind (wCons (wBind (wPure a_a) fun a => wBind (wPure a_b) fun b => wG (Sm2 a b) (rand a b)) wNil) fun z => m_border_length z.1) (wCons (wBind (wCons (wBind (wPure a_a) fun a => wBind (wPure a_b) fun b => wG (Sm2 a b) (unite a b)) wNil) fun z => m_border_length z.1) wNil)) fun z1 => (wRun (wBind (wBind (wCons (wPure a_a) wNil) fun z => m_border_length z.1) fun a => wBind (wBind (wCons (wPure a_b) wNil) fun z => m_border_length z.1) fun b => wPure (a + b)) fun v2 => (wRun (wOr (wBind (wBind (wPure z1.1) fun a => wBind (wPure z1.2.1) fun b => wPure (a + b)) fun a => wBind (wPure v2) fun b => wPure (decide (b < a))) (wBind (wBind (wBind (wPure z1.1) fun a => wBind (wPure z1.2.1) fun b => wPure (a + b)) fun a => wBind (wPure v2) fun b => wPure (decide (a = b))) fun a => wBind (wNot (wBind (wCons (wBind (wPure a_a) fun a => wBind (wPure a_b) fun b => wG (Sm2 a b) (rsub a b)) (wCons (wBind (wPure a_b) fun a => wBind (wPure a_a) fun b => wG (Sm2 a b) (rsub a b)) wNil)) fun z => m_l_beside z.1 z.2.1)) fun b => wPure (!decide (a = b)))) fun b => if b = true then (wRun (wPure false) R) else (wRun (wOr (wBind (wBind (wCons (wBind (wPure a_a) fun a => wPure (rout a)) wNil) fun z => m_border_length z.1) fun a => wBind (wBind (wCons (wPure a_a) wNil) fun z => m_border_length z.1) fun b => wPure (!decide (a = b))) (wBind (wBind (wCons (wBind (wPure a_a) fun a => wBind (wPure a_b) fun b => wG (Sm2 a b) (rsub a b)) wNil) fun z => m_border_length z.1) fun a => wBind (wBind (wCons (wBind (wBind (wPure a_a) fun a => wPure (rout a)) fun a => wBind (wPure a_b) fun b => wG (Sm2 a b) (unite a b)) wNil) fun z => m_border_length z.1) fun b => wPure (!decide (a = b)))) fun b => if b = true then (wRun (wPure false) R) else (wRun (wBind (wPure a_a) fun a => wPure (!a.2)) fun b => if b = true then (wRun (wBind (wBind (wCons (wPure a_a) wNil) fun z => m_border_length z.1) fun a => wBind (wBind (wPure (2 : Int)) fun a => wBind (wBind (wBind (wCons (wBind (wCons (wPure a_a) (wCons (wPure ("x" : Str)) wNil)) fun z => m_shadow z.1 z.2.1) wNil) fun z => m_l_sum z.1) fun a => wBind (wBind (wCons (wBind (wCons (wPure a_a) (wCons (wPure ("y" : Str)) wNil)) fun z => m_shadow z.1 z.2.1) wNil) fun z => m_l_sum z.1) fun b => wPure (a + b)) fun b => wG (CMulW a b) (a * b)) fun b => wPure (decide (b ≤ a))) R) else (wRun (wPure true) R))))))
def sp_l_right (K : Fg) : Sp := spM (fun z : Reg × Reg × Unit => [(tReg K) z.1, (tReg K) z.2.1]) tBo (fun z => m_l_right z.1 z.2.1)
def t_l_right (K : Fg) : TS :=
  (tSeq (tPar 2 3 (tCons (tCall (sp_border_length K) [] E0 (tCons (tOp (rOwn2 (RG K) (sp_and K) E0) (tVar 0) (tVar 1)) tNil)) (tCons (tCall (sp_border_length K) [] E0 (tCons (tOp (rOwn2 (RG K) (sp_or K) E0) (tVar 0) (tVar 1)) tNil)) tNil)))
  (tSeq (tAsg (tOp (rAddX K) (tCall (sp_border_length K) [] E0 (tCons (tVar 0) tNil)) (tCall (sp_border_length K) [] E0 (tCons (tVar 1) tNil))) (gName 4))
  (tSeq (tIfS (tOr (tTest (tOp rGtI (tOp (rAddX K) (tVar 2) (tVar 3)) (tVar 4))) (tTest (tOp (rNeX K) (tOp (rEqX K) (tOp (rAddX K) (tVar 2) (tVar 3)) (tVar 4)) (tNotV (tCall (sp_l_beside K) [] E0 (tCons (tOp (rOwn2 (RG K) (sp_sub K) E0) (tVar 0) (tVar 1)) (tCons (tOp (rOwn2 (RG K) (sp_sub K) E0) (tVar 1) (tVar 0)) tNil)))))))
  (tRet (tC (.bl false)))
  tNext)
  (tSeq (tIfS (tOr (tTest (tOp (rNeX K) (tCall (sp_border_length K) [] E0 (tCons (tUn (rInv (RG K) (sp_invert K) E0) (tVar 0)) tNil)) (tCall (sp_border_length K) [] E0 (tCons (tVar 0) tNil)))) (tTest (tOp (rNeX K) (tCall (sp_border_length K) [] E0 (tCons (tOp (rOwn2 (RG K) (sp_sub K) E0) (tVar 0) (tVar 1)) tNil)) (tCall (sp_border_length K) [] E0 (tCons (tOp (rOwn2 (RG K) (sp_or K) E0) (tUn (rInv (RG K) (sp_invert K) E0) (tVar 0)) (tVar 1)) tNil)))))
  (tRet (tC (.bl false)))
  tNext)
  (tSeq (tIfS (tB (tPropR (RG K) (sp_is_bounded K) E0 (tVar 0)))
  (tRet (tOp rGeI (tCall (sp_border_length K) [] E0 (tCons (tVar 0) tNil)) (tOp rMulI (tC (.int 2)) (tOp (rAddX K) (tCall (sp_l_sum K) [] E0 (tCons (tCall (sp_shadow K) [] E0 (tCons (tVar 0) (tCons (tC (.str ("x" : Str))) tNil))) tNil)) (tCall (sp_l_sum K) [] E0 (tCons (tCall (sp_shadow K) [] E0 (tCons (tVar 0) (tCons (tC (.str ("y" : Str))) tNil))) tNil))))))
  tNext)
  (tRet (tC (.bl true))))))))
theorem cert_l_right {c : Cn} {D : Ends} (a_a : Reg) (a_b : Reg) {R : Bool → Prop} (hr : RtOk c D.rt R tBo) : NxS c (t_l_right K) D [.val ((tReg K) a_a), .val ((tReg K) a_b), .un, .un, .un] (m_l_right a_a a_b R) :=
  (nx_seq (nx_par (i := 2) (j := 3) (f := fun (z : Int × Int × Unit) => tI z.1) (g := fun (z : Int × Int × Unit) => tI z.2.1) (ma_cons (md_call (ma_cons (md_and (md_var (i := 0) (e := (tReg K)) (a := a_a) rfl) (md_var (i := 1) (e := (tReg K)) (a := a_b) rfl)) ma_nil) (fun _ => rfl)) (ma_cons (md_call (ma_cons (md_or (md_var (i := 0) (e := (tReg K)) (a := a_a) rfl) (md_var (i := 1) (e := (tReg K)) (a := a_b) rfl)) ma_nil) (fun _ => rfl)) ma_nil)) (fun _ => rfl) (fun z1 => (nx_go (nx_norm (Ψ := [.val ((tReg K) a_a), .val ((tReg K) a_b), .val (tI z1.1), .val (tI z1.2.1), .un]) (nx_seq (nx_asg (i := 4) (e := tI) (md_add (md_call (ma_cons (md_var (i := 0) (e := (tReg K)) (a := a_a) rfl) ma_nil) (fun _ => rfl)) (md_call (ma_cons (md_var (i := 1) (e := (tReg K)) (a := a_b) rfl) ma_nil) (fun _ => rfl))) (fun v2 => (nx_go (nx_norm (Ψ := [.val ((tReg K) a_a), .val ((tReg K) a_b), .val (tI z1.1), .val (tI z1.2.1), .val (tI v2)]) (nx_seq (nx_if (mt_or (mt_test (md_gt (md_add (md_var (i := 2) (e := tI) (a := z1.1) rfl) (md_var (i := 3) (e := tI) (a := z1.2.1) rfl)) (md_var (i := 4) (e := tI) (a := v2) rfl))) (mt_test (md_ne (md_eq (md_add (md_var (i := 2) (e := tI) (a := z1.1) rfl) (md_var (i := 3) (e := tI) (a := z1.2.1) rfl)) (md_var (i := 4) (e := tI) (a := v2) rfl)) (md_notV (md_call (ma_cons (md_subR (md_var (i := 0) (e := (tReg K)) (a := a_a) rfl) (md_var (i := 1) (e := (tReg K)) (a := a_b) rfl)) (ma_cons (md_subR (md_var (i := 1) (e := (tReg K)) (a := a_b) rfl) (md_var (i := 0) (e := (tReg K)) (a := a_a) rfl)) ma_nil)) (fun _ => rfl)))))) (nx_ret md_bl hr) (nx_next (nx_go (nx_norm (Ψ := [.val ((tReg K) a_a), .val ((tReg K) a_b), .val (tI z1.1), .val (tI z1.2.1), .val (tI v2)]) (nx_seq (nx_if (mt_or (mt_test (md_ne (md_call (ma_cons (md_inv (md_var (i := 0) (e := (tReg K)) (a := a_a) rfl)) ma_nil) (fun _ => rfl)) (md_call (ma_cons (md_var (i := 0) (e := (tReg K)) (a := a_a) rfl) ma_nil) (fun _ => rfl)))) (mt_test (md_ne (md_call (ma_cons (md_subR (md_var (i := 0) (e := (tReg K)) (a := a_a) rfl) (md_var (i := 1) (e := (tReg K)) (a := a_b) rfl)) ma_nil) (fun _ => rfl)) (md_call (ma_cons (md_or (md_inv (md_var (i := 0) (e := (tReg K)) (a := a_a) rfl)) (md_var (i := 1) (e := (tReg K)) (a := a_b) rfl)) ma_nil) (fun _ => rfl))))) (nx_ret md_bl hr) (nx_next (nx_go (nx_norm (Ψ := [.val ((tReg K) a_a), .val ((tReg K) a_b), .val (tI z1.1), .val (tI z1.2.1), .val (tI v2)]) (nx_seq (nx_if (mt_B (md_isB (md_var (i := 0) (e := (tReg K)) (a := a_a) rfl))) (nx_ret (md_ge (md_call (ma_cons (md_var (i := 0) (e := (tReg K)) (a := a_a) rfl) ma_nil) (fun _ => rfl)) (md_mul md_int (md_add (md_call (ma_cons (md_call (ma_cons (md_var (i := 0) (e := (tReg K)) (a := a_a) rfl) (ma_cons md_str ma_nil)) (fun _ => rfl)) ma_nil) (fun _ => rfl)) (md_call (ma_cons (md_call (ma_cons (md_var (i := 0) (e := (tReg K)) (a := a_a) rfl) (ma_cons md_str ma_nil)) (fun _ => rfl)) ma_nil) (fun _ => rfl))))) hr) (nx_next (nx_go (nx_norm (Ψ := [.val ((tReg K) a_a), .val ((tReg K) a_b), .val (tI z1.1), .val (tI z1.2.1), .val (tI v2)]) (nx_ret md_bl hr) rfl))))) rfl))))) rfl))))) rfl))))) rfl)))))
theorem pure_l_right : ∀ vs H (Q : VK) (E : XK), sp_l_right K vs H Q E → t_l_right K { nx := fun _ H' => Q .non H', rt := Q } (L2.start ["_law_a", "_law_b", "_law_both", "_law_either", "_law_total"] vs) H :=
  pure_of (n := 3) (fun _ => rfl) (fun _ => rfl) (fun c D z R hr => cert_l_right _ _ hr)
theorem len_l_right : ∀ vs H Q E, sp_l_right K vs H Q E → vs.length = (["_law_a", "_law_b"] : List Str).length := len_of fun _ => rfl
def m_law (a_script : (List Int)) (R : Bool → Prop) : Prop :=
  (wRun (wBind (wBind (wPure (1 : Int)) fun a => wBind (wBind (wBind (wPure a_script) fun a => wPure (a.length : Int)) fun a => wBind (wPure (4 : Int)) fun b => wPure (min a b)) fun b => wPure (max a b)) fun n => wG (InR n) (rng 0 n)) fun xs => wFor xs () (fun x7 (s1 : Unit) n2 k6 => (wRun (wPure a_script) fun _ => (wPure x7) fun j => (0 ≤ j ∧ j ≤ 100) ∧ (wRun (wBind (wBind (wCons (wBind (wPure (2 : Int)) fun a => wBind (wBind (wPure (6 : Int)) wTake) fun b => wPure (a + b)) wNil) fun z => wLines z.1) fun a0 => wBind (wBind (wCons (wBind (wPure (2 : Int)) fun a => wBind (wBind (wPure (6 : Int)) wTake) fun b => wPure (a + b)) wNil) fun z => wLines z.1) fun a1 => wPure (a0, a1)) fun z10 => (wRun (wBind (wBind (wPure (2 : Int)) fun n => wG (InR n) (rng 0 n)) fun xs => wLc xs (fun x11 => (wPure true)) (fun x11 => (wBind (wCons (wBind (wCons (wPure z10.1) (wCons (wPure z10.2) (wCons (wPure (5 : Int)) wNil))) fun z => wBoxes z.1 z.2.1 z.2.2.1) (wCons (wBind (wBind (wPure (4 : Int)) wTake) fun a => wBind (wPure (0 : Int)) fun b => wPure (decide (a = b))) wNil)) fun z => m_l_made z.1 z.2.1))) fun l => ∃ z12 : (Reg × Reg), l = [z12.1, z12.2] ∧ (wRun (wOr (wNot (wBind (wCons (wPure z12.1) (wCons (wPure z12.2) wNil)) fun z => m_l_right z.1 z.2.1)) (wOr (wNot (wBind (wCons (wPure z12.2) (wCons (wPure z12.1) wNil)) fun z => m_l_right z.1 z.2.1)) (wNot (wBind (wCons (wPure z12.1) (wCons (wBind (wPure z12.2) fun a => wPure (rout a)) wNil)) fun z => m_l_right z.1 z.2.1)))) fun b => if b = true then (wRun (wPure false) R) else (wRun (wBind (wCons (wPure z10.1) (wCons (wPure z10.2) (wCons (wPure (3 : Int)) wNil))) fun z => wBoxes z.1 z.2.1 z.2.2.1) fun xs => wFor xs () (fun x19 (s13 : Unit) n14 k18 => (wRun (wBind (wBind (wCons (wBind (wCons (wBind (wPure x19.1) fun a0 => wBind (wPure x19.2.1) fun a1 => wBind (wPure x19.2.2.1) fun a2 => wBind (wPure x19.2.2.2) fun a3 => wPure (a0, a1, a2, a3)) wNil) fun z => wG (∀ b ∈ ([z.1] : List Bx), bxOk b) (slabsOf [z.1], false)) wNil) fun z => m_border_length z.1) fun a => wBind (wBind (wPure (2 : Int)) fun a => wBind (wBind (wBind (wBind (wPure x19.2.2.1) fun a => wBind (wPure x19.1) fun b => wPure (a - b)) fun a => wBind (wPure x19.2.2.2) fun b => wPure (a + b)) fun a => wBind (wPure x19.2.1) fun b => wPure (a - b)) fun b => wG (CMulW a b) (a * b)) fun b => wPure (!decide (a = b))) fun b => if b = true then (wRun (wPure false) R) else (n14 ()))) (fun (s13 : Unit) => (n2 ())))))))) (fun (s1 : Unit) => (wRun (wPure true) R)))
def t_law (K : Fg) : TS :=
  (tSeq (tFor (iRng1 (tCons (tCB rMax2 (tCons (tC (.int 1)) (tCons (tCB rMin2 (tCons (tCB (rLenX K) (tCons (tVar 0) tNil)) (tCons (tC (.int 4)) tNil))) tNil))) tNil)) (gName 1)
  (tSeq (tAsg (tCall (sp_l_pool K) [] E0 (tCons (tVar 0) (tCons (tVar 1) tNil))) (gName 2))
  (tSeq (tAsg (tTup (tCons (tCall sp_l_lines [] E0 (tCons (tVar 2) (tCons (tOp (rAddX K) (tC (.int 2)) (tCall sp_l_take [] E0 (tCons (tVar 2) (tCons (tC (.int 6)) tNil)))) tNil))) (tCons (tCall sp_l_lines [] E0 (tCons (tVar 2) (tCons (tOp (rAddX K) (tC (.int 2)) (tCall sp_l_take [] E0 (tCons (tVar 2) (tCons (tC (.int 6)) tNil)))) tNil))) tNil))) (gTup K 2 (gCons (gName 3) (gCons (gName 4) gNil))))
  (tSeq (tAsg (tLc (iRng1 (tCons (tC (.int 2)) tNil)) (gName 11) tYes (tCall (sp_l_made K) [] E0 (tCons (tCall sp_l_boxes [] E0 (tCons (tVar 2) (tCons (tVar 3) (tCons (tVar 4) (tCons (tC (.int 5)) tNil))))) (tCons (tOp (rEqX K) (tCall sp_l_take [] E0 (tCons (tVar 2) (tCons (tC (.int 4)) tNil))) (tC (.int 0))) tNil))) [11]) (gUnl K 2 (gCons (gName 5) (gCons (gName 6) gNil))))
  (tSeq (tIfS (tOr (tNot (tB (tCall (sp_l_right K) [] E0 (tCons (tVar 5) (tCons (tVar 6) tNil))))) (tOr (tNot (tB (tCall (sp_l_right K) [] E0 (tCons (tVar 6) (tCons (tVar 5) tNil))))) (tNot (tB (tCall (sp_l_right K) [] E0 (tCons (tVar 5) (tCons (tUn (rInv (RG K) (sp_invert K) E0) (tVar 6)) tNil)))))))
  (tRet (tC (.bl false)))
  tNext)
  (tFor (iSeq K (tCall sp_l_boxes [] E0 (tCons (tVar 2) (tCons (tVar 3) (tCons (tVar 4) (tCons (tC (.int 3)) tNil)))))) (gTup K 4 (gCons (gName 7) (gCons (gName 8) (gCons (gName 9) (gCons (gName 10) gNil)))))
  (tIfS (tTest (tOp (rNeX K) (tCall (sp_border_length K) [] E0 (tCons (ClX.tCMeth (RG K) (sp_of K) E0 (tC (.ref (RG K))) (tCons (tTup (tCons (tVar 7) (tCons (tVar 8) (tCons (tVar 9) (tCons (tVar 10) tNil))))) tNil)) tNil)) (tOp rMulI (tC (.int 2)) (tOp rSubI (tOp (rAddX K) (tOp rSubI (tVar 9) (tVar 7)) (tVar 10)) (tVar 8)))))
  (tRet (tC (.bl false)))
  tNext)))))))
  (tRet (tC (.bl true))))
theorem cert_law {c : Cn} {D : Ends} (a_script : (List Int)) {R : Bool → Prop} (hr : RtOk c D.rt R tBo) : NxS c (t_law K) D [.val ((tScr K) a_script), .un, .un, .un, .un, .un, .un, .un, .un, .un, .un, .un] (m_law a_script R) :=
  (nx_seq (nx_for (Ψ := fun (s1 : Unit) => [.val ((tScr K) a_script), .un, .un, .un, .un, .un, .un, .un, .un, .un, .un, .un]) (s0 := ()) (mi_rng1 (md_max2 md_int (md_min2 (md_lenScr (md_var (i := 0) (e := (tScr K)) (a := a_script) rfl)) md_int))) (.eq (.un (.un (.un (.un (.un (.un (.un (.un (.un (.un (.un .nil)))))))))))) (fun x7 s1 => (gm_name rfl)) (fun s1 => (nx_go (nx_norm (Ψ := [.val ((tScr K) a_script), .un, .un, .un, .un, .un, .un, .un, .un, .un, .un, .un]) (nx_ret md_bl hr) rfl))) (fun c8 hc9 hk5 x7 s1 n2 N3 hn4 => (nx_seq (nx_pool (i := 2) (md_var (i := 0) (e := (tScr K)) (a := a_script) rfl) (md_var (i := 1) (e := tI) (a := x7) rfl) (nx_go (nx_norm (Ψ := [.val ((tScr K) a_script), .val (tI x7), .pool, .un, .un, .un, .un, .un, .un, .un, .un, .un]) (nx_seq (nx_asgG (e := (e2 (eL tI) (eL tI))) (md_t2 (md_lines (j := 2) rfl (md_add md_int (md_take (j := 2) rfl md_int))) (md_lines (j := 2) rfl (md_add md_int (md_take (j := 2) rfl md_int)))) (fun z10 => (gm_tup (gms_cons (gm_name rfl) (gms_cons (gm_name rfl) gms_nil)) rfl rfl)) (fun z10 => (nx_go (nx_norm (Ψ := [.val ((tScr K) a_script), .val (tI x7), .pool, .val ((eL tI) z10.1), .val ((eL tI) z10.2), .un, .un, .un, .un, .un, .un, .un]) (nx_seq (nx_asgL (e := (tReg K)) (k := fun (z12 : (Reg × Reg)) => [z12.1, z12.2]) (md_lc (mi_rng1 md_int) rfl (fun x11 => (gm_name rfl)) (by decide) (fun x11 => mt_yes) (fun x11 => (md_call (ma_cons (md_boxes (j := 2) rfl (ma_cons (md_var (i := 3) (e := (eL tI)) (a := z10.1) rfl) (ma_cons (md_var (i := 4) (e := (eL tI)) (a := z10.2) rfl) (ma_cons md_int ma_nil)))) (ma_cons (md_eq (md_take (j := 2) rfl md_int) md_int) ma_nil)) (fun _ => rfl)))) (fun z12 => (gm_unl (gms_cons (gm_name rfl) (gms_cons (gm_name rfl) gms_nil)) rfl rfl)) (fun z12 => (nx_go (nx_norm (Ψ := [.val ((tScr K) a_script), .val (tI x7), .pool, .val ((eL tI) z10.1), .val ((eL tI) z10.2), .val ((tReg K) z12.1), .val ((tReg K) z12.2), .un, .un, .un, .un, .un]) (nx_seq (nx_if (mt_or (mt_not (mt_B (md_call (ma_cons (md_var (i := 5) (e := (tReg K)) (a := z12.1) rfl) (ma_cons (md_var (i := 6) (e := (tReg K)) (a := z12.2) rfl) ma_nil)) (fun _ => rfl)))) (mt_or (mt_not (mt_B (md_call (ma_cons (md_var (i := 6) (e := (tReg K)) (a := z12.2) rfl) (ma_cons (md_var (i := 5) (e := (tReg K)) (a := z12.1) rfl) ma_nil)) (fun _ => rfl)))) (mt_not (mt_B (md_call (ma_cons (md_var (i := 5) (e := (tReg K)) (a := z12.1) rfl) (ma_cons (md_inv (md_var (i := 6) (e := (tReg K)) (a := z12.2) rfl)) ma_nil)) (fun _ => rfl)))))) (nx_ret md_bl (hr.le hc9)) (nx_next (nx_go (nx_norm (Ψ := [.val ((tScr K) a_script), .val (tI x7), .pool, .val ((eL tI) z10.1), .val ((eL tI) z10.2), .val ((tReg K) z12.1), .val ((tReg K) z12.2), .un, .un, .un, .un, .un]) (nx_for (Ψ := fun (s13 : Unit) => [.val ((tScr K) a_script), .val (tI x7), .pool, .val ((eL tI) z10.1), .val ((eL tI) z10.2), .val ((tReg K) z12.1), .val ((tReg K) z12.2), .un, .un, .un, .un, .un]) (s0 := ()) (mi_seq (MD.ofL (md_boxes (j := 2) rfl (ma_cons (md_var (i := 3) (e := (eL tI)) (a := z10.1) rfl) (ma_cons (md_var (i := 4) (e := (eL tI)) (a := z10.2) rfl) (ma_cons md_int ma_nil)))))) (.eq (.eq (.eq (.eq (.eq (.eq (.eq (.un (.un (.un (.un (.un .nil)))))))))))) (fun x19 s13 => (gm_tup (gms_cons (gm_name rfl) (gms_cons (gm_name rfl) (gms_cons (gm_name rfl) (gms_cons (gm_name rfl) gms_nil)))) rfl rfl)) (fun s13 => (nx_end (nx_less (.eq (.un (.un (.un (.un (.un (.un (.un (.un (.un (.un (.un .nil)))))))))))) (hn4 ())))) (fun c20 hc21 hk17 x19 s13 n14 N15 hn16 => (nx_if (mt_test (md_ne (md_call (ma_cons (md_ofR (k := fun (z : Bx × Unit) => [z.1]) (ma_cons (md_t4 (md_var (i := 7) (e := tI) (a := x19.1) rfl) (md_var (i := 8) (e := tI) (a := x19.2.1) rfl) (md_var (i := 9) (e := tI) (a := x19.2.2.1) rfl) (md_var (i := 10) (e := tI) (a := x19.2.2.2) rfl)) ma_nil) (fun _ => rfl) (fun _ => by simp)) ma_nil) (fun _ => rfl)) (md_mul md_int (md_sub (md_add (md_sub (md_var (i := 9) (e := tI) (a := x19.2.2.1) rfl) (md_var (i := 7) (e := tI) (a := x19.1) rfl)) (md_var (i := 10) (e := tI) (a := x19.2.2.2) rfl)) (md_var (i := 8) (e := tI) (a := x19.2.1) rfl))))) (nx_ret md_bl ((hr.le hc9).le hc21)) (nx_next (nx_end (nx_less (.eq (.eq (.eq (.eq (.eq (.eq (.eq (.un (.un (.un (.un (.un .nil)))))))))))) (hn16 ()))))))) rfl))))) rfl))))) rfl))))) rfl)))))))
theorem pure_law (hk : ∀ ns : List Int, ns.length ≤ 63 → m_law ns (· = true)) : ∀ vs H (Q : VK) (E : XK), sp_law K vs H Q E → t_law K { nx := fun _ H' => Q .non H', rt := Q } (L2.start ["_law_script", "_law_k", "_law_pool_here", "_law_xs", "_law_ys", "_law_a", "_law_b", "_law_x1", "_law_y1", "_law_x2", "_law_y2", "_law_turn"] vs) H :=
  pure_law_of (n := 11) rfl (fun c D ns R hr => cert_law ns hr) hk
theorem len_law : ∀ vs H Q E, sp_law K vs H Q E → vs.length = (["_law_script"] : List Str).length := by
  rintro vs H Q E ⟨a, ns, rfl, _⟩
  rfl
end
end K99
end BR
namespace BR
namespace K99
open PySem PySem.Spec PyProof.Rows L2
theorem nif {c A B : Prop} [Decidable c] (h : ¬ c) (k : B) : if c then A else B := by rw [if_neg h]; exact k
theorem pif {c A B : Prop} [Decidable c] (h : c) (k : A) : if c then A else B := by rw [if_pos h]; exact k
theorem neg_ne {p : Prop} {d : Decidable p} (h : p) : ¬ (!@decide p d) = true := by simp [h]
theorem made_ok {X Y : List Int} {R : Reg → Prop} {o : Bool} (hX : X.length ≤ 1000) (hY : Y.length ≤ 1000) {bs : List Bx} (hb : ∀ b ∈ bs, bxOk b ∧ OnB X Y b) (k : ∀ r, RegS X Y r → R r) : m_l_made bs o R := by
  unfold m_l_made
  simp only [w_run, w_bind, w_pure, w_cons, w_nil, w_g, w_if]
  refine wFor_inv (fun xs s => (∀ b ∈ xs, bxOk b ∧ OnB X Y b) ∧ RegS X Y s) (fun s h => ?_) (fun x xs s n h hn => ?_) bs _ ⟨hb, RegS.nil⟩
  · split
    · exact k _ h.2.out
    · exact k _ h.2
  · obtain ⟨h1, h2⟩ := h
    have h3 : RegS X Y (slabsOf [x], false) := (RegOn.of fun b hb => by rw [List.mem_singleton.mp hb]; exact h1 x (by simp)).s
    exact ⟨fun b hb => by rw [List.mem_singleton.mp hb]; exact (h1 x (by simp)).1, ⟨h2.small hX hY, h3.small hX hY⟩, hn _ ⟨fun b hb => h1 b (by simp [hb]), h2.unite h3⟩⟩
theorem sum_ok {sp : List Pr} {R : Int → Prop} (k : R (lenS sp)) : m_l_sum sp R := by
  unfold m_l_sum
  simp only [w_run, w_bind, w_pure]
  exact wLc_map (g := fun (p : Pr) => p.2 - p.1) (fun x hx Q q => q) k
theorem beside_ok {X Y : List Int} {a b : Reg} {R : Bool → Prop} (ha : RegS X Y a) (hb : RegS X Y b) (hX : X.length ≤ 10) (hY : Y.length ≤ 10) (k : R ((besR a b).2 || !(besR a b).1.isEmpty)) : m_l_beside (rsub a b) (rsub b a) R := by
  have b1 : bxOk ((-1, 0, 2, 1) : Bx) := ⟨by decide, by decide⟩
  have b2 : bxOk ((0, -1, 1, 2) : Bx) := ⟨by decide, by decide⟩
  have h1 := ha.sub hb
  have h2 := hb.sub ha
  have g1 := h1.grow b1
  have g2 := h1.grow b2
  have gx : ∀ lo hi, (gl X lo hi).length ≤ 20 := fun lo hi => by rw [gl_len]; omega
  have gy : ∀ lo hi, (gl Y lo hi).length ≤ 20 := fun lo hi => by rw [gl_len]; omega
  have m1 := g1.mono (X' := gl X (-1) 2 ++ gl X 0 1) (Y' := gl Y 0 1 ++ gl Y (-1) 2) (fun z hz => by simp [hz]) fun z hz => by simp [hz]
  have m2 := g2.mono (X' := gl X (-1) 2 ++ gl X 0 1) (Y' := gl Y 0 1 ++ gl Y (-1) 2) (fun z hz => by simp [hz]) fun z hz => by simp [hz]
  have lx : (gl X (-1) 2 ++ gl X 0 1).length ≤ 1000 := by
    have := gx (-1) 2
    have := gx 0 1
    rw [List.length_append]
    omega
  have ly : (gl Y 0 1 ++ gl Y (-1) 2).length ≤ 1000 := by
    have := gy (-1) 2
    have := gy 0 1
    rw [List.length_append]
    omega
  unfold m_l_beside
  simp only [w_run, w_bind, w_pure, w_cons, w_nil, w_g]
  refine add_ok h1 b1 (by omega) (by omega) (add_ok h1 b2 (by omega) (by omega) ⟨⟨m1.small lx ly, m2.small lx ly⟩, ⟨(m1.unite m2).small lx ly, h2.small (by omega) (by omega)⟩, k⟩)
theorem right_ok {X Y : List Int} {a b : Reg} {R : Bool → Prop} (ha : RegS X Y a) (hb : RegS X Y b) (hX : X.length ≤ 10) (hY : Y.length ≤ 10) (bx : ∀ k ∈ X, k.natAbs < 2 ^ 130) (by_ : ∀ k ∈ Y, k.natAbs < 2 ^ 130) (k : R true) : m_l_right a b R := by
  have sa := ha.small (by omega) (by omega)
  have sb := hb.small (by omega) (by omega)
  have B : ∀ {r : Reg} {Q : Int → Prop}, RegS X Y r → Q (bl r.1) → m_border_length r Q := fun h q => border_ok h (by omega) (by omega) bx q
  unfold m_l_right
  simp only [w_run, w_bind, w_pure, w_cons, w_nil, w_g, w_or, w_not]
  refine ⟨⟨sa, sb⟩, B (ha.and hb) ⟨⟨sa, sb⟩, B (ha.unite hb) (B ha (B hb ?_))⟩⟩
  refine nif (by have := bl_le ha.regOn hb.regOn; simp; omega) ?_
  refine ⟨⟨sa, sb⟩, ⟨sb, sa⟩, beside_ok ha hb hX hY ?_⟩
  refine nif ?_ ?_
  · have q := bes_false ha.regOn hb.regOn
    generalize ((besR a b).2 || !(besR a b).1.isEmpty) = t at q
    by_cases e : bl (rand a b).1 + bl (unite a b).1 = bl a.1 + bl b.1
    · rw [q.mp e]
      simp [e]
    · have : t = true := by
        cases t with
        | true => rfl
        | false => exact absurd (q.mpr rfl) e
      rw [this]
      simp [e]
  refine B ha.out (B ha (nif (by simp [rout]) ?_))
  refine ⟨⟨sa, sb⟩, B (ha.sub hb) ⟨⟨sa, sb⟩, B (ha.out.unite hb) (nif (by simp [rsub, rout]) ?_)⟩⟩
  cases o : a.2 with
  | true => exact nif (by decide) k
  | false =>
    refine pif (by decide) (B ha (shadowX_ok ha (by omega) (by omega) o (sum_ok (shadowY_ok ha (by omega) (by omega) o (sum_ok ⟨?_, ?_⟩)))))
    · have bd : ∀ {Z : List Int} {sp : List Pr}, SpOk sp → OnS Z sp → (∀ k ∈ Z, k.natAbs < 2 ^ 130) → 0 ≤ lenS sp ∧ lenS sp ≤ 2 ^ 130 - (-(2 ^ 130)) := fun h o z => lenS_bd h (fun p hp => by
        have := z _ (o p hp).1
        have := z _ (o p hp).2
        omega) (by decide)
      have b1 := bd (shX_ok ha.ok).1 (shX_on ha.regOn.on) bx
      have b2 := bd (shY_ok ha.ok).1 (shY_on ha.regOn.on) by_
      exact mulW_small (by decide) (by omega)
    · rw [decide_eq_true (shadow_le ha.regOn)]
      exact k
theorem law_ok (ns : List Int) (hl : ns.length ≤ 63) : m_law ns (· = true) := by
  unfold m_law
  simp only [w_run, w_bind, w_pure, w_cons, w_nil, w_g, w_if, w_or, w_not, w_and, Bool.not_true, Bool.false_eq_true, if_false, if_true]
  refine ⟨⟨by omega, by omega⟩, wFor_inv (fun ks _ => ∀ k ∈ ks, 0 ≤ k ∧ k ≤ 100) (fun _ _ => trivial) (fun k ks s n hk hn => ?_) _ _ fun k hk => ?_⟩
  · refine ⟨hk k (by simp), wTake_ok (by decide) (by decide) fun r1 _ _ => ⟨by omega, by omega, fun xs hx => ?_⟩⟩
    refine wTake_ok (by decide) (by decide) fun r2 _ _ => ⟨by omega, by omega, fun ys hy => ?_⟩
    have ax : AxOk xs := ⟨by have := hx.l; omega, by have := hx.l; omega, hx.s⟩
    have ay : AxOk ys := ⟨by have := hy.l; omega, by have := hy.l; omega, hy.s⟩
    have lx : xs.length ≤ 7 := by have := hx.l; omega
    have ly : ys.length ≤ 7 := by have := hy.l; omega
    have bx : ∀ k ∈ xs, k.natAbs < 2 ^ 130 := fun k hk => Nat.lt_trans (hx.b k hk) (by decide)
    have by_ : ∀ k ∈ ys, k.natAbs < 2 ^ 130 := fun k hk => Nat.lt_trans (hy.b k hk) (by decide)
    have one : ∀ P : Reg → Prop, (∀ r, RegS xs ys r → P r) → wBind (wCons (wBind (wCons (wPure xs) (wCons (wPure ys) (wCons (wPure 5) wNil))) fun z => wBoxes z.1 z.2.1 z.2.2.1) (wCons (wBind (wBind (wPure 4) wTake) fun a => wBind (wPure 0) fun b => wPure (decide (a = b))) wNil)) (fun z => m_l_made z.1 z.2.1) P := fun P hP => by
      simp only [w_bind, w_cons, w_pure, w_nil]
      exact ⟨ax, ay, by decide, by decide, fun bs hbs => wTake_ok (by decide) (by decide) fun r3 _ _ => made_ok (by omega) (by omega) hbs.b hP⟩
    refine ⟨⟨by decide, by decide⟩, ?_⟩
    show wLcA [0, 1] _ _ [] _
    refine one _ fun a ha => one _ fun c hc => ⟨(a, c), rfl, ?_⟩
    refine right_ok ha hc (by omega) (by omega) bx by_ (nif (by decide) ?_)
    refine right_ok hc ha (by omega) (by omega) bx by_ (nif (by decide) ?_)
    refine right_ok ha hc.out (by omega) (by omega) bx by_ (nif (by decide) ?_)
    refine ⟨ax, ay, by decide, by decide, fun bs hbs => ?_⟩
    refine wFor_inv (fun bs _ => ∀ b ∈ bs, bxOk b ∧ OnB xs ys b) (fun _ _ => hn _ fun k' hk' => hk k' (by simp [hk'])) (fun b bs s n' hs hk' => ?_) _ _ hbs.b
    obtain ⟨p1, p2⟩ := hs b (by simp)
    have rb : RegS xs ys (slabsOf [b], false) := (RegOn.of fun b' hb => by rw [List.mem_singleton.mp hb]; exact ⟨p1, p2⟩).s
    refine ⟨fun b' hb => by rw [List.mem_singleton.mp hb]; exact p1, border_ok rb (by omega) (by omega) bx ⟨?_, nif (neg_ne (box_len p1)) (hk' _ fun b' hb' => hs b' (by simp [hb']))⟩⟩
    have c1 := bx _ p2.1
    have c2 := bx _ p2.2.1
    have c3 := by_ _ p2.2.2.1
    have c4 := by_ _ p2.2.2.2
    exact mulW_small (by decide) (by omega)
  · have := mem_rng.mp hk
    omega
end K99
end BR
namespace BR
namespace K99
open PySem PySem.Spec PyProof.Rows L2
def top (i : Nat) : Stmt := PySem.Challenge.pw_boxregions_k99_whole_borders_of_combinat.main.body.getD i (.Pass ⟨0, 0, 0, 0⟩)
structure Md (mg : Str → Option Value) : Prop where
  b_len : mg "len" = none
  b_range : mg "range" = none
  b_isinstance : mg "isinstance" = none
  b_int : mg "int" = none
  b_bool : mg "bool" = none
  b_tuple : mg "tuple" = none
  b_all : mg "all" = none
  b_sorted : mg "sorted" = none
  b_max : mg "max" = none
  b_zip : mg "zip" = none
  b_list : mg "list" = none
  b_any : mg "any" = none
  b_sum : mg "sum" = none
  b_min : mg "min" = none
  b_str : mg "str" = none
theorem dfl_none {K : Fg} {dV : Value} (h : DflV K dV []) : dV = .none := by
  rcases h with ⟨h1, h2⟩ | ⟨h, _⟩
  · exact h2
  · exact absurd rfl h
structure RegR (K : Fg) (mg : Str → Option Value) : Prop where
  g : mg "Region" = some (.ref (RG K))
  cl : Cls K (RG K)
  ct : InsT K (RG K)
  n1 : NoAttr K (RG K) "form"
  n2 : NoAttr K (RG K) "is_outside"
  mak : Mk K (RG K) (mA K "Region" "__init__")
  self1 : PySem.W.selfFirst K (RG K) = true
  cread : ClX.CRead K (RG K) (.type "type")
  ne : NeM K (RG K)
  s_empty : StM K (RG K) "empty" (mA K "Region" "empty") (smA K "Region" "empty")
  c_of : ClX.CMet K (RG K) (.type "type") "of" (mA K "Region" "of") (cmA K "Region" "of")
  m_or : OpM K (RG K) "__or__" (mA K "Region" "__or__")
  m_invert : OpM K (RG K) "__invert__" (mA K "Region" "__invert__")
  m_and : OpM K (RG K) "__and__" (mA K "Region" "__and__")
  m_sub : OpM K (RG K) "__sub__" (mA K "Region" "__sub__")
  m_add : OpM K (RG K) "__add__" (mA K "Region" "__add__")
  t_add : OpT K "add"
  m_bool : OpM K (RG K) "__bool__" (mA K "Region" "__bool__")
  p_is_bounded : PropOf K (RG K) "is_bounded" (mA K "Region" "is_bounded") (propA K "Region" "is_bounded")
  o_list : Oth K (RG K) "list"
  o_str : Oth K (RG K) "str"
theorem RegR.f {K : Fg} {mg : Str → Option Value} (R : RegR K mg) : RegF K := ⟨R.ct, R.n1, R.n2⟩
section
variable {P : Program} {w : World} {K : Fg} {mg : Str → Option Value} {base : Heap} {f : Addr} {fd : FuncData}
abbrev s_l_pool : Stmt := top 43
abbrev N_l_pool : List Str := ["_law_script", "_law_k", "_law_cell", "_law_seed"]
theorem sc_l_pool : FnScope N_l_pool ["_law_script", "_law_k"] (defScope s_l_pool) := ⟨rfl, rfl, rfl, by decide +kernel, rfl, by decide +kernel, by decide +kernel⟩
theorem has_l_pool  (F : FnQ K "_law_pool" "_law_pool" s_l_pool f fd) (hm : mg "_law_pool" = some (.ref f)) (M : Md mg) (R : RegR K mg) : HasR P w K mg base CX0 1 "_law_pool" (sp_l_pool K) := by
  refine hasR_of F hm sc_l_pool (fun fd' F' => F'.bindsN fun _ _ _ _ _ _ us hl => match us, hl with | [_, _], _ => rfl) len_l_pool (fun cdv A outer s H vs Q E hr h => ⟨t_l_pool K, PSs.nox ?_, pure_l_pool vs H Q E h⟩)
  have nd := sc_l_pool.nd
  exact (pss_cons (ps_set (i := 2) nd rfl (Or.inl rfl) pe_int)
  (pss_cons (ps_if (pt_cmpR op_lt (pv 1) (pe_callB call_lenX (by rfl) M.b_len (by decide +kernel) (pa_cons (pv 0) pa_nil)) (nomark _))
  (pss_one (ps_set (i := 2) nd rfl (Or.inl rfl) (pe_ix ix_seq (pv 0) (pv 1) (fun _ _ => rfl))))
  pss_nil)
  (pss_cons (ps_set (i := 3) nd rfl (Or.inl rfl) (pe_op op_mod (pe_op op_mulW (pe_op op_addX (pe_op op_addX (pe_op op_mod (pv 2) pe_int) (pe_op op_mulW (pe_op op_mulW pe_int (pv 1)) (pv 1))) pe_int) pe_int) pe_int))
  (pss_cons (ps_if (pt_cmpR op_lt (pv 2) (pe_op op_pow pe_int pe_int) (nomark _))
  (pss_one (ps_set (i := 2) nd rfl (Or.inl rfl) pe_int))
  pss_nil)
  (pss_one (ps_ret (pe_lst (pa_cons (pv 2) (pa_cons (pe_op op_addX (pe_op op_mod (pe_op op_mulW (pv 3) (pv 3)) pe_int) pe_int) pa_nil)))))))))

abbrev s_l_take : Stmt := top 44
abbrev N_l_take : List Str := ["_law_pool_here", "_law_sides", "_law_found"]
theorem sc_l_take : FnScope N_l_take ["_law_pool_here", "_law_sides"] (defScope s_l_take) := ⟨rfl, rfl, rfl, by decide +kernel, rfl, by decide +kernel, by decide +kernel⟩
theorem has_l_take  (F : FnQ K "_law_take" "_law_take" s_l_take f fd) (hm : mg "_law_take" = some (.ref f)) (M : Md mg) (R : RegR K mg) : HasR P w K mg base CX0 1 "_law_take" sp_l_take := by
  refine hasR_of F hm sc_l_take (fun fd' F' => F'.bindsN fun _ _ _ _ _ _ us hl => match us, hl with | [_, _], _ => rfl) len_l_take (fun cdv A outer s H vs Q E hr h => ⟨t_l_take K, PSs.nox ?_, pure_l_take vs H Q E h⟩)
  have nd := sc_l_take.nd
  exact (pss_cons (ps_if (pt_cmpR op_gt (pe_ix ix_seq (pv 0) pe_int (fun _ _ => rfl)) pe_int (nomark _))
  (pss_cons (ps_set (i := 2) nd rfl (Or.inl rfl) (pe_op op_mod (pe_ix ix_seq (pv 0) pe_int (fun _ _ => rfl)) (pv 1)))
  (pss_cons (ps_asg (pe_op op_fdivW (pe_ix ix_seq (pv 0) pe_int (fun _ _ => rfl)) (pv 1)) (pg_sub (pv 0) pe_int set_list))
  (pss_one (ps_ret (pv 2)))))
  pss_nil)
  (pss_cons (ps_asg (pe_op op_mod (pe_op op_addX (pe_op op_mulW (pe_ix ix_seq (pv 0) pe_int (fun _ _ => rfl)) pe_int) pe_int) pe_int) (pg_sub (pv 0) pe_int set_list))
  (pss_one (ps_ret (pe_op op_mod (pe_op op_fdivW (pe_op op_mod (pe_op op_mulW (pe_ix ix_seq (pv 0) pe_int (fun _ _ => rfl)) (pe_ix ix_seq (pv 0) pe_int (fun _ _ => rfl))) pe_int) pe_int) (pv 1))))))

abbrev s_l_lines : Stmt := top 45
abbrev N_l_lines : List Str := ["_law_pool_here", "_law_many", "_law_sort", "_law_found", "_law_jump"]
theorem sc_l_lines : FnScope N_l_lines ["_law_pool_here", "_law_many"] (defScope s_l_lines) := ⟨rfl, rfl, rfl, by decide +kernel, rfl, by decide +kernel, by decide +kernel⟩
theorem has_l_lines (h_l_take : HasR P w K mg base CX0 1 "_law_take" sp_l_take) (F : FnQ K "_law_lines" "_law_lines" s_l_lines f fd) (hm : mg "_law_lines" = some (.ref f)) (M : Md mg) (R : RegR K mg) : HasR P w K mg base CX0 2 "_law_lines" sp_l_lines := by
  refine hasR_of F hm sc_l_lines (fun fd' F' => F'.bindsN fun _ _ _ _ _ _ us hl => match us, hl with | [_, _], _ => rfl) len_l_lines (fun cdv A outer s H vs Q E hr h => ⟨t_l_lines K, PSs.nox ?_, pure_l_lines vs H Q E h⟩)
  have nd := sc_l_lines.nd
  exact (pss_cons (ps_set (i := 2) nd rfl (Or.inl rfl) (pe_callR h_l_take (hr.mono (by decide)) pass0 (by rfl) (pa_cons (pv 0) (pa_cons pe_int pa_nil))))
  (pss_cons (ps_set (i := 3) nd rfl (Or.inl rfl) (pe_lst (pa_cons (pe_ix ix_seq (pe_lst (pa_cons pe_int (pa_cons pe_int (pa_cons (pe_un un_neg pe_int) (pa_cons (pe_op op_sub pe_int (pe_op op_mulW (pe_callR h_l_take (hr.mono (by decide)) pass0 (by rfl) (pa_cons (pv 0) (pa_cons (pe_op op_pow pe_int pe_int) pa_nil))) (pe_op op_pow pe_int pe_int))) pa_nil))))) (pv 2) (fun _ _ => rfl)) pa_nil)))
  (pss_cons (ps_while PassesOwn.never (pt_cmpR op_lt (pe_callB call_lenX (by rfl) M.b_len (by decide +kernel) (pa_cons (pv 3) pa_nil)) (pv 1) (nomark _))
  (pss_cons (ps_set (i := 4) nd rfl (Or.inl rfl) (pe_ix ix_seq (pe_lst (pa_cons pe_int (pa_cons (pe_op op_addX pe_int (pe_callR h_l_take (hr.mono (by decide)) pass0 (by rfl) (pa_cons (pv 0) (pa_cons pe_int pa_nil)))) (pa_cons pe_int (pa_cons (pe_op op_addX pe_int (pe_op op_mulW (pe_callR h_l_take (hr.mono (by decide)) pass0 (by rfl) (pa_cons (pv 0) (pa_cons (pe_op op_pow pe_int pe_int) pa_nil))) (pe_op op_pow pe_int pe_int))) pa_nil))))) (pv 2) (fun _ _ => rfl)))
  (pss_one (ps_expr (pe_bm PySem.F.plainAttrs_list PySem.F.slot_list_append PySem.F.type_list_append mt_append (pv 3) (pa_cons (pe_op op_addX (pe_ix ix_seq (pv 3) (pe_un un_neg pe_int) (fun _ _ => rfl)) (pv 4)) pa_nil))))))
  (pss_one (ps_ret (pv 3))))))

abbrev s_l_boxes : Stmt := top 46
abbrev N_l_boxes : List Str := ["_law_pool_here", "_law_xs", "_law_ys", "_law_most", "_law_found", "_law_turn", "_law_at", "_law_by", "_law_far", "_law_high"]
theorem sc_l_boxes : FnScope N_l_boxes ["_law_pool_here", "_law_xs", "_law_ys", "_law_most"] (defScope s_l_boxes) := ⟨rfl, rfl, rfl, by decide +kernel, rfl, by decide +kernel, by decide +kernel⟩
theorem has_l_boxes (h_l_take : HasR P w K mg base CX0 1 "_law_take" sp_l_take) (F : FnQ K "_law_boxes" "_law_boxes" s_l_boxes f fd) (hm : mg "_law_boxes" = some (.ref f)) (M : Md mg) (R : RegR K mg) : HasR P w K mg base CX0 2 "_law_boxes" sp_l_boxes := by
  refine hasR_of F hm sc_l_boxes (fun fd' F' => F'.bindsN fun _ _ _ _ _ _ us hl => match us, hl with | [_, _, _, _], _ => rfl) len_l_boxes (fun cdv A outer s H vs Q E hr h => ⟨t_l_boxes K, PSs.nox ?_, pure_l_boxes vs H Q E h⟩)
  have nd := sc_l_boxes.nd
  exact (pss_cons (ps_set (i := 4) nd rfl (Or.inl rfl) (pe_lst pa_nil))
  (pss_cons (ps_for PassesOwn.never rfl (pi_range1 (by rfl) M.b_range (pa_cons (pe_callR h_l_take (hr.mono (by decide)) pass0 (by rfl) (pa_cons (pv 0) (pa_cons (pe_op op_addX (pv 3) pe_int) pa_nil))) pa_nil)) (pg_name (i := 5) nd rfl (Or.inl rfl))
  (pss_cons (ps_par (i := 6) (j := 7) (by rfl) nd rfl rfl (by decide) rfl rfl (pa_cons (pe_callR h_l_take (hr.mono (by decide)) pass0 (by rfl) (pa_cons (pv 0) (pa_cons (pe_op op_sub (pe_callB call_lenX (by rfl) M.b_len (by decide +kernel) (pa_cons (pv 1) pa_nil)) pe_int) pa_nil))) (pa_cons (pe_callR h_l_take (hr.mono (by decide)) pass0 (by rfl) (pa_cons (pv 0) (pa_cons (pe_op op_sub (pe_callB call_lenX (by rfl) M.b_len (by decide +kernel) (pa_cons (pv 2) pa_nil)) pe_int) pa_nil))) pa_nil)) (by rfl))
  (pss_cons (ps_par (i := 8) (j := 9) (by rfl) nd rfl rfl (by decide) rfl rfl (pa_cons (pe_op op_addX (pe_op op_addX (pv 6) pe_int) (pe_callR h_l_take (hr.mono (by decide)) pass0 (by rfl) (pa_cons (pv 0) (pa_cons (pe_op op_sub (pe_op op_sub (pe_callB call_lenX (by rfl) M.b_len (by decide +kernel) (pa_cons (pv 1) pa_nil)) pe_int) (pv 6)) pa_nil)))) (pa_cons (pe_op op_addX (pe_op op_addX (pv 7) pe_int) (pe_callR h_l_take (hr.mono (by decide)) pass0 (by rfl) (pa_cons (pv 0) (pa_cons (pe_op op_sub (pe_op op_sub (pe_callB call_lenX (by rfl) M.b_len (by decide +kernel) (pa_cons (pv 2) pa_nil)) pe_int) (pv 7)) pa_nil)))) pa_nil)) (by rfl))
  (pss_one (ps_expr (pe_bm PySem.F.plainAttrs_list PySem.F.slot_list_append PySem.F.type_list_append mt_append (pv 4) (pa_cons (pe_tup (pa_cons (pe_ix ix_seq (pv 1) (pv 6) (fun _ _ => rfl)) (pa_cons (pe_ix ix_seq (pv 2) (pv 7) (fun _ _ => rfl)) (pa_cons (pe_ix ix_seq (pv 1) (pv 8) (fun _ _ => rfl)) (pa_cons (pe_ix ix_seq (pv 2) (pv 9) (fun _ _ => rfl)) pa_nil))))) pa_nil)))))))
  (pss_one (ps_ret (pv 4)))))

abbrev s_Region_init : Stmt := inClass (top 37) 0
abbrev N_Region_init : List Str := ["self", "form", "is_outside"]
theorem sc_Region_init : FnScope N_Region_init ["self", "form", "is_outside"] (defScope s_Region_init) := ⟨rfl, rfl, rfl, by decide +kernel, rfl, by decide +kernel, by decide +kernel⟩
theorem has_Region_init  (F : FnQ K "__init__" "Region.__init__" s_Region_init (mA K "Region" "__init__") fd) (M : Md mg) (R : RegR K mg) : FnR P w K mg base CX0 1 (mA K "Region" "__init__") (sp_init K) := by
  refine fnR_of F sc_Region_init ((fun fd' (F' : FnQ K "__init__" "Region.__init__" s_Region_init (mA K "Region" "__init__") fd') => F'.bindsN fun _ _ _ _ _ _ us hl => match us, hl with | [_, _, _], _ => rfl) fd F) len_Region_init (fun cdv A outer s H vs Q E hr h => ⟨t_Region_init K, PSs.nox ?_, pure_Region_init R.f vs H Q E h⟩)
  have nd := sc_Region_init.nd
  exact (pss_cons (ps_fld (pv 0) (pv 1) (by rfl))
  (pss_one (ps_fld (pv 0) (pv 2) (by rfl))))

abbrev s_Region_empty : Stmt := inClass (top 37) 2
abbrev N_Region_empty : List Str := []
theorem sc_Region_empty : FnScope N_Region_empty [] (defScope s_Region_empty) := ⟨rfl, rfl, rfl, by decide +kernel, rfl, by decide +kernel, by decide +kernel⟩
theorem has_Region_empty (h_Region_init : FnR P w K mg base CX0 1 (mA K "Region" "__init__") (sp_init K)) (F : FnQ K "empty" "Region.empty" s_Region_empty (smA K "Region" "empty") fd) (M : Md mg) (R : RegR K mg) : FnR P w K mg base CX0 3 (smA K "Region" "empty") (sp_empty K) := by
  refine fnR_of F sc_Region_empty ((fun fd' (F' : FnQ K "empty" "Region.empty" s_Region_empty (smA K "Region" "empty") fd') => F'.bindsN fun _ _ _ _ _ _ us hl => match us, hl with | [], _ => rfl) fd F) len_Region_empty (fun cdv A outer s H vs Q E hr h => ⟨t_Region_empty K, PSs.nox ?_, pure_Region_empty vs H Q E h⟩)
  have nd := sc_Region_empty.nd
  exact (pss_one (ps_ret (StX.pe_makeR R.mak h_Region_init (hr.mono (by decide)) (by rfl) R.g pass0 (pa_cons (pe_tup pa_nil) (pa_cons pe_bl pa_nil)))))

abbrev s_is_integer : Stmt := top 27
abbrev N_is_integer : List Str := ["thing"]
theorem sc_is_integer : FnScope N_is_integer ["thing"] (defScope s_is_integer) := ⟨rfl, rfl, rfl, by decide +kernel, rfl, by decide +kernel, by decide +kernel⟩
theorem has_is_integer  (F : FnQ K "is_integer" "is_integer" s_is_integer f fd) (hm : mg "is_integer" = some (.ref f)) (M : Md mg) (R : RegR K mg) : HasR P w K mg base CX0 1 "is_integer" sp_is_integer := by
  refine hasR_of F hm sc_is_integer (fun fd' F' => F'.bindsN fun _ _ _ _ _ _ us hl => match us, hl with | [_], _ => rfl) len_is_integer (fun cdv A outer s H vs Q E hr h => ⟨t_is_integer K, PSs.nox ?_, pure_is_integer vs H Q E h⟩)
  have nd := sc_is_integer.nd
  exact (pss_one (ps_ret (pe_and (pe_callB call_isi (by rfl) M.b_isinstance (by decide +kernel) (pa_cons (pv 0) (pa_cons (pe_bltn (v := .ty "int") (by rfl) M.b_int (by decide +kernel) rfl) pa_nil))) (pe_one (pe_not (pe_callB call_isi (by rfl) M.b_isinstance (by decide +kernel) (pa_cons (pv 0) (pa_cons (pe_bltn (v := .ty "bool") (by rfl) M.b_bool (by decide +kernel) rfl) pa_nil))))))))

abbrev s_are_integers : Stmt := top 28
abbrev N_are_integers : List Str := ["thing", "count", "number"]
theorem sc_are_integers : FnScope N_are_integers ["thing", "count"] (defScope s_are_integers) := ⟨rfl, rfl, rfl, by decide +kernel, rfl, by decide +kernel, by decide +kernel⟩
theorem has_are_integers (h_is_integer : HasR P w K mg base CX0 1 "is_integer" sp_is_integer) (F : FnQ K "are_integers" "are_integers" s_are_integers f fd) (hm : mg "are_integers" = some (.ref f)) (M : Md mg) (R : RegR K mg) : HasR P w K mg base CX0 2 "are_integers" sp_are_integers := by
  refine hasR_of F hm sc_are_integers (fun fd' F' => F'.bindsN fun _ _ _ _ _ _ us hl => match us, hl with | [_, _], _ => rfl) len_are_integers (fun cdv A outer s H vs Q E hr h => ⟨t_are_integers K, PSs.nox ?_, pure_are_integers vs H Q E h⟩)
  have nd := sc_are_integers.nd
  exact (pss_one (ps_ret (pe_and (pe_callB call_isi (by rfl) M.b_isinstance (by decide +kernel) (pa_cons (pv 0) (pa_cons (pe_bltn (v := .ty "tuple") (by rfl) M.b_tuple (by decide +kernel) rfl) pa_nil))) (pe_and (pe_cmpR (op_eqX hr.units) (pe_callB call_lenX (by rfl) M.b_len (by decide +kernel) (pa_cons (pv 0) pa_nil)) (pv 1) (nomark _)) (pe_one (pe_callB (cr_all rfl) (by rfl) M.b_all (by decide +kernel) (pa_cons (pe_lc (own := [("number", 2)]) (g := (gName 2)) (tt := tYes) rfl nd (pi_seq (pv 0)) (blkOk_by (own := [("number", 2)]) (N := N_are_integers) (sc := defScope s_are_integers) (by decide +kernel)) (fun _ _ _ _ _ => (pg_name (i := 2) nd rfl (Or.inl rfl))) (fun _ _ _ _ _ => pts_nil) (fun _ _ _ _ _ => (pe_callR h_is_integer (hr.mono (by decide)) pass0 (by rfl) (pa_cons (pv 2) pa_nil)))) pa_nil)))))))

abbrev s_is_box : Stmt := top 30
abbrev N_is_box : List Str := ["thing"]
theorem sc_is_box : FnScope N_is_box ["thing"] (defScope s_is_box) := ⟨rfl, rfl, rfl, by decide +kernel, rfl, by decide +kernel, by decide +kernel⟩
theorem has_is_box (h_are_integers : HasR P w K mg base CX0 2 "are_integers" sp_are_integers) (F : FnQ K "is_box" "is_box" s_is_box f fd) (hm : mg "is_box" = some (.ref f)) (M : Md mg) (R : RegR K mg) : HasR P w K mg base CX0 3 "is_box" sp_is_box := by
  refine hasR_of F hm sc_is_box (fun fd' F' => F'.bindsN fun _ _ _ _ _ _ us hl => match us, hl with | [_], _ => rfl) len_is_box (fun cdv A outer s H vs Q E hr h => ⟨t_is_box K, PSs.nox ?_, pure_is_box vs H Q E h⟩)
  have nd := sc_is_box.nd
  exact (pss_one (ps_ret (pe_and (pe_callR h_are_integers (hr.mono (by decide)) pass0 (by rfl) (pa_cons (pv 0) (pa_cons pe_int pa_nil))) (pe_and (pe_cmpR op_lt (pe_ix ix_seq (pv 0) pe_int (fun _ _ => rfl)) (pe_ix ix_seq (pv 0) pe_int (fun _ _ => rfl)) (nomark _)) (pe_one (pe_cmpR op_lt (pe_ix ix_seq (pv 0) pe_int (fun _ _ => rfl)) (pe_ix ix_seq (pv 0) pe_int (fun _ _ => rfl)) (nomark _)))))))

abbrev s_check_box : Stmt := top 32
abbrev N_check_box : List Str := ["box"]
theorem sc_check_box : FnScope N_check_box ["box"] (defScope s_check_box) := ⟨rfl, rfl, rfl, by decide +kernel, rfl, by decide +kernel, by decide +kernel⟩
theorem has_check_box (h_is_box : HasR P w K mg base CX0 3 "is_box" sp_is_box) (F : FnQ K "check_box" "check_box" s_check_box f fd) (hm : mg "check_box" = some (.ref f)) (M : Md mg) (R : RegR K mg) : HasR P w K mg base CX0 4 "check_box" sp_check_box := by
  refine hasR_of F hm sc_check_box (fun fd' F' => F'.bindsN fun _ _ _ _ _ _ us hl => match us, hl with | [_], _ => rfl) len_check_box (fun cdv A outer s H vs Q E hr h => ⟨t_check_box K, PSs.nox ?_, pure_check_box vs H Q E h⟩)
  have nd := sc_check_box.nd
  exact (pss_one (ps_if (pt_not (pt_val (pe_callR h_is_box (hr.mono (by decide)) pass0 (by rfl) (pa_cons (pv 0) pa_nil))))
  (pss_one ps_never)
  pss_nil))

abbrev s_merged : Stmt := top 9
abbrev N_merged : List Str := ["pairs", "found", "a", "b"]
theorem sc_merged : FnScope N_merged ["pairs"] (defScope s_merged) := ⟨rfl, rfl, rfl, by decide +kernel, rfl, by decide +kernel, by decide +kernel⟩
theorem has_merged  (F : FnQ K "merged" "merged" s_merged f fd) (hm : mg "merged" = some (.ref f)) (M : Md mg) (R : RegR K mg) : HasR P w K mg base CX0 1 "merged" sp_merged := by
  refine hasR_of F hm sc_merged (fun fd' F' => F'.bindsN fun _ _ _ _ _ _ us hl => match us, hl with | [_], _ => rfl) len_merged (fun cdv A outer s H vs Q E hr h => ⟨t_merged K, PSs.nox ?_, pure_merged vs H Q E h⟩)
  have nd := sc_merged.nd
  exact (pss_cons (ps_set (i := 1) nd rfl (Or.inl rfl) (pe_lst pa_nil))
  (pss_cons (ps_for PassesOwn.never rfl (pi_seq (pe_callB cr_sortedPO (by rfl) M.b_sorted (by decide +kernel) (pa_cons (pv 0) pa_nil))) (pg_tup rfl (pgs_cons (pg_name (i := 2) nd rfl (Or.inl rfl)) (pgs_cons (pg_name (i := 3) nd rfl (Or.inl rfl)) pgs_nil)))
  (pss_one (ps_if (PW.pt (pw_and (pt_cmpR (op_neX hr.units) (pv 1) (pe_lst pa_nil) (nomark _)) (pw_and1 (pt_cmpR op_le (pv 2) (pe_ix ix_seq (pe_ix ix_seq (pv 1) (pe_un un_neg pe_int) (fun _ _ => rfl)) pe_int (fun _ _ => rfl)) (nomark _)))))
  (pss_one (ps_asg (pe_tup (pa_cons (pe_ix ix_seq (pe_ix ix_seq (pv 1) (pe_un un_neg pe_int) (fun _ _ => rfl)) pe_int (fun _ _ => rfl)) (pa_cons (pe_callB (call_max2' rfl) (by rfl) M.b_max (by decide +kernel) (pa_cons (pv 3) (pa_cons (pe_ix ix_seq (pe_ix ix_seq (pv 1) (pe_un un_neg pe_int) (fun _ _ => rfl)) pe_int (fun _ _ => rfl)) pa_nil))) pa_nil))) (pg_sub (pv 1) (pe_un un_neg pe_int) set_list)))
  (pss_one (ps_expr (pe_bm PySem.F.plainAttrs_list PySem.F.slot_list_append PySem.F.type_list_append mt_append (pv 1) (pa_cons (pe_tup (pa_cons (pv 2) (pa_cons (pv 3) pa_nil))) pa_nil)))))))
  (pss_one (ps_ret (pe_callTy call_tupX (by rfl) M.b_tuple (by decide +kernel) (pa_cons (pv 1) pa_nil))))))

abbrev s_tidy : Stmt := top 16
abbrev N_tidy : List Str := ["slabs", "found", "x1", "x2", "spans"]
theorem sc_tidy : FnScope N_tidy ["slabs"] (defScope s_tidy) := ⟨rfl, rfl, rfl, by decide +kernel, rfl, by decide +kernel, by decide +kernel⟩
theorem has_tidy  (F : FnQ K "tidy" "tidy" s_tidy f fd) (hm : mg "tidy" = some (.ref f)) (M : Md mg) (R : RegR K mg) : HasR P w K mg base CX0 1 "tidy" sp_tidy := by
  refine hasR_of F hm sc_tidy (fun fd' F' => F'.bindsN fun _ _ _ _ _ _ us hl => match us, hl with | [_], _ => rfl) len_tidy (fun cdv A outer s H vs Q E hr h => ⟨t_tidy K, PSs.nox ?_, pure_tidy vs H Q E h⟩)
  have nd := sc_tidy.nd
  exact (pss_cons (ps_set (i := 1) nd rfl (Or.inl rfl) (pe_lst pa_nil))
  (pss_cons (ps_for PassesOwn.never rfl (pi_seq (pv 0)) (pg_tup rfl (pgs_cons (pg_name (i := 2) nd rfl (Or.inl rfl)) (pgs_cons (pg_name (i := 3) nd rfl (Or.inl rfl)) (pgs_cons (pg_name (i := 4) nd rfl (Or.inl rfl)) pgs_nil))))
  (pss_one (ps_if (PW.pt (pw_and (pt_cmpR (op_neX hr.units) (pv 1) (pe_lst pa_nil) (nomark _)) (pw_and (pt_cmpR (op_eqX hr.units) (pe_ix ix_seq (pe_ix ix_seq (pv 1) (pe_un un_neg pe_int) (fun _ _ => rfl)) pe_int (fun _ _ => rfl)) (pv 2) (nomark _)) (pw_and1 (pt_cmpR (op_eqX hr.units) (pe_ix ix_seq (pe_ix ix_seq (pv 1) (pe_un un_neg pe_int) (fun _ _ => rfl)) pe_int (fun _ _ => rfl)) (pv 4) (nomark _))))))
  (pss_one (ps_asg (pe_tup (pa_cons (pe_ix ix_seq (pe_ix ix_seq (pv 1) (pe_un un_neg pe_int) (fun _ _ => rfl)) pe_int (fun _ _ => rfl)) (pa_cons (pv 3) (pa_cons (pv 4) pa_nil)))) (pg_sub (pv 1) (pe_un un_neg pe_int) set_list)))
  (pss_one (ps_if (pt_cmpR (op_neX hr.units) (pv 4) (pe_tup pa_nil) (nomark _))
  (pss_one (ps_expr (pe_bm PySem.F.plainAttrs_list PySem.F.slot_list_append PySem.F.type_list_append mt_append (pv 1) (pa_cons (pe_tup (pa_cons (pv 2) (pa_cons (pv 3) (pa_cons (pv 4) pa_nil)))) pa_nil))))
  pss_nil)))))
  (pss_one (ps_ret (pe_callTy call_tupX (by rfl) M.b_tuple (by decide +kernel) (pa_cons (pv 1) pa_nil))))))

abbrev s_slabs_of : Stmt := top 18
abbrev N_slabs_of : List Str := ["boxes", "cuts", "found", "a", "b", "spans", "x1", "y1", "x2", "y2", "x"]
theorem sc_slabs_of : FnScope N_slabs_of ["boxes"] (defScope s_slabs_of) := ⟨rfl, rfl, rfl, by decide +kernel, rfl, by decide +kernel, by decide +kernel⟩
theorem has_slabs_of (h_merged : HasR P w K mg base CX0 1 "merged" sp_merged) (h_tidy : HasR P w K mg base CX0 1 "tidy" sp_tidy) (F : FnQ K "slabs_of" "slabs_of" s_slabs_of f fd) (hm : mg "slabs_of" = some (.ref f)) (M : Md mg) (R : RegR K mg) : HasR P w K mg base CX0 2 "slabs_of" sp_slabs_of := by
  refine hasR_of F hm sc_slabs_of (fun fd' F' => F'.bindsN fun _ _ _ _ _ _ us hl => match us, hl with | [_], _ => rfl) len_slabs_of (fun cdv A outer s H vs Q E hr h => ⟨t_slabs_of K, PSs.nox ?_, pure_slabs_of vs H Q E h⟩)
  have nd := sc_slabs_of.nd
  exact (pss_cons (ps_set (i := 1) nd rfl (Or.inl rfl) (pe_sort2 (own := [("x1", 6), ("y1", 7), ("x2", 8), ("y2", 9), ("x", 10)]) M.b_sorted (by rfl) rfl (pe_sc2 (own := [("x1", 6), ("y1", 7), ("x2", 8), ("y2", 9), ("x", 10)]) (vs1 := [10]) (g := (gTup K 4 (gCons (gName 6) (gCons (gName 7) (gCons (gName 8) (gCons (gName 9) gNil)))))) (tt := tYes) (g1 := (gName 10)) (tt1 := tYes) rfl nd (pi_seq (pv 0)) (blkOk_by (own := [("x1", 6), ("y1", 7), ("x2", 8), ("y2", 9), ("x", 10)]) (N := N_slabs_of) (sc := defScope s_slabs_of) (by decide +kernel)) (by decide) (fun _ _ _ _ _ => (pg_tup rfl (pgs_cons (pg_name (i := 6) nd rfl (Or.inl rfl)) (pgs_cons (pg_name (i := 7) nd rfl (Or.inl rfl)) (pgs_cons (pg_name (i := 8) nd rfl (Or.inl rfl)) (pgs_cons (pg_name (i := 9) nd rfl (Or.inl rfl)) pgs_nil)))))) (fun _ _ _ _ _ => pts_nil) (fun _ _ _ _ _ => (pi_seq (pe_tup (pa_cons (pv 6) (pa_cons (pv 8) pa_nil))))) (fun _ _ _ _ _ => (pg_name (i := 10) nd rfl (Or.inl rfl))) (fun _ _ _ _ _ => pts_nil) (fun _ _ _ _ _ => (pv 10)))))
  (pss_cons (ps_set (i := 2) nd rfl (Or.inl rfl) (pe_lst pa_nil))
  (pss_cons (ps_for PassesOwn.never rfl (pi_zip (by rfl) M.b_zip (pa_cons (pv 1) (pa_cons (pe_slice sl_X (pv 1) (po_some pe_int) po_none) pa_nil))) (pg_tup rfl (pgs_cons (pg_name (i := 3) nd rfl (Or.inr rfl)) (pgs_cons (pg_name (i := 4) nd rfl (Or.inl rfl)) pgs_nil)))
  (pss_cons (ps_set (i := 5) nd rfl (Or.inl rfl) (pe_callR h_merged (hr.mono (by decide)) pass0 (by rfl) (pa_cons (pe_lc (own := [("x1", 6), ("y1", 7), ("x2", 8), ("y2", 9)]) (g := (gTup K 4 (gCons (gName 6) (gCons (gName 7) (gCons (gName 8) (gCons (gName 9) gNil)))))) (tt := (tTest (tChain rLeI rLtI (tVar 6) (tVar 3) (tVar 8)))) rfl nd (pi_seq (pv 0)) (blkOk_by (own := [("x1", 6), ("y1", 7), ("x2", 8), ("y2", 9)]) (N := N_slabs_of) (sc := defScope s_slabs_of) (by decide +kernel)) (fun _ _ _ _ _ => (pg_tup rfl (pgs_cons (pg_name (i := 6) nd rfl (Or.inl rfl)) (pgs_cons (pg_name (i := 7) nd rfl (Or.inl rfl)) (pgs_cons (pg_name (i := 8) nd rfl (Or.inl rfl)) (pgs_cons (pg_name (i := 9) nd rfl (Or.inl rfl)) pgs_nil)))))) (fun _ _ _ _ _ => (pts_one (pt_chain op_le op_lt (pv 6) (pv 3) (pv 8)))) (fun _ _ _ _ _ => (pe_tup (pa_cons (pv 7) (pa_cons (pv 9) pa_nil))))) pa_nil)))
  (pss_one (ps_expr (pe_bm PySem.F.plainAttrs_list PySem.F.slot_list_append PySem.F.type_list_append mt_append (pv 2) (pa_cons (pe_tup (pa_cons (pv 3) (pa_cons (pv 4) (pa_cons (pv 5) pa_nil)))) pa_nil))))))
  (pss_one (ps_ret (pe_callR h_tidy (hr.mono (by decide)) pass0 (by rfl) (pa_cons (pv 2) pa_nil)))))))

abbrev s_Region_of : Stmt := inClass (top 37) 1
abbrev N_Region_of : List Str := ["cls", "boxes", "box"]
theorem sc_Region_of : FnScope N_Region_of ["cls", "boxes"] (defScope s_Region_of) := ⟨rfl, rfl, rfl, by decide +kernel, rfl, by decide +kernel, by decide +kernel⟩
theorem has_Region_of (h_check_box : HasR P w K mg base CX0 4 "check_box" sp_check_box) (h_slabs_of : HasR P w K mg base CX0 2 "slabs_of" sp_slabs_of) (h_Region_init : FnR P w K mg base CX0 1 (mA K "Region" "__init__") (sp_init K)) (F : FnQ K "of" "Region.of" s_Region_of (cmA K "Region" "of") fd) (M : Md mg) (R : RegR K mg) : FnR P w K mg base CX0 5 (cmA K "Region" "of") (sp_of K) := by
  obtain ⟨oc, od, dV, kV, doc, pm, an, cdv, ct, osl, rfl, lk, hcd, hdv, _⟩ := F.ex
  obtain rfl : dV = .none := dfl_none hdv
  refine StX.fn_star (ps := ["cls"]) (pv := "boxes") (sp := (sp_of0 K)) lk hcd sc_Region_of StX.cxUp_none (StX.bind_star1 (B := fun us => bindArgs (PySem.W.fnOf _ _ (defArgs s_Region_of) (defBody s_Region_of) (defScope s_Region_of) .none kV doc pm an cdv ct) ⟨us, []⟩) (p1 := "cls") (pv := "boxes") (fun _ => by kernel_rfl) (fun _ _ _ => by kernel_rfl)) (fun A outer s H vs Q E hr h => ⟨t_Region_of K, PSs.nox ?_, pure_Region_of R.f vs H Q E h⟩)
  have nd := sc_Region_of.nd
  exact (pss_cons (ps_for PassesOwn.never rfl (pi_seq (pv 1)) (pg_name (i := 2) nd rfl (Or.inl rfl))
  (pss_one (ps_expr (pe_callR h_check_box (hr.mono (by decide)) pass0 (by rfl) (pa_cons (pv 2) pa_nil)))))
  (pss_one (ps_ret (pe_makeV (pv 0) R.mak h_Region_init (hr.mono (by decide)) pass0 (pa_cons (pe_callR h_slabs_of (hr.mono (by decide)) pass0 (by rfl) (pa_cons (pe_callTy call_listX (by rfl) M.b_list (by decide +kernel) (pa_cons (pv 1) pa_nil)) pa_nil)) (pa_cons pe_bl pa_nil))))))

abbrev s_check_region : Stmt := top 33
abbrev N_check_region : List Str := ["region"]
theorem sc_check_region : FnScope N_check_region ["region"] (defScope s_check_region) := ⟨rfl, rfl, rfl, by decide +kernel, rfl, by decide +kernel, by decide +kernel⟩
theorem has_check_region  (F : FnQ K "check_region" "check_region" s_check_region f fd) (hm : mg "check_region" = some (.ref f)) (M : Md mg) (R : RegR K mg) : HasR P w K mg base CX0 1 "check_region" (sp_check_region K) := by
  refine hasR_of F hm sc_check_region (fun fd' F' => F'.bindsN fun _ _ _ _ _ _ us hl => match us, hl with | [_], _ => rfl) len_check_region (fun cdv A outer s H vs Q E hr h => ⟨t_check_region K, PSs.nox ?_, pure_check_region R.f vs H Q E h⟩)
  have nd := sc_check_region.nd
  exact (pss_one (ps_if (pt_not (pt_val (pe_callB call_isi (by rfl) M.b_isinstance (by decide +kernel) (pa_cons (pv 0) (pa_cons (pe_glob (by rfl) R.g rfl) pa_nil)))))
  (pss_one ps_never)
  pss_nil))

abbrev s_cuts_of : Stmt := top 17
abbrev N_cuts_of : List Str := ["slabs", "x1", "x2", "spans", "x"]
theorem sc_cuts_of : FnScope N_cuts_of ["slabs"] (defScope s_cuts_of) := ⟨rfl, rfl, rfl, by decide +kernel, rfl, by decide +kernel, by decide +kernel⟩
theorem has_cuts_of  (F : FnQ K "cuts_of" "cuts_of" s_cuts_of f fd) (hm : mg "cuts_of" = some (.ref f)) (M : Md mg) (R : RegR K mg) : HasR P w K mg base CX0 1 "cuts_of" sp_cuts_of := by
  refine hasR_of F hm sc_cuts_of (fun fd' F' => F'.bindsN fun _ _ _ _ _ _ us hl => match us, hl with | [_], _ => rfl) len_cuts_of (fun cdv A outer s H vs Q E hr h => ⟨t_cuts_of K, PSs.nox ?_, pure_cuts_of vs H Q E h⟩)
  have nd := sc_cuts_of.nd
  exact (pss_one (ps_ret (pe_sort2 (own := [("x1", 1), ("x2", 2), ("spans", 3), ("x", 4)]) M.b_sorted (by rfl) rfl (pe_sc2 (own := [("x1", 1), ("x2", 2), ("spans", 3), ("x", 4)]) (vs1 := [4]) (g := (gTup K 3 (gCons (gName 1) (gCons (gName 2) (gCons (gName 3) gNil))))) (tt := tYes) (g1 := (gName 4)) (tt1 := tYes) rfl nd (pi_seq (pv 0)) (blkOk_by (own := [("x1", 1), ("x2", 2), ("spans", 3), ("x", 4)]) (N := N_cuts_of) (sc := defScope s_cuts_of) (by decide +kernel)) (by decide) (fun _ _ _ _ _ => (pg_tup rfl (pgs_cons (pg_name (i := 1) nd rfl (Or.inl rfl)) (pgs_cons (pg_name (i := 2) nd rfl (Or.inl rfl)) (pgs_cons (pg_name (i := 3) nd rfl (Or.inl rfl)) pgs_nil))))) (fun _ _ _ _ _ => pts_nil) (fun _ _ _ _ _ => (pi_seq (pe_tup (pa_cons (pv 1) (pa_cons (pv 2) pa_nil))))) (fun _ _ _ _ _ => (pg_name (i := 4) nd rfl (Or.inl rfl))) (fun _ _ _ _ _ => pts_nil) (fun _ _ _ _ _ => (pv 4))))))

abbrev s_spans_at : Stmt := top 15
abbrev N_spans_at : List Str := ["slabs", "x", "x1", "x2", "spans"]
theorem sc_spans_at : FnScope N_spans_at ["slabs", "x"] (defScope s_spans_at) := ⟨rfl, rfl, rfl, by decide +kernel, rfl, by decide +kernel, by decide +kernel⟩
theorem has_spans_at  (F : FnQ K "spans_at" "spans_at" s_spans_at f fd) (hm : mg "spans_at" = some (.ref f)) (M : Md mg) (R : RegR K mg) : HasR P w K mg base CX0 1 "spans_at" sp_spans_at := by
  refine hasR_of F hm sc_spans_at (fun fd' F' => F'.bindsN fun _ _ _ _ _ _ us hl => match us, hl with | [_, _], _ => rfl) len_spans_at (fun cdv A outer s H vs Q E hr h => ⟨t_spans_at K, PSs.nox ?_, pure_spans_at vs H Q E h⟩)
  have nd := sc_spans_at.nd
  exact (pss_cons (ps_for PassesOwn.never rfl (pi_seq (pv 0)) (pg_tup rfl (pgs_cons (pg_name (i := 2) nd rfl (Or.inl rfl)) (pgs_cons (pg_name (i := 3) nd rfl (Or.inl rfl)) (pgs_cons (pg_name (i := 4) nd rfl (Or.inl rfl)) pgs_nil))))
  (pss_one (ps_if (pt_chain op_le op_lt (pv 2) (pv 1) (pv 3))
  (pss_one (ps_ret (pv 4)))
  pss_nil)))
  (pss_one (ps_ret (pe_tup pa_nil))))

abbrev s_is_covered : Stmt := top 10
abbrev N_is_covered : List Str := ["spans", "number", "a", "b"]
theorem sc_is_covered : FnScope N_is_covered ["spans", "number"] (defScope s_is_covered) := ⟨rfl, rfl, rfl, by decide +kernel, rfl, by decide +kernel, by decide +kernel⟩
theorem has_is_covered  (F : FnQ K "is_covered" "is_covered" s_is_covered f fd) (hm : mg "is_covered" = some (.ref f)) (M : Md mg) (R : RegR K mg) : HasR P w K mg base CX0 1 "is_covered" sp_is_covered := by
  refine hasR_of F hm sc_is_covered (fun fd' F' => F'.bindsN fun _ _ _ _ _ _ us hl => match us, hl with | [_, _], _ => rfl) len_is_covered (fun cdv A outer s H vs Q E hr h => ⟨t_is_covered K, PSs.nox ?_, pure_is_covered vs H Q E h⟩)
  have nd := sc_is_covered.nd
  exact (pss_one (ps_ret (pe_callB (cr_any rfl) (by rfl) M.b_any (by decide +kernel) (pa_cons (pe_lc (own := [("a", 2), ("b", 3)]) (g := (gTup K 2 (gCons (gName 2) (gCons (gName 3) gNil)))) (tt := tYes) rfl nd (pi_seq (pv 0)) (blkOk_by (own := [("a", 2), ("b", 3)]) (N := N_is_covered) (sc := defScope s_is_covered) (by decide +kernel)) (fun _ _ _ _ _ => (pg_tup rfl (pgs_cons (pg_name (i := 2) nd rfl (Or.inl rfl)) (pgs_cons (pg_name (i := 3) nd rfl (Or.inl rfl)) pgs_nil)))) (fun _ _ _ _ _ => pts_nil) (fun _ _ _ _ _ => (pe_chain op_le op_lt (pv 2) (pv 1) (pv 3)))) pa_nil))))

abbrev s_is_wanted : Stmt := top 11
abbrev N_is_wanted : List Str := ["in_one", "in_other", "word"]
theorem sc_is_wanted : FnScope N_is_wanted ["in_one", "in_other", "word"] (defScope s_is_wanted) := ⟨rfl, rfl, rfl, by decide +kernel, rfl, by decide +kernel, by decide +kernel⟩
theorem has_is_wanted  (F : FnQ K "is_wanted" "is_wanted" s_is_wanted f fd) (hm : mg "is_wanted" = some (.ref f)) (M : Md mg) (R : RegR K mg) : HasR P w K mg base CX0 1 "is_wanted" sp_is_wanted := by
  refine hasR_of F hm sc_is_wanted (fun fd' F' => F'.bindsN fun _ _ _ _ _ _ us hl => match us, hl with | [_, _, _], _ => rfl) len_is_wanted (fun cdv A outer s H vs Q E hr h => ⟨t_is_wanted K, PSs.nox ?_, pure_is_wanted vs H Q E h⟩)
  have nd := sc_is_wanted.nd
  exact (pss_cons (ps_if (pt_cmpR (op_eqX hr.units) (pv 2) pe_str (nomark _))
  (pss_one (ps_ret (pe_or (pv 0) (pe_one (pv 1)))))
  pss_nil)
  (pss_cons (ps_if (pt_cmpR (op_eqX hr.units) (pv 2) pe_str (nomark _))
  (pss_one (ps_ret (pe_and (pv 0) (pe_one (pv 1)))))
  pss_nil)
  (pss_one (ps_ret (pe_ifExp (pt_cmpR (op_eqX hr.units) (pv 2) pe_str (nomark _)) (pe_cmpR (op_neX hr.units) (pv 0) (pv 1) (nomark _)) (pe_and (pv 0) (pe_one (pe_not (pv 1)))))))))

abbrev s_combined : Stmt := top 12
abbrev N_combined : List Str := ["one", "other", "word", "ends", "found", "a", "b", "span", "end"]
theorem sc_combined : FnScope N_combined ["one", "other", "word"] (defScope s_combined) := ⟨rfl, rfl, rfl, by decide +kernel, rfl, by decide +kernel, by decide +kernel⟩
theorem has_combined (h_is_covered : HasR P w K mg base CX0 1 "is_covered" sp_is_covered) (h_is_wanted : HasR P w K mg base CX0 1 "is_wanted" sp_is_wanted) (h_merged : HasR P w K mg base CX0 1 "merged" sp_merged) (F : FnQ K "combined" "combined" s_combined f fd) (hm : mg "combined" = some (.ref f)) (M : Md mg) (R : RegR K mg) : HasR P w K mg base CX0 2 "combined" sp_combined := by
  refine hasR_of F hm sc_combined (fun fd' F' => F'.bindsN fun _ _ _ _ _ _ us hl => match us, hl with | [_, _, _], _ => rfl) len_combined (fun cdv A outer s H vs Q E hr h => ⟨t_combined K, PSs.nox ?_, pure_combined vs H Q E h⟩)
  have nd := sc_combined.nd
  exact (pss_cons (ps_set (i := 3) nd rfl (Or.inl rfl) (pe_sort2 (own := [("span", 7), ("end", 8)]) M.b_sorted (by rfl) rfl (pe_sc2 (own := [("span", 7), ("end", 8)]) (vs1 := [8]) (g := (gName 7)) (tt := tYes) (g1 := (gName 8)) (tt1 := tYes) rfl nd (pi_seq (pe_op op_addX (pv 0) (pv 1))) (blkOk_by (own := [("span", 7), ("end", 8)]) (N := N_combined) (sc := defScope s_combined) (by decide +kernel)) (by decide) (fun _ _ _ _ _ => (pg_name (i := 7) nd rfl (Or.inl rfl))) (fun _ _ _ _ _ => pts_nil) (fun _ _ _ _ _ => (pi_seq (pv 7))) (fun _ _ _ _ _ => (pg_name (i := 8) nd rfl (Or.inl rfl))) (fun _ _ _ _ _ => pts_nil) (fun _ _ _ _ _ => (pv 8)))))
  (pss_cons (ps_set (i := 4) nd rfl (Or.inl rfl) (pe_lst pa_nil))
  (pss_cons (ps_for PassesOwn.never rfl (pi_zip (by rfl) M.b_zip (pa_cons (pv 3) (pa_cons (pe_slice sl_X (pv 3) (po_some pe_int) po_none) pa_nil))) (pg_tup rfl (pgs_cons (pg_name (i := 5) nd rfl (Or.inl rfl)) (pgs_cons (pg_name (i := 6) nd rfl (Or.inl rfl)) pgs_nil)))
  (pss_one (ps_if (pt_val (pe_callR h_is_wanted (hr.mono (by decide)) pass0 (by rfl) (pa_cons (pe_callR h_is_covered (hr.mono (by decide)) pass0 (by rfl) (pa_cons (pv 0) (pa_cons (pv 5) pa_nil))) (pa_cons (pe_callR h_is_covered (hr.mono (by decide)) pass0 (by rfl) (pa_cons (pv 1) (pa_cons (pv 5) pa_nil))) (pa_cons (pv 2) pa_nil)))))
  (pss_one (ps_expr (pe_bm PySem.F.plainAttrs_list PySem.F.slot_list_append PySem.F.type_list_append mt_append (pv 4) (pa_cons (pe_tup (pa_cons (pv 5) (pa_cons (pv 6) pa_nil))) pa_nil))))
  pss_nil)))
  (pss_one (ps_ret (pe_callR h_merged (hr.mono (by decide)) pass0 (by rfl) (pa_cons (pv 4) pa_nil)))))))

abbrev s_mixed : Stmt := top 20
abbrev N_mixed : List Str := ["one", "other", "word", "cuts", "found", "a", "b"]
theorem sc_mixed : FnScope N_mixed ["one", "other", "word"] (defScope s_mixed) := ⟨rfl, rfl, rfl, by decide +kernel, rfl, by decide +kernel, by decide +kernel⟩
theorem has_mixed (h_cuts_of : HasR P w K mg base CX0 1 "cuts_of" sp_cuts_of) (h_spans_at : HasR P w K mg base CX0 1 "spans_at" sp_spans_at) (h_combined : HasR P w K mg base CX0 2 "combined" sp_combined) (h_tidy : HasR P w K mg base CX0 1 "tidy" sp_tidy) (F : FnQ K "mixed" "mixed" s_mixed f fd) (hm : mg "mixed" = some (.ref f)) (M : Md mg) (R : RegR K mg) : HasR P w K mg base CX0 3 "mixed" sp_mixed := by
  refine hasR_of F hm sc_mixed (fun fd' F' => F'.bindsN fun _ _ _ _ _ _ us hl => match us, hl with | [_, _, _], _ => rfl) len_mixed (fun cdv A outer s H vs Q E hr h => ⟨t_mixed K, PSs.nox ?_, pure_mixed vs H Q E h⟩)
  have nd := sc_mixed.nd
  exact (pss_cons (ps_set (i := 3) nd rfl (Or.inl rfl) (pe_callR h_cuts_of (hr.mono (by decide)) pass0 (by rfl) (pa_cons (pe_op op_addX (pv 0) (pv 1)) pa_nil)))
  (pss_cons (ps_set (i := 4) nd rfl (Or.inl rfl) (pe_lst pa_nil))
  (pss_cons (ps_for PassesOwn.never rfl (pi_zip (by rfl) M.b_zip (pa_cons (pv 3) (pa_cons (pe_slice sl_X (pv 3) (po_some pe_int) po_none) pa_nil))) (pg_tup rfl (pgs_cons (pg_name (i := 5) nd rfl (Or.inl rfl)) (pgs_cons (pg_name (i := 6) nd rfl (Or.inl rfl)) pgs_nil)))
  (pss_one (ps_expr (pe_bm PySem.F.plainAttrs_list PySem.F.slot_list_append PySem.F.type_list_append mt_append (pv 4) (pa_cons (pe_tup (pa_cons (pv 5) (pa_cons (pv 6) (pa_cons (pe_callR h_combined (hr.mono (by decide)) pass0 (by rfl) (pa_cons (pe_callR h_spans_at (hr.mono (by decide)) pass0 (by rfl) (pa_cons (pv 0) (pa_cons (pv 5) pa_nil))) (pa_cons (pe_callR h_spans_at (hr.mono (by decide)) pass0 (by rfl) (pa_cons (pv 1) (pa_cons (pv 5) pa_nil))) (pa_cons (pv 2) pa_nil)))) pa_nil)))) pa_nil)))))
  (pss_one (ps_ret (pe_callR h_tidy (hr.mono (by decide)) pass0 (by rfl) (pa_cons (pv 4) pa_nil)))))))

abbrev s_united : Stmt := top 35
abbrev N_united : List Str := ["one", "other"]
theorem sc_united : FnScope N_united ["one", "other"] (defScope s_united) := ⟨rfl, rfl, rfl, by decide +kernel, rfl, by decide +kernel, by decide +kernel⟩
theorem has_united (h_mixed : HasR P w K mg base CX0 3 "mixed" sp_mixed) (h_Region_init : FnR P w K mg base CX0 1 (mA K "Region" "__init__") (sp_init K)) (F : FnQ K "united" "united" s_united f fd) (hm : mg "united" = some (.ref f)) (M : Md mg) (R : RegR K mg) : HasR P w K mg base CX0 4 "united" (sp_united K) := by
  refine hasR_of F hm sc_united (fun fd' F' => F'.bindsN fun _ _ _ _ _ _ us hl => match us, hl with | [_, _], _ => rfl) len_united (fun cdv A outer s H vs Q E hr h => ⟨t_united K, PSs.nox ?_, pure_united R.f vs H Q E h⟩)
  have nd := sc_united.nd
  exact (pss_cons (ps_if (PW.pt (pw_and (pt_val (pe_fld (pv 0) (by rfl))) (pw_and1 (pt_val (pe_fld (pv 1) (by rfl))))))
  (pss_one (ps_ret (StX.pe_makeR R.mak h_Region_init (hr.mono (by decide)) (by rfl) R.g pass0 (pa_cons (pe_callR h_mixed (hr.mono (by decide)) pass0 (by rfl) (pa_cons (pe_fld (pv 0) (by rfl)) (pa_cons (pe_fld (pv 1) (by rfl)) (pa_cons pe_str pa_nil)))) (pa_cons pe_bl pa_nil)))))
  pss_nil)
  (pss_cons (ps_if (pt_val (pe_fld (pv 0) (by rfl)))
  (pss_one (ps_ret (StX.pe_makeR R.mak h_Region_init (hr.mono (by decide)) (by rfl) R.g pass0 (pa_cons (pe_callR h_mixed (hr.mono (by decide)) pass0 (by rfl) (pa_cons (pe_fld (pv 0) (by rfl)) (pa_cons (pe_fld (pv 1) (by rfl)) (pa_cons pe_str pa_nil)))) (pa_cons pe_bl pa_nil)))))
  pss_nil)
  (pss_cons (ps_if (pt_val (pe_fld (pv 1) (by rfl)))
  (pss_one (ps_ret (StX.pe_makeR R.mak h_Region_init (hr.mono (by decide)) (by rfl) R.g pass0 (pa_cons (pe_callR h_mixed (hr.mono (by decide)) pass0 (by rfl) (pa_cons (pe_fld (pv 1) (by rfl)) (pa_cons (pe_fld (pv 0) (by rfl)) (pa_cons pe_str pa_nil)))) (pa_cons pe_bl pa_nil)))))
  pss_nil)
  (pss_one (ps_ret (StX.pe_makeR R.mak h_Region_init (hr.mono (by decide)) (by rfl) R.g pass0 (pa_cons (pe_callR h_mixed (hr.mono (by decide)) pass0 (by rfl) (pa_cons (pe_fld (pv 0) (by rfl)) (pa_cons (pe_fld (pv 1) (by rfl)) (pa_cons pe_str pa_nil)))) (pa_cons pe_bl pa_nil))))))))

abbrev s_Region_or : Stmt := inClass (top 37) 9
abbrev N_Region_or : List Str := ["self", "other"]
theorem sc_Region_or : FnScope N_Region_or ["self", "other"] (defScope s_Region_or) := ⟨rfl, rfl, rfl, by decide +kernel, rfl, by decide +kernel, by decide +kernel⟩
theorem has_Region_or (h_check_region : HasR P w K mg base CX0 1 "check_region" (sp_check_region K)) (h_united : HasR P w K mg base CX0 4 "united" (sp_united K)) (F : FnQ K "__or__" "Region.__or__" s_Region_or (mA K "Region" "__or__") fd) (M : Md mg) (R : RegR K mg) : FnR P w K mg base CX0 5 (mA K "Region" "__or__") (sp_or K) := by
  refine fnR_of F sc_Region_or ((fun fd' (F' : FnQ K "__or__" "Region.__or__" s_Region_or (mA K "Region" "__or__") fd') => F'.bindsN fun _ _ _ _ _ _ us hl => match us, hl with | [_, _], _ => rfl) fd F) len_Region_or (fun cdv A outer s H vs Q E hr h => ⟨t_Region_or K, PSs.nox ?_, pure_Region_or vs H Q E h⟩)
  have nd := sc_Region_or.nd
  exact (pss_cons (ps_expr (pe_callR h_check_region (hr.mono (by decide)) pass0 (by rfl) (pa_cons (pv 1) pa_nil)))
  (pss_one (ps_ret (pe_callR h_united (hr.mono (by decide)) pass0 (by rfl) (pa_cons (pv 0) (pa_cons (pv 1) pa_nil))))))

abbrev s_turned_out : Stmt := top 36
abbrev N_turned_out : List Str := ["region"]
theorem sc_turned_out : FnScope N_turned_out ["region"] (defScope s_turned_out) := ⟨rfl, rfl, rfl, by decide +kernel, rfl, by decide +kernel, by decide +kernel⟩
theorem has_turned_out (h_Region_init : FnR P w K mg base CX0 1 (mA K "Region" "__init__") (sp_init K)) (F : FnQ K "turned_out" "turned_out" s_turned_out f fd) (hm : mg "turned_out" = some (.ref f)) (M : Md mg) (R : RegR K mg) : HasR P w K mg base CX0 3 "turned_out" (sp_turned_out K) := by
  refine hasR_of F hm sc_turned_out (fun fd' F' => F'.bindsN fun _ _ _ _ _ _ us hl => match us, hl with | [_], _ => rfl) len_turned_out (fun cdv A outer s H vs Q E hr h => ⟨t_turned_out K, PSs.nox ?_, pure_turned_out R.f vs H Q E h⟩)
  have nd := sc_turned_out.nd
  exact (pss_one (ps_ret (StX.pe_makeR R.mak h_Region_init (hr.mono (by decide)) (by rfl) R.g pass0 (pa_cons (pe_fld (pv 0) (by rfl)) (pa_cons (pe_not (pe_fld (pv 0) (by rfl))) pa_nil)))))

abbrev s_Region_invert : Stmt := inClass (top 37) 13
abbrev N_Region_invert : List Str := ["self"]
theorem sc_Region_invert : FnScope N_Region_invert ["self"] (defScope s_Region_invert) := ⟨rfl, rfl, rfl, by decide +kernel, rfl, by decide +kernel, by decide +kernel⟩
theorem has_Region_invert (h_turned_out : HasR P w K mg base CX0 3 "turned_out" (sp_turned_out K)) (F : FnQ K "__invert__" "Region.__invert__" s_Region_invert (mA K "Region" "__invert__") fd) (M : Md mg) (R : RegR K mg) : FnR P w K mg base CX0 4 (mA K "Region" "__invert__") (sp_invert K) := by
  refine fnR_of F sc_Region_invert ((fun fd' (F' : FnQ K "__invert__" "Region.__invert__" s_Region_invert (mA K "Region" "__invert__") fd') => F'.bindsN fun _ _ _ _ _ _ us hl => match us, hl with | [_], _ => rfl) fd F) len_Region_invert (fun cdv A outer s H vs Q E hr h => ⟨t_Region_invert K, PSs.nox ?_, pure_Region_invert vs H Q E h⟩)
  have nd := sc_Region_invert.nd
  exact (pss_one (ps_ret (pe_callR h_turned_out (hr.mono (by decide)) pass0 (by rfl) (pa_cons (pv 0) pa_nil))))

abbrev s_l_made : Stmt := top 49
abbrev N_l_made : List Str := ["_law_boxes_here", "_law_is_out", "_law_found", "_law_box"]
theorem sc_l_made : FnScope N_l_made ["_law_boxes_here", "_law_is_out"] (defScope s_l_made) := ⟨rfl, rfl, rfl, by decide +kernel, rfl, by decide +kernel, by decide +kernel⟩
theorem has_l_made (h_Region_empty : FnR P w K mg base CX0 3 (smA K "Region" "empty") (sp_empty K)) (h_Region_of : FnR P w K mg base CX0 5 (cmA K "Region" "of") (sp_of K)) (h_Region_or : FnR P w K mg base CX0 5 (mA K "Region" "__or__") (sp_or K)) (h_Region_invert : FnR P w K mg base CX0 4 (mA K "Region" "__invert__") (sp_invert K)) (F : FnQ K "_law_made" "_law_made" s_l_made f fd) (hm : mg "_law_made" = some (.ref f)) (M : Md mg) (R : RegR K mg) : HasR P w K mg base CX0 6 "_law_made" (sp_l_made K) := by
  refine hasR_of F hm sc_l_made (fun fd' F' => F'.bindsN fun _ _ _ _ _ _ us hl => match us, hl with | [_, _], _ => rfl) len_l_made (fun cdv A outer s H vs Q E hr h => ⟨t_l_made K, PSs.nox ?_, pure_l_made vs H Q E h⟩)
  have nd := sc_l_made.nd
  exact (pss_cons (ps_set (i := 2) nd rfl (Or.inl rfl) (pe_stat0 (pe_glob (by rfl) R.g rfl) R.cread R.s_empty h_Region_empty (hr.mono (by decide)) pass0))
  (pss_cons (ps_for PassesOwn.never rfl (pi_seq (pv 0)) (pg_name (i := 3) nd rfl (Or.inl rfl))
  (pss_one (ps_set (i := 2) nd rfl (Or.inl rfl) (pe_op (op_own h_Region_or (hr.mono (by decide)) pass0 R.self1 R.m_or) (pv 2) (ClX.pe_cmeth (pe_glob (by rfl) R.g rfl) R.cread R.c_of h_Region_of (hr.mono (by decide)) pass0 (pa_cons (pv 3) pa_nil))))))
  (pss_one (ps_ret (pe_ifExp (pt_val (pv 1)) (pe_un (un_inv h_Region_invert (hr.mono (by decide)) pass0 R.m_invert) (pv 2)) (pv 2))))))

abbrev s_length : Stmt := top 13
abbrev N_length : List Str := ["spans", "a", "b"]
theorem sc_length : FnScope N_length ["spans"] (defScope s_length) := ⟨rfl, rfl, rfl, by decide +kernel, rfl, by decide +kernel, by decide +kernel⟩
theorem has_length  (F : FnQ K "length" "length" s_length f fd) (hm : mg "length" = some (.ref f)) (M : Md mg) (R : RegR K mg) : HasR P w K mg base CX0 1 "length" (sp_length K) := by
  refine hasR_of F hm sc_length (fun fd' F' => F'.bindsN fun _ _ _ _ _ _ us hl => match us, hl with | [_], _ => rfl) len_length (fun cdv A outer s H vs Q E hr h => ⟨t_length K, PSs.nox ?_, pure_length vs H Q E h⟩)
  have nd := sc_length.nd
  exact (pss_one (ps_ret (pe_callB (cr_sum rfl) (by rfl) M.b_sum (by decide +kernel) (pa_cons (pe_lc (own := [("a", 1), ("b", 2)]) (g := (gTup K 2 (gCons (gName 1) (gCons (gName 2) gNil)))) (tt := tYes) rfl nd (pi_seq (pv 0)) (blkOk_by (own := [("a", 1), ("b", 2)]) (N := N_length) (sc := defScope s_length) (by decide +kernel)) (fun _ _ _ _ _ => (pg_tup rfl (pgs_cons (pg_name (i := 1) nd rfl (Or.inl rfl)) (pgs_cons (pg_name (i := 2) nd rfl (Or.inl rfl)) pgs_nil)))) (fun _ _ _ _ _ => pts_nil) (fun _ _ _ _ _ => (pe_op op_sub (pv 2) (pv 1)))) pa_nil))))

abbrev s_border_length : Stmt := top 39
abbrev N_border_length : List Str := ["region", "found", "x", "x1", "x2", "spans"]
theorem sc_border_length : FnScope N_border_length ["region"] (defScope s_border_length) := ⟨rfl, rfl, rfl, by decide +kernel, rfl, by decide +kernel, by decide +kernel⟩
theorem has_border_length (h_check_region : HasR P w K mg base CX0 1 "check_region" (sp_check_region K)) (h_cuts_of : HasR P w K mg base CX0 1 "cuts_of" sp_cuts_of) (h_spans_at : HasR P w K mg base CX0 1 "spans_at" sp_spans_at) (h_combined : HasR P w K mg base CX0 2 "combined" sp_combined) (h_length : HasR P w K mg base CX0 1 "length" (sp_length K)) (F : FnQ K "border_length" "border_length" s_border_length f fd) (hm : mg "border_length" = some (.ref f)) (M : Md mg) (R : RegR K mg) : HasR P w K mg base CX0 3 "border_length" (sp_border_length K) := by
  refine hasR_of F hm sc_border_length (fun fd' F' => F'.bindsN fun _ _ _ _ _ _ us hl => match us, hl with | [_], _ => rfl) len_border_length (fun cdv A outer s H vs Q E hr h => ⟨t_border_length K, PSs.nox ?_, pure_border_length R.f vs H Q E h⟩)
  have nd := sc_border_length.nd
  exact (pss_cons (ps_expr (pe_callR h_check_region (hr.mono (by decide)) pass0 (by rfl) (pa_cons (pv 0) pa_nil)))
  (pss_cons (ps_set (i := 1) nd rfl (Or.inl rfl) (pe_callB (cr_sum rfl) (by rfl) M.b_sum (by decide +kernel) (pa_cons (pe_lc (own := [("x1", 3), ("x2", 4), ("spans", 5)]) (g := (gTup K 3 (gCons (gName 3) (gCons (gName 4) (gCons (gName 5) gNil))))) (tt := tYes) rfl nd (pi_seq (pe_fld (pv 0) (by rfl))) (blkOk_by (own := [("x1", 3), ("x2", 4), ("spans", 5)]) (N := N_border_length) (sc := defScope s_border_length) (by decide +kernel)) (fun _ _ _ _ _ => (pg_tup rfl (pgs_cons (pg_name (i := 3) nd rfl (Or.inl rfl)) (pgs_cons (pg_name (i := 4) nd rfl (Or.inl rfl)) (pgs_cons (pg_name (i := 5) nd rfl (Or.inl rfl)) pgs_nil))))) (fun _ _ _ _ _ => pts_nil) (fun _ _ _ _ _ => (pe_op op_mulW (pe_op op_mulW pe_int (pe_callB call_lenX (by rfl) M.b_len (by decide +kernel) (pa_cons (pv 5) pa_nil))) (pe_op op_sub (pv 4) (pv 3))))) pa_nil)))
  (pss_cons (ps_for PassesOwn.never rfl (pi_seq (pe_callR h_cuts_of (hr.mono (by decide)) pass0 (by rfl) (pa_cons (pe_fld (pv 0) (by rfl)) pa_nil))) (pg_name (i := 2) nd rfl (Or.inl rfl))
  (pss_one (ps_aug (i := 1) nd rfl (Or.inl rfl) (pe_callR h_length (hr.mono (by decide)) pass0 (by rfl) (pa_cons (pe_callR h_combined (hr.mono (by decide)) pass0 (by rfl) (pa_cons (pe_callR h_spans_at (hr.mono (by decide)) pass0 (by rfl) (pa_cons (pe_fld (pv 0) (by rfl)) (pa_cons (pe_op op_sub (pv 2) pe_int) pa_nil))) (pa_cons (pe_callR h_spans_at (hr.mono (by decide)) pass0 (by rfl) (pa_cons (pe_fld (pv 0) (by rfl)) (pa_cons (pv 2) pa_nil))) (pa_cons pe_str pa_nil)))) pa_nil)) ip_add)))
  (pss_one (ps_ret (pv 1))))))

abbrev s_Region_and : Stmt := inClass (top 37) 10
abbrev N_Region_and : List Str := ["self", "other"]
theorem sc_Region_and : FnScope N_Region_and ["self", "other"] (defScope s_Region_and) := ⟨rfl, rfl, rfl, by decide +kernel, rfl, by decide +kernel, by decide +kernel⟩
theorem has_Region_and (h_check_region : HasR P w K mg base CX0 1 "check_region" (sp_check_region K)) (h_turned_out : HasR P w K mg base CX0 3 "turned_out" (sp_turned_out K)) (h_united : HasR P w K mg base CX0 4 "united" (sp_united K)) (F : FnQ K "__and__" "Region.__and__" s_Region_and (mA K "Region" "__and__") fd) (M : Md mg) (R : RegR K mg) : FnR P w K mg base CX0 5 (mA K "Region" "__and__") (sp_and K) := by
  refine fnR_of F sc_Region_and ((fun fd' (F' : FnQ K "__and__" "Region.__and__" s_Region_and (mA K "Region" "__and__") fd') => F'.bindsN fun _ _ _ _ _ _ us hl => match us, hl with | [_, _], _ => rfl) fd F) len_Region_and (fun cdv A outer s H vs Q E hr h => ⟨t_Region_and K, PSs.nox ?_, pure_Region_and vs H Q E h⟩)
  have nd := sc_Region_and.nd
  exact (pss_cons (ps_expr (pe_callR h_check_region (hr.mono (by decide)) pass0 (by rfl) (pa_cons (pv 1) pa_nil)))
  (pss_one (ps_ret (pe_callR h_turned_out (hr.mono (by decide)) pass0 (by rfl) (pa_cons (pe_callR h_united (hr.mono (by decide)) pass0 (by rfl) (pa_cons (pe_callR h_turned_out (hr.mono (by decide)) pass0 (by rfl) (pa_cons (pv 0) pa_nil)) (pa_cons (pe_callR h_turned_out (hr.mono (by decide)) pass0 (by rfl) (pa_cons (pv 1) pa_nil)) pa_nil))) pa_nil)))))

abbrev s_Region_sub : Stmt := inClass (top 37) 11
abbrev N_Region_sub : List Str := ["self", "other"]
theorem sc_Region_sub : FnScope N_Region_sub ["self", "other"] (defScope s_Region_sub) := ⟨rfl, rfl, rfl, by decide +kernel, rfl, by decide +kernel, by decide +kernel⟩
theorem has_Region_sub (h_check_region : HasR P w K mg base CX0 1 "check_region" (sp_check_region K)) (h_turned_out : HasR P w K mg base CX0 3 "turned_out" (sp_turned_out K)) (h_united : HasR P w K mg base CX0 4 "united" (sp_united K)) (F : FnQ K "__sub__" "Region.__sub__" s_Region_sub (mA K "Region" "__sub__") fd) (M : Md mg) (R : RegR K mg) : FnR P w K mg base CX0 5 (mA K "Region" "__sub__") (sp_sub K) := by
  refine fnR_of F sc_Region_sub ((fun fd' (F' : FnQ K "__sub__" "Region.__sub__" s_Region_sub (mA K "Region" "__sub__") fd') => F'.bindsN fun _ _ _ _ _ _ us hl => match us, hl with | [_, _], _ => rfl) fd F) len_Region_sub (fun cdv A outer s H vs Q E hr h => ⟨t_Region_sub K, PSs.nox ?_, pure_Region_sub vs H Q E h⟩)
  have nd := sc_Region_sub.nd
  exact (pss_cons (ps_expr (pe_callR h_check_region (hr.mono (by decide)) pass0 (by rfl) (pa_cons (pv 1) pa_nil)))
  (pss_one (ps_ret (pe_callR h_turned_out (hr.mono (by decide)) pass0 (by rfl) (pa_cons (pe_callR h_united (hr.mono (by decide)) pass0 (by rfl) (pa_cons (pe_callR h_turned_out (hr.mono (by decide)) pass0 (by rfl) (pa_cons (pv 0) pa_nil)) (pa_cons (pv 1) pa_nil))) pa_nil)))))

abbrev s_opposite : Stmt := top 23
abbrev N_opposite : List Str := ["box"]
theorem sc_opposite : FnScope N_opposite ["box"] (defScope s_opposite) := ⟨rfl, rfl, rfl, by decide +kernel, rfl, by decide +kernel, by decide +kernel⟩
theorem has_opposite  (F : FnQ K "opposite" "opposite" s_opposite f fd) (hm : mg "opposite" = some (.ref f)) (M : Md mg) (R : RegR K mg) : HasR P w K mg base CX0 1 "opposite" sp_opposite := by
  refine hasR_of F hm sc_opposite (fun fd' F' => F'.bindsN fun _ _ _ _ _ _ us hl => match us, hl with | [_], _ => rfl) len_opposite (fun cdv A outer s H vs Q E hr h => ⟨t_opposite K, PSs.nox ?_, pure_opposite vs H Q E h⟩)
  have nd := sc_opposite.nd
  exact (pss_one (ps_ret (pe_tup (pa_cons (pe_op op_sub pe_int (pe_ix ix_seq (pv 0) pe_int (fun _ _ => rfl))) (pa_cons (pe_op op_sub pe_int (pe_ix ix_seq (pv 0) pe_int (fun _ _ => rfl))) (pa_cons (pe_op op_sub pe_int (pe_ix ix_seq (pv 0) pe_int (fun _ _ => rfl))) (pa_cons (pe_op op_sub pe_int (pe_ix ix_seq (pv 0) pe_int (fun _ _ => rfl))) pa_nil)))))))

abbrev s_boxes_of : Stmt := top 19
abbrev N_boxes_of : List Str := ["slabs", "x1", "x2", "spans", "y1", "y2"]
theorem sc_boxes_of : FnScope N_boxes_of ["slabs"] (defScope s_boxes_of) := ⟨rfl, rfl, rfl, by decide +kernel, rfl, by decide +kernel, by decide +kernel⟩
theorem has_boxes_of  (F : FnQ K "boxes_of" "boxes_of" s_boxes_of f fd) (hm : mg "boxes_of" = some (.ref f)) (M : Md mg) (R : RegR K mg) : HasR P w K mg base CX0 1 "boxes_of" sp_boxes_of := by
  refine hasR_of F hm sc_boxes_of (fun fd' F' => F'.bindsN fun _ _ _ _ _ _ us hl => match us, hl with | [_], _ => rfl) len_boxes_of (fun cdv A outer s H vs Q E hr h => ⟨t_boxes_of K, PSs.nox ?_, pure_boxes_of vs H Q E h⟩)
  have nd := sc_boxes_of.nd
  exact (pss_one (ps_ret (pe_lc2 (own := [("x1", 1), ("x2", 2), ("spans", 3), ("y1", 4), ("y2", 5)]) (vs1 := [4, 5]) (g := (gTup K 3 (gCons (gName 1) (gCons (gName 2) (gCons (gName 3) gNil))))) (tt := tYes) (g1 := (gTup K 2 (gCons (gName 4) (gCons (gName 5) gNil)))) (tt1 := tYes) rfl nd (pi_seq (pv 0)) (blkOk_by (own := [("x1", 1), ("x2", 2), ("spans", 3), ("y1", 4), ("y2", 5)]) (N := N_boxes_of) (sc := defScope s_boxes_of) (by decide +kernel)) (by decide) (fun _ _ _ _ _ => (pg_tup rfl (pgs_cons (pg_name (i := 1) nd rfl (Or.inl rfl)) (pgs_cons (pg_name (i := 2) nd rfl (Or.inl rfl)) (pgs_cons (pg_name (i := 3) nd rfl (Or.inl rfl)) pgs_nil))))) (fun _ _ _ _ _ => pts_nil) (fun _ _ _ _ _ => (pi_seq (pv 3))) (fun _ _ _ _ _ => (pg_tup rfl (pgs_cons (pg_name (i := 4) nd rfl (Or.inl rfl)) (pgs_cons (pg_name (i := 5) nd rfl (Or.inl rfl)) pgs_nil)))) (fun _ _ _ _ _ => pts_nil) (fun _ _ _ _ _ => (pe_tup (pa_cons (pv 1) (pa_cons (pv 4) (pa_cons (pv 2) (pa_cons (pv 5) pa_nil)))))))))

abbrev s_added_box : Stmt := top 22
abbrev N_added_box : List Str := ["box", "other"]
theorem sc_added_box : FnScope N_added_box ["box", "other"] (defScope s_added_box) := ⟨rfl, rfl, rfl, by decide +kernel, rfl, by decide +kernel, by decide +kernel⟩
theorem has_added_box  (F : FnQ K "added_box" "added_box" s_added_box f fd) (hm : mg "added_box" = some (.ref f)) (M : Md mg) (R : RegR K mg) : HasR P w K mg base CX0 1 "added_box" sp_added_box := by
  refine hasR_of F hm sc_added_box (fun fd' F' => F'.bindsN fun _ _ _ _ _ _ us hl => match us, hl with | [_, _], _ => rfl) len_added_box (fun cdv A outer s H vs Q E hr h => ⟨t_added_box K, PSs.nox ?_, pure_added_box vs H Q E h⟩)
  have nd := sc_added_box.nd
  exact (pss_one (ps_ret (pe_tup (pa_cons (pe_op op_addX (pe_ix ix_seq (pv 0) pe_int (fun _ _ => rfl)) (pe_ix ix_seq (pv 1) pe_int (fun _ _ => rfl))) (pa_cons (pe_op op_addX (pe_ix ix_seq (pv 0) pe_int (fun _ _ => rfl)) (pe_ix ix_seq (pv 1) pe_int (fun _ _ => rfl))) (pa_cons (pe_op op_sub (pe_op op_addX (pe_ix ix_seq (pv 0) pe_int (fun _ _ => rfl)) (pe_ix ix_seq (pv 1) pe_int (fun _ _ => rfl))) pe_int) (pa_cons (pe_op op_sub (pe_op op_addX (pe_ix ix_seq (pv 0) pe_int (fun _ _ => rfl)) (pe_ix ix_seq (pv 1) pe_int (fun _ _ => rfl))) pe_int) pa_nil)))))))

abbrev s_grown : Stmt := top 24
abbrev N_grown : List Str := ["slabs", "box", "one"]
theorem sc_grown : FnScope N_grown ["slabs", "box"] (defScope s_grown) := ⟨rfl, rfl, rfl, by decide +kernel, rfl, by decide +kernel, by decide +kernel⟩
theorem has_grown (h_boxes_of : HasR P w K mg base CX0 1 "boxes_of" sp_boxes_of) (h_added_box : HasR P w K mg base CX0 1 "added_box" sp_added_box) (h_slabs_of : HasR P w K mg base CX0 2 "slabs_of" sp_slabs_of) (F : FnQ K "grown" "grown" s_grown f fd) (hm : mg "grown" = some (.ref f)) (M : Md mg) (R : RegR K mg) : HasR P w K mg base CX0 3 "grown" sp_grown := by
  refine hasR_of F hm sc_grown (fun fd' F' => F'.bindsN fun _ _ _ _ _ _ us hl => match us, hl with | [_, _], _ => rfl) len_grown (fun cdv A outer s H vs Q E hr h => ⟨t_grown K, PSs.nox ?_, pure_grown vs H Q E h⟩)
  have nd := sc_grown.nd
  exact (pss_one (ps_ret (pe_callR h_slabs_of (hr.mono (by decide)) pass0 (by rfl) (pa_cons (pe_lc (own := [("one", 2)]) (g := (gName 2)) (tt := tYes) rfl nd (pi_seq (pe_callR h_boxes_of (hr.mono (by decide)) pass0 (by rfl) (pa_cons (pv 0) pa_nil))) (blkOk_by (own := [("one", 2)]) (N := N_grown) (sc := defScope s_grown) (by decide +kernel)) (fun _ _ _ _ _ => (pg_name (i := 2) nd rfl (Or.inl rfl))) (fun _ _ _ _ _ => pts_nil) (fun _ _ _ _ _ => (pe_callR h_added_box (hr.mono (by decide)) pass0 (by rfl) (pa_cons (pv 2) (pa_cons (pv 1) pa_nil))))) pa_nil))))

abbrev s_frame_of : Stmt := top 21
abbrev N_frame_of : List Str := ["slabs", "least", "greatest", "x1", "x2", "spans"]
theorem sc_frame_of : FnScope N_frame_of ["slabs"] (defScope s_frame_of) := ⟨rfl, rfl, rfl, by decide +kernel, rfl, by decide +kernel, by decide +kernel⟩
theorem has_frame_of  (F : FnQ K "frame_of" "frame_of" s_frame_of f fd) (hm : mg "frame_of" = some (.ref f)) (M : Md mg) (R : RegR K mg) : HasR P w K mg base CX0 1 "frame_of" sp_frame_of := by
  refine hasR_of F hm sc_frame_of (fun fd' F' => F'.bindsN fun _ _ _ _ _ _ us hl => match us, hl with | [_], _ => rfl) len_frame_of (fun cdv A outer s H vs Q E hr h => ⟨t_frame_of K, PSs.nox ?_, pure_frame_of vs H Q E h⟩)
  have nd := sc_frame_of.nd
  exact (pss_cons (ps_if (pt_cmpR (op_eqX hr.units) (pv 0) (pe_tup pa_nil) (nomark _))
  (pss_one (ps_ret pe_non))
  pss_nil)
  (pss_cons (ps_set (i := 1) nd rfl (Or.inl rfl) (pe_callB (cr_min rfl) (by rfl) M.b_min (by decide +kernel) (pa_cons (pe_lc (own := [("x1", 3), ("x2", 4), ("spans", 5)]) (g := (gTup K 3 (gCons (gName 3) (gCons (gName 4) (gCons (gName 5) gNil))))) (tt := tYes) rfl nd (pi_seq (pv 0)) (blkOk_by (own := [("x1", 3), ("x2", 4), ("spans", 5)]) (N := N_frame_of) (sc := defScope s_frame_of) (by decide +kernel)) (fun _ _ _ _ _ => (pg_tup rfl (pgs_cons (pg_name (i := 3) nd rfl (Or.inl rfl)) (pgs_cons (pg_name (i := 4) nd rfl (Or.inl rfl)) (pgs_cons (pg_name (i := 5) nd rfl (Or.inl rfl)) pgs_nil))))) (fun _ _ _ _ _ => pts_nil) (fun _ _ _ _ _ => (pe_ix ix_seq (pe_ix ix_seq (pv 5) pe_int (fun _ _ => rfl)) pe_int (fun _ _ => rfl)))) pa_nil)))
  (pss_cons (ps_set (i := 2) nd rfl (Or.inl rfl) (pe_callB (cr_max rfl) (by rfl) M.b_max (by decide +kernel) (pa_cons (pe_lc (own := [("x1", 3), ("x2", 4), ("spans", 5)]) (g := (gTup K 3 (gCons (gName 3) (gCons (gName 4) (gCons (gName 5) gNil))))) (tt := tYes) rfl nd (pi_seq (pv 0)) (blkOk_by (own := [("x1", 3), ("x2", 4), ("spans", 5)]) (N := N_frame_of) (sc := defScope s_frame_of) (by decide +kernel)) (fun _ _ _ _ _ => (pg_tup rfl (pgs_cons (pg_name (i := 3) nd rfl (Or.inl rfl)) (pgs_cons (pg_name (i := 4) nd rfl (Or.inl rfl)) (pgs_cons (pg_name (i := 5) nd rfl (Or.inl rfl)) pgs_nil))))) (fun _ _ _ _ _ => pts_nil) (fun _ _ _ _ _ => (pe_ix ix_seq (pe_ix ix_seq (pv 5) (pe_un un_neg pe_int) (fun _ _ => rfl)) pe_int (fun _ _ => rfl)))) pa_nil)))
  (pss_one (ps_ret (pe_tup (pa_cons (pe_ix ix_seq (pe_ix ix_seq (pv 0) pe_int (fun _ _ => rfl)) pe_int (fun _ _ => rfl)) (pa_cons (pv 1) (pa_cons (pe_ix ix_seq (pe_ix ix_seq (pv 0) (pe_un un_neg pe_int) (fun _ _ => rfl)) pe_int (fun _ _ => rfl)) (pa_cons (pv 2) pa_nil))))))))))

abbrev s_shrunk : Stmt := top 25
abbrev N_shrunk : List Str := ["slabs", "box", "corner", "places", "missing"]
theorem sc_shrunk : FnScope N_shrunk ["slabs", "box"] (defScope s_shrunk) := ⟨rfl, rfl, rfl, by decide +kernel, rfl, by decide +kernel, by decide +kernel⟩
theorem has_shrunk (h_grown : HasR P w K mg base CX0 3 "grown" sp_grown) (h_frame_of : HasR P w K mg base CX0 1 "frame_of" sp_frame_of) (h_added_box : HasR P w K mg base CX0 1 "added_box" sp_added_box) (h_slabs_of : HasR P w K mg base CX0 2 "slabs_of" sp_slabs_of) (h_mixed : HasR P w K mg base CX0 3 "mixed" sp_mixed) (h_opposite : HasR P w K mg base CX0 1 "opposite" sp_opposite) (F : FnQ K "shrunk" "shrunk" s_shrunk f fd) (hm : mg "shrunk" = some (.ref f)) (M : Md mg) (R : RegR K mg) : HasR P w K mg base CX0 4 "shrunk" sp_shrunk := by
  refine hasR_of F hm sc_shrunk (fun fd' F' => F'.bindsN fun _ _ _ _ _ _ us hl => match us, hl with | [_, _], _ => rfl) len_shrunk (fun cdv A outer s H vs Q E hr h => ⟨t_shrunk K, PSs.nox ?_, pure_shrunk vs H Q E h⟩)
  have nd := sc_shrunk.nd
  exact (pss_cons (ps_if (pt_cmpR (op_eqX hr.units) (pv 0) (pe_tup pa_nil) (nomark _))
  (pss_one (ps_ret (pe_tup pa_nil)))
  pss_nil)
  (pss_cons (ps_set (i := 2) nd rfl (Or.inl rfl) (pe_tup (pa_cons (pe_op op_sub pe_int (pe_ix ix_seq (pv 1) pe_int (fun _ _ => rfl))) (pa_cons (pe_op op_sub pe_int (pe_ix ix_seq (pv 1) pe_int (fun _ _ => rfl))) (pa_cons (pe_op op_sub pe_int (pe_ix ix_seq (pv 1) pe_int (fun _ _ => rfl))) (pa_cons (pe_op op_sub pe_int (pe_ix ix_seq (pv 1) pe_int (fun _ _ => rfl))) pa_nil))))))
  (pss_cons (ps_set (i := 3) nd rfl (Or.inl rfl) (pe_callR h_grown (hr.mono (by decide)) pass0 (by rfl) (pa_cons (pv 0) (pa_cons (pv 2) pa_nil))))
  (pss_cons (ps_set (i := 4) nd rfl (Or.inl rfl) (pe_callR h_mixed (hr.mono (by decide)) pass0 (by rfl) (pa_cons (pe_callR h_slabs_of (hr.mono (by decide)) pass0 (by rfl) (pa_cons (pe_lst (pa_cons (pe_callR h_added_box (hr.mono (by decide)) pass0 (by rfl) (pa_cons (pe_callR h_frame_of (hr.mono (by decide)) pass0 (by rfl) (pa_cons (pv 3) pa_nil)) (pa_cons (pv 1) pa_nil))) pa_nil)) pa_nil)) (pa_cons (pv 0) (pa_cons pe_str pa_nil)))))
  (pss_one (ps_ret (pe_callR h_mixed (hr.mono (by decide)) pass0 (by rfl) (pa_cons (pv 3) (pa_cons (pe_callR h_grown (hr.mono (by decide)) pass0 (by rfl) (pa_cons (pv 4) (pa_cons (pe_callR h_opposite (hr.mono (by decide)) pass0 (by rfl) (pa_cons (pv 1) pa_nil)) pa_nil))) (pa_cons pe_str pa_nil))))))))))

abbrev s_Region_add : Stmt := inClass (top 37) 14
abbrev N_Region_add : List Str := ["self", "box"]
theorem sc_Region_add : FnScope N_Region_add ["self", "box"] (defScope s_Region_add) := ⟨rfl, rfl, rfl, by decide +kernel, rfl, by decide +kernel, by decide +kernel⟩
theorem has_Region_add (h_check_box : HasR P w K mg base CX0 4 "check_box" sp_check_box) (h_opposite : HasR P w K mg base CX0 1 "opposite" sp_opposite) (h_shrunk : HasR P w K mg base CX0 4 "shrunk" sp_shrunk) (h_Region_init : FnR P w K mg base CX0 1 (mA K "Region" "__init__") (sp_init K)) (h_grown : HasR P w K mg base CX0 3 "grown" sp_grown) (F : FnQ K "__add__" "Region.__add__" s_Region_add (mA K "Region" "__add__") fd) (M : Md mg) (R : RegR K mg) : FnR P w K mg base CX0 5 (mA K "Region" "__add__") (sp_Region_add K) := by
  refine fnR_of F sc_Region_add ((fun fd' (F' : FnQ K "__add__" "Region.__add__" s_Region_add (mA K "Region" "__add__") fd') => F'.bindsN fun _ _ _ _ _ _ us hl => match us, hl with | [_, _], _ => rfl) fd F) len_Region_add (fun cdv A outer s H vs Q E hr h => ⟨t_Region_add K, PSs.nox ?_, pure_Region_add R.f vs H Q E h⟩)
  have nd := sc_Region_add.nd
  exact (pss_cons (ps_expr (pe_callR h_check_box (hr.mono (by decide)) pass0 (by rfl) (pa_cons (pv 1) pa_nil)))
  (pss_cons (ps_if (pt_val (pe_fld (pv 0) (by rfl)))
  (pss_one (ps_ret (StX.pe_makeR R.mak h_Region_init (hr.mono (by decide)) (by rfl) R.g pass0 (pa_cons (pe_callR h_shrunk (hr.mono (by decide)) pass0 (by rfl) (pa_cons (pe_fld (pv 0) (by rfl)) (pa_cons (pe_callR h_opposite (hr.mono (by decide)) pass0 (by rfl) (pa_cons (pv 1) pa_nil)) pa_nil))) (pa_cons pe_bl pa_nil)))))
  pss_nil)
  (pss_one (ps_ret (StX.pe_makeR R.mak h_Region_init (hr.mono (by decide)) (by rfl) R.g pass0 (pa_cons (pe_callR h_grown (hr.mono (by decide)) pass0 (by rfl) (pa_cons (pe_fld (pv 0) (by rfl)) (pa_cons (pv 1) pa_nil))) (pa_cons pe_bl pa_nil)))))))

abbrev s_Region_bool : Stmt := inClass (top 37) 17
abbrev N_Region_bool : List Str := ["self"]
theorem sc_Region_bool : FnScope N_Region_bool ["self"] (defScope s_Region_bool) := ⟨rfl, rfl, rfl, by decide +kernel, rfl, by decide +kernel, by decide +kernel⟩
theorem has_Region_bool  (F : FnQ K "__bool__" "Region.__bool__" s_Region_bool (mA K "Region" "__bool__") fd) (M : Md mg) (R : RegR K mg) : FnR P w K mg base CX0 1 (mA K "Region" "__bool__") (sp_bool K) := by
  refine fnR_of F sc_Region_bool ((fun fd' (F' : FnQ K "__bool__" "Region.__bool__" s_Region_bool (mA K "Region" "__bool__") fd') => F'.bindsN fun _ _ _ _ _ _ us hl => match us, hl with | [_], _ => rfl) fd F) len_Region_bool (fun cdv A outer s H vs Q E hr h => ⟨t_Region_bool K, PSs.nox ?_, pure_Region_bool R.f vs H Q E h⟩)
  have nd := sc_Region_bool.nd
  exact (pss_one (ps_ret (pe_callTy call_boolX (by rfl) M.b_bool (by decide +kernel) (pa_cons (pe_or (pe_fld (pv 0) (by rfl)) (pe_one (pe_cmpR op_gt (pe_callB call_lenX (by rfl) M.b_len (by decide +kernel) (pa_cons (pe_fld (pv 0) (by rfl)) pa_nil)) pe_int (nomark _)))) pa_nil))))

abbrev s_l_beside : Stmt := top 51
abbrev N_l_beside : List Str := ["_law_one", "_law_other", "_law_near"]
theorem sc_l_beside : FnScope N_l_beside ["_law_one", "_law_other"] (defScope s_l_beside) := ⟨rfl, rfl, rfl, by decide +kernel, rfl, by decide +kernel, by decide +kernel⟩
theorem has_l_beside (h_Region_add : FnR P w K mg base CX0 5 (mA K "Region" "__add__") (sp_Region_add K)) (h_Region_or : FnR P w K mg base CX0 5 (mA K "Region" "__or__") (sp_or K)) (h_Region_and : FnR P w K mg base CX0 5 (mA K "Region" "__and__") (sp_and K)) (h_Region_bool : FnR P w K mg base CX0 1 (mA K "Region" "__bool__") (sp_bool K)) (F : FnQ K "_law_beside" "_law_beside" s_l_beside f fd) (hm : mg "_law_beside" = some (.ref f)) (M : Md mg) (R : RegR K mg) : HasR P w K mg base CX0 6 "_law_beside" (sp_l_beside K) := by
  refine hasR_of F hm sc_l_beside (fun fd' F' => F'.bindsN fun _ _ _ _ _ _ us hl => match us, hl with | [_, _], _ => rfl) len_l_beside (fun cdv A outer s H vs Q E hr h => ⟨t_l_beside K, PSs.nox ?_, pure_l_beside vs H Q E h⟩)
  have nd := sc_l_beside.nd
  exact (pss_cons (ps_set (i := 2) nd rfl (Or.inl rfl) (pe_op (op_own h_Region_or (hr.mono (by decide)) pass0 R.self1 R.m_or) (pe_op (op_ownT h_Region_add (hr.mono (by decide)) pass0 R.self1 R.m_add R.t_add) (pv 0) (pe_tup (pa_cons (pe_un un_neg pe_int) (pa_cons pe_int (pa_cons pe_int (pa_cons pe_int pa_nil)))))) (pe_op (op_ownT h_Region_add (hr.mono (by decide)) pass0 R.self1 R.m_add R.t_add) (pv 0) (pe_tup (pa_cons pe_int (pa_cons (pe_un un_neg pe_int) (pa_cons pe_int (pa_cons pe_int pa_nil))))))))
  (pss_one (ps_ret (pe_callTy (call_boolO h_Region_bool (hr.mono (by decide)) pass0 R.m_bool) (by rfl) M.b_bool (by decide +kernel) (pa_cons (pe_op (op_own h_Region_and (hr.mono (by decide)) pass0 R.self1 R.m_and) (pv 2) (pv 1)) pa_nil)))))

abbrev s_Region_is_bounded : Stmt := inClass (top 37) 4
abbrev N_Region_is_bounded : List Str := ["self"]
theorem sc_Region_is_bounded : FnScope N_Region_is_bounded ["self"] (defScope s_Region_is_bounded) := ⟨rfl, rfl, rfl, by decide +kernel, rfl, by decide +kernel, by decide +kernel⟩
theorem has_Region_is_bounded  (F : FnQ K "is_bounded" "Region.is_bounded" s_Region_is_bounded (propA K "Region" "is_bounded") fd) (M : Md mg) (R : RegR K mg) : FnR P w K mg base CX0 1 (propA K "Region" "is_bounded") (sp_is_bounded K) := by
  refine fnR_of F sc_Region_is_bounded ((fun fd' (F' : FnQ K "is_bounded" "Region.is_bounded" s_Region_is_bounded (propA K "Region" "is_bounded") fd') => F'.bindsN fun _ _ _ _ _ _ us hl => match us, hl with | [_], _ => rfl) fd F) len_Region_is_bounded (fun cdv A outer s H vs Q E hr h => ⟨t_Region_is_bounded K, PSs.nox ?_, pure_Region_is_bounded R.f vs H Q E h⟩)
  have nd := sc_Region_is_bounded.nd
  exact (pss_one (ps_ret (pe_not (pe_fld (pv 0) (by rfl)))))

abbrev s_check_bounded : Stmt := top 34
abbrev N_check_bounded : List Str := ["region"]
theorem sc_check_bounded : FnScope N_check_bounded ["region"] (defScope s_check_bounded) := ⟨rfl, rfl, rfl, by decide +kernel, rfl, by decide +kernel, by decide +kernel⟩
theorem has_check_bounded (h_check_region : HasR P w K mg base CX0 1 "check_region" (sp_check_region K)) (F : FnQ K "check_bounded" "check_bounded" s_check_bounded f fd) (hm : mg "check_bounded" = some (.ref f)) (M : Md mg) (R : RegR K mg) : HasR P w K mg base CX0 2 "check_bounded" (sp_check_bounded K) := by
  refine hasR_of F hm sc_check_bounded (fun fd' F' => F'.bindsN fun _ _ _ _ _ _ us hl => match us, hl with | [_], _ => rfl) len_check_bounded (fun cdv A outer s H vs Q E hr h => ⟨t_check_bounded K, PSs.nox ?_, pure_check_bounded R.f vs H Q E h⟩)
  have nd := sc_check_bounded.nd
  exact (pss_cons (ps_expr (pe_callR h_check_region (hr.mono (by decide)) pass0 (by rfl) (pa_cons (pv 0) pa_nil)))
  (pss_one (ps_if (pt_val (pe_fld (pv 0) (by rfl)))
  (pss_one ps_never)
  pss_nil)))

abbrev s_shadow : Stmt := top 41
abbrev N_shadow : List Str := ["region", "axis", "x1", "x2", "spans", "span"]
theorem sc_shadow : FnScope N_shadow ["region", "axis"] (defScope s_shadow) := ⟨rfl, rfl, rfl, by decide +kernel, rfl, by decide +kernel, by decide +kernel⟩
theorem has_shadow (h_check_bounded : HasR P w K mg base CX0 2 "check_bounded" (sp_check_bounded K)) (h_merged : HasR P w K mg base CX0 1 "merged" sp_merged) (F : FnQ K "shadow" "shadow" s_shadow f fd) (hm : mg "shadow" = some (.ref f)) (M : Md mg) (R : RegR K mg) : HasR P w K mg base CX0 3 "shadow" (sp_shadow K) := by
  refine hasR_of F hm sc_shadow (fun fd' F' => F'.bindsN fun _ _ _ _ _ _ us hl => match us, hl with | [_, _], _ => rfl) len_shadow (fun cdv A outer s H vs Q E hr h => ⟨t_shadow K, PSs.nox ?_, pure_shadow R.f vs H Q E h⟩)
  have nd := sc_shadow.nd
  exact (pss_cons (ps_expr (pe_callR h_check_bounded (hr.mono (by decide)) pass0 (by rfl) (pa_cons (pv 0) pa_nil)))
  (pss_cons (ps_if (PW.pt (pw_or (pt_not (pt_val (pe_callB call_isi (by rfl) M.b_isinstance (by decide +kernel) (pa_cons (pv 1) (pa_cons (pe_bltn (v := .ty "str") (by rfl) M.b_str (by decide +kernel) rfl) pa_nil))))) (pw_or1 (pt_cmpR op_notIn_seq (pv 1) (pe_tup (pa_cons pe_str (pa_cons pe_str pa_nil))) (by rfl)))))
  (pss_one ps_never)
  pss_nil)
  (pss_cons (ps_if (pt_cmpR (op_eqX hr.units) (pv 1) pe_str (nomark _))
  (pss_one (ps_ret (pe_callTy call_listX (by rfl) M.b_list (by decide +kernel) (pa_cons (pe_callR h_merged (hr.mono (by decide)) pass0 (by rfl) (pa_cons (pe_lc (own := [("x1", 2), ("x2", 3), ("spans", 4)]) (g := (gTup K 3 (gCons (gName 2) (gCons (gName 3) (gCons (gName 4) gNil))))) (tt := tYes) rfl nd (pi_seq (pe_fld (pv 0) (by rfl))) (blkOk_by (own := [("x1", 2), ("x2", 3), ("spans", 4)]) (N := N_shadow) (sc := defScope s_shadow) (by decide +kernel)) (fun _ _ _ _ _ => (pg_tup rfl (pgs_cons (pg_name (i := 2) nd rfl (Or.inl rfl)) (pgs_cons (pg_name (i := 3) nd rfl (Or.inl rfl)) (pgs_cons (pg_name (i := 4) nd rfl (Or.inl rfl)) pgs_nil))))) (fun _ _ _ _ _ => pts_nil) (fun _ _ _ _ _ => (pe_tup (pa_cons (pv 2) (pa_cons (pv 3) pa_nil))))) pa_nil)) pa_nil))))
  pss_nil)
  (pss_one (ps_ret (pe_callTy call_listX (by rfl) M.b_list (by decide +kernel) (pa_cons (pe_callR h_merged (hr.mono (by decide)) pass0 (by rfl) (pa_cons (pe_lc2 (own := [("x1", 2), ("x2", 3), ("spans", 4), ("span", 5)]) (vs1 := [5]) (g := (gTup K 3 (gCons (gName 2) (gCons (gName 3) (gCons (gName 4) gNil))))) (tt := tYes) (g1 := (gName 5)) (tt1 := tYes) rfl nd (pi_seq (pe_fld (pv 0) (by rfl))) (blkOk_by (own := [("x1", 2), ("x2", 3), ("spans", 4), ("span", 5)]) (N := N_shadow) (sc := defScope s_shadow) (by decide +kernel)) (by decide) (fun _ _ _ _ _ => (pg_tup rfl (pgs_cons (pg_name (i := 2) nd rfl (Or.inl rfl)) (pgs_cons (pg_name (i := 3) nd rfl (Or.inl rfl)) (pgs_cons (pg_name (i := 4) nd rfl (Or.inl rfl)) pgs_nil))))) (fun _ _ _ _ _ => pts_nil) (fun _ _ _ _ _ => (pi_seq (pv 4))) (fun _ _ _ _ _ => (pg_name (i := 5) nd rfl (Or.inl rfl))) (fun _ _ _ _ _ => pts_nil) (fun _ _ _ _ _ => (pv 5))) pa_nil)) pa_nil)))))))

abbrev s_l_sum : Stmt := top 50
abbrev N_l_sum : List Str := ["_law_spans", "_law_a", "_law_b"]
theorem sc_l_sum : FnScope N_l_sum ["_law_spans"] (defScope s_l_sum) := ⟨rfl, rfl, rfl, by decide +kernel, rfl, by decide +kernel, by decide +kernel⟩
theorem has_l_sum  (F : FnQ K "_law_sum" "_law_sum" s_l_sum f fd) (hm : mg "_law_sum" = some (.ref f)) (M : Md mg) (R : RegR K mg) : HasR P w K mg base CX0 1 "_law_sum" (sp_l_sum K) := by
  refine hasR_of F hm sc_l_sum (fun fd' F' => F'.bindsN fun _ _ _ _ _ _ us hl => match us, hl with | [_], _ => rfl) len_l_sum (fun cdv A outer s H vs Q E hr h => ⟨t_l_sum K, PSs.nox ?_, pure_l_sum vs H Q E h⟩)
  have nd := sc_l_sum.nd
  exact (pss_one (ps_ret (pe_callB (cr_sum rfl) (by rfl) M.b_sum (by decide +kernel) (pa_cons (pe_lc (own := [("_law_a", 1), ("_law_b", 2)]) (g := (gTup K 2 (gCons (gName 1) (gCons (gName 2) gNil)))) (tt := tYes) rfl nd (pi_seq (pv 0)) (blkOk_by (own := [("_law_a", 1), ("_law_b", 2)]) (N := N_l_sum) (sc := defScope s_l_sum) (by decide +kernel)) (fun _ _ _ _ _ => (pg_tup rfl (pgs_cons (pg_name (i := 1) nd rfl (Or.inl rfl)) (pgs_cons (pg_name (i := 2) nd rfl (Or.inl rfl)) pgs_nil)))) (fun _ _ _ _ _ => pts_nil) (fun _ _ _ _ _ => (pe_op op_sub (pv 2) (pv 1)))) pa_nil))))

abbrev s_l_right : Stmt := top 52
abbrev N_l_right : List Str := ["_law_a", "_law_b", "_law_both", "_law_either", "_law_total"]
theorem sc_l_right : FnScope N_l_right ["_law_a", "_law_b"] (defScope s_l_right) := ⟨rfl, rfl, rfl, by decide +kernel, rfl, by decide +kernel, by decide +kernel⟩
theorem has_l_right (h_Region_or : FnR P w K mg base CX0 5 (mA K "Region" "__or__") (sp_or K)) (h_border_length : HasR P w K mg base CX0 3 "border_length" (sp_border_length K)) (h_Region_and : FnR P w K mg base CX0 5 (mA K "Region" "__and__") (sp_and K)) (h_Region_sub : FnR P w K mg base CX0 5 (mA K "Region" "__sub__") (sp_sub K)) (h_l_beside : HasR P w K mg base CX0 6 "_law_beside" (sp_l_beside K)) (h_Region_invert : FnR P w K mg base CX0 4 (mA K "Region" "__invert__") (sp_invert K)) (h_Region_is_bounded : FnR P w K mg base CX0 1 (propA K "Region" "is_bounded") (sp_is_bounded K)) (h_shadow : HasR P w K mg base CX0 3 "shadow" (sp_shadow K)) (h_l_sum : HasR P w K mg base CX0 1 "_law_sum" (sp_l_sum K)) (F : FnQ K "_law_right" "_law_right" s_l_right f fd) (hm : mg "_law_right" = some (.ref f)) (M : Md mg) (R : RegR K mg) : HasR P w K mg base CX0 7 "_law_right" (sp_l_right K) := by
  refine hasR_of F hm sc_l_right (fun fd' F' => F'.bindsN fun _ _ _ _ _ _ us hl => match us, hl with | [_, _], _ => rfl) len_l_right (fun cdv A outer s H vs Q E hr h => ⟨t_l_right K, PSs.nox ?_, pure_l_right vs H Q E h⟩)
  have nd := sc_l_right.nd
  exact (pss_cons (ps_par (i := 2) (j := 3) (by rfl) nd rfl rfl (by decide) rfl rfl (pa_cons (pe_callR h_border_length (hr.mono (by decide)) pass0 (by rfl) (pa_cons (pe_op (op_own h_Region_and (hr.mono (by decide)) pass0 R.self1 R.m_and) (pv 0) (pv 1)) pa_nil)) (pa_cons (pe_callR h_border_length (hr.mono (by decide)) pass0 (by rfl) (pa_cons (pe_op (op_own h_Region_or (hr.mono (by decide)) pass0 R.self1 R.m_or) (pv 0) (pv 1)) pa_nil)) pa_nil)) (by rfl))
  (pss_cons (ps_set (i := 4) nd rfl (Or.inl rfl) (pe_op op_addX (pe_callR h_border_length (hr.mono (by decide)) pass0 (by rfl) (pa_cons (pv 0) pa_nil)) (pe_callR h_border_length (hr.mono (by decide)) pass0 (by rfl) (pa_cons (pv 1) pa_nil))))
  (pss_cons (ps_if (PW.pt (pw_or (pt_cmpR op_gt (pe_op op_addX (pv 2) (pv 3)) (pv 4) (nomark _)) (pw_or1 (pt_cmpR (op_neX hr.units) (pe_cmpR (op_eqX hr.units) (pe_op op_addX (pv 2) (pv 3)) (pv 4) (nomark _)) (pe_not (pe_callR h_l_beside (hr.mono (by decide)) pass0 (by rfl) (pa_cons (pe_op (op_own h_Region_sub (hr.mono (by decide)) pass0 R.self1 R.m_sub) (pv 0) (pv 1)) (pa_cons (pe_op (op_own h_Region_sub (hr.mono (by decide)) pass0 R.self1 R.m_sub) (pv 1) (pv 0)) pa_nil)))) (nomark _)))))
  (pss_one (ps_ret pe_bl))
  pss_nil)
  (pss_cons (ps_if (PW.pt (pw_or (pt_cmpR (op_neX hr.units) (pe_callR h_border_length (hr.mono (by decide)) pass0 (by rfl) (pa_cons (pe_un (un_inv h_Region_invert (hr.mono (by decide)) pass0 R.m_invert) (pv 0)) pa_nil)) (pe_callR h_border_length (hr.mono (by decide)) pass0 (by rfl) (pa_cons (pv 0) pa_nil)) (nomark _)) (pw_or1 (pt_cmpR (op_neX hr.units) (pe_callR h_border_length (hr.mono (by decide)) pass0 (by rfl) (pa_cons (pe_op (op_own h_Region_sub (hr.mono (by decide)) pass0 R.self1 R.m_sub) (pv 0) (pv 1)) pa_nil)) (pe_callR h_border_length (hr.mono (by decide)) pass0 (by rfl) (pa_cons (pe_op (op_own h_Region_or (hr.mono (by decide)) pass0 R.self1 R.m_or) (pe_un (un_inv h_Region_invert (hr.mono (by decide)) pass0 R.m_invert) (pv 0)) (pv 1)) pa_nil)) (nomark _)))))
  (pss_one (ps_ret pe_bl))
  pss_nil)
  (pss_cons (ps_if (pt_val (pe_propR (pv 0) R.ct.cl R.p_is_bounded h_Region_is_bounded (hr.mono (by decide)) pass0))
  (pss_one (ps_ret (pe_cmpR op_ge (pe_callR h_border_length (hr.mono (by decide)) pass0 (by rfl) (pa_cons (pv 0) pa_nil)) (pe_op op_mulW pe_int (pe_op op_addX (pe_callR h_l_sum (hr.mono (by decide)) pass0 (by rfl) (pa_cons (pe_callR h_shadow (hr.mono (by decide)) pass0 (by rfl) (pa_cons (pv 0) (pa_cons pe_str pa_nil))) pa_nil)) (pe_callR h_l_sum (hr.mono (by decide)) pass0 (by rfl) (pa_cons (pe_callR h_shadow (hr.mono (by decide)) pass0 (by rfl) (pa_cons (pv 0) (pa_cons pe_str pa_nil))) pa_nil)))) (nomark _))))
  pss_nil)
  (pss_one (ps_ret pe_bl)))))))

abbrev s_law : Stmt := top 53
abbrev N_law : List Str := ["_law_script", "_law_k", "_law_pool_here", "_law_xs", "_law_ys", "_law_a", "_law_b", "_law_x1", "_law_y1", "_law_x2", "_law_y2", "_law_turn"]
theorem sc_law : FnScope N_law ["_law_script"] (defScope s_law) := ⟨rfl, rfl, rfl, by decide +kernel, rfl, by decide +kernel, by decide +kernel⟩
theorem has_law (h_l_pool : HasR P w K mg base CX0 1 "_law_pool" (sp_l_pool K)) (h_l_take : HasR P w K mg base CX0 1 "_law_take" sp_l_take) (h_l_lines : HasR P w K mg base CX0 2 "_law_lines" sp_l_lines) (h_l_boxes : HasR P w K mg base CX0 2 "_law_boxes" sp_l_boxes) (h_l_made : HasR P w K mg base CX0 6 "_law_made" (sp_l_made K)) (h_l_right : HasR P w K mg base CX0 7 "_law_right" (sp_l_right K)) (h_Region_invert : FnR P w K mg base CX0 4 (mA K "Region" "__invert__") (sp_invert K)) (h_Region_of : FnR P w K mg base CX0 5 (cmA K "Region" "of") (sp_of K)) (h_border_length : HasR P w K mg base CX0 3 "border_length" (sp_border_length K)) (F : FnQ K "law" "law" s_law f fd) (hm : mg "law" = some (.ref f)) (M : Md mg) (R : RegR K mg) : Has P w K mg base CX0 8 "law" ["_law_script"] (sp_law K) := by
  refine has_of F hm sc_law (fun fd' F' => F'.bindsN fun _ _ _ _ _ _ us hl => match us, hl with | [_], _ => rfl) len_law (fun cdv A outer s H vs Q E hr hg0 h => ⟨t_law K, PSs.nox ?_, pure_law law_ok vs H Q E h⟩)
  have nd := sc_law.nd
  exact (pss_cons (ps_for PassesOwn.never rfl (pi_range1 (by rfl) M.b_range (pa_cons (pe_callB (call_max2' rfl) (by rfl) M.b_max (by decide +kernel) (pa_cons pe_int (pa_cons (pe_callB (call_min2' rfl) (by rfl) M.b_min (by decide +kernel) (pa_cons (pe_callB call_lenX (by rfl) M.b_len (by decide +kernel) (pa_cons (pv 0) pa_nil)) (pa_cons pe_int pa_nil))) pa_nil))) pa_nil)) (pg_name (i := 1) nd rfl (Or.inl rfl))
  (pss_cons (ps_set (i := 2) nd rfl (Or.inr rfl) (pe_callR h_l_pool (hr.mono (by decide)) pass0 (by rfl) (pa_cons (pv 0) (pa_cons (pv 1) pa_nil))))
  (pss_cons (ps_asg (pe_tup (pa_cons (pe_callR h_l_lines (hr.mono (by decide)) pass0 (by rfl) (pa_cons (pv 2) (pa_cons (pe_op op_addX pe_int (pe_callR h_l_take (hr.mono (by decide)) pass0 (by rfl) (pa_cons (pv 2) (pa_cons pe_int pa_nil)))) pa_nil))) (pa_cons (pe_callR h_l_lines (hr.mono (by decide)) pass0 (by rfl) (pa_cons (pv 2) (pa_cons (pe_op op_addX pe_int (pe_callR h_l_take (hr.mono (by decide)) pass0 (by rfl) (pa_cons (pv 2) (pa_cons pe_int pa_nil)))) pa_nil))) pa_nil))) (pg_tup rfl (pgs_cons (pg_name (i := 3) nd rfl (Or.inr rfl)) (pgs_cons (pg_name (i := 4) nd rfl (Or.inr rfl)) pgs_nil))))
  (pss_cons (ps_asg (pe_lc (own := [("_law_turn", 11)]) (g := (gName 11)) (tt := tYes) rfl nd (pi_range1 (by rfl) M.b_range (pa_cons pe_int pa_nil)) (blkOk_by (own := [("_law_turn", 11)]) (N := N_law) (sc := defScope s_law) (by decide +kernel)) (fun _ _ _ _ _ => (pg_name (i := 11) nd rfl (Or.inl rfl))) (fun _ _ _ _ _ => pts_nil) (fun _ _ _ _ _ => (pe_callR h_l_made (hr.mono (by decide)) pass0 (by rfl) (pa_cons (pe_callR h_l_boxes (hr.mono (by decide)) pass0 (by rfl) (pa_cons (pv 2) (pa_cons (pv 3) (pa_cons (pv 4) (pa_cons pe_int pa_nil))))) (pa_cons (pe_cmpR (op_eqX hr.units) (pe_callR h_l_take (hr.mono (by decide)) pass0 (by rfl) (pa_cons (pv 2) (pa_cons pe_int pa_nil))) pe_int (nomark _)) pa_nil))))) (pg_unl rfl (pgs_cons (pg_name (i := 5) nd rfl (Or.inl rfl)) (pgs_cons (pg_name (i := 6) nd rfl (Or.inl rfl)) pgs_nil))))
  (pss_cons (ps_if (PW.pt (pw_or (pt_not (pt_val (pe_callR h_l_right (hr.mono (by decide)) pass0 (by rfl) (pa_cons (pv 5) (pa_cons (pv 6) pa_nil))))) (pw_or (pt_not (pt_val (pe_callR h_l_right (hr.mono (by decide)) pass0 (by rfl) (pa_cons (pv 6) (pa_cons (pv 5) pa_nil))))) (pw_or1 (pt_not (pt_val (pe_callR h_l_right (hr.mono (by decide)) pass0 (by rfl) (pa_cons (pv 5) (pa_cons (pe_un (un_inv h_Region_invert (hr.mono (by decide)) pass0 R.m_invert) (pv 6)) pa_nil)))))))))
  (pss_one (ps_ret pe_bl))
  pss_nil)
  (pss_one (ps_for PassesOwn.never rfl (pi_seq (pe_callR h_l_boxes (hr.mono (by decide)) pass0 (by rfl) (pa_cons (pv 2) (pa_cons (pv 3) (pa_cons (pv 4) (pa_cons pe_int pa_nil)))))) (pg_tup rfl (pgs_cons (pg_name (i := 7) nd rfl (Or.inl rfl)) (pgs_cons (pg_name (i := 8) nd rfl (Or.inl rfl)) (pgs_cons (pg_name (i := 9) nd rfl (Or.inl rfl)) (pgs_cons (pg_name (i := 10) nd rfl (Or.inl rfl)) pgs_nil)))))
  (pss_one (ps_if (pt_cmpR (op_neX hr.units) (pe_callR h_border_length (hr.mono (by decide)) pass0 (by rfl) (pa_cons (ClX.pe_cmeth (pe_glob (by rfl) R.g rfl) R.cread R.c_of h_Region_of (hr.mono (by decide)) pass0 (pa_cons (pe_tup (pa_cons (pv 7) (pa_cons (pv 8) (pa_cons (pv 9) (pa_cons (pv 10) pa_nil))))) pa_nil)) pa_nil)) (pe_op op_mulW pe_int (pe_op op_sub (pe_op op_addX (pe_op op_sub (pv 9) (pv 7)) (pv 10)) (pv 8))) (nomark _))
  (pss_one (ps_ret pe_bl))
  pss_nil)))))))))
  (pss_one (ps_ret pe_bl)))

end
def d_l_pool : DefP := ⟨fun K => He.ga K "_law_pool", "_law_pool", "_law_pool", defArgs s_l_pool, defBody s_l_pool, defScope s_l_pool, [], []⟩
def d_l_take : DefP := ⟨fun K => He.ga K "_law_take", "_law_take", "_law_take", defArgs s_l_take, defBody s_l_take, defScope s_l_take, [], []⟩
def d_l_lines : DefP := ⟨fun K => He.ga K "_law_lines", "_law_lines", "_law_lines", defArgs s_l_lines, defBody s_l_lines, defScope s_l_lines, [], []⟩
def d_l_boxes : DefP := ⟨fun K => He.ga K "_law_boxes", "_law_boxes", "_law_boxes", defArgs s_l_boxes, defBody s_l_boxes, defScope s_l_boxes, [], []⟩
def d_Region_init : DefP := ⟨fun K => mA K "Region" "__init__", "__init__", "Region.__init__", defArgs s_Region_init, defBody s_Region_init, defScope s_Region_init, [], []⟩
def d_Region_empty : DefP := ⟨fun K => smA K "Region" "empty", "empty", "Region.empty", defArgs s_Region_empty, defBody s_Region_empty, defScope s_Region_empty, [], []⟩
def d_is_integer : DefP := ⟨fun K => He.ga K "is_integer", "is_integer", "is_integer", defArgs s_is_integer, defBody s_is_integer, defScope s_is_integer, [], []⟩
def d_are_integers : DefP := ⟨fun K => He.ga K "are_integers", "are_integers", "are_integers", defArgs s_are_integers, defBody s_are_integers, defScope s_are_integers, [], []⟩
def d_is_box : DefP := ⟨fun K => He.ga K "is_box", "is_box", "is_box", defArgs s_is_box, defBody s_is_box, defScope s_is_box, [], []⟩
def d_check_box : DefP := ⟨fun K => He.ga K "check_box", "check_box", "check_box", defArgs s_check_box, defBody s_check_box, defScope s_check_box, [], []⟩
def d_merged : DefP := ⟨fun K => He.ga K "merged", "merged", "merged", defArgs s_merged, defBody s_merged, defScope s_merged, [], []⟩
def d_tidy : DefP := ⟨fun K => He.ga K "tidy", "tidy", "tidy", defArgs s_tidy, defBody s_tidy, defScope s_tidy, [], []⟩
def d_slabs_of : DefP := ⟨fun K => He.ga K "slabs_of", "slabs_of", "slabs_of", defArgs s_slabs_of, defBody s_slabs_of, defScope s_slabs_of, [], []⟩
def d_Region_of : DefP := ⟨fun K => cmA K "Region" "of", "of", "Region.of", defArgs s_Region_of, defBody s_Region_of, defScope s_Region_of, [], []⟩
def d_check_region : DefP := ⟨fun K => He.ga K "check_region", "check_region", "check_region", defArgs s_check_region, defBody s_check_region, defScope s_check_region, [], []⟩
def d_cuts_of : DefP := ⟨fun K => He.ga K "cuts_of", "cuts_of", "cuts_of", defArgs s_cuts_of, defBody s_cuts_of, defScope s_cuts_of, [], []⟩
def d_spans_at : DefP := ⟨fun K => He.ga K "spans_at", "spans_at", "spans_at", defArgs s_spans_at, defBody s_spans_at, defScope s_spans_at, [], []⟩
def d_is_covered : DefP := ⟨fun K => He.ga K "is_covered", "is_covered", "is_covered", defArgs s_is_covered, defBody s_is_covered, defScope s_is_covered, [], []⟩
def d_is_wanted : DefP := ⟨fun K => He.ga K "is_wanted", "is_wanted", "is_wanted", defArgs s_is_wanted, defBody s_is_wanted, defScope s_is_wanted, [], []⟩
def d_combined : DefP := ⟨fun K => He.ga K "combined", "combined", "combined", defArgs s_combined, defBody s_combined, defScope s_combined, [], []⟩
def d_mixed : DefP := ⟨fun K => He.ga K "mixed", "mixed", "mixed", defArgs s_mixed, defBody s_mixed, defScope s_mixed, [], []⟩
def d_united : DefP := ⟨fun K => He.ga K "united", "united", "united", defArgs s_united, defBody s_united, defScope s_united, [], []⟩
def d_Region_or : DefP := ⟨fun K => mA K "Region" "__or__", "__or__", "Region.__or__", defArgs s_Region_or, defBody s_Region_or, defScope s_Region_or, [], []⟩
def d_turned_out : DefP := ⟨fun K => He.ga K "turned_out", "turned_out", "turned_out", defArgs s_turned_out, defBody s_turned_out, defScope s_turned_out, [], []⟩
def d_Region_invert : DefP := ⟨fun K => mA K "Region" "__invert__", "__invert__", "Region.__invert__", defArgs s_Region_invert, defBody s_Region_invert, defScope s_Region_invert, [], []⟩
def d_l_made : DefP := ⟨fun K => He.ga K "_law_made", "_law_made", "_law_made", defArgs s_l_made, defBody s_l_made, defScope s_l_made, [], []⟩
def d_length : DefP := ⟨fun K => He.ga K "length", "length", "length", defArgs s_length, defBody s_length, defScope s_length, [], []⟩
def d_border_length : DefP := ⟨fun K => He.ga K "border_length", "border_length", "border_length", defArgs s_border_length, defBody s_border_length, defScope s_border_length, [], []⟩
def d_Region_and : DefP := ⟨fun K => mA K "Region" "__and__", "__and__", "Region.__and__", defArgs s_Region_and, defBody s_Region_and, defScope s_Region_and, [], []⟩
def d_Region_sub : DefP := ⟨fun K => mA K "Region" "__sub__", "__sub__", "Region.__sub__", defArgs s_Region_sub, defBody s_Region_sub, defScope s_Region_sub, [], []⟩
def d_opposite : DefP := ⟨fun K => He.ga K "opposite", "opposite", "opposite", defArgs s_opposite, defBody s_opposite, defScope s_opposite, [], []⟩
def d_boxes_of : DefP := ⟨fun K => He.ga K "boxes_of", "boxes_of", "boxes_of", defArgs s_boxes_of, defBody s_boxes_of, defScope s_boxes_of, [], []⟩
def d_added_box : DefP := ⟨fun K => He.ga K "added_box", "added_box", "added_box", defArgs s_added_box, defBody s_added_box, defScope s_added_box, [], []⟩
def d_grown : DefP := ⟨fun K => He.ga K "grown", "grown", "grown", defArgs s_grown, defBody s_grown, defScope s_grown, [], []⟩
def d_frame_of : DefP := ⟨fun K => He.ga K "frame_of", "frame_of", "frame_of", defArgs s_frame_of, defBody s_frame_of, defScope s_frame_of, [], []⟩
def d_shrunk : DefP := ⟨fun K => He.ga K "shrunk", "shrunk", "shrunk", defArgs s_shrunk, defBody s_shrunk, defScope s_shrunk, [], []⟩
def d_Region_add : DefP := ⟨fun K => mA K "Region" "__add__", "__add__", "Region.__add__", defArgs s_Region_add, defBody s_Region_add, defScope s_Region_add, [], []⟩
def d_Region_bool : DefP := ⟨fun K => mA K "Region" "__bool__", "__bool__", "Region.__bool__", defArgs s_Region_bool, defBody s_Region_bool, defScope s_Region_bool, [], []⟩
def d_l_beside : DefP := ⟨fun K => He.ga K "_law_beside", "_law_beside", "_law_beside", defArgs s_l_beside, defBody s_l_beside, defScope s_l_beside, [], []⟩
def d_Region_is_bounded : DefP := ⟨fun K => propA K "Region" "is_bounded", "is_bounded", "Region.is_bounded", defArgs s_Region_is_bounded, defBody s_Region_is_bounded, defScope s_Region_is_bounded, [], []⟩
def d_check_bounded : DefP := ⟨fun K => He.ga K "check_bounded", "check_bounded", "check_bounded", defArgs s_check_bounded, defBody s_check_bounded, defScope s_check_bounded, [], []⟩
def d_shadow : DefP := ⟨fun K => He.ga K "shadow", "shadow", "shadow", defArgs s_shadow, defBody s_shadow, defScope s_shadow, [], []⟩
def d_l_sum : DefP := ⟨fun K => He.ga K "_law_sum", "_law_sum", "_law_sum", defArgs s_l_sum, defBody s_l_sum, defScope s_l_sum, [], []⟩
def d_l_right : DefP := ⟨fun K => He.ga K "_law_right", "_law_right", "_law_right", defArgs s_l_right, defBody s_l_right, defScope s_l_right, [], []⟩
def d_law : DefP := ⟨fun K => He.ga K "law", "law", "law", defArgs s_law, defBody s_law, defScope s_law, [], []⟩
def fnD : List DefP := [d_l_pool, d_l_take, d_l_lines, d_l_boxes, d_Region_init, d_Region_empty, d_is_integer, d_are_integers, d_is_box, d_check_box, d_merged, d_tidy, d_slabs_of, d_Region_of, d_check_region, d_cuts_of, d_spans_at, d_is_covered, d_is_wanted, d_combined, d_mixed, d_united, d_Region_or, d_turned_out, d_Region_invert, d_l_made, d_length, d_border_length, d_Region_and, d_Region_sub, d_opposite, d_boxes_of, d_added_box, d_grown, d_frame_of, d_shrunk, d_Region_add, d_Region_bool, d_l_beside, d_Region_is_bounded, d_check_bounded, d_shadow, d_l_sum, d_l_right, d_law]
def fbD : List Fb := [.fa (.glo "_law_pool"), .fa (.glo "_law_take"), .fa (.glo "_law_lines"), .fa (.glo "_law_boxes"), .fa (.glo "is_integer"), .fa (.glo "are_integers"), .fa (.glo "is_box"), .fa (.glo "check_box"), .fa (.glo "merged"), .fa (.glo "tidy"), .fa (.glo "slabs_of"), .fa (.glo "check_region"), .fa (.glo "cuts_of"), .fa (.glo "spans_at"), .fa (.glo "is_covered"), .fa (.glo "is_wanted"), .fa (.glo "combined"), .fa (.glo "mixed"), .fa (.glo "united"), .fa (.glo "turned_out"), .fa (.glo "_law_made"), .fa (.glo "length"), .fa (.glo "border_length"), .fa (.glo "opposite"), .fa (.glo "boxes_of"), .fa (.glo "added_box"), .fa (.glo "grown"), .fa (.glo "frame_of"), .fa (.glo "shrunk"), .fa (.glo "_law_beside"), .fa (.glo "check_bounded"), .fa (.glo "shadow"), .fa (.glo "_law_sum"), .fa (.glo "_law_right"), .fa (.glo "law"), .fa (.free "len"), .fa (.free "range"), .fa (.free "isinstance"), .fa (.free "int"), .fa (.free "bool"), .fa (.free "tuple"), .fa (.free "all"), .fa (.free "sorted"), .fa (.free "max"), .fa (.free "zip"), .fa (.free "list"), .fa (.free "any"), .fa (.free "sum"), .fa (.free "min"), .fa (.free "str"), .fa (.glo "Region"), .fa (.cls "Region"), .ins "Region", .fa (.noat "Region" "form"), .fa (.noat "Region" "is_outside"), .fa (.mkr "Region"), .self1 "Region", .cread "Region", .ne "Region", .smet "Region" "empty", .cmet "Region" "of", .fa (.meth "Region" "__or__"), .fa (.meth "Region" "__invert__"), .fa (.meth "Region" "__and__"), .fa (.meth "Region" "__sub__"), .fa (.meth "Region" "__add__"), .tupOp "add", .fa (.meth "Region" "__bool__"), .prop "Region" "is_bounded", .isn "Region" "list", .isn "Region" "str"]
abbrev RR : PySem.W.OpenRow := PySem.W.OpenLaw.row PySem.Challenge.rw_boxregions_k99_whole_borders_of_combinat
abbrev hk : PySem.W.Hook := hookP 6 fbD fnD
def ob (s : PySem.W.SharedT) : AlP := obsPG 6 fbD fnD (HandSHeadRun.getT s)
theorem ob_eq (s : PySem.W.SharedT) : ob s = hk.obs s.abs := obsPG_eq (HandSHeadRun.getT_eq s)
def loose : List Str := (["_wall", "BoxError", "InvalidBox", "InvalidSquare", "InvalidRegion", "InvalidAxis", "Unbounded", "merged", "is_covered", "is_wanted", "combined", "length", "spans_at", "tidy", "cuts_of", "slabs_of", "boxes_of", "mixed", "frame_of", "added_box"] : List Str) ++ (["opposite", "grown", "shrunk", "is_integer", "are_integers", "is_square", "is_box", "check_square", "check_box", "check_region", "check_bounded", "united", "turned_out", "Region", "border_length", "shadow", "_law_pool", "_law_take", "_law_lines", "_law_boxes"] : List Str) ++ (["_law_has", "_law_probes", "_law_made", "_law_sum", "_law_beside", "_law_right"] : List Str)
theorem run (w : World) : HandSHeadRun.RunEq RR (PySem.W.view RR.prog [53]) hk ob 20000 loose w := by
  intro os
  kernel_rfl
theorem facts {P : Program} {w : World} {K : Fg} {h : Heap} {mg : Str → Option Value} (X : K.In h) (G : h.Ns mainGlobals mg) (c : SaysP fbD fnD K) (base : Heap) : Has P w K mg base CX0 8 "law" ["_law_script"] (sp_law K) := by
  obtain ⟨fd_l_pool, F_l_pool⟩ := c.def_ 0 (d := d_l_pool) rfl
  have g_l_pool := He.glo_ok X G (c.fa 0 (f := .glo "_law_pool") rfl)
  obtain ⟨fd_l_take, F_l_take⟩ := c.def_ 1 (d := d_l_take) rfl
  have g_l_take := He.glo_ok X G (c.fa 1 (f := .glo "_law_take") rfl)
  obtain ⟨fd_l_lines, F_l_lines⟩ := c.def_ 2 (d := d_l_lines) rfl
  have g_l_lines := He.glo_ok X G (c.fa 2 (f := .glo "_law_lines") rfl)
  obtain ⟨fd_l_boxes, F_l_boxes⟩ := c.def_ 3 (d := d_l_boxes) rfl
  have g_l_boxes := He.glo_ok X G (c.fa 3 (f := .glo "_law_boxes") rfl)
  obtain ⟨fd_Region_init, F_Region_init⟩ := c.def_ 4 (d := d_Region_init) rfl
  obtain ⟨fd_Region_empty, F_Region_empty⟩ := c.def_ 5 (d := d_Region_empty) rfl
  obtain ⟨fd_is_integer, F_is_integer⟩ := c.def_ 6 (d := d_is_integer) rfl
  have g_is_integer := He.glo_ok X G (c.fa 4 (f := .glo "is_integer") rfl)
  obtain ⟨fd_are_integers, F_are_integers⟩ := c.def_ 7 (d := d_are_integers) rfl
  have g_are_integers := He.glo_ok X G (c.fa 5 (f := .glo "are_integers") rfl)
  obtain ⟨fd_is_box, F_is_box⟩ := c.def_ 8 (d := d_is_box) rfl
  have g_is_box := He.glo_ok X G (c.fa 6 (f := .glo "is_box") rfl)
  obtain ⟨fd_check_box, F_check_box⟩ := c.def_ 9 (d := d_check_box) rfl
  have g_check_box := He.glo_ok X G (c.fa 7 (f := .glo "check_box") rfl)
  obtain ⟨fd_merged, F_merged⟩ := c.def_ 10 (d := d_merged) rfl
  have g_merged := He.glo_ok X G (c.fa 8 (f := .glo "merged") rfl)
  obtain ⟨fd_tidy, F_tidy⟩ := c.def_ 11 (d := d_tidy) rfl
  have g_tidy := He.glo_ok X G (c.fa 9 (f := .glo "tidy") rfl)
  obtain ⟨fd_slabs_of, F_slabs_of⟩ := c.def_ 12 (d := d_slabs_of) rfl
  have g_slabs_of := He.glo_ok X G (c.fa 10 (f := .glo "slabs_of") rfl)
  obtain ⟨fd_Region_of, F_Region_of⟩ := c.def_ 13 (d := d_Region_of) rfl
  obtain ⟨fd_check_region, F_check_region⟩ := c.def_ 14 (d := d_check_region) rfl
  have g_check_region := He.glo_ok X G (c.fa 11 (f := .glo "check_region") rfl)
  obtain ⟨fd_cuts_of, F_cuts_of⟩ := c.def_ 15 (d := d_cuts_of) rfl
  have g_cuts_of := He.glo_ok X G (c.fa 12 (f := .glo "cuts_of") rfl)
  obtain ⟨fd_spans_at, F_spans_at⟩ := c.def_ 16 (d := d_spans_at) rfl
  have g_spans_at := He.glo_ok X G (c.fa 13 (f := .glo "spans_at") rfl)
  obtain ⟨fd_is_covered, F_is_covered⟩ := c.def_ 17 (d := d_is_covered) rfl
  have g_is_covered := He.glo_ok X G (c.fa 14 (f := .glo "is_covered") rfl)
  obtain ⟨fd_is_wanted, F_is_wanted⟩ := c.def_ 18 (d := d_is_wanted) rfl
  have g_is_wanted := He.glo_ok X G (c.fa 15 (f := .glo "is_wanted") rfl)
  obtain ⟨fd_combined, F_combined⟩ := c.def_ 19 (d := d_combined) rfl
  have g_combined := He.glo_ok X G (c.fa 16 (f := .glo "combined") rfl)
  obtain ⟨fd_mixed, F_mixed⟩ := c.def_ 20 (d := d_mixed) rfl
  have g_mixed := He.glo_ok X G (c.fa 17 (f := .glo "mixed") rfl)
  obtain ⟨fd_united, F_united⟩ := c.def_ 21 (d := d_united) rfl
  have g_united := He.glo_ok X G (c.fa 18 (f := .glo "united") rfl)
  obtain ⟨fd_Region_or, F_Region_or⟩ := c.def_ 22 (d := d_Region_or) rfl
  obtain ⟨fd_turned_out, F_turned_out⟩ := c.def_ 23 (d := d_turned_out) rfl
  have g_turned_out := He.glo_ok X G (c.fa 19 (f := .glo "turned_out") rfl)
  obtain ⟨fd_Region_invert, F_Region_invert⟩ := c.def_ 24 (d := d_Region_invert) rfl
  obtain ⟨fd_l_made, F_l_made⟩ := c.def_ 25 (d := d_l_made) rfl
  have g_l_made := He.glo_ok X G (c.fa 20 (f := .glo "_law_made") rfl)
  obtain ⟨fd_length, F_length⟩ := c.def_ 26 (d := d_length) rfl
  have g_length := He.glo_ok X G (c.fa 21 (f := .glo "length") rfl)
  obtain ⟨fd_border_length, F_border_length⟩ := c.def_ 27 (d := d_border_length) rfl
  have g_border_length := He.glo_ok X G (c.fa 22 (f := .glo "border_length") rfl)
  obtain ⟨fd_Region_and, F_Region_and⟩ := c.def_ 28 (d := d_Region_and) rfl
  obtain ⟨fd_Region_sub, F_Region_sub⟩ := c.def_ 29 (d := d_Region_sub) rfl
  obtain ⟨fd_opposite, F_opposite⟩ := c.def_ 30 (d := d_opposite) rfl
  have g_opposite := He.glo_ok X G (c.fa 23 (f := .glo "opposite") rfl)
  obtain ⟨fd_boxes_of, F_boxes_of⟩ := c.def_ 31 (d := d_boxes_of) rfl
  have g_boxes_of := He.glo_ok X G (c.fa 24 (f := .glo "boxes_of") rfl)
  obtain ⟨fd_added_box, F_added_box⟩ := c.def_ 32 (d := d_added_box) rfl
  have g_added_box := He.glo_ok X G (c.fa 25 (f := .glo "added_box") rfl)
  obtain ⟨fd_grown, F_grown⟩ := c.def_ 33 (d := d_grown) rfl
  have g_grown := He.glo_ok X G (c.fa 26 (f := .glo "grown") rfl)
  obtain ⟨fd_frame_of, F_frame_of⟩ := c.def_ 34 (d := d_frame_of) rfl
  have g_frame_of := He.glo_ok X G (c.fa 27 (f := .glo "frame_of") rfl)
  obtain ⟨fd_shrunk, F_shrunk⟩ := c.def_ 35 (d := d_shrunk) rfl
  have g_shrunk := He.glo_ok X G (c.fa 28 (f := .glo "shrunk") rfl)
  obtain ⟨fd_Region_add, F_Region_add⟩ := c.def_ 36 (d := d_Region_add) rfl
  obtain ⟨fd_Region_bool, F_Region_bool⟩ := c.def_ 37 (d := d_Region_bool) rfl
  obtain ⟨fd_l_beside, F_l_beside⟩ := c.def_ 38 (d := d_l_beside) rfl
  have g_l_beside := He.glo_ok X G (c.fa 29 (f := .glo "_law_beside") rfl)
  obtain ⟨fd_Region_is_bounded, F_Region_is_bounded⟩ := c.def_ 39 (d := d_Region_is_bounded) rfl
  obtain ⟨fd_check_bounded, F_check_bounded⟩ := c.def_ 40 (d := d_check_bounded) rfl
  have g_check_bounded := He.glo_ok X G (c.fa 30 (f := .glo "check_bounded") rfl)
  obtain ⟨fd_shadow, F_shadow⟩ := c.def_ 41 (d := d_shadow) rfl
  have g_shadow := He.glo_ok X G (c.fa 31 (f := .glo "shadow") rfl)
  obtain ⟨fd_l_sum, F_l_sum⟩ := c.def_ 42 (d := d_l_sum) rfl
  have g_l_sum := He.glo_ok X G (c.fa 32 (f := .glo "_law_sum") rfl)
  obtain ⟨fd_l_right, F_l_right⟩ := c.def_ 43 (d := d_l_right) rfl
  have g_l_right := He.glo_ok X G (c.fa 33 (f := .glo "_law_right") rfl)
  obtain ⟨fd_law, F_law⟩ := c.def_ 44 (d := d_law) rfl
  have g_law := He.glo_ok X G (c.fa 34 (f := .glo "law") rfl)
  have M : Md mg := ⟨He.free_ok X G (c.fa 35 (f := .free "len") rfl), He.free_ok X G (c.fa 36 (f := .free "range") rfl), He.free_ok X G (c.fa 37 (f := .free "isinstance") rfl), He.free_ok X G (c.fa 38 (f := .free "int") rfl), He.free_ok X G (c.fa 39 (f := .free "bool") rfl), He.free_ok X G (c.fa 40 (f := .free "tuple") rfl), He.free_ok X G (c.fa 41 (f := .free "all") rfl), He.free_ok X G (c.fa 42 (f := .free "sorted") rfl), He.free_ok X G (c.fa 43 (f := .free "max") rfl), He.free_ok X G (c.fa 44 (f := .free "zip") rfl), He.free_ok X G (c.fa 45 (f := .free "list") rfl), He.free_ok X G (c.fa 46 (f := .free "any") rfl), He.free_ok X G (c.fa 47 (f := .free "sum") rfl), He.free_ok X G (c.fa 48 (f := .free "min") rfl), He.free_ok X G (c.fa 49 (f := .free "str") rfl)⟩
  have R : RegR K mg := ⟨He.glo_ok X G (c.fa 50), He.cls_ok (c.fa 51), ins_ok (He.cls_ok (c.fa 51)) (c.fact 52), He.noat_ok (c.fa 53), He.noat_ok (c.fa 54), He.mkr_ok (c.fa 55), self1_ok (c.fact 56), cread_ok (c.fact 57), ne_ok (c.fact 58), smet_ok (c.fact 59), cmet_ok (c.fact 60), Meth.op (He.meth_ok (c.fa 61)), Meth.op (He.meth_ok (c.fa 62)), Meth.op (He.meth_ok (c.fa 63)), Meth.op (He.meth_ok (c.fa 64)), Meth.op (He.meth_ok (c.fa 65)), tupOp_ok (c.fact 66), Meth.op (He.meth_ok (c.fa 67)), prop_ok (c.fact 68), isn_ok (c.fact 69), isn_ok (c.fact 70)⟩
  have h_l_pool : HasR P w K mg base CX0 1 "_law_pool" (sp_l_pool K) := has_l_pool  F_l_pool g_l_pool M R
  have h_l_take : HasR P w K mg base CX0 1 "_law_take" sp_l_take := has_l_take  F_l_take g_l_take M R
  have h_l_lines : HasR P w K mg base CX0 2 "_law_lines" sp_l_lines := has_l_lines h_l_take F_l_lines g_l_lines M R
  have h_l_boxes : HasR P w K mg base CX0 2 "_law_boxes" sp_l_boxes := has_l_boxes h_l_take F_l_boxes g_l_boxes M R
  have h_Region_init : FnR P w K mg base CX0 1 (mA K "Region" "__init__") (sp_init K) := has_Region_init  F_Region_init M R
  have h_Region_empty : FnR P w K mg base CX0 3 (smA K "Region" "empty") (sp_empty K) := has_Region_empty h_Region_init F_Region_empty M R
  have h_is_integer : HasR P w K mg base CX0 1 "is_integer" sp_is_integer := has_is_integer  F_is_integer g_is_integer M R
  have h_are_integers : HasR P w K mg base CX0 2 "are_integers" sp_are_integers := has_are_integers h_is_integer F_are_integers g_are_integers M R
  have h_is_box : HasR P w K mg base CX0 3 "is_box" sp_is_box := has_is_box h_are_integers F_is_box g_is_box M R
  have h_check_box : HasR P w K mg base CX0 4 "check_box" sp_check_box := has_check_box h_is_box F_check_box g_check_box M R
  have h_merged : HasR P w K mg base CX0 1 "merged" sp_merged := has_merged  F_merged g_merged M R
  have h_tidy : HasR P w K mg base CX0 1 "tidy" sp_tidy := has_tidy  F_tidy g_tidy M R
  have h_slabs_of : HasR P w K mg base CX0 2 "slabs_of" sp_slabs_of := has_slabs_of h_merged h_tidy F_slabs_of g_slabs_of M R
  have h_Region_of : FnR P w K mg base CX0 5 (cmA K "Region" "of") (sp_of K) := has_Region_of h_check_box h_slabs_of h_Region_init F_Region_of M R
  have h_check_region : HasR P w K mg base CX0 1 "check_region" (sp_check_region K) := has_check_region  F_check_region g_check_region M R
  have h_cuts_of : HasR P w K mg base CX0 1 "cuts_of" sp_cuts_of := has_cuts_of  F_cuts_of g_cuts_of M R
  have h_spans_at : HasR P w K mg base CX0 1 "spans_at" sp_spans_at := has_spans_at  F_spans_at g_spans_at M R
  have h_is_covered : HasR P w K mg base CX0 1 "is_covered" sp_is_covered := has_is_covered  F_is_covered g_is_covered M R
  have h_is_wanted : HasR P w K mg base CX0 1 "is_wanted" sp_is_wanted := has_is_wanted  F_is_wanted g_is_wanted M R
  have h_combined : HasR P w K mg base CX0 2 "combined" sp_combined := has_combined h_is_covered h_is_wanted h_merged F_combined g_combined M R
  have h_mixed : HasR P w K mg base CX0 3 "mixed" sp_mixed := has_mixed h_cuts_of h_spans_at h_combined h_tidy F_mixed g_mixed M R
  have h_united : HasR P w K mg base CX0 4 "united" (sp_united K) := has_united h_mixed h_Region_init F_united g_united M R
  have h_Region_or : FnR P w K mg base CX0 5 (mA K "Region" "__or__") (sp_or K) := has_Region_or h_check_region h_united F_Region_or M R
  have h_turned_out : HasR P w K mg base CX0 3 "turned_out" (sp_turned_out K) := has_turned_out h_Region_init F_turned_out g_turned_out M R
  have h_Region_invert : FnR P w K mg base CX0 4 (mA K "Region" "__invert__") (sp_invert K) := has_Region_invert h_turned_out F_Region_invert M R
  have h_l_made : HasR P w K mg base CX0 6 "_law_made" (sp_l_made K) := has_l_made h_Region_empty h_Region_of h_Region_or h_Region_invert F_l_made g_l_made M R
  have h_length : HasR P w K mg base CX0 1 "length" (sp_length K) := has_length  F_length g_length M R
  have h_border_length : HasR P w K mg base CX0 3 "border_length" (sp_border_length K) := has_border_length h_check_region h_cuts_of h_spans_at h_combined h_length F_border_length g_border_length M R
  have h_Region_and : FnR P w K mg base CX0 5 (mA K "Region" "__and__") (sp_and K) := has_Region_and h_check_region h_turned_out h_united F_Region_and M R
  have h_Region_sub : FnR P w K mg base CX0 5 (mA K "Region" "__sub__") (sp_sub K) := has_Region_sub h_check_region h_turned_out h_united F_Region_sub M R
  have h_opposite : HasR P w K mg base CX0 1 "opposite" sp_opposite := has_opposite  F_opposite g_opposite M R
  have h_boxes_of : HasR P w K mg base CX0 1 "boxes_of" sp_boxes_of := has_boxes_of  F_boxes_of g_boxes_of M R
  have h_added_box : HasR P w K mg base CX0 1 "added_box" sp_added_box := has_added_box  F_added_box g_added_box M R
  have h_grown : HasR P w K mg base CX0 3 "grown" sp_grown := has_grown h_boxes_of h_added_box h_slabs_of F_grown g_grown M R
  have h_frame_of : HasR P w K mg base CX0 1 "frame_of" sp_frame_of := has_frame_of  F_frame_of g_frame_of M R
  have h_shrunk : HasR P w K mg base CX0 4 "shrunk" sp_shrunk := has_shrunk h_grown h_frame_of h_added_box h_slabs_of h_mixed h_opposite F_shrunk g_shrunk M R
  have h_Region_add : FnR P w K mg base CX0 5 (mA K "Region" "__add__") (sp_Region_add K) := has_Region_add h_check_box h_opposite h_shrunk h_Region_init h_grown F_Region_add M R
  have h_Region_bool : FnR P w K mg base CX0 1 (mA K "Region" "__bool__") (sp_bool K) := has_Region_bool  F_Region_bool M R
  have h_l_beside : HasR P w K mg base CX0 6 "_law_beside" (sp_l_beside K) := has_l_beside h_Region_add h_Region_or h_Region_and h_Region_bool F_l_beside g_l_beside M R
  have h_Region_is_bounded : FnR P w K mg base CX0 1 (propA K "Region" "is_bounded") (sp_is_bounded K) := has_Region_is_bounded  F_Region_is_bounded M R
  have h_check_bounded : HasR P w K mg base CX0 2 "check_bounded" (sp_check_bounded K) := has_check_bounded h_check_region F_check_bounded g_check_bounded M R
  have h_shadow : HasR P w K mg base CX0 3 "shadow" (sp_shadow K) := has_shadow h_check_bounded h_merged F_shadow g_shadow M R
  have h_l_sum : HasR P w K mg base CX0 1 "_law_sum" (sp_l_sum K) := has_l_sum  F_l_sum g_l_sum M R
  have h_l_right : HasR P w K mg base CX0 7 "_law_right" (sp_l_right K) := has_l_right h_Region_or h_border_length h_Region_and h_Region_sub h_l_beside h_Region_invert h_Region_is_bounded h_shadow h_l_sum F_l_right g_l_right M R
  have h_law : Has P w K mg base CX0 8 "law" ["_law_script"] (sp_law K) := has_law h_l_pool h_l_take h_l_lines h_l_boxes h_l_made h_l_right h_Region_invert h_Region_of h_border_length F_law g_law M R
  exact h_law
end K99
end BR
open PySem PySem.W PySem.Calls PyProof.Rows
theorem PySem.Challenge.cw_boxregions_k99_whole_borders_of_combinat_holds : PySem.Challenge.rw_boxregions_k99_whole_borders_of_combinat.Holds := by
  w_on; o_law
  refine HandSHeadRun.head_any (r := OpenLaw.row PySem.Challenge.rw_boxregions_k99_whole_borders_of_combinat) (q := view (OpenLaw.row PySem.Challenge.rw_boxregions_k99_whole_borders_of_combinat).prog [53]) (H := BR.K99.hk) (ob := BR.K99.ob) (M := 20000) (loose := BR.K99.loose)
    (d := HandSHeadRun.topDef (OpenLaw.row PySem.Challenge.rw_boxregions_k99_whole_borders_of_combinat).prog 53) (kwd := []) BR.K99.ob_eq
    (by kernel_rfl) (fun s => by kernel_rfl) BR.K99.run (by kernel_rfl) (by kernel_rfl) (by kernel_rfl) (by rfl) (by first | assumption | decide +kernel) (by decide +kernel) ⟨rfl, rfl, rfl, rfl, rfl, by decide +kernel⟩ ?hw ?hc
  case hw => w_witness2
  case hc =>
    refine BR.walk_ofG (l := PySem.Challenge.rw_boxregions_k99_whole_borders_of_combinat) (n := 63) (k := 8) (x := "_law_script") (CX := L2.CX0) rfl (by decide) (by kernel_rfl) ⟨rfl, by decide, by decide⟩ ?F (fun _ _ _ _ z => z)
    intro w mg fa h Y G hmg0
    obtain ⟨K, KX, c⟩ := Y
    have e : (HandSHeadRun.topDef (OpenLaw.row PySem.Challenge.rw_boxregions_k99_whole_borders_of_combinat).prog 53).name = ("law" : PySem.Str) := by kernel_rfl
    refine ⟨K, BR.sp_law K, KX, fun H a ns hl _ _ hS => ⟨a, ns, rfl, hS, hl, fun _ => rfl⟩, fun base _ _ => ?_⟩
    rw [e]
    exact BR.K99.facts (P := (PySem.Challenge.rw_boxregions_k99_whole_borders_of_combinat).prog) (w := w) KX G c base
