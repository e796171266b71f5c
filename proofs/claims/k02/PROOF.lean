import PyProof.Rows.All
import Wide.All
import OpenK.AllK
import Wide.FinOn
import HandS.ForMost
import HandS.IsInst
import HandS.Wide
import HandS.TupAny
import HandS.Style
import HandS.Defaults
import HandS.SortInts
import PyProof.ReprRoads
import HandS.EndBits
import HandS.Head0
import HandS.Head1
import HandS.Head2
import HandS.HeadHook1
import HandS.HeadHook2
import KE.KRevSl
import HandS.Strs
import HandS.SetBool
import HandS.SortRule
import HandS.Zip
import HandS.OwnEq
import HandS.Property
import HandS.ClsMeth
import HandS.Star
import KE.KOpsOwn
import HandS.FStr
import HandS.ExcField
import HandS.Lambda
import HandS.NoneIn
import HandS.Deep
import PyProof.Rows.Range3
import HandS.GenYield
import HandS.GenList
import HandS.SetFor
import HandS.HotCalls
import HandS.ExcInit
import HandS.ExcOwn
import HandS.TryMany
import HandS.ExcCtx
import PyProof.Rows.FactsExc_KeyError
import HandS.Flt
import HandS.TupSets
import KE.GoesMore
import KE.GoesEnum
import HandS.Iter
import KE.DataMinMax
import KE.DataCmp
import HandS.SortKw
import HandS.HeadHook4
import HandS.EndTab
import HandS.NestedK
import PyProof.NeKinds
import KE.KExcIs
import HandS.MakeKwOnly
import HandS.Dict
import HandS.StrMore
import HandS.Steps
import HandS.Flow
import PySem.Challenge.RW_boxregions_k02_exceptions_apart
set_option Elab.async false
set_option linter.all false
set_option maxRecDepth 100000
set_option maxHeartbeats 4000000
/-! Own layer: values by what they are (Ty), over a part G of the heap that never changes again. -/
namespace BR
open PySem PySem.Spec PyProof.Rows L2
abbrev St := L2.St

/-! ### heaps that grow -/
theorem same_refl (H : Hp) : Same H H := fun _ _ h => h
/-- what may be frozen anew: what is new, or a tuple -/
def Fz (H : Hp) (a : Addr) : Prop := H a = none ∨ ∃ xs, H a = some (.tup xs)
theorem Fz.back1 {H H1 : Hp} {a : Addr} (s : ∀ o, H a = some o → H1 a = some o) (h : Fz H1 a) : Fz H a := by
  cases e : H a with
  | none => exact .inl e
  | some o =>
    have e1 := s o e
    rcases h with h | ⟨xs, h⟩
    · rw [h] at e1; cases e1
    · rw [h] at e1; cases e1; exact .inr ⟨xs, e⟩
theorem Fz.back {H H1 : Hp} {a : Addr} (s : Same H H1) (h : Fz H1 a) : Fz H a := by
  cases e : H a with
  | none => exact .inl e
  | some o =>
    have e1 := s a o e
    rcases h with h | ⟨xs, h⟩
    · rw [h] at e1; cases e1
    · rw [h] at e1; cases e1; exact .inr ⟨xs, e⟩
theorem Fz.no {H : Hp} {a : Addr} {o : HO} (h : Fz H a) (e : H a = some o) (n : ∀ xs, o ≠ .tup xs) : False := by
  rcases h with h | ⟨xs, h⟩
  · rw [h] at e; cases e
  · rw [h] at e; cases e; exact n xs rfl
structure Grow (G H G' H' : Hp) : Prop where
  g : Same G G'
  h : Same H H'
  s : Same G' H'
  f : ∀ a, G a = none → G' a ≠ none → Fz H a
theorem Grow.refl {G H : Hp} (s : Same G H) : Grow G H G H :=
  ⟨same_refl G, same_refl H, s, fun a h h' => absurd h h'⟩
theorem Grow.trans {G H G1 H1 G2 H2 : Hp} (a : Grow G H G1 H1) (b : Grow G1 H1 G2 H2) : Grow G H G2 H2 :=
  ⟨a.g.trans b.g, a.h.trans b.h, b.s, fun x hx hy => by
    by_cases h1 : G1 x = none
    · exact (b.f x h1 hy).back a.h
    · exact a.f x hx h1⟩
/-- only the rest has grown -/
theorem Grow.rest {G H H' : Hp} (s : Same G H) (h : Same H H') : Grow G H G H' :=
  ⟨same_refl G, h, s.trans h, fun a h h' => absurd h h'⟩
theorem same_new {H : Hp} {p : Addr} {o : HO} (h : H p = none) : Same H (upd H p o) := fun a u e => by
  rw [upd_ne (ne_of_none e h)]
  exact e
theorem Grow.new {G H : Hp} {p : Addr} {o : HO} (s : Same G H) (h : H p = none) : Grow G H (upd G p o) (upd H p o) := by
  have hG : G p = none := s.free h
  refine ⟨same_new hG, same_new h, fun a u e => ?_, fun a ha hb => ?_⟩
  · by_cases q : a = p
    · subst q
      rw [upd_same] at e ⊢
      exact e
    · rw [upd_ne q] at e ⊢
      exact s a u e
  · by_cases q : a = p
    · subst q
      exact .inl h
    · rw [upd_ne q] at hb
      exact absurd ha hb
def uni (A B : Hp) : Hp := fun a => match A a with
  | some o => some o
  | none => B a
theorem uni_l (A B : Hp) : Same A (uni A B) := fun a o e => by simp [uni, e]
theorem uni_r {A B H : Hp} (ha : Same A H) (hb : Same B H) : Same B (uni A B) := fun a o e => by
  unfold uni
  cases q : A a with
  | none => exact e
  | some u =>
    have h1 := ha a u q
    have h2 := hb a o e
    rw [h1] at h2
    exact h2
theorem uni_s {A B H : Hp} (ha : Same A H) (hb : Same B H) : Same (uni A B) H := fun a o e => by
  unfold uni at e
  cases q : A a with
  | none =>
    rw [q] at e
    exact hb a o e
  | some u =>
    rw [q] at e
    cases e
    exact ha a _ q
/-- a growth over less is one over more -/
theorem Grow.more {G G1 H G' H' : Hp} (a : Grow G H G' H') (g : Same G G1) (s : Same G1 H) : Grow G1 H (uni G1 G') H' ∧ Same G' (uni G1 G') :=
  ⟨⟨uni_l _ _, a.h, uni_s (s.trans a.h) a.s, fun x hx hy => by
    have e : uni G1 G' x = G' x := by simp [uni, hx]
    rw [e] at hy
    exact a.f x (g.free hx) hy⟩, uni_r (s.trans a.h) a.s⟩

/-! ### what a value is -/
structure Ty where
  p : Hp → V → Prop
  m : ∀ G G' v, Same G G' → p G v → p G' v
inductive All : Hp → List Ty → List V → Prop
  | nil {G} : All G [] []
  | cons {G φ φs v vs} : φ.p G v → All G φs vs → All G (φ :: φs) (v :: vs)
theorem All.mono {G G' : Hp} (s : Same G G') : ∀ {φs : List Ty} {vs : List V}, All G φs vs → All G' φs vs
  | _, _, .nil => .nil
  | _, _, .cons h t => .cons (Ty.m _ _ _ _ s h) (t.mono s)
theorem All.length {G : Hp} : ∀ {φs : List Ty} {vs : List V}, All G φs vs → vs.length = φs.length
  | _, _, .nil => rfl
  | _, _, .cons _ t => by simp [t.length]
theorem All.get {G : Hp} : ∀ {φs : List Ty} {vs : List V} {i : Nat} {φ : Ty}, All G φs vs → φs[i]? = some φ → ∃ v, vs[i]? = some v ∧ φ.p G v
  | _, _, _, _, .nil, e => by simp at e
  | _, _, 0, _, .cons h _, e => by
    simp at e
    subst e
    exact ⟨_, rfl, h⟩
  | _, _, i + 1, _, .cons _ t, e => by
    obtain ⟨v, h1, h2⟩ := t.get (i := i) (by simpa using e)
    exact ⟨v, by simpa using h1, h2⟩
theorem All.get' {G : Hp} : ∀ {φs : List Ty} {vs : List V} {i : Nat} {v : V}, All G φs vs → vs[i]? = some v → ∃ φ, φs[i]? = some φ ∧ φ.p G v
  | _, _, _, _, .nil, e => by simp at e
  | _, _, 0, _, .cons h _, e => by
    simp at e
    subst e
    exact ⟨_, rfl, h⟩
  | _, _, i + 1, _, .cons _ t, e => by
    obtain ⟨φ, h1, h2⟩ := t.get' (i := i) (by simpa using e)
    exact ⟨φ, by simpa using h1, h2⟩
theorem All.append {G : Hp} : ∀ {φs ψs : List Ty} {vs ws : List V}, All G φs vs → All G ψs ws → All G (φs ++ ψs) (vs ++ ws)
  | _, _, _, _, .nil, h => h
  | _, _, _, _, .cons a t, h => .cons a (t.append h)
theorem All.drop {G : Hp} : ∀ {φs : List Ty} {vs : List V} (n : Nat), All G φs vs → All G (φs.drop n) (vs.drop n)
  | _, _, 0, h => h
  | _, _, _ + 1, .nil => .nil
  | _, _, n + 1, .cons _ t => t.drop n
theorem All.set {G : Hp} {φ : Ty} {v : V} (h : φ.p G v) : ∀ {φs : List Ty} {vs : List V} (i : Nat), All G φs vs → All G (φs.set i φ) (vs.set i v)
  | _, _, _, .nil => .nil
  | _, _, 0, .cons _ t => .cons h t
  | _, _, i + 1, .cons a t => .cons a (All.set h i t)

abbrev Fg := PySem.W.Frag
theorem sqL_mono {K : Fg} {G G' : Hp} {a : Addr} {xs : List V} (e : Same G G') (h : SqL K G a xs) : SqL K G' a xs := e.seq h
/-- a known value -/
def tv (v : V) : Ty := ⟨fun _ u => u = v, fun _ _ _ _ h => h⟩
abbrev tI (i : Int) : Ty := tv (.int i)
abbrev tBo (b : Bool) : Ty := tv (.bl b)
abbrev tN : Ty := tv .non
abbrev tSt (x : Str) : Ty := tv (.str x)
/-- a tuple, a list (never changed again), by what their items are -/
def tT (φs : List Ty) : Ty := ⟨fun G v => ∃ a vs, v = .ref a ∧ G a = some (.tup vs) ∧ All G φs vs, fun _ _ _ s ⟨a, vs, e, h1, h2⟩ => ⟨a, vs, e, s _ _ h1, h2.mono s⟩⟩
def tL (φs : List Ty) : Ty := ⟨fun G v => ∃ a vs, v = .ref a ∧ G a = some (.lst vs) ∧ All G φs vs, fun _ _ _ s ⟨a, vs, e, h1, h2⟩ => ⟨a, vs, e, s _ _ h1, h2.mono s⟩⟩
/-! ### what an expression's reading gives -/
def PD (t : TE) (σ : St) (G R : Hp) (φ : Ty) : Prop :=
  ∀ H, Same R H → Same G H → ∀ Q : VK, (∀ v G' H', Grow G H G' H' → φ.p G' v → Q v H') → t σ H Q
def AD (t : TA) (σ : St) (G R : Hp) (φs : List Ty) : Prop :=
  ∀ H, Same R H → Same G H → ∀ Q : List V → Hp → Prop, (∀ vs G' H', Grow G H G' H' → All G' φs vs → Q vs H') → t σ H Q
def TD (t : TT) (σ : St) (R : Hp) (b : Bool) : Prop :=
  ∀ H, Same R H → ∀ Q : Bool → Hp → Prop, (∀ H', Same H H' → Q b H') → t σ H Q
section
variable {K : Fg} {σ : St} {G G1 R R1 : Hp} {ta tb te : TE} {φ ψ χ : Ty}
theorem PD.mono (h : PD te σ G R φ) (g : Same G G1) (r : Same R R1) : PD te σ G1 R1 φ := fun H sr sg Q q =>
  h H (r.trans sr) (g.trans sg) Q fun v G' H' gr hv =>
    let ⟨g2, s2⟩ := gr.more g sg
    q v _ H' g2 (φ.m _ _ _ s2 hv)
theorem AD.mono {ta : TA} {φs : List Ty} (h : AD ta σ G R φs) (g : Same G G1) (r : Same R R1) : AD ta σ G1 R1 φs := fun H sr sg Q q =>
  h H (r.trans sr) (g.trans sg) Q fun v G' H' gr hv =>
    let ⟨g2, s2⟩ := gr.more g sg
    q v _ H' g2 (hv.mono s2)
theorem TD.mono {t : TT} {b : Bool} (h : TD t σ R b) (r : Same R R1) : TD t σ R1 b := fun H sr Q q => h H (r.trans sr) Q q
theorem PD.imp (h : PD te σ G R φ) (f : ∀ G v, φ.p G v → ψ.p G v) : PD te σ G R ψ := fun H sr sg Q q =>
  h H sr sg Q fun v G' H' gr hv => q v G' H' gr (f _ _ hv)
theorem PD.is (h : PD te σ G R φ) (e : φ = ψ) : PD te σ G R ψ := e ▸ h
theorem TD.is {t : TT} {a b : Bool} (h : TD t σ R a) (e : a = b) : TD t σ R b := e ▸ h
/-- a known value may be read off anything that stands -/
theorem PD.val {v : V} (h : PD te σ R R (tv v)) : PD te σ G R (tv v) := fun H sr sg Q q =>
  h H sr sr Q fun u _ H' gr hv => q u G H' (.rest sg gr.h) hv
/-! names, constants -/
theorem pd_var {i : Nat} {v : V} (h : σ[i]? = some (some v)) (hv : φ.p G v) : PD (tVar i) σ G R φ := fun H _ sg Q q =>
  ⟨v, h, q v G H (.refl sg) hv⟩
theorem pd_c {v : V} : PD (tC v) σ G R (tv v) := fun H _ sg Q q => q v G H (.refl sg) rfl
/-! arguments, displays -/
theorem ad_nil : AD tNil σ G R [] := fun H _ sg Q q => q [] G H (.refl sg) .nil
theorem ad_cons {tr : TA} {φs : List Ty} (h : PD te σ G R φ) (hr : AD tr σ G R φs) : AD (tCons te tr) σ G R (φ :: φs) := fun H sr sg Q q =>
  h H sr sg _ fun v G1 H1 g1 hv => (hr.mono g1.g (sr.trans g1.h)) H1 (same_refl _) g1.s _ fun vs G2 H2 g2 hvs =>
    q (v :: vs) G2 H2 (g1.trans g2) (.cons (φ.m _ _ _ g2.g hv) hvs)
theorem sz_of {n : Nat} (h : n ≤ 100000) : n ≤ sizeLine := Nat.le_trans h (by decide)
theorem sz_lt {n : Nat} (h : n < 100000) : n < sizeLine := Nat.lt_of_lt_of_le h (by decide)
/-! two places -/
theorem pd_op {r : R2} (ha : PD ta σ G R φ) (hb : PD tb σ G R ψ)
    (hr : ∀ x y G1 H, Same G G1 → Same G1 H → φ.p G1 x → ψ.p G1 y → ∀ Q : VK, (∀ v G' H', Grow G1 H G' H' → χ.p G' v → Q v H') → r x y H Q) : PD (tOp r ta tb) σ G R χ := fun H sr sg Q q =>
  ha H sr sg _ fun x G1 H1 g1 hx => (hb.mono g1.g (sr.trans g1.h)) H1 (same_refl _) g1.s _ fun y G2 H2 g2 hy =>
    hr x y G2 H2 (g1.g.trans g2.g) g2.s (φ.m _ _ _ g2.g hx) hy Q fun v G3 H3 g3 hv => q v G3 H3 ((g1.trans g2).trans g3) hv
/-- two known values to a known value -/
theorem pd_opv {r : R2} {x y z : V} (ha : PD ta σ G R (tv x)) (hb : PD tb σ G R (tv y)) (hr : ∀ H Q, Q z H → r x y H Q) : PD (tOp r ta tb) σ G R (tv z) :=
  pd_op ha hb fun x' y' G1 H _ s1 ex ey Q q => by
    cases ex
    cases ey
    exact hr H Q (q z G1 H (.refl s1) rfl)
theorem pd_I0 {g : Int → Int → V} {i j : Int} (ha : PD ta σ G R (tI i)) (hb : PD tb σ G R (tI j)) : PD (tOp (rI0 g) ta tb) σ G R (tv (g i j)) :=
  pd_opv ha hb fun H Q q => ⟨i, j, rfl, rfl, q⟩
theorem pd_I {C : Int → Int → Prop} {g : Int → Int → V} {i j : Int} (ha : PD ta σ G R (tI i)) (hb : PD tb σ G R (tI j)) (hc : C i j) : PD (tOp (rI C g) ta tb) σ G R (tv (g i j)) :=
  pd_opv ha hb fun H Q q => ⟨i, j, rfl, rfl, hc, q⟩
theorem pd_un {r : V → Hp → VK → Prop} {x z : V} (ha : PD ta σ G R (tv x)) (hr : ∀ H Q, Q z H → r x H Q) : PD (tUn r ta) σ G R (tv z) := fun H sr sg Q q =>
  ha H sr sg _ fun v G1 H1 g1 hv => by
    cases hv
    exact hr H1 Q (q z G1 H1 g1 rfl)
/-! items -/
/-! tests -/
theorem td_test {b : Bool} (h : PD te σ R R (tBo b)) : TD (tTest te) σ R b := fun H sr Q q =>
  h H sr sr _ fun v _ H1 g1 hv => ⟨b, hv, q H1 g1.h⟩
variable {t u : TT}
/-! calls of built-ins -/
theorem pd_callB {r : List V → Hp → VK → Prop} {ta : TA} {φs : List Ty} (h : AD ta σ G R φs)
    (hr : ∀ vs G1 H, Same G G1 → Same G1 H → All G1 φs vs → ∀ Q : VK, (∀ v G' H', Grow G1 H G' H' → χ.p G' v → Q v H') → r vs H Q) : PD (tCB r ta) σ G R χ := fun H sr sg Q q =>
  h H sr sg _ fun vs G1 H1 g1 hv => hr vs G1 H1 g1.g g1.s hv Q fun v G2 H2 g2 hv => q v G2 H2 (g1.trans g2) hv
/-! promises of defs that are functions of their arguments -/
def spT (pre : List Ty → Ty → Prop) : Sp := fun vs H Q _ => ∃ G φs φ, Same G H ∧ All G φs vs ∧ pre φs φ ∧ ∀ v G' H', Grow G H G' H' → φ.p G' v → Q v H'
end
/-! ### statements -/
section
variable {K : Fg} {σ : St} {G R H : Hp} {ta tb te : TE} {t : TT} {φ ψ : Ty} {D : Ends} {tu tw tz : TS}
theorem s_if {b : Bool} (h : TD t σ R b) (sr : Same R H) (h1 : b = true → ∀ H', Same H H' → tu D σ H') (h2 : b = false → ∀ H', Same H H' → tw D σ H') : tIfS t tu tw D σ H :=
  h H sr _ fun H1 g1 => by
    cases b with
    | true => exact h1 rfl H1 g1
    | false => exact h2 rfl H1 g1
theorem q_if {b : Bool} (h : TD t σ R b) (sr : Same R H) (h1 : b = true → ∀ H', Same H H' → tu { D with nx := tz D } σ H') (h2 : b = false → ∀ H', Same H H' → tw { D with nx := tz D } σ H') : tSeq (tIfS t tu tw) tz D σ H :=
  s_if (D := { D with nx := tz D }) h sr h1 h2
end
end BR
/-! Own layer, second part: defs that are called where no repr is under way; generic operators. -/
namespace BR
open PySem PySem.Spec PyProof.Rows L2
/-! ### defs -/
structure FnG (P : Program) (w : World) (K : Fg) (mg : Str → Option Value) (base : Heap) (CX : CXT) (k : Nat) (f : Addr) (fd : FuncData) (ps : List Str) (sp : Sp) : Prop where
  len : ∀ vs H Q E, sp vs H Q E → vs.length = ps.length
  run : ∀ (A : Around) (outer : List Env) (s : Shared) (H : Hp) (args : Args) (us : List Value) (vs : List V) (Q : VK) (E : XK),
    Room k A → A.guards = some [] → Env0 P w K mg base A outer s H → BindsTo s fd args (ps.zip us) → Vals vs us → sp vs H Q E →
    codeAny (model P w) A (.call (.ref f) args) (CR CX outer P w H s Q E) s
theorem FnG.mono {P : Program} {w : World} {K : Fg} {mg : Str → Option Value} {base : Heap} {CX : CXT} {j k : Nat} {f : Addr} {fd : FuncData} {ps : List Str} {sp : Sp}
    (F : FnG P w K mg base CX j f fd ps sp) (h : j ≤ k) : FnG P w K mg base CX k f fd ps sp :=
  ⟨F.len, fun A outer s H args us vs Q E hr => F.run A outer s H args us vs Q E (hr.mono h)⟩
theorem fn_ofG {CX : CXT} {P : Program} {w : World} {K : Fg} {mg : Str → Option Value} {base : Heap} {k : Nat} {f : Addr} {name qual : Str} {params : Arguments} {body : List Stmt} {scope : Scope}
    {dV kV doc pm cdv ct oc : Value} {an od : Option Addr} {osl : Array (Option Value)} {N ps : List Str} {sp : Sp}
    (lk : K.lookup f = some ⟨oc, od, .func (PySem.W.fnOf name qual params body scope dV kV doc pm an cdv ct), osl⟩) (hcd : PySem.W.codeIn K cdv qual = true) (S : FnScope N ps scope)
    (len : ∀ vs H Q E, sp vs H Q E → vs.length = ps.length)
    (hbody : ∀ (A : Around) (outer : List Env) (s : Shared) (H : Hp) (vs : List V) (Q : VK) (E : XK), Room k (A.deeper (envOfC qual scope s.heap.objs.size f cdv)) → A.guards = some [] → sp vs H Q E →
      ∃ t, PSs (cxOf CX P w K mg base N qual scope f cdv A outer s H E) body t ∧ t { nx := fun _ H' => Q .non H', rt := Q } (start N vs) H) :
    FnG P w K mg base CX (k + 1) f (PySem.W.fnOf name qual params body scope dV kV doc pm an cdv ct) ps sp := by
  refine ⟨len, ?_⟩
  intro A outer s H args us vs Q E hr hgd e0 hb r hsp
  have KX : K.In s.heap := e0.mod.kin.keeps fun b o e => (e0.bs b o e).1
  have lim : s.heap.NoLimit := e0.mod.nolimit.keeps fun b o e => (e0.bs b o e).1
  have hkind : ∀ y ∈ ps.zip us, scope.names.lookup y.1 = some .local ∨
      (scope.names.lookup y.1 = some .cell ∧ ((cellsFrom (s.heap.objs.size + 1) scope.names []).lookup y.1).isSome = true) := by
    rintro ⟨n, v⟩ hy
    exact (S.par n (List.of_mem_zip hy).1).imp id fun q => ⟨q, PySem.W.cellsFrom_some _ _ _ (.inl q)⟩
  refine codeAny_call_function hr.depth (KX _ _ lk) rfl S.co S.gen rfl (PySem.W.codeRec_of KX hcd) (hb _ _ _ _ ?_)
  refine wpAny_newFunctionEnv_cells S.kind hkind ?_
  rintro env rfl s1 x
  refine ⟨lim.keeps x.toInCall.keep, codeAny_func ?_⟩
  obtain ⟨t, ht, hq⟩ := hbody A outer s H vs Q E (hr.deeper _) hgd hsp
  have I : Inv (cxOf CX P w K mg base N qual scope f cdv A outer s H E) [] (start N vs) H s1 := inv_start S hr.hd e0 (len _ _ _ _ hsp) r x
  refine wpAny_mono (ht.run [] s1 (start N vs) H _ I hq) ?_ (fun e s' hs => hs)
  intro fl s' hs
  match fl, hs with
  | .ret u, ⟨v, σ', H', J, rv, q⟩ => exact ⟨v, H', J.os, J.bare, J.base, J.hok, rv, q⟩
  | .next, ⟨σ', H', J, q⟩ => exact ⟨V.non, H', J.os, J.bare, J.base, J.hok, rfl, q⟩
  | .brk, ⟨_, _, _, q⟩ => exact q.elim
  | .cont, ⟨_, _, _, q⟩ => exact q.elim
/-- a def that the module's name x holds -/
structure Has (P : Program) (w : World) (K : Fg) (mg : Str → Option Value) (base : Heap) (CX : CXT) (k : Nat) (x : Str) (ps : List Str) (sp : Sp) : Prop where
  ex : ∃ f fd, mg x = some (.ref f) ∧ PySem.W.keepIn K (.ref f) = true ∧ Binds K fd ps [] ∧ FnG P w K mg base CX k f fd ps sp
theorem Has.mono {P : Program} {w : World} {K : Fg} {mg : Str → Option Value} {base : Heap} {CX : CXT} {j k : Nat} {x : Str} {ps : List Str} {sp : Sp} (h : Has P w K mg base CX j x ps sp) (hk : j ≤ k) : Has P w K mg base CX k x ps sp := by
  obtain ⟨f, fd, h1, h2, h3, h4⟩ := h.ex
  exact ⟨f, fd, h1, h2, h3, h4.mono hk⟩
/-- a plain def of the text -/
abbrev Fnt (K : Fg) (x : Str) (st : Stmt) (f : Addr) (fd : FuncData) : Prop := FunD K x x (defArgs st) (defBody st) (defScope st) [] [] f fd
theorem has_of {CX : CXT} {P : Program} {w : World} {K : Fg} {mg : Str → Option Value} {base : Heap} {k : Nat} {x : Str} {st : Stmt} {f : Addr} {fd : FuncData} {N ps : List Str} {sp : Sp}
    (F : Fnt K x st f fd) (hm : mg x = some (.ref f)) (S : FnScope N ps (defScope st)) (hb : ∀ fd', Fnt K x st f fd' → Binds K fd' ps []) (len : ∀ vs H Q E, sp vs H Q E → vs.length = ps.length)
    (hbody : ∀ (cdv : Value) (A : Around) (outer : List Env) (s : Shared) (H : Hp) (vs : List V) (Q : VK) (E : XK), Room k (A.deeper (envOfC x (defScope st) s.heap.objs.size f cdv)) → A.guards = some [] → sp vs H Q E →
      ∃ t, PSs (cxOf CX P w K mg base N x (defScope st) f cdv A outer s H E) (defBody st) t ∧ t { nx := fun _ H' => Q .non H', rt := Q } (start N vs) H) :
    Has P w K mg base CX (k + 1) x ps sp := by
  have hb' := hb fd F
  obtain ⟨oc, od, dV, kV, doc, pm, an, cdv, ct, osl, rfl, lk, hcd, _, _⟩ := F.ex
  exact ⟨f, _, hm, F.kp, hb', fn_ofG lk hcd S len fun A outer s H vs Q E hr hg hsp => hbody cdv A outer s H vs Q E hr hg hsp⟩
section
variable {X : Cx} {CX : CXT} {k : Nat} {x : Str} {ps : List Str} {sp : Sp} {E : XK} {p pos : Pos} {e : Expr} {es : List Expr} {t : TA}
end
/-! ### operators, by all that they may meet -/
section
variable {X : Cx}
abbrev rAddI : R2 := rI0 fun i j => .int (i + j)
abbrev rMulI : R2 := rI CMulW fun i j => .int (i * j)
abbrev rDivI : R2 := rI CDivW fun i j => .int (i / j)
abbrev rModI : R2 := rI (fun _ j => 0 < j) fun i j => .int (i % j)
abbrev rPowI : R2 := rI CPow fun i j => .int (i ^ j.toNat)
abbrev rLtI : R2 := rI0 fun i j => .bl (decide (i < j))
abbrev rGtI : R2 := rI0 fun i j => .bl (decide (j < i))
abbrev rNegI : V → Hp → VK → Prop := rU fun i => .int (-i)
def rAddS : R2 := fun x y H Q => ∃ i j, x = .str i ∧ y = .str j ∧ i.length + j.length ≤ sizeLine ∧ Q (.str (i ++ j)) H
def rAddX (K : Fg) : R2 := fun x y H Q => rAddI x y H Q ∨ rCatA K x y H Q ∨ rCat x y H Q ∨ rAddS x y H Q
theorem op_addX : OpR X (binaryOp .Add) (rAddX X.K) := op_add.or (op_catA.or (op_cat.or op_add_str))
def rLenX (K : Fg) : List V → Hp → VK → Prop := fun xs H Q => ∃ x n, xs = [x] ∧ LenV K x H n ∧ Q (.int n) H
theorem call_lenX : CallR X (.builtin "len") (rLenX X.K) := call_len
def rMax2 : List V → Hp → VK → Prop := fun xs H Q => ∃ i j, xs = [.int i, .int j] ∧ Q (.int (if j > i then j else i)) H
def rMin2 : List V → Hp → VK → Prop := fun xs H Q => ∃ i j, xs = [.int i, .int j] ∧ Q (.int (if j < i then j else i)) H
theorem call_max2' (hc : X.calm = true) : CallR X (.builtin "max") rMax2 := call_max2 hc
theorem call_min2' (hc : X.calm = true) : CallR X (.builtin "min") rMin2 := call_min2 hc
/-- what a for walks: a list or a tuple -/
def iSeq (K : Fg) (tl : TE) : TI := fun σ H R => tl σ H fun x H1 => (∃ a, x = .ref a ∧ (∃ xs, SqL K H1 a xs) ∧ R (Itl K a) H1) ∨ (∃ a, x = .ref a ∧ (∃ xs, SqT K H1 a xs) ∧ R (Itt K a) H1)
theorem pi_seq {tg l : Expr} {tl : TE} (hl : PE X l tl) : PI X tg l (iSeq X.K tl) := by
  refine ⟨fun pins s σ H R I h => ?_⟩
  refine thn (hl.run pins s σ H _ I h) ?_
  rintro v s1 ⟨x, H1, I1, r1, ⟨a, rfl, ⟨xs, hq⟩, q⟩ | ⟨a, rfl, ⟨xs, hq⟩, q⟩⟩
  · cases r1
    obtain ⟨its, rv, p, hz⟩ := I1.list hq
    refine wpAny_pyIter_list p.isList ⟨s1.heap.objs.size, [s1.heap.objs.size], _, _, H1, rfl, ?_, turn_list a _, ⟨_, Heap.get?_push_size _ rfl, rfl, rfl⟩, ?_, q⟩
    · exact I1.kept (t' := s1.toks) fun b o e => Heap.get?_push_of_some _ e
    · intro b hb
      rw [List.mem_singleton.mp hb]
      exact I1.fpOk (Nat.le_refl _) (I1.hok.fresh (Nat.le_refl _))
  · cases r1
    obtain ⟨its, rv, p, hz⟩ := I1.tuple hq
    refine wpAny_pyIter_tuple (show s1.heap.IsTuple a its.toArray from p) ⟨s1.heap.objs.size, [s1.heap.objs.size], _, _, H1, rfl, ?_, turn_tuple a _, ⟨_, Heap.get?_push_size _ rfl, rfl, rfl⟩, ?_, q⟩
    · exact I1.kept (t' := s1.toks) fun b o e => Heap.get?_push_of_some _ e
    · intro b hb
      rw [List.mem_singleton.mp hb]
      exact I1.fpOk (Nat.le_refl _) (I1.hok.fresh (Nat.le_refl _))
end
/-! ### what these give -/
section
variable {K : Fg} {σ : St} {G R : Hp} {ta tb te : TE} {φ ψ χ : Ty} {i j : Int}
theorem pd_add (ha : PD ta σ G R (tI i)) (hb : PD tb σ G R (tI j)) : PD (tOp (rAddX K) ta tb) σ G R (tI (i + j)) := pd_opv ha hb fun H Q q => .inl ⟨i, j, rfl, rfl, q⟩
theorem pd_mul (ha : PD ta σ G R (tI i)) (hb : PD tb σ G R (tI j)) (hc : CMulW i j) : PD (tOp rMulI ta tb) σ G R (tI (i * j)) := pd_I ha hb hc
theorem pd_div (ha : PD ta σ G R (tI i)) (hb : PD tb σ G R (tI j)) (hc : CDivW i j) : PD (tOp rDivI ta tb) σ G R (tI (i / j)) := pd_I ha hb hc
theorem pd_mod (ha : PD ta σ G R (tI i)) (hb : PD tb σ G R (tI j)) (hc : 0 < j) : PD (tOp rModI ta tb) σ G R (tI (i % j)) := pd_I ha hb hc
theorem pd_pow (ha : PD ta σ G R (tI i)) (hb : PD tb σ G R (tI j)) (hc : CPow i j) : PD (tOp rPowI ta tb) σ G R (tI (i ^ j.toNat)) := pd_I ha hb hc
theorem pd_lt (ha : PD ta σ G R (tI i)) (hb : PD tb σ G R (tI j)) : PD (tOp rLtI ta tb) σ G R (tBo (decide (i < j))) := pd_I0 ha hb
theorem pd_gt (ha : PD ta σ G R (tI i)) (hb : PD tb σ G R (tI j)) : PD (tOp rGtI ta tb) σ G R (tBo (decide (j < i))) := pd_I0 ha hb
theorem pd_neg (ha : PD ta σ G R (tI i)) : PD (tUn rNegI ta) σ G R (tI (-i)) := pd_un ha fun H Q q => ⟨i, rfl, q⟩
theorem pd_catL {φs ψs : List Ty} (ha : PD ta σ G R (tL φs)) (hb : PD tb σ G R (tL ψs)) (hl : φs.length + ψs.length ≤ 100000) : PD (tOp (rAddX K) ta tb) σ G R (tL (φs ++ ψs)) :=
  pd_op ha hb fun x y G1 H _ s1 hx hy Q q => by
    obtain ⟨a, vs, rfl, h1, h2⟩ := hx
    obtain ⟨b, ws, rfl, h3, h4⟩ := hy
    refine .inr (.inr (.inl ⟨a, b, vs, ws, rfl, rfl, s1 _ _ h1, s1 _ _ h3, sz_of (by rw [h2.length, h4.length]; exact hl), fun p hp => ?_⟩))
    have g2 : Grow G1 H (upd G1 p (.lst (vs ++ ws))) (upd H p (.lst (vs ++ ws))) := .new s1 hp
    exact q _ _ _ g2 ⟨p, _, rfl, upd_same, (h2.append h4).mono g2.g⟩
/-- items -/
theorem at_of_all {G : Hp} {φs : List Ty} {vs : List V} {i : Int} {φ : Ty} (h : All G φs vs) (hi : atI φs i = some φ) : ∃ v, atI vs i = some v ∧ φ.p G v := by
  unfold atI at hi ⊢
  rw [← h.length] at hi
  cases e : ixN vs.length i with
  | none =>
    rw [e] at hi
    cases hi
  | some j =>
    rw [e] at hi
    exact h.get hi
theorem pd_ixLX {φs : List Ty} (ha : PD ta σ G R (tL φs)) (hb : PD tb σ G R (tI i)) (hi : atI φs i = some φ) : PD (tOp (rIx K) ta tb) σ G R φ :=
  pd_op ha hb fun x y G1 H _ s1 hx hy Q q => by
    obtain ⟨a, vs, rfl, h1, h2⟩ := hx
    cases hy
    obtain ⟨v, e1, e2⟩ := at_of_all h2 hi
    exact .inl ⟨a, vs, i, v, rfl, rfl, .of (s1 _ _ h1), e1, q v G1 H (.refl s1) e2⟩
/-- an item of a list that still changes, by values -/
theorem pd_ixV {a : Addr} {vs : List V} {v : V} (ha : PD ta σ R R (tv (.ref a))) (hb : PD tb σ R R (tI i)) (hl : R a = some (.lst vs)) (hi : atI vs i = some v) : PD (tOp (rIx K) ta tb) σ R R (tv v) :=
  pd_op ha hb fun x y G1 H g1 s1 hx hy Q q => by
    cases hx
    cases hy
    exact .inl ⟨a, vs, i, v, rfl, rfl, .of (s1 _ _ (g1 _ _ hl)), hi, q v G1 H (.refl s1) rfl⟩
theorem pd_lenL {φs : List Ty} (h : PD te σ G R (tL φs)) : PD (tCB (rLenX K) (tCons te tNil)) σ G R (tI (φs.length : Int)) :=
  pd_callB (ad_cons h ad_nil) fun vs G1 H _ s1 hv Q q => by
    cases hv with
    | cons h1 h2 =>
      cases h2
      obtain ⟨a, ws, rfl, h3, h4⟩ := h1
      exact ⟨.ref a, ws.length, rfl, .inl ⟨ws, .of (s1 _ _ h3), rfl⟩, q _ G1 H (.refl s1) (by rw [h4.length]; rfl)⟩
end
end BR
/-! Own layer, third part: comprehensions and loops. -/
namespace BR
open PySem PySem.Spec PyProof.Rows L2
/-- a list or a tuple -/
def tSq (φs : List Ty) : Ty := ⟨fun G v => ∃ a vs, v = .ref a ∧ (G a = some (.lst vs) ∨ G a = some (.tup vs)) ∧ All G φs vs,
  fun _ _ _ s ⟨a, vs, e, h1, h2⟩ => ⟨a, vs, e, h1.imp (s _ _) (s _ _), h2.mono s⟩⟩
section
variable {K : Fg} {σ : St} {G R H : Hp} {te tl : TE} {φs : List Ty}
/-! ### targets -/
/-! ### one clause -/
/-- while a comprehension fills the list at D -/
def Cw (G1 H1 : Hp) (D : Addr) (φs : List Ty) (H : Hp) : Prop :=
  ∃ Gi vs, Same G1 Gi ∧ Same Gi H ∧ Same H1 H ∧ Gi D = none ∧ (∀ a, G1 a = none → Gi a ≠ none → Fz H1 a) ∧ H D = some (.lst vs) ∧ All Gi φs vs
theorem same_upd {G H : Hp} {D : Addr} {o : HO} (s : Same G H) (h : G D = none) : Same G (upd H D o) := fun a u e => by
  rw [upd_ne (ne_of_none e h)]
  exact s a u e
theorem Cw.start {G1 H1 : Hp} {D : Addr} (s : Same G1 H1) (hD : H1 D = none) : Cw G1 H1 D [] (upd H1 D (.lst [])) :=
  ⟨G1, [], same_refl _, same_upd s (s.free hD), same_new hD, s.free hD, fun a h h' => absurd h h', upd_same, .nil⟩
theorem Cw.fin {G0 H0 G1 H1 H : Hp} {D : Addr} {φs : List Ty} (g : Grow G0 H0 G1 H1) (hD : H1 D = none) (c : Cw G1 H1 D φs H) : ∃ G', Grow G0 H0 G' H ∧ (tL φs).p G' (.ref D) := by
  obtain ⟨Gi, vs, a, b, c, d, e, f, h⟩ := c
  refine ⟨upd Gi D (.lst vs), ⟨(g.g.trans a).trans (same_new d), g.h.trans c, fun x o hx => ?_, fun x hx hy => ?_⟩, D, vs, rfl, upd_same, h.mono (same_new d)⟩
  · by_cases q : x = D
    · subst q
      rw [upd_same] at hx
      rw [f]
      exact hx
    · rw [upd_ne q] at hx
      exact b x o hx
  · by_cases q : x = D
    · subst q
      exact .inl (g.h.free hD)
    · rw [upd_ne q] at hy
      by_cases z : G1 x = none
      · exact (e x z hy).back g.h
      · exact g.f x hx z
theorem Cw.put {G1 H1 Gi H H2 G' : Hp} {D : Addr} {φs : List Ty} {ψ : Ty} {vs : List V} {v : V} (a : Same G1 Gi) (c : Same H1 H) (d : Gi D = none) (hD : H1 D = none) (e : ∀ a, G1 a = none → Gi a ≠ none → Fz H1 a) (f : H D = some (.lst vs)) (h : All Gi φs vs)
    (g : Grow Gi H G' H2) (hv : ψ.p G' v) : Cw G1 H1 D (φs ++ [ψ]) (upd H2 D (.lst (vs ++ [v]))) := by
  have hG' : G' D = none := by
    cases q : G' D with
    | none => rfl
    | some o =>
      exact ((g.f D d (by rw [q]; exact fun z => nomatch z)).no f fun _ z => nomatch z).elim
  refine ⟨G', vs ++ [v], a.trans g.g, same_upd g.s hG', ?_, hG', fun x hx hy => ?_, upd_same, (h.mono g.g).append (.cons hv .nil)⟩
  · exact same_upd (c.trans g.h) hD
  · by_cases z : Gi x = none
    · exact (g.f x z hy).back c
    · exact e x hx z
/-! ### loops -/
end
end BR
/-! Own layer, fourth part: data, ==, repr, isinstance, t[::-1]; a law's end. -/
namespace BR
open PySem PySem.Spec PyProof.Rows L2
/-! ### data -/
mutual
def dt : PyData → Ty
  | .none => tN
  | .bool b => tBo b
  | .int i => tI i
  | .str x => tSt x
  | .list ds => tL (dts ds)
  | .tuple ds => tT (dts ds)
  | .dict _ => ⟨fun G v => ∃ a ks, v = .ref a ∧ G a = some (.dK ks), fun _ _ _ s ⟨a, ks, e, h⟩ => ⟨a, ks, e, s _ _ h⟩⟩
def dts : List PyData → List Ty
  | [] => []
  | d :: ds => dt d :: dts ds
end
theorem dts_eq : ∀ ds : List PyData, dts ds = ds.map dt
  | [] => by simp [dts]
  | d :: ds => by simp [dts, dts_eq ds]
theorem dt_tuple (ds : List PyData) : dt (.tuple ds) = tT (ds.map dt) := by rw [← dts_eq]; simp [dt]
theorem dt_list (ds : List PyData) : dt (.list ds) = tL (ds.map dt) := by rw [← dts_eq]; simp [dt]
theorem dt_int (i : Int) : dt (.int i) = tI i := by simp [dt]
theorem dt_bool (b : Bool) : dt (.bool b) = tBo b := by simp [dt]
theorem dt_str (x : Str) : dt (.str x) = tSt x := by simp [dt]
theorem dt_none : dt .none = tN := by simp [dt]
mutual
theorem dt_dp {K : Fg} {G : Hp} : ∀ (d : PyData) (v : V), d.canLay0 = true → (dt d).p G v → Dp K G v d
  | .none, v, _, h => by rw [dt_none] at h; cases h; exact .non
  | .bool b, v, _, h => by rw [dt_bool] at h; cases h; exact .bl b
  | .int i, v, _, h => by rw [dt_int] at h; cases h; exact .int i
  | .str x, v, _, h => by rw [dt_str] at h; cases h; exact .str x
  | .list ds, v, c, h => by
    simp only [dt] at h
    obtain ⟨a, vs, rfl, h1, h2⟩ := h
    exact .lst (.of h1) (dts_dp ds vs (by simpa [PyData.canLay0] using c) h2)
  | .tuple ds, v, c, h => by
    simp only [dt] at h
    obtain ⟨a, vs, rfl, h1, h2⟩ := h
    exact .tup (.of h1) (dts_dp ds vs (by simpa [PyData.canLay0] using c) h2)
  | .dict _, v, c, h => by simp [PyData.canLay0] at c
theorem dts_dp {K : Fg} {G : Hp} : ∀ (ds : List PyData) (vs : List V), PyData.canLayAll0 ds = true → All G (dts ds) vs → DpAll K G vs ds
  | [], vs, _, h => by simp only [dts] at h; cases h; exact .nil
  | d :: ds, vs, c, h => by
    simp only [dts] at h
    simp only [PyData.canLayAll0, Bool.and_eq_true] at c
    cases h with
    | cons h1 h2 => exact .cons (dt_dp d _ c.1 h1) (dts_dp ds _ c.2 h2)
end
/-! ### == -/
def rEqX (K : Fg) : R2 := fun x y H Q => rEq x y H Q ∨ rEqD K x y H Q
def rNeX (K : Fg) : R2 := fun x y H Q => rNe x y H Q ∨ rNeD K x y H Q
theorem op_eqX {X : Cx} (hu : X.A.units + 64 < cLine) : OpR X (compareOp .Eq) (rEqX X.K) := op_eq.or (op_eqD hu)
theorem op_neX {X : Cx} (hu : X.A.units + 64 < cLine) : OpR X (compareOp .NotEq) (rNeX X.K) := op_ne.or (op_neD hu)
section
variable {K : Fg} {σ : St} {G R : Hp} {ta tb te : TE} {φ ψ χ : Ty}
theorem pd_eqD {d e : PyData} (ha : PD ta σ G R (dt d)) (hb : PD tb σ G R (dt e)) (hd : SeqAt.shaped d = true) (he : SeqAt.shaped e = true) : PD (tOp (rEqX K) ta tb) σ G R (tBo (PyData.eqv d e)) :=
  pd_op ha hb fun x y G1 H _ s1 hx hy Q q => .inr ⟨d, e, dt_dp d x (SeqAt.canLay_of_shaped hd) ((dt d).m _ _ _ s1 hx), dt_dp e y (SeqAt.canLay_of_shaped he) ((dt e).m _ _ _ s1 hy), hd, he, q _ G1 H (.refl s1) rfl⟩
theorem pd_neD {d e : PyData} (ha : PD ta σ G R (dt d)) (hb : PD tb σ G R (dt e)) (hd : SeqAt.shaped d = true) (he : SeqAt.shaped e = true) : PD (tOp (rNeX K) ta tb) σ G R (tBo (!PyData.eqv d e)) :=
  pd_op ha hb fun x y G1 H _ s1 hx hy Q q => .inr ⟨d, e, dt_dp d x (SeqAt.canLay_of_shaped hd) ((dt d).m _ _ _ s1 hx), dt_dp e y (SeqAt.canLay_of_shaped he) ((dt e).m _ _ _ s1 hy), hd, he, q _ G1 H (.refl s1) rfl⟩
/-! ### isinstance -/
/-! ### repr of data in a list or a tuple -/
end
/-! ### t[::-1] -/
section
variable {prog : Program} {w : World} {A : Around} {E : Value → Shared → Prop} {s : Shared}
end
/-! ### the pool of a law, and reading step by step -/
def PoolOk (c z : Int) : Prop := 0 ≤ c ∧ 0 ≤ z ∧ z < 2147483648
structure PI (p : Addr) (G H : Hp) : Prop where
  s : Same G H
  n : G p = none
  h : ∃ c z, H p = some (.lst [.int c, .int z]) ∧ PoolOk c z
theorem PI.grow {p : Addr} {G H G' H' : Hp} (i : PI p G H) (g : Grow G H G' H') : PI p G' H' := by
  obtain ⟨c, z, h, k⟩ := i.h
  refine ⟨g.s, ?_, c, z, g.h _ _ h, k⟩
  cases q : G' p with
  | none => rfl
  | some o =>
    exact (Fz.no (g.f p i.n (by rw [q]; exact fun z => nomatch z)) (h) fun _ z => nomatch z).elim
/-- what a draw leaves: all but the pool as it was -/
def SameBut (p : Addr) (H H' : Hp) : Prop := ∀ a o, a ≠ p → H a = some o → H' a = some o
theorem PI.but {p : Addr} {G H H' : Hp} (i : PI p G H) (g : SameBut p H H') {c z : Int} (h : H' p = some (.lst [.int c, .int z])) (k : PoolOk c z) : PI p G H' :=
  ⟨fun a o e => g a o (ne_of_none e i.n) (i.s a o e), i.n, c, z, h, k⟩
def sp_l_take : Sp := fun vs H Q _ => ∃ (p : Addr) (c z n : Int), vs = [.ref p, .int n] ∧ H p = some (.lst [.int c, .int z]) ∧ PoolOk c z ∧ 0 < n ∧ n < 2 ^ 200 ∧
  ∀ (r c' z' : Int) (H' : Hp), 0 ≤ r → r < n → PoolOk c' z' → SameBut p H H' → H' p = some (.lst [.int c', .int z']) → Q (.int r) H'
section
variable {K : Fg} {σ : St} {G R H : Hp} {ta tb te : TE} {φ ψ χ : Ty} {p : Addr} {Q : VK} {E : XK} {D : Ends} {tz tu : TS}
theorem un_lst {t : TA} (h : t σ H fun xs H1 => xs.length ≤ sizeLine ∧ ∀ q, H1 q = none → Q (.ref q) (upd H1 q (.lst xs))) : tLst t σ H Q := h
theorem un_cons {tr : TA} {Q : List V → Hp → Prop} (h : ta σ H fun x H1 => tr σ H1 fun xs H2 => Q (x :: xs) H2) : tCons ta tr σ H Q := h
theorem un_seq (h : tu { D with nx := tz D } σ H) : tSeq tu tz D σ H := h
theorem un_asg {g : TG} (h : te σ H fun x H1 => g x σ H1 D.nx) : tAsg te g D σ H := h
theorem un_asg2 {i : Nat} (h : te σ H fun x H1 => tz D (σ.set i (some x)) H1) : tSeq (tAsg te (gName i)) tz D σ H := h
theorem un_ret (h : te σ H D.rt) : tRet te D σ H := h
end
/-! ### promises of pure defs -/
/-! ### a law's end -/
theorem law_callG {P : Program} {w : World} {K : Fg} {mg mb : Str → Option Value} {CX : CXT} {k : Nat} {fa a : Addr} {nl x : Str} {sp : Sp} {s₁ : Shared} {vs : List Value} {ns : List Int}
    (KX : K.In s₁.heap) (hns : s₁.heap.Ns mainGlobals mg) (hb : s₁.heap.Ns builtinsNs mb) (hbb : ∀ x : Str, x ≠ "__name__" → mb x = bootBuiltins x) (hlim : s₁.heap.NoLimit) (hg : s₁.gens = #[])
    (ha : s₁.heap.get? a = some { cls := .type "list", data := .seq vs.toArray }) (hi : IntsAre vs ns) (hl : ns.length ≤ sizeLine) (hr : Room k callerA)
    (F : ∀ base : Heap, K.In base → base.Ns mainGlobals mg → Has P w K mg base CX k nl [x] sp) (hmg : mg nl = some (.ref fa))
    (hsp : ∀ H : Hp, Only H → SqL K H a (ns.map V.int) → sp [.ref a] H (fun v _ => v = .bl true) fun _ _ _ => False)
    (hCX : ∀ H e s', CX [] H s₁ (fun _ _ _ => False) e s' → False) :
    codeAny (model P w) callerA (.call (.ref fa) ⟨[.ref a], []⟩) (fun r s' => r = .ok (.ret (.bool true)) ∧ OldK s₁.heap s'.heap ∧ s'.os = s₁.os ∧ AllBare s'.gens) s₁ := by
  have rv := vals_ints hi
  have core : ∀ H : Hp, Only H → SqL K H a (ns.map V.int) → HOk P w H s₁.heap → (∀ b, H b ≠ none → b = a) → (H a ≠ none → K.lookup a = none) →
      codeAny (model P w) callerA (.call (.ref fa) ⟨[.ref a], []⟩) (fun r s' => r = .ok (.ret (.bool true)) ∧ OldK s₁.heap s'.heap ∧ s'.os = s₁.os ∧ AllBare s'.gens) s₁ := by
    intro H hO hS hok hA hK
    have noA : ∀ {b : Addr} {o : Obj} {es : Array DictEntry} {ep : Nat}, s₁.heap.get? b = some o → o.data = .dict es ep → H b = none := by
      intro b o es ep e d
      cases q : H b with
      | none => rfl
      | some u =>
        have e' := hA b (by rw [q]; exact fun z => nomatch z)
        rw [e', ha] at e
        cases e
        exact nomatch (show Data.seq vs.toArray _ = Data.dict es ep from d)
    have nsK : ∀ {b : Addr} {m : Str → Option Value}, s₁.heap.Ns b m → (hidT s₁.heap H).Ns b m := by
      rintro b m ⟨o, es, ep, e, d, r⟩
      exact ⟨o, es, ep, hidT_get e (noA e d), d, r⟩
    have hKb : K.In (hidT s₁.heap H) := by
      intro b o e
      refine hidT_get (KX b o e) ?_
      cases q : H b with
      | none => rfl
      | some u =>
        have e' := hA b (by rw [q]; exact fun z => nomatch z)
        have z := hK (by rw [← e', q]; exact fun z => nomatch z)
        rw [← e', e] at z
        cases z
    obtain ⟨mc, l1, l2⟩ := hlim
    have hM : Mod K mg (hidT s₁.heap H) := ⟨hKb, nsK hns, ⟨mb, nsK hb, hbb⟩, ⟨mc, nsK l1, l2⟩⟩
    have e0 : Env0 P w K mg (hidT s₁.heap H) callerA [] s₁ H :=
      ⟨rfl, hM, fun b o e => of_hidT e, Nat.le_of_eq (hidT_size _ _), trivial, fun b z => absurd (show b ∈ ([] : List Addr) from z) (by simp), hok, .of_eq hg⟩
    obtain ⟨f, fd, hm, _, hbi, FF⟩ := (F _ hKb (nsK hns)).ex
    rw [hmg] at hm
    cases hm
    refine codeAny_mono (FF.run callerA [] s₁ H ⟨[.ref a], []⟩ [.ref a] [.ref a] _ _ hr rfl e0 (hbi s₁ [.ref a] KX rfl) (.cons rfl .nil) (hsp H hO hS)) ?_
    intro r s' h
    match r, h with
    | .error e, h => exact (hCX H e s' h).elim
    | .ok (.ret u), ⟨v, H', os, bare, un, hok', r', q⟩ =>
      have q' : v = .bl true := q
      subst q'
      obtain rfl : u = Value.bool true := r'
      refine ⟨rfl, OldK.of_keep fun b o e => ?_, os, bare⟩
      rcases hO b with z | ⟨ob, xs, z⟩
      · exact un.keep b o e z (fun z => absurd (show b ∈ ([] : List Addr) from z) (by simp)) (by simp)
      · have e1 := (hok b _ z).1
        rw [e] at e1
        cases e1
        exact (hok' b _ (un.frzs b o _ z)).1
  have lenV := hi.length
  cases hk : K.lookup a with
  | some o =>
    have e := KX a o hk
    rw [ha] at e
    cases e
    refine core (fun _ => none) (fun _ => .inl rfl) (.inr ⟨_, vs.toArray, _, hk, rfl, rfl, rfl, by rw [List.size_toArray, lenV]; exact hl, by simpa using rv⟩) (fun b u z => nomatch (show (none : Option HO) = some u from z)) (fun b z => absurd rfl z) (fun z => absurd rfl z)
  | none =>
    have at1 : ∀ b, b = a → (if b = a then some (HO.frz { cls := .type "list", data := .seq vs.toArray } (.lst (ns.map V.int))) else none) = some (HO.frz { cls := .type "list", data := .seq vs.toArray } (.lst (ns.map V.int))) := fun b e => if_pos e
    refine core (fun b => if b = a then some (.frz { cls := .type "list", data := .seq vs.toArray } (.lst (ns.map V.int))) else none) (fun b => ?_) (.inl (.inr ⟨_, at1 a rfl⟩)) (fun b u z => ?_) (fun b z => ?_) (fun _ => hk)
    · by_cases q : b = a
      · exact .inr ⟨_, _, if_pos q⟩
      · exact .inl (if_neg q)
    · by_cases q : b = a
      · have z' := (if_pos q).symm.trans z
        cases z'
        rw [q]
        exact ⟨ha, by rw [List.length_map]; exact hl, vs, _, rv, ha⟩
      · exact nomatch ((if_neg q).symm.trans z)
    · exact Decidable.byContradiction fun q => z (if_neg q)
theorem walk_ofG {l : PySem.W.OpenLaw} {n k : Nat} {q : Program} {loose : List Str} {XP : (Str → Option Value) → Heap → Prop} {YP : World → Heap → Prop} {d : DefRec} {CX : CXT} {x : Str}
    (hn : l.most = some n) (hn2 : n ≤ sizeLine) (hdf : d.params.defaults = []) (hr : Room k callerA)
    (F : ∀ (w : World) (mg : Str → Option Value) (fa : Addr) (h : Heap), YP w h → h.Ns mainGlobals mg → mg d.name = some (.ref fa) →
      ∃ (K : Fg) (sp : Sp), K.In h ∧
        (∀ (H : Hp) (a : Addr) (ns : List Int), ns.length ≤ n → (∀ z ∈ ns, Builtin.Int.intBits z ≤ 1048576) → Only H → SqL K H a (ns.map V.int) → sp [.ref a] H (fun v _ => v = .bl true) fun _ _ _ => False) ∧
        ∀ base : Heap, K.In base → base.Ns mainGlobals mg → Has l.prog w K mg base CX k d.name [x] sp)
    (hCX : ∀ (H : Hp) (s : Shared) (e : Value) (s' : Shared), CX [] H s (fun _ _ _ => False) e s' → False) :
    PySem.W.WalkO q loose XP YP l.row.toRowW d [] (fun f vs => PySem.call f vs) := by
  refine Att.attach_callB hn hdf fun w s₀ s₁ mg mb fa o pm cd doc a vs ns G Y ho hd hcd hmg hobj hints hlen hbits hg => ?_
  obtain ⟨K, sp, KX, hsp, hF⟩ := F w mg fa _ Y G.T.g hmg
  exact law_callG KX G.T.g G.T.b G.T.builtins G.T.nolimit hg hobj hints (Nat.le_trans hlen hn2) hr hF hmg (fun H hO hS => hsp H a ns hlen hbits hO hS) fun H e s' => hCX H s₁ e s'
end BR
/-! Own layer, fifth part: how long a repr is; the script; cuts. -/
namespace BR
open PySem PySem.Spec PyProof.Rows L2
theorem piled_nil : piled [] = 0 := by simp [piled]
theorem listText_le (ts : List Str) : (listText ts).length ≤ piled ts + 2 := by
  unfold listText
  rw [Str.length_append]
  have e1 : ("[" : Str).length = 1 := by decide +kernel
  have e2 : ("]" : Str).length = 1 := by decide +kernel
  cases ts with
  | nil =>
    show ("[" : Str).length + _ ≤ _
    omega
  | cons t ts =>
    show (textFrom 1 (("[" : Str) ++ ((if 0 > 0 then ", " else "" : String) : Str) ++ t) ts).length + _ ≤ _
    rw [textFrom_length_pos ts 1 _ (by decide), Str.length_append, Str.length_append, piled_cons]
    have e3 : (((if 0 > 0 then ", " else "" : String) : Str)).length = 0 := by decide +kernel
    omega
theorem tupleText_le (ts : List Str) : (tupleText ts).length ≤ piled ts + 4 := by
  unfold tupleText
  rw [Str.length_append, Str.length_append]
  have e1 : ("(" : Str).length = 1 := by decide +kernel
  have e2 : ((if ts.length == 1 then ",)" else ")" : String) : Str).length ≤ 2 := by
    split
    · decide +kernel
    · decide +kernel
  cases ts with
  | nil =>
    have e3 : (Str.join ", " []).length = 0 := by decide +kernel
    omega
  | cons t ts =>
    have := join_length_add (t :: ts) (by simp)
    omega
mutual
def wt : PyData → Nat
  | .none => 4
  | .bool _ => 5
  | .int _ => 1921
  | .str x => (reprText x).length
  | .list xs => wts xs + 4
  | .tuple xs => wts xs + 4
  | .dict kvs => 0
def wts : List PyData → Nat
  | [] => 0
  | x :: xs => wt x + 2 + wts xs
end
mutual
theorem shown_le : ∀ d : PyData, d.showable = true → d.hasDict = false → d.shown.length ≤ wt d
  | .none, _, _ => by simp only [PyData.shown, wt]; decide +kernel
  | .bool b, _, _ => by
    simp only [PyData.shown, wt]
    cases b <;> decide +kernel
  | .int i, h, _ => by
    simp only [PyData.shown, wt]
    simp only [PyData.showable, decide_eq_true_eq] at h
    have e := int_text_length_le (k := 1920) (by decide) h
    rw [PySem.ofString_length]
    omega
  | .str x, _, _ => by simp only [PyData.shown, wt]; omega
  | .list xs, h, h' => by
    simp only [PyData.showable] at h
    simp only [PyData.hasDict] at h'
    simp only [PyData.shown, wt]
    have := shownAll_le xs h h'
    have := listText_le (PyData.shownAll xs)
    omega
  | .tuple xs, h, h' => by
    simp only [PyData.showable] at h
    simp only [PyData.hasDict] at h'
    simp only [PyData.shown, wt]
    have := shownAll_le xs h h'
    have := tupleText_le (PyData.shownAll xs)
    omega
  | .dict kvs, _, h => by simp [PyData.hasDict] at h
theorem shownAll_le : ∀ xs : List PyData, PyData.showableAll xs = true → PyData.hasDictAll xs = false → piled (PyData.shownAll xs) ≤ wts xs
  | [], _, _ => by simp only [PyData.shownAll, wts, piled_nil]; omega
  | x :: xs, h, h' => by
    simp only [PyData.showableAll, Bool.and_eq_true] at h
    simp only [PyData.hasDictAll, Bool.or_eq_false_iff] at h'
    simp only [PyData.shownAll, wts, piled_cons]
    have := shown_le x h.1 h'.1
    have := shownAll_le xs h.2 h'.2
    omega
end
/-- all that a repr asks of data -/
structure Shows (d : PyData) (n : Nat) : Prop where
  lay : d.canLay0 = true
  shw : d.showable = true
  nod : d.hasDict = false
  wt : wt d ≤ n
  dep : d.depth ≤ 60
theorem Shows.mono {d : PyData} {n m : Nat} (h : Shows d n) (k : n ≤ m) : Shows d m := ⟨h.lay, h.shw, h.nod, Nat.le_trans h.wt k, h.dep⟩
theorem Shows.len {d : PyData} {n : Nat} (h : Shows d n) (hn : n ≤ 16777216) : d.shown.length ≤ sizeLine := by
  have := shown_le d h.shw h.nod
  have := h.wt
  rw [sizeLine_eq]
  omega
structure ShowsAll (ds : List PyData) (n : Nat) : Prop where
  lay : PyData.canLayAll0 ds = true
  shw : PyData.showableAll ds = true
  nod : PyData.hasDictAll ds = false
  wt : wts ds ≤ n
  dep : PyData.depthAll ds ≤ 59
section
variable {K : Fg} {σ : St} {G R : Hp} {te tb : TE}
/-! the script: a list that is read alone -/
theorem pd_lenS {a : Addr} {xs : List V} (ha : PD te σ R R (tv (.ref a))) (h : SqL K R a xs) : PD (tCB (rLenX K) (tCons te tNil)) σ G R (tI (xs.length : Int)) := fun H sr sg Q q =>
  ha H sr sr _ fun v G1 H1 g1 hv => by
    cases hv
    exact ⟨.ref a, xs.length, rfl, .inl ⟨xs, sqL_mono (sr.trans g1.h) h, rfl⟩, q _ G H1 (.rest sg g1.h) rfl⟩
theorem pd_ixS {a : Addr} {xs : List V} {i : Int} {v : V} (ha : PD te σ R R (tv (.ref a))) (hb : PD tb σ R R (tI i)) (h : SqL K R a xs) (hi : atI xs i = some v) : PD (tOp (rIx K) te tb) σ G R (tv v) := fun H sr sg Q q =>
  ha H sr sr _ fun u G1 H1 g1 hu => (hb.mono (same_refl _) (sr.trans g1.h)) H1 (same_refl _) (sr.trans g1.h) _ fun w G2 H2 g2 hw => by
    cases hu
    cases hw
    have s2 : Same R H2 := (sr.trans g1.h).trans g2.h
    exact .inl ⟨a, xs, i, v, rfl, rfl, sqL_mono s2 h, hi, q v G H2 (.rest sg (g1.h.trans g2.h)) rfl⟩
theorem atI_nat {α : Type} {xs : List α} {i : Int} (h0 : 0 ≤ i) (h1 : i < (xs.length : Int)) : ∃ x, atI xs i = some x ∧ xs[i.toNat]? = some x := by
  have hi : i.toNat < xs.length := by omega
  refine ⟨xs[i.toNat], ?_, by simp [hi]⟩
  unfold atI ixN
  rw [if_pos h0, if_pos h1]
  simp [hi]
end
/-! ### the pool, made and drawn from -/
def sp_l_pool (K : Fg) : Sp := fun vs H Q _ => ∃ (a : Addr) (ns : List Int) (k : Int), vs = [.ref a, .int k] ∧ SqL K H a (ns.map V.int) ∧ 0 ≤ k ∧ k ≤ 100 ∧
  ∀ p c z H', PoolOk c z → H p = none → Same H H' → H' p = some (.lst [.int c, .int z]) → Q (.ref p) H'
def t_l_pool (K : Fg) : TS :=
  (tSeq (tAsg (tC (.int 0)) (gName 2))
  (tSeq (tIfS (tTest (tOp rLtI (tVar 1) (tCB (rLenX K) (tCons (tVar 0) tNil))))
  (tAsg (tOp (rIx K) (tVar 0) (tVar 1)) (gName 2))
  tNext)
  (tSeq (tAsg (tOp rModI (tOp rMulI (tOp (rAddX K) (tOp (rAddX K) (tOp rModI (tVar 2) (tC (.int 2147483629))) (tOp rMulI (tOp rMulI (tC (.int 7919)) (tVar 1)) (tVar 1))) (tC (.int 13))) (tC (.int 48271))) (tC (.int 2147483647))) (gName 3))
  (tSeq (tIfS (tTest (tOp rLtI (tVar 2) (tOp rPowI (tC (.int 10)) (tC (.int 18)))))
  (tAsg (tC (.int 0)) (gName 2))
  tNext)
  (tRet (tLst (tCons (tVar 2) (tCons (tOp (rAddX K) (tOp rModI (tOp rMulI (tVar 3) (tVar 3)) (tC (.int 2147483587))) (tC (.int 1))) tNil))))))))
def t_l_take (K : Fg) : TS :=
  (tSeq (tIfS (tTest (tOp rGtI (tOp (rIx K) (tVar 0) (tC (.int 0))) (tC (.int 0))))
  (tSeq (tAsg (tOp rModI (tOp (rIx K) (tVar 0) (tC (.int 0))) (tVar 1)) (gName 2))
  (tSeq (tAsg (tOp rDivI (tOp (rIx K) (tVar 0) (tC (.int 0))) (tVar 1)) (gSub (tVar 0) (tC (.int 0)) rSetL))
  (tRet (tVar 2))))
  tNext)
  (tSeq (tAsg (tOp rModI (tOp (rAddX K) (tOp rMulI (tOp (rIx K) (tVar 0) (tC (.int 1))) (tC (.int 48271))) (tC (.int 11))) (tC (.int 2147483647))) (gSub (tVar 0) (tC (.int 1)) rSetL))
  (tRet (tOp rModI (tOp rDivI (tOp rModI (tOp rMulI (tOp (rIx K) (tVar 0) (tC (.int 1))) (tOp (rIx K) (tVar 0) (tC (.int 1)))) (tC (.int 2147483629))) (tC (.int 64))) (tVar 1)))))
theorem mulW_small {i j : Int} (h1 : i.natAbs < 2 ^ 250) (h2 : j.natAbs < 2 ^ 250) : CMulW i j := wide_mul h1 h2 (by decide) (by decide) (by decide)
theorem small_of {i : Int} {n : Nat} (h : i.natAbs < 2 ^ n) (hn : n ≤ 250) : i.natAbs < 2 ^ 250 := Nat.lt_of_lt_of_le h (Nat.pow_le_pow_right (by decide) hn)
theorem small64 {i : Int} (h : i.natAbs < 2 ^ 64) : i.natAbs < 2 ^ 250 := small_of h (by decide)
section
variable {K : Fg}
theorem pure_l_take : ∀ vs H (Q : VK) (E : XK), sp_l_take vs H Q E → t_l_take K { nx := fun _ H' => Q .non H', rt := Q } (L2.start ["_law_pool_here", "_law_sides", "_law_found"] vs) H := by
  rintro vs H Q E ⟨p, c, z, n, rfl, hp, ⟨o1, o2, o3⟩, n0, n1, k⟩
  have cN : CDivW c n := wide_div n0 (b := 200) (by omega) (by decide) (by decide)
  refine q_if (R := H) (b := decide (0 < c)) (td_test (pd_gt (pd_ixV (pd_var rfl rfl) pd_c hp rfl) pd_c)) (same_refl _) (fun hb H1 s1 => ?_) (fun hb H1 s1 => ?_)
  · have hc : 0 < c := of_decide_eq_true hb
    have hp1 := s1 _ _ hp
    refine un_asg2 (pd_mod (pd_ixV (pd_var rfl rfl) pd_c hp1 rfl) (pd_var rfl rfl) n0 H1 (same_refl _) (same_refl _) _ fun v _ H2 g2 hv => ?_)
    cases hv
    have hp2 := g2.h _ _ hp1
    refine un_seq (un_asg (pd_div (pd_ixV (pd_var rfl rfl) pd_c hp2 rfl) (pd_var rfl rfl) cN H2 (same_refl _) (same_refl _) _ fun v _ H3 g3 hv => ?_))
    cases hv
    have hp3 := g3.h _ _ hp2
    refine ⟨_, rfl, p, _, 0, 0, rfl, rfl, hp3, rfl, _, rfl, ?_⟩
    refine k _ (c / n) z _ (Int.emod_nonneg _ (by omega)) (Int.emod_lt_of_pos _ n0) ⟨Int.ediv_nonneg o1 (by omega), o2, o3⟩ (fun a o ha e => ?_) upd_same
    rw [upd_ne ha]
    exact g3.h _ _ (g2.h _ _ (s1 _ _ e))
  · have hp1 := s1 _ _ hp
    have hz : z.natAbs < 2 ^ 250 := small64 (by omega)
    refine un_seq (un_asg (pd_mod (pd_add (pd_mul (pd_ixV (pd_var rfl rfl) pd_c hp1 rfl) pd_c (mulW_small hz (by decide))) pd_c) pd_c (by decide) H1 (same_refl _) (same_refl _) _ fun v _ H2 g2 hv => ?_))
    cases hv
    have hp2 := g2.h _ _ hp1
    generalize hz' : (z * 48271 + 11) % 2147483647 = z'
    have z0 : 0 ≤ z' ∧ z' < 2147483647 := by
      rw [← hz']
      exact ⟨Int.emod_nonneg _ (by decide), Int.emod_lt_of_pos _ (by decide)⟩
    refine ⟨_, rfl, p, _, 1, 1, rfl, rfl, hp2, rfl, ?_⟩
    have hz2 : z'.natAbs < 2 ^ 250 := small64 (by omega)
    have hp3 : upd H2 p (.lst ([V.int c, V.int z].set 1 (V.int z'))) p = some (.lst [V.int c, V.int z']) := upd_same
    refine un_ret (pd_mod (pd_div (pd_mod (pd_mul (pd_ixV (pd_var rfl rfl) pd_c hp3 rfl) (pd_ixV (pd_var rfl rfl) pd_c hp3 rfl) (mulW_small hz2 hz2)) pd_c (by decide)) pd_c (wide_div (b := 10) (by decide) (by decide) (by decide) (by decide))) (pd_var rfl rfl) n0 _ (same_refl _) (same_refl _) _ fun v _ H4 g4 hv => ?_)
    cases hv
    refine k _ c z' H4 (Int.emod_nonneg _ (by omega)) (Int.emod_lt_of_pos _ n0) ⟨o1, z0.1, by omega⟩ (fun a o ha e => g4.h _ _ ?_) (g4.h _ _ hp3)
    rw [upd_ne ha]
    exact g2.h _ _ (s1 _ _ e)
theorem len_l_take : ∀ vs H Q E, sp_l_take vs H Q E → vs.length = (["_law_pool_here", "_law_sides"] : List Str).length := by
  rintro vs H Q E ⟨p, c, z, n, rfl, _⟩
  rfl
theorem pure_l_pool : ∀ vs H (Q : VK) (E : XK), sp_l_pool K vs H Q E → t_l_pool K { nx := fun _ H' => Q .non H', rt := Q } (L2.start ["_law_script", "_law_k", "_law_cell", "_law_seed"] vs) H := by
  rintro vs H Q E ⟨a, ns, k, rfl, hS, k0, k1, kk⟩
  refine un_asg2 ?_
  show tSeq _ _ _ [some (.ref a), some (.int k), some (.int 0), none] H
  have rest : ∀ (c : Int) (H1 : Hp), Same H H1 → (tSeq (tAsg (tOp rModI (tOp rMulI (tOp (rAddX K) (tOp (rAddX K) (tOp rModI (tVar 2) (tC (.int 2147483629))) (tOp rMulI (tOp rMulI (tC (.int 7919)) (tVar 1)) (tVar 1))) (tC (.int 13))) (tC (.int 48271))) (tC (.int 2147483647))) (gName 3))
      (tSeq (tIfS (tTest (tOp rLtI (tVar 2) (tOp rPowI (tC (.int 10)) (tC (.int 18)))))
      (tAsg (tC (.int 0)) (gName 2))
      tNext)
      (tRet (tLst (tCons (tVar 2) (tCons (tOp (rAddX K) (tOp rModI (tOp rMulI (tVar 3) (tVar 3)) (tC (.int 2147483587))) (tC (.int 1))) tNil)))))) { nx := fun _ H' => Q .non H', rt := Q } [some (.ref a), some (.int k), some (.int c), none] H1 := by
    intro c H1 s1
    have b1 : 0 ≤ c % 2147483629 ∧ c % 2147483629 < 2147483629 := ⟨Int.emod_nonneg _ (by decide), Int.emod_lt_of_pos _ (by decide)⟩
    have b2 : 0 ≤ 7919 * k ∧ 7919 * k ≤ 791900 := by omega
    have b3 : 0 ≤ 7919 * k * k ∧ 7919 * k * k ≤ 791900 * 100 := ⟨Int.mul_nonneg b2.1 k0, Int.mul_le_mul b2.2 k1 k0 (by decide)⟩
    refine un_asg2 (pd_mod (pd_mul (pd_add (pd_add (pd_mod (pd_var rfl rfl) pd_c (by decide)) (pd_mul (pd_mul pd_c (pd_var rfl rfl) (mulW_small (by decide) (small64 (by omega)))) (pd_var rfl rfl) (mulW_small (small64 (by omega)) (small64 (by omega))))) pd_c) pd_c (mulW_small (small64 (by omega)) (by decide))) pd_c (by decide)
      H1 (same_refl _) (same_refl _) _ fun v _ H2 g2 hv => ?_)
    cases hv
    generalize hz' : (c % 2147483629 + 7919 * k * k + 13) * 48271 % 2147483647 = z
    have z0 : 0 ≤ z ∧ z < 2147483647 := by
      rw [← hz']
      exact ⟨Int.emod_nonneg _ (by decide), Int.emod_lt_of_pos _ (by decide)⟩
    show tSeq _ _ _ [some (.ref a), some (.int k), some (.int c), some (.int z)] H2
    have fin : ∀ (c' : Int) (H3 : Hp), 0 ≤ c' → Same H H3 → tRet (tLst (tCons (tVar 2) (tCons (tOp (rAddX K) (tOp rModI (tOp rMulI (tVar 3) (tVar 3)) (tC (.int 2147483587))) (tC (.int 1))) tNil))) { nx := fun _ H' => Q .non H', rt := Q } [some (.ref a), some (.int k), some (.int c'), some (.int z)] H3 := by
      intro c' H3 hc s3
      have hz2 : z.natAbs < 2 ^ 250 := small64 (by omega)
      refine un_ret (un_lst (un_cons ⟨_, rfl, un_cons ?_⟩))
      refine pd_add (pd_mod (pd_mul (pd_var rfl rfl) (pd_var rfl rfl) (mulW_small hz2 hz2)) pd_c (by decide)) pd_c H3 (same_refl _) (same_refl _) _ fun v _ H4 g4 hv => ?_
      cases hv
      refine ⟨by show 2 ≤ sizeLine; decide, fun p hp => ?_⟩
      have m0 : 0 ≤ z * z % 2147483587 ∧ z * z % 2147483587 < 2147483587 := ⟨Int.emod_nonneg _ (by decide), Int.emod_lt_of_pos _ (by decide)⟩
      exact kk p c' _ _ ⟨hc, by omega, by omega⟩ ((s3.trans g4.h).free hp) ((s3.trans g4.h).trans (same_new hp)) upd_same
    refine q_if (R := H2) (b := decide (c < 10 ^ 18)) (td_test (pd_lt (pd_var rfl rfl) (pd_pow (i := 10) (j := 18) pd_c pd_c ⟨by decide, by decide, by decide⟩))) (same_refl _) (fun hb H3 s3 => ?_) (fun hb H3 s3 => ?_)
    · exact fin 0 H3 (by decide) ((s1.trans g2.h).trans s3)
    · have : ¬ (c < 10 ^ 18) := of_decide_eq_false hb
      exact fin c H3 (by omega) ((s1.trans g2.h).trans s3)
  have hlen : PD (tCB (rLenX K) (tCons (tVar 0) tNil)) [some (.ref a), some (.int k), some (.int 0), none] H H (tI (ns.length : Int)) := by
    have q := pd_lenS (K := K) (te := tVar 0) (σ := [some (.ref a), some (.int k), some (.int 0), none]) (G := H) (R := H) (pd_var rfl rfl) hS
    rw [List.length_map] at q
    exact q
  refine q_if (R := H) (b := decide (k < (ns.length : Int))) (td_test (pd_lt (pd_var rfl rfl) hlen)) (same_refl _) (fun hb H1 s1 => ?_) (fun hb H1 s1 => ?_)
  · have hk : k < (ns.length : Int) := of_decide_eq_true hb
    obtain ⟨c, e1, e2⟩ := atI_nat k0 hk
    have e3 : atI (ns.map V.int) k = some (.int c) := by
      obtain ⟨x, f1, f2⟩ := atI_nat (xs := ns.map V.int) k0 (by rw [List.length_map]; exact hk)
      rw [List.getElem?_map, e2] at f2
      cases f2
      exact f1
    refine un_asg (pd_ixS (K := K) (pd_var rfl rfl) (pd_var rfl rfl) (sqL_mono s1 hS) e3 H1 (same_refl _) (same_refl _) _ fun v _ H2 g2 hv => ?_)
    cases hv
    exact rest c H2 (s1.trans g2.h)
  · exact rest 0 H1 s1
theorem len_l_pool : ∀ vs H Q E, sp_l_pool K vs H Q E → vs.length = (["_law_script", "_law_k"] : List Str).length := by
  rintro vs H Q E ⟨a, ns, k, rfl, _⟩
  rfl
end
end BR
/-! Own layer, sixth part: draws out of lists, a loop over a range inside a block. -/
namespace BR
open PySem PySem.Spec PyProof.Rows L2
section
variable {K : Fg} {σ : St} {G R H : Hp} {ta tb te tl tn : TE} {φ ψ χ : Ty} {p : Addr} {Q : VK} {E : XK} {D : Ends} {tz tu : TS}
theorem at_map {α β : Type} {xs : List α} {f : α → β} {i : Int} {x : α} (h : atI xs i = some x) : atI (xs.map f) i = some (f x) := by
  unfold atI at h ⊢
  rw [List.length_map]
  cases q : ixN xs.length i with
  | none =>
    rw [q] at h
    cases h
  | some m =>
    rw [q] at h
    show (xs.map f)[m]? = _
    rw [List.getElem?_map, show xs[m]? = some x from h] <;> rfl
theorem PI.less {G' : Hp} (i : PI p G' H) (s : Same G G') : PI p G H := ⟨s.trans i.s, s.free i.n, i.h⟩
theorem PI.new {o : HO} {q : Addr} (i : PI p G H) (h : H q = none) : PI p (upd G q o) (upd H q o) := i.grow (.new i.s h)
end
end BR
/-! Own layer, seventh part: sorted({e for .. in .. for .. in ..}), ints, any number (below 4,095). -/
namespace BR
open PySem PySem.Spec PyProof.Rows L2
/-! ### sorted of a set of ints, any number -/
section
variable {P : Program} {w : World} {A : Around} {E : Value → Shared → Prop} {s : Shared} {a : Addr}
end
/-! ### a set comprehension of two clauses -/
section
variable {prog : Program} {w : World} {A : Around} {R : Result → Shared → Prop} {s : Shared} {elt t0 i0 t1 i1 : Expr} {ifs0 ifs1 : List Expr} {scope : Scope} {pos : Pos} {it acc : Value} {env : Env}
abbrev oks (env : Env) (ifs : List Expr) : Sem Bool := forIn ifs true fun c r => if r = true then do let ok ← isTrue c env (eval c env); pure (ForInStep.yield ok) else pure (ForInStep.yield r)
/-- no exception is wished for -/
abbrev nw {α : Type} (prog : Program) (w : World) (A : Around) (t : Sem α) (Q : α → Shared → Prop) (s : Shared) : Prop := wpAny (model prog w) A t Q (fun _ _ => False) s
end
section
variable {X : Cx}
end
end BR
/-! Own layer, eighth part: what sorted({..}) gives; zip; two clauses. -/
namespace BR
open PySem PySem.Spec PyProof.Rows L2
/-! ### strictly rising lists -/
def ins (x : Int) : List Int → List Int
  | [] => [x]
  | y :: ys => if x < y then x :: y :: ys else if x = y then y :: ys else y :: ins x ys
def sd : List Int → List Int
  | [] => []
  | x :: xs => ins x (sd xs)
theorem mem_ins {x k : Int} : ∀ {l : List Int}, k ∈ ins x l ↔ k = x ∨ k ∈ l
  | [] => by simp [ins]
  | y :: ys => by
    unfold ins
    split
    · simp
    · split
      · rename_i h
        subst h
        simp
      · simp only [List.mem_cons, mem_ins (l := ys)]
        constructor
        · rintro (h | h | h)
          · exact .inr (.inl h)
          · exact .inl h
          · exact .inr (.inr h)
        · rintro (h | h | h)
          · exact .inr (.inl h)
          · exact .inl h
          · exact .inr (.inr h)
theorem mem_sd {k : Int} : ∀ {l : List Int}, k ∈ sd l ↔ k ∈ l
  | [] => by simp [sd]
  | x :: xs => by
    unfold sd
    rw [mem_ins, mem_sd (l := xs), List.mem_cons]
theorem ins_rise {x : Int} : ∀ {l : List Int}, l.Pairwise (· < ·) → (ins x l).Pairwise (· < ·)
  | [], _ => by simp [ins]
  | y :: ys, h => by
    obtain ⟨h1, h2⟩ := List.pairwise_cons.mp h
    unfold ins
    split
    · rename_i hxy
      refine List.pairwise_cons.mpr ⟨fun z hz => ?_, h⟩
      rcases List.mem_cons.mp hz with rfl | hz
      · exact hxy
      · have := h1 z hz
        omega
    · split
      · exact h
      · rename_i hxy hne
        refine List.pairwise_cons.mpr ⟨fun z hz => ?_, ins_rise h2⟩
        rcases mem_ins.mp hz with rfl | hz
        · omega
        · exact h1 z hz
theorem sd_rise : ∀ l : List Int, (sd l).Pairwise (· < ·)
  | [] => .nil
  | x :: xs => ins_rise (sd_rise xs)
/-! ### walks -/
/-! ### sorted({..}) -/
/-- while a comprehension fills the set at D -/
def Sw (so : Addr → (Int → Bool) → Nat → HO) (G1 H1 : Hp) (D : Addr) (ks : List Int) (H : Hp) : Prop :=
  ∃ Gi S n, Same G1 Gi ∧ Same Gi H ∧ Same H1 H ∧ Gi D = none ∧ (∀ a, G1 a = none → Gi a ≠ none → Fz H1 a) ∧ H D = some (so D S n) ∧ (∀ k, S k = true ↔ k ∈ ks) ∧ n ≤ ks.length
section
variable {K : Fg} {σ : St} {G R : Hp} {tl tl1 te : TE} {so : Addr → (Int → Bool) → Nat → HO}
theorem Sw.grow (nso : ∀ a S n xs, so a S n ≠ .tup xs) {G1 H1 Gi H H2 G' : Hp} {D : Addr} {S : Int → Bool} {n : Nat} {ks : List Int} (a : Same G1 Gi) (c : Same H1 H) (d : Gi D = none) (e : ∀ a, G1 a = none → Gi a ≠ none → Fz H1 a) (f : H D = some (so D S n)) (hS : ∀ k, S k = true ↔ k ∈ ks) (hn : n ≤ ks.length)
    (g : Grow Gi H G' H2) : Same G1 G' ∧ Same G' H2 ∧ Same H1 H2 ∧ G' D = none ∧ (∀ a, G1 a = none → G' a ≠ none → Fz H1 a) ∧ H2 D = some (so D S n) := by
  refine ⟨a.trans g.g, g.s, c.trans g.h, ?_, fun x hx hy => ?_, g.h _ _ f⟩
  · cases q : G' D with
    | none => rfl
    | some o =>
      exact (Fz.no (g.f D d (by rw [q]; exact fun z => nomatch z)) (f) fun _ => nso _ _ _ _).elim
  · by_cases z : Gi x = none
    · exact (g.f x z hy).back c
    · exact e x hx z
end
end BR
/-! Own layer, ninth part: zip, sorted pairs, list comprehensions of two clauses, min and max. -/
namespace BR
open PySem PySem.Spec PyProof.Rows L2
/-! ### zip -/
section
variable {K : Fg} {σ : St} {G R H : Hp} {te tl tl1 : TE} {D : Ends} {tz tb : TS}
end
/-! ### pairs of ints -/
abbrev Pr := Int × Int
def tP (p : Pr) : Ty := tT [tI p.1, tI p.2]
def leP (p q : Pr) : Prop := p.1 < q.1 ∨ (p.1 = q.1 ∧ p.2 ≤ q.2)
instance (p q : Pr) : Decidable (leP p q) := by unfold leP; infer_instance
theorem leP_total (p q : Pr) : leP p q ∨ leP q p := by unfold leP; omega
theorem leP_trans {p q r : Pr} (h1 : leP p q) (h2 : leP q r) : leP p r := by unfold leP at *; omega
def insP (p : Pr) : List Pr → List Pr
  | [] => [p]
  | q :: l => if leP p q then p :: q :: l else q :: insP p l
def srt : List Pr → List Pr
  | [] => []
  | p :: l => insP p (srt l)
theorem insP_perm (p : Pr) : ∀ l : List Pr, (insP p l).Perm (p :: l)
  | [] => .refl _
  | q :: l => by
    unfold insP
    split
    · exact .refl _
    · exact ((insP_perm p l).cons q).trans (.swap p q l)
theorem srt_perm : ∀ l : List Pr, (srt l).Perm l
  | [] => .refl _
  | p :: l => (insP_perm p (srt l)).trans ((srt_perm l).cons p)
theorem insP_sorted (p : Pr) : ∀ {l : List Pr}, l.Pairwise leP → (insP p l).Pairwise leP
  | [], _ => by simp [insP]
  | q :: l, h => by
    obtain ⟨h1, h2⟩ := List.pairwise_cons.mp h
    unfold insP
    split
    · rename_i hpq
      refine List.pairwise_cons.mpr ⟨fun z hz => ?_, h⟩
      rcases List.mem_cons.mp hz with rfl | hz
      · exact hpq
      · exact leP_trans hpq (h1 z hz)
    · rename_i hpq
      refine List.pairwise_cons.mpr ⟨fun z hz => ?_, insP_sorted p h2⟩
      rcases List.mem_cons.mp ((insP_perm p l).mem_iff.mp hz) with rfl | hz
      · exact (leP_total _ _).resolve_left hpq
      · exact h1 z hz
theorem srt_sorted : ∀ l : List Pr, (srt l).Pairwise leP
  | [] => .nil
  | p :: l => insP_sorted p (srt_sorted l)
section
variable {K : Fg} {σ : St} {G R H : Hp} {te tl tl1 : TE}
/-! ### min, max of a list of ints -/
def lMin : List Int → Int
  | [] => 0
  | [x] => x
  | x :: xs => min x (lMin xs)
def lMax : List Int → Int
  | [] => 0
  | [x] => x
  | x :: xs => max x (lMax xs)
theorem lMin_le : ∀ {l : List Int} {x : Int}, x ∈ l → lMin l ≤ x
  | [y], x, h => by
    rw [List.mem_singleton.mp h]
    exact Int.le_refl _
  | y :: z :: l, x, h => by
    show min y (lMin (z :: l)) ≤ x
    rcases List.mem_cons.mp h with rfl | h
    · omega
    · have := lMin_le h
      omega
theorem le_lMax : ∀ {l : List Int} {x : Int}, x ∈ l → x ≤ lMax l
  | [y], x, h => by
    rw [List.mem_singleton.mp h]
    exact Int.le_refl _
  | y :: z :: l, x, h => by
    show x ≤ max y (lMax (z :: l))
    rcases List.mem_cons.mp h with rfl | h
    · omega
    · have := le_lMax h
      omega
/-! ### [e for .. in .. for .. in ..] -/
end
end BR
/-! Own layer: operators of an own class, its property, static and class methods. -/
namespace BR
open PySem PySem.Spec PyProof.Rows L2
section
variable {X : Cx} {CX : CXT} {n : Nat} {C f : Addr} {sp : Sp} {E : XK} {A : Around} {pins : List (Addr × Obj)} {σ : St} {H : Hp} {s : Shared} {Q : VK}
theorem run_sub {us : List Value} {vs : List V} (sb : Sub X n A) (F : FnR X.prog X.w X.K X.mg X.base CX n f sp) (hx : Passes CX X E) (I : Inv X pins σ H s) (r : Vals vs us) (h : sp vs H Q E) : wpAny (model X.prog X.w) A (call (.ref f) us) (EP X pins σ Q) X.xe s := by
  have e0 : Env0 X.prog X.w X.K X.mg X.base A X.stack s H := by
    have e := I.env0
    exact ⟨by rw [sb.fr]; exact e.frames, e.mod, e.bs, e.bsz, e.funs, e.frf, e.hok, e.bare⟩
  refine wpAny_call (codeAny_mono (F A X.stack s H us vs Q E sb.room e0 r h) fun r s' hq => ?_)
  cases r with
  | error e => exact hx pins σ H s e s' I hq
  | ok fl =>
    cases fl with
    | ret w => exact I.after hq
    | next => exact False.elim hq
    | brk => exact False.elim hq
    | cont => exact False.elim hq
/-- an instance of the class at C -/
def IsC (C : Addr) (H : Hp) (x : V) : Prop := ∃ a dx fs, x = .ref a ∧ H a = some (.ins C dx fs)
theorem IsC.at {x : V} {u : Value} (h : IsC C H x) (I : Inv X pins σ H s) (r : RelV x u) : ∃ a od, x = .ref a ∧ u = .ref a ∧ ∃ dx, PySem.W.InstAt s.heap a (PySem.W.instObj C dx) C (some od) := by
  obtain ⟨a, dx, fs, rfl, e⟩ := h
  cases r
  obtain ⟨mA, O, _⟩ := ins_get I.hok e
  obtain ⟨od, J, _⟩ := O.look
  exact ⟨a, od, rfl, rfl, dx, J⟩
/-- a method of the class that an operator reaches -/
structure OpM (K : Fg) (C : Addr) (m : Str) (f : Addr) : Prop where
  at_ : PySem.W.findIn K (.ref C) m = some (some (.ref f))
  fn : PySem.W.isFn K (.ref f) = true
/-- a tuple has no number slot of that name -/
structure OpT (K : Fg) (nm : String) : Prop where
  ex : ∃ fo ro, PySem.W.findIn K (.type "tuple") (PySem.dunder nm) = some fo ∧ PySem.W.findIn K (.type "tuple") (PySem.dunderR nm) = some ro ∧ ((fo.isSome && !isSeqSlot fo) || (ro.isSome && !isSeqSlot ro)) = false
/-- y in x -/
def rInO (C : Addr) (sp : Sp) (E : XK) : R2 := fun y x H Q => IsC C H x ∧ sp [x, y] H (fun r H' => ∃ b, r = .bl b ∧ Q (.bl b) H') E
/-- x == y, x an instance; y of a type that is none of its subclasses -/
def rEqO (K : Fg) (C : Addr) (sp : Sp) (E : XK) : R2 := fun x y H Q => IsC C H x ∧ (∃ t, TyX K H y t ∧ PySem.W.notFirst K C t = true) ∧ sp [x, y] H Q E
/-- x != y: what == says, turned round -/
structure NeM (K : Fg) (C : Addr) : Prop where
  at_ : PySem.W.findIn K (.ref C) "__ne__" = some (some (.builtin "object.__ne__"))
  ob : PySem.W.subIn K (.ref C) (.type "object") = some true
def rNeO (K : Fg) (C : Addr) (sp : Sp) (E : XK) : R2 := fun x y H Q => IsC C H x ∧ (∃ t, TyX K H y t ∧ PySem.W.notFirst K C t = true) ∧ sp [x, y] H (fun r H' => ∃ b, r = .bl b ∧ Q (.bl (!b)) H') E
end
end BR
/-! Own layer: an own class, further. -/
namespace BR
open PySem PySem.Spec PyProof.Rows L2
section
variable {X : Cx} {CX : CXT} {n : Nat} {C f : Addr} {sp : Sp} {E : XK} {A : Around} {pins : List (Addr × Obj)} {σ : St} {H : Hp} {s : Shared} {Q : VK}
/-! truth -/
/-! repr -/
def rReprO (C : Addr) (sp : Sp) (E : XK) : List V → Hp → VK → Prop := fun xs H Q => ∃ x, xs = [x] ∧ IsC C H x ∧ sp [x] H (fun r H' => ∃ y, r = .str y ∧ Q (.str y) H') E
/-! a property -/
def tPropR (C : Addr) (sp : Sp) (E : XK) (ta : TE) : TE := fun σ H Q => ta σ H fun x H1 => IsC C H1 x ∧ sp [x] H1 Q E
/-! C.m(), m a static method without arguments -/
structure StM (K : Fg) (C : Addr) (m : Str) (p g : Addr) : Prop where
  at_ : PySem.W.findCls K (.ref C) (.type "type") m = some (.get (.builtin "staticmethod.__get__") (.ref p) .none (.ref C))
  rc : ∃ rest, PySem.W.recIn K p "staticmethod" = some (.ref g :: rest)
  kp : PySem.W.keepIn K (.ref g) = true
/-! x(..), x a variable that holds the class -/
end
end BR
/-! Own layer: what the module's top is asked for (facts of classes, defs by paths), promises by positional values. -/
namespace BR
open PySem PySem.Spec PyProof.Rows L2
/-! ### paths -/
abbrev cA (K : Fg) (x : Str) : Addr := He.ga K x
abbrev mA (K : Fg) (x m : Str) : Addr := He.ma K (He.ga K x) m
def recFst (K : Fg) (p : Addr) (T : String) : Addr := match PySem.W.recIn K p T with
  | some (.ref g :: _) => g
  | _ => 0
abbrev cmA (K : Fg) (x m : Str) : Addr := recFst K (mA K x m) "classmethod"
abbrev smA (K : Fg) (x m : Str) : Addr := recFst K (mA K x m) "staticmethod"
def recB (K : Fg) (p : Addr) (T : String) : Bool := match PySem.W.recIn K p T with
  | some (.ref _ :: _) => true
  | _ => false
/-! ### facts -/
inductive Fb where
  | fa (f : He.Fa)
  | prop (x m : Str)
  | cmet (x m : Str)
  | smet (x m : Str)
  | cread (x : Str)
  | self1 (x : Str)
  | ne (x : Str)
  | isn (x : Str) (n : String)
  | ins (x : Str)
  | tupOp (nm : String)
  | b (f : Fg → Bool)
def tupB (K : Fg) (nm : String) : Bool := match PySem.W.findIn K (.type "tuple") (PySem.dunder nm), PySem.W.findIn K (.type "tuple") (PySem.dunderR nm) with
  | some fo, some ro => !((fo.isSome && !isSeqSlot fo) || (ro.isSome && !isSeqSlot ro))
  | _, _ => false
def ocd (a b : Option PySem.W.CFound) : Bool := match a, b with
  | some (.get g a o t), some (.get g' a' o' t') => decide (g = g') && (decide (a = a') && (decide (o = o') && decide (t = t')))
  | _, _ => false
def Fb.ok (K : Fg) : Fb → Bool
  | .fa f => f.ok K
  | .prop x m => He.eqO (PySem.W.findIn K (.ref (cA K x)) m) (some (some (.ref (mA K x m)))) && (He.eqO (PySem.W.specialIn K (.ref (mA K x m)) "__get__") (some (some (.builtin "property.__get__"))) && (decide (PySem.W.takesIn K (.ref (mA K x m)) = some true) && recB K (mA K x m) "property"))
  | .cmet x m => ocd (PySem.W.findCls K (.ref (cA K x)) (.type "type") m) (some (.get (.builtin "classmethod.__get__") (.ref (mA K x m)) .none (.ref (cA K x)))) && (recB K (mA K x m) "classmethod" && PySem.W.fnIn K (cmA K x m))
  | .smet x m => ocd (PySem.W.findCls K (.ref (cA K x)) (.type "type") m) (some (.get (.builtin "staticmethod.__get__") (.ref (mA K x m)) .none (.ref (cA K x)))) && (recB K (mA K x m) "staticmethod" && PySem.W.keepIn K (.ref (smA K x m)))
  | .cread x => PySem.W.readsIn K (cA K x) (.type "type") && He.eqO (PySem.W.specialIn K (.ref (cA K x)) "__getattribute__") (some (some (.builtin "type.__getattribute__")))
  | .self1 x => PySem.W.selfFirst K (cA K x)
  | .ne x => He.eqO (PySem.W.findIn K (.ref (cA K x)) "__ne__") (some (some (.builtin "object.__ne__"))) && decide (PySem.W.subIn K (.ref (cA K x)) (.type "object") = some true)
  | .isn x n => decide (PySem.W.kitOne K (.type n) (.ref (cA K x)) = some false) && decide (PySem.W.subIn K (.type n) (.ref (cA K x)) = some false)
  | .tupOp nm => tupB K nm
  | .b f => f K
  | .ins x => He.eqO (PySem.W.findIn K (.ref (cA K x)) "__class__") (some (some (.builtin "object.__class__"))) && (He.eqO (PySem.W.specialIn K (.builtin "object.__class__") "__get__") (some (some (.builtin "getset_descriptor.__get__"))) &&
      (decide (PySem.W.takesIn K (.builtin "object.__class__") = some true) && decide (PySem.W.mroIn K (cA K x) (.type "object") = some true)))
section
variable {K : Fg} {x m : Str} {n : String}
theorem cread_ok (c : (Fb.cread x).ok K = true) : ClX.CRead K (cA K x) (.type "type") := by
  obtain ⟨c1, c2⟩ := He.ba c
  exact ⟨c1, He.eqO_ok c2⟩
/-- a type that has nothing to do with the class -/
structure Oth (K : Fg) (C : Addr) (n : String) : Prop where
  kit : PySem.W.kitOne K (.type n) (.ref C) = some false
  sub : PySem.W.subIn K (.type n) (.ref C) = some false
/-- instances of the class have a type -/
structure InsT (K : Fg) (C : Addr) : Prop where
  cl : Cls K C
  ha : PySem.W.findIn K (.ref C) "__class__" = some (some (.builtin "object.__class__"))
  hn : PySem.W.specialIn K (.builtin "object.__class__") "__get__" = some (some (.builtin "getset_descriptor.__get__"))
  htk : PySem.W.takesIn K (.builtin "object.__class__") = some true
  hm : PySem.W.mroIn K C (.type "object") = some true
theorem InsT.ty {C : Addr} {H : Hp} {v : V} (i : InsT K C) (h : IsC C H v) : TyX K H v (.ref C) := by
  obtain ⟨a, dx, fs, rfl, e⟩ := h
  exact .base (.ins e i.cl i.ha i.hn i.htk i.hm)
end
/-! ### defs by paths -/
structure DefP where
  at_ : Fg → Addr
  name : Str
  qual : Str
  params : Arguments
  body : List Stmt
  scope : Scope
  dfl : List He.Dv := []
  kwd : List (Str × He.Dv) := []
def fnP (K : Fg) (a : Addr) : He.FnW := match K.lookup a with
  | some ⟨_, _, .func fd, _⟩ => some (fd.name, fd.qualname, fd.params, fd.body, fd.scope, fd.globals, fd.closure, fd.builtins)
  | _ => none
def DefP.val (d : DefP) : He.FnW := some (d.name, d.qual, d.params, .stmts d.body, d.scope, mainGlobals, [], builtinsNs)
def DefP.dvs (K : Fg) (d : DefP) : List V := d.dfl.map (He.Dv.v K)
def DefP.kws (K : Fg) (d : DefP) : List (Str × V) := d.kwd.map fun q => (q.1, q.2.v K)
def DefP.ok (K : Fg) (d : DefP) : Bool := PySem.W.keepIn K (.ref (d.at_ K)) && (match K.lookup (d.at_ K) with
  | some ⟨_, _, .func fd, _⟩ => PySem.W.codeIn K fd.code d.qual && (He.dflB K fd.defaults (d.dvs K) && He.kwdB K fd.kwdefaults (d.kws K))
  | _ => false)
theorem DefP.funD {K : Fg} {d : DefP} (e : fnP K (d.at_ K) = d.val) (c : d.ok K = true) : ∃ fd, FunD K d.name d.qual d.params d.body d.scope (d.dvs K) (d.kws K) (d.at_ K) fd := by
  obtain ⟨kp, c2⟩ := He.ba c
  unfold fnP at e
  cases q : K.lookup (d.at_ K) with
  | none =>
    rw [q] at c2
    cases c2
  | some o =>
    obtain ⟨oc, od, dt, osl⟩ := o
    rw [q] at c2 e
    cases dt with
    | func fd =>
      obtain ⟨n1, n2, n3, n4, n5, n6, n7, n8, n9, n10, n11, n12, n13, n14, n15⟩ := fd
      have e2 : (some (n1, n2, n3, n4, n5, n6, n7, n15) : He.FnW) = some (d.name, d.qual, d.params, .stmts d.body, d.scope, mainGlobals, [], builtinsNs) := e
      simp only [Option.some.injEq, Prod.mk.injEq] at e2
      obtain ⟨h1, h2, h3, h4, h5, h6, h7, h8⟩ := e2
      subst h1 h2 h3 h4 h5 h6 h7 h8
      have c3 : (PySem.W.codeIn K n13 d.qual && (He.dflB K n8 (d.dvs K) && He.kwdB K n9 (d.kws K))) = true := c2
      obtain ⟨k1, k2⟩ := He.ba c3
      obtain ⟨k3, k4⟩ := He.ba k2
      exact ⟨_, ⟨oc, od, n8, n9, n10, n11, n12, n13, n14, osl, rfl, q, k1, He.dflB_ok k3, He.kwdB_ok k4⟩, kp⟩
    | _ => cases c2
/-! ### the Hook -/
abbrev AlP : Type := Bool × List He.FnW
def obsP (fb : List Fb) (fn : List DefP) (K : Fg) : AlP := ((fb.all fun f => f.ok K) && fn.all fun d => d.ok K, fn.map fun d => fnP K (d.at_ K))
def valP (fn : List DefP) : AlP := (true, fn.map DefP.val)
def SaysP (fb : List Fb) (fn : List DefP) (K : Fg) : Prop := obsP fb fn K = valP fn
def obsPG (n : Nat) (fb : List Fb) (fn : List DefP) (g : Addr → Option Obj) : AlP := obsP fb fn (He.frG g (He.asD g n ++ [cStatics]))
def hookP (n : Nat) (fb : List Fb) (fn : List DefP) : PySem.W.Hook where
  α := AlP
  obs := fun s => obsPG n fb fn s.heap.get?
  val := fun _ => valP fn
  says := fun _ h => ∃ K : Fg, K.In h ∧ SaysP fb fn K
  of := fun _ _ e => ⟨_, He.frG_in, e⟩
  keeps := fun _ _ _ ⟨K, hK, c⟩ k => ⟨K, PySem.W.Frag.In.keeps hK k, c⟩
theorem obsPG_eq {n : Nat} {fb : List Fb} {fn : List DefP} {g : Addr → Option Obj} {s : Shared} (h : ∀ a, g a = s.heap.get? a) : obsPG n fb fn g = (hookP n fb fn).obs s := by
  have e : g = s.heap.get? := funext h
  rw [e] <;> rfl
section
variable {fb : List Fb} {fn : List DefP} {K : Fg}
theorem SaysP.fact (c : SaysP fb fn K) (i : Nat) {f : Fb} (h : fb[i]? = some f := by rfl) : f.ok K = true := by
  have c1 := (He.ba (show ((fb.all fun f => f.ok K) && fn.all fun d => d.ok K) = true from congrArg (fun z : AlP => z.1) c)).1
  exact List.all_eq_true.mp c1 f (List.mem_of_getElem? h)
theorem SaysP.fa (c : SaysP fb fn K) (i : Nat) {f : He.Fa} (h : fb[i]? = some (.fa f) := by rfl) : f.ok K = true := c.fact i h
theorem SaysP.def_ (c : SaysP fb fn K) (i : Nat) {d : DefP} (h : fn[i]? = some d := by rfl) : ∃ fd, FunD K d.name d.qual d.params d.body d.scope (d.dvs K) (d.kws K) (d.at_ K) fd := by
  have c2 := (He.ba (show ((fb.all fun f => f.ok K) && fn.all fun d => d.ok K) = true from congrArg (fun z : AlP => z.1) c)).2
  have e : fn.map (fun d => fnP K (d.at_ K)) = fn.map DefP.val := congrArg (fun z : AlP => z.2) c
  have e2 : (fn.map fun d => fnP K (d.at_ K))[i]? = (fn.map DefP.val)[i]? := by rw [e]
  rw [List.getElem?_map, List.getElem?_map, h] at e2
  exact DefP.funD (Option.some.inj e2) (List.all_eq_true.mp c2 d (List.mem_of_getElem? h))
end
/-! ### promises by positional values -/
structure HasR (P : Program) (w : World) (K : Fg) (mg : Str → Option Value) (base : Heap) (CX : CXT) (k : Nat) (x : Str) (sp : Sp) : Prop where
  ex : ∃ f, mg x = some (.ref f) ∧ PySem.W.keepIn K (.ref f) = true ∧ FnR P w K mg base CX k f sp
abbrev FnQ (K : Fg) (x q : Str) (st : Stmt) (f : Addr) (fd : FuncData) : Prop := FunD K x q (defArgs st) (defBody st) (defScope st) [] [] f fd
section
variable {CX : CXT} {P : Program} {w : World} {K : Fg} {mg : Str → Option Value} {base : Heap} {k : Nat} {x q : Str} {st : Stmt} {f : Addr} {fd : FuncData} {N ps : List Str} {sp : Sp}
/-- a def without defaults -/
theorem fnR_of (F : FnQ K x q st f fd) (S : FnScope N ps (defScope st)) (hb : Binds K fd ps []) (len : ∀ vs H Q E, sp vs H Q E → vs.length = ps.length)
    (hbody : ∀ (cdv : Value) (A : Around) (outer : List Env) (s : Shared) (H : Hp) (vs : List V) (Q : VK) (E : XK), Room k (A.deeper (envOfC q (defScope st) s.heap.objs.size f cdv)) → sp vs H Q E →
      ∃ t, PSs (cxOf CX P w K mg base N q (defScope st) f cdv A outer s H E) (defBody st) t ∧ t { nx := fun _ H' => Q .non H', rt := Q } (start N vs) H) :
    FnR P w K mg base CX (k + 1) f sp :=
  ((FunD.ok F S len hbody).raw hb .nil).imp fun vs H Q E h => by rw [List.append_nil]; exact h
theorem hasR_of (F : FnQ K x q st f fd) (hm : mg x = some (.ref f)) (S : FnScope N ps (defScope st)) (hb : ∀ fd', FnQ K x q st f fd' → Binds K fd' ps []) (len : ∀ vs H Q E, sp vs H Q E → vs.length = ps.length)
    (hbody : ∀ (cdv : Value) (A : Around) (outer : List Env) (s : Shared) (H : Hp) (vs : List V) (Q : VK) (E : XK), Room k (A.deeper (envOfC q (defScope st) s.heap.objs.size f cdv)) → sp vs H Q E →
      ∃ t, PSs (cxOf CX P w K mg base N q (defScope st) f cdv A outer s H E) (defBody st) t ∧ t { nx := fun _ H' => Q .non H', rt := Q } (start N vs) H) :
    HasR P w K mg base CX (k + 1) x sp := ⟨f, hm, F.kp, fnR_of F S (hb fd F) len hbody⟩
end
section
variable {X : Cx} {CX : CXT} {k : Nat} {x : Str} {sp : Sp} {E : XK} {p pos : Pos} {e : Expr} {es : List Expr} {t : TA}
theorem pe_callR (hf : HasR X.prog X.w X.K X.mg X.base CX k x sp) (hr : Room k X.A) (hx : Passes CX X E) (hg : Gl X x) (ha : PA X (e :: es) t)
    (hdb : (x == ("__debug__" : Str)) = false := by decide) (he : starEach (e :: es) X.env = (false, eval e X.env) :: starEach es X.env := by rfl)
    (hpl : (backTo pos (starEach es X.env)).any (·.1) = false := by rfl) : PE X (.Call (.Name x p) (e :: es) [] pos) (tCall sp [] E t) := by
  obtain ⟨f, hm, hk, F⟩ := hf.ex
  refine ⟨fun pins s σ H Q I h => ?_⟩
  refine wpAny_Call_Name_kw (ld_glob I hg hm ?_ hdb)
  refine PySem.W.callWith_K (h₀ := X.base) I.ok.mod.kin hk (thn (ha.run pos pins s σ H _ I h) ?_) he hpl
  rintro us s1 ⟨vs, H1, I1, r, q⟩
  have q2 : sp (vs ++ []) H1 Q E := q
  rw [List.append_nil] at q2
  exact ⟨I1.kIn, run_sub ⟨hr, rfl⟩ F hx I1 r q2⟩
end
end BR
/-! Own layer: what the top is asked about exception classes, as functions that give a bool. -/
namespace BR
open PySem PySem.Spec PyProof.Rows L2
/-- own classes ahead of a built-in one's line -/
def refsB (tail : List Value) : List Value → Bool
  | .ref _ :: r => refsB tail r
  | l => l == tail
/-- the built-in class that an own one stands below: __new__, __init__, its line -/
def xBase (n : Str) : String × String × List Value := if n = "Unbounded" ∨ n = "Blocked" then ("RuntimeError.__new__", "RuntimeError.__init__", [.type "RuntimeError", .type "Exception", .type "BaseException", .type "object"])
  else if n = "TooMany" then ("OverflowError.__new__", "OverflowError.__init__", [.type "OverflowError", .type "ArithmeticError", .type "Exception", .type "BaseException", .type "object"])
  else if n = "NoName" then ("LookupError.__new__", "KeyError.__init__", [.type "KeyError", .type "LookupError", .type "Exception", .type "BaseException", .type "object"])
  else if n = "NothingLeft" then ("IndexError.__new__", "IndexError.__init__", [.type "IndexError", .type "LookupError", .type "Exception", .type "BaseException", .type "object"])
  else ("ValueError.__new__", "ValueError.__init__", [.type "ValueError", .type "Exception", .type "BaseException", .type "object"])
def oexB (K : Fg) (C : Addr) (b : String × String × List Value) : Bool := (match K.lookup C with
  | some ⟨.type "type", _, .cls cd, sl⟩ => (match cd.mro, sl.toList with
    | .ref C' :: bm, [_, _, _, _, some (.builtin n), _] => decide (C' = C) && (decide (n = b.1) && (!cd.hasDel && (cd.hasDict && refsB b.2.2 bm)))
    | _, _ => false)
  | _ => false) && (He.eqO (PySem.W.findIn K (.ref C) "__setattr__") (some (some (.builtin "object.__setattr__"))) && (decide (PySem.W.subIn K (.ref C) (.type "BaseException") = some true) && (decide (PySem.W.typeIn K (.ref C) = some (.type "type")) && PySem.W.keepIn K (.ref C))))
def xcB (l : List Str) (K : Fg) : Bool := l.all fun n => oexB K (cA K n) (xBase n) && (xfB K (cA K n) && (He.eqO (PySem.W.findIn K (.ref (cA K n)) "value") (some none) && (He.eqO (PySem.W.findIn K (.ref (cA K n)) "__init__") (some (some (.ref (mA K n "__init__")))) &&
  (decide (PySem.W.typeIn K (.ref (mA K n "__init__")) = some (.type "function")) && (decide (PySem.W.subIn K (.ref (cA K n)) (.type "StopIteration") = some false) && l.all fun m => decide (PySem.W.exmOne K (.ref (cA K n)) (.ref (cA K m)) = some (decide (n = m))))))))
def bxB (K : Fg) : Bool := match PySem.W.findCls K (.ref (cA K "BoxError")) (.type "type") "__init__" with
  | some (.val (.builtin s)) => decide (s = "ValueError.__init__")
  | _ => false
def xfiB (l : List Str) (K : Fg) : Bool := l.all fun n => He.eqO (PySem.W.findIn K (.ref (cA K n)) "__class__") (some (some (.builtin "object.__class__"))) && (decide (PySem.W.specialIn K (.builtin "object.__class__") "__get__" = some (some (.builtin "getset_descriptor.__get__"))) &&
  (decide (PySem.W.takesIn K (.builtin "object.__class__") = some true) && decide (PySem.W.mroIn K (cA K n) (.type "object") = some true)))
def oTys : List String := ["NoneType", "bool", "int", "str", "list", "tuple", "dict"]
end BR
/-! Own layer: what the top is asked about kept exceptions: which classes each is under. -/
namespace BR
open PySem PySem.Spec PyProof.Rows L2
def tyInB (T I : String) (K : Fg) : Bool := match PySem.W.findCls K (.type T) (.type "type") "__init__" with
  | some (.val (.builtin s)) => decide (s = I)
  | _ => false
/-- the built-in classes and BoxError that an own class is under, of seven -/
def xroots (n : Str) : List String := if n = "Unbounded" ∨ n = "Blocked" then ["RuntimeError"] else if n = "TooMany" then ["OverflowError"] else if n = "NoName" then ["LookupError", "KeyError"] else if n = "NothingLeft" then ["LookupError", "IndexError"] else ["ValueError", "BoxError"]
def roots6 : List String := ["ValueError", "LookupError", "KeyError", "IndexError", "RuntimeError", "OverflowError"]
def xUnder (T : String) (n : Str) : Bool := (xroots n).contains T
def kRtB (l : List Str) (K : Fg) : Bool := l.all fun n => roots6.all fun T => decide (PySem.W.kitOne K (.ref (cA K n)) (.type T) = some (xUnder T n))
def kBxB (l : List Str) (K : Fg) : Bool := l.all fun n => decide (PySem.W.kitOne K (.ref (cA K n)) (.ref (cA K "BoxError")) = some (xUnder "BoxError" n))
def kOwB (l : List Str) (K : Fg) : Bool := l.all fun n => l.all fun m => decide (PySem.W.kitOne K (.ref (cA K n)) (.ref (cA K m)) = some (decide (n = m)))
end BR
namespace BR
namespace K02
open PySem PySem.Spec PyProof.Rows L2
abbrev xl : List Str := ["InvalidBox", "InvalidSquare", "InvalidRegion", "InvalidNumber", "InvalidLoops", "InvalidAxis", "InvalidSpans", "InvalidName", "InvalidText", "InvalidLine", "Outside", "Unbounded", "Blocked", "TooMany", "NoName", "NothingLeft"]
def top (i : Nat) : Stmt := PySem.Challenge.pw_boxregions_k02_exceptions_apart.main.body.getD i (.Pass ⟨0, 0, 0, 0⟩)
abbrev s_InvalidBox_init : Stmt := inClass (top 2) 0
abbrev s_InvalidSquare_init : Stmt := inClass (top 3) 0
abbrev s_InvalidRegion_init : Stmt := inClass (top 4) 0
abbrev s_InvalidNumber_init : Stmt := inClass (top 5) 0
abbrev s_InvalidLoops_init : Stmt := inClass (top 6) 0
abbrev s_InvalidAxis_init : Stmt := inClass (top 7) 0
abbrev s_InvalidSpans_init : Stmt := inClass (top 8) 0
abbrev s_InvalidName_init : Stmt := inClass (top 9) 0
abbrev s_InvalidText_init : Stmt := inClass (top 10) 0
abbrev s_InvalidLine_init : Stmt := inClass (top 11) 0
abbrev s_Outside_init : Stmt := inClass (top 12) 0
abbrev s_Unbounded_init : Stmt := inClass (top 13) 0
abbrev s_Blocked_init : Stmt := inClass (top 14) 0
abbrev s_TooMany_init : Stmt := inClass (top 15) 0
abbrev s_NoName_init : Stmt := inClass (top 16) 0
abbrev s_NothingLeft_init : Stmt := inClass (top 17) 0
abbrev s_l_pool : Stmt := top 19
abbrev s_l_take : Stmt := top 20
abbrev s_l_some : Stmt := top 21
abbrev s_l_kinds : Stmt := top 22
abbrev s_l_roots : Stmt := top 23
abbrev s_l_due : Stmt := top 24
abbrev s_law : Stmt := top 25
def d_l_pool : DefP := ⟨fun K => He.ga K "_law_pool", "_law_pool", "_law_pool", defArgs s_l_pool, defBody s_l_pool, defScope s_l_pool, [], []⟩
def d_l_take : DefP := ⟨fun K => He.ga K "_law_take", "_law_take", "_law_take", defArgs s_l_take, defBody s_l_take, defScope s_l_take, [], []⟩
def d_l_some : DefP := ⟨fun K => He.ga K "_law_some", "_law_some", "_law_some", defArgs s_l_some, defBody s_l_some, defScope s_l_some, [], []⟩
def d_l_kinds : DefP := ⟨fun K => He.ga K "_law_kinds", "_law_kinds", "_law_kinds", defArgs s_l_kinds, defBody s_l_kinds, defScope s_l_kinds, [], []⟩
def d_l_roots : DefP := ⟨fun K => He.ga K "_law_roots", "_law_roots", "_law_roots", defArgs s_l_roots, defBody s_l_roots, defScope s_l_roots, [], []⟩
def d_l_due : DefP := ⟨fun K => He.ga K "_law_due", "_law_due", "_law_due", defArgs s_l_due, defBody s_l_due, defScope s_l_due, [], []⟩
def d_law : DefP := ⟨fun K => He.ga K "law", "law", "law", defArgs s_law, defBody s_law, defScope s_law, [], []⟩
def d_Blocked_init : DefP := ⟨fun K => mA K "Blocked" "__init__", "__init__", "Blocked.__init__", defArgs s_Blocked_init, defBody s_Blocked_init, defScope s_Blocked_init, [], []⟩
def d_InvalidAxis_init : DefP := ⟨fun K => mA K "InvalidAxis" "__init__", "__init__", "InvalidAxis.__init__", defArgs s_InvalidAxis_init, defBody s_InvalidAxis_init, defScope s_InvalidAxis_init, [], []⟩
def d_InvalidBox_init : DefP := ⟨fun K => mA K "InvalidBox" "__init__", "__init__", "InvalidBox.__init__", defArgs s_InvalidBox_init, defBody s_InvalidBox_init, defScope s_InvalidBox_init, [], []⟩
def d_InvalidLine_init : DefP := ⟨fun K => mA K "InvalidLine" "__init__", "__init__", "InvalidLine.__init__", defArgs s_InvalidLine_init, defBody s_InvalidLine_init, defScope s_InvalidLine_init, [], []⟩
def d_InvalidLoops_init : DefP := ⟨fun K => mA K "InvalidLoops" "__init__", "__init__", "InvalidLoops.__init__", defArgs s_InvalidLoops_init, defBody s_InvalidLoops_init, defScope s_InvalidLoops_init, [], []⟩
def d_InvalidName_init : DefP := ⟨fun K => mA K "InvalidName" "__init__", "__init__", "InvalidName.__init__", defArgs s_InvalidName_init, defBody s_InvalidName_init, defScope s_InvalidName_init, [], []⟩
def d_InvalidNumber_init : DefP := ⟨fun K => mA K "InvalidNumber" "__init__", "__init__", "InvalidNumber.__init__", defArgs s_InvalidNumber_init, defBody s_InvalidNumber_init, defScope s_InvalidNumber_init, [], []⟩
def d_InvalidRegion_init : DefP := ⟨fun K => mA K "InvalidRegion" "__init__", "__init__", "InvalidRegion.__init__", defArgs s_InvalidRegion_init, defBody s_InvalidRegion_init, defScope s_InvalidRegion_init, [], []⟩
def d_InvalidSpans_init : DefP := ⟨fun K => mA K "InvalidSpans" "__init__", "__init__", "InvalidSpans.__init__", defArgs s_InvalidSpans_init, defBody s_InvalidSpans_init, defScope s_InvalidSpans_init, [], []⟩
def d_InvalidSquare_init : DefP := ⟨fun K => mA K "InvalidSquare" "__init__", "__init__", "InvalidSquare.__init__", defArgs s_InvalidSquare_init, defBody s_InvalidSquare_init, defScope s_InvalidSquare_init, [], []⟩
def d_InvalidText_init : DefP := ⟨fun K => mA K "InvalidText" "__init__", "__init__", "InvalidText.__init__", defArgs s_InvalidText_init, defBody s_InvalidText_init, defScope s_InvalidText_init, [], []⟩
def d_NoName_init : DefP := ⟨fun K => mA K "NoName" "__init__", "__init__", "NoName.__init__", defArgs s_NoName_init, defBody s_NoName_init, defScope s_NoName_init, [], []⟩
def d_NothingLeft_init : DefP := ⟨fun K => mA K "NothingLeft" "__init__", "__init__", "NothingLeft.__init__", defArgs s_NothingLeft_init, defBody s_NothingLeft_init, defScope s_NothingLeft_init, [], []⟩
def d_Outside_init : DefP := ⟨fun K => mA K "Outside" "__init__", "__init__", "Outside.__init__", defArgs s_Outside_init, defBody s_Outside_init, defScope s_Outside_init, [], []⟩
def d_TooMany_init : DefP := ⟨fun K => mA K "TooMany" "__init__", "__init__", "TooMany.__init__", defArgs s_TooMany_init, defBody s_TooMany_init, defScope s_TooMany_init, [], []⟩
def d_Unbounded_init : DefP := ⟨fun K => mA K "Unbounded" "__init__", "__init__", "Unbounded.__init__", defArgs s_Unbounded_init, defBody s_Unbounded_init, defScope s_Unbounded_init, [], []⟩
def fnD : List DefP := [d_l_pool, d_l_take, d_l_some, d_l_kinds, d_l_roots, d_l_due, d_law, d_Blocked_init, d_InvalidAxis_init, d_InvalidBox_init, d_InvalidLine_init, d_InvalidLoops_init, d_InvalidName_init, d_InvalidNumber_init, d_InvalidRegion_init, d_InvalidSpans_init, d_InvalidSquare_init, d_InvalidText_init, d_NoName_init, d_NothingLeft_init, d_Outside_init, d_TooMany_init, d_Unbounded_init]
def fbD : List Fb := [.fa (.glo "_law_pool"), .fa (.glo "_law_take"), .fa (.glo "_law_some"), .fa (.glo "_law_kinds"), .fa (.glo "_law_roots"), .fa (.glo "_law_due"), .fa (.glo "law"), .fa (.free "len"), .fa (.free "isinstance"), .fa (.free "ValueError"), .fa (.free "LookupError"), .fa (.free "KeyError"), .fa (.free "IndexError"), .fa (.free "RuntimeError"), .fa (.free "OverflowError"), .fa (.free "range"), .fa (.free "max"), .fa (.free "min"), .fa (.free "repr"), .b (xcB xl), .b bxB, .cread "BoxError", .fa (.glo "BoxError"), .fa (.glo "InvalidBox"), .fa (.glo "InvalidSquare"), .fa (.glo "InvalidRegion"), .fa (.glo "InvalidNumber"), .fa (.glo "InvalidLoops"), .fa (.glo "InvalidAxis"), .fa (.glo "InvalidSpans"), .fa (.glo "InvalidName"), .fa (.glo "InvalidText"), .fa (.glo "InvalidLine"), .fa (.glo "Outside"), .fa (.glo "Unbounded"), .fa (.glo "Blocked"), .fa (.glo "TooMany"), .fa (.glo "NoName"), .fa (.glo "NothingLeft"), .b (tyInB "RuntimeError" "RuntimeError.__init__"), .b (tyInB "OverflowError" "OverflowError.__init__"), .b (tyInB "KeyError" "KeyError.__init__"), .b (tyInB "IndexError" "IndexError.__init__"), .fa (.free "RuntimeError"), .fa (.free "OverflowError"), .fa (.free "KeyError"), .fa (.free "IndexError"), .b (xfiB xl), .b (kRtB xl), .b (kBxB xl), .b (kOwB xl)]
abbrev RR : PySem.W.OpenRow := PySem.W.OpenLaw.row PySem.Challenge.rw_boxregions_k02_exceptions_apart
abbrev hk : PySem.W.Hook := hookP 6 fbD fnD
def ob (s : PySem.W.SharedT) : AlP := obsPG 6 fbD fnD (HandSHeadRun.getT s)
theorem ob_eq (s : PySem.W.SharedT) : ob s = hk.obs s.abs := obsPG_eq (HandSHeadRun.getT_eq s)
def loose : List Str := (["__name__", "BoxError", "InvalidBox", "InvalidSquare", "InvalidRegion", "InvalidNumber", "InvalidLoops", "InvalidAxis", "InvalidSpans", "InvalidName", "InvalidText", "InvalidLine", "Outside", "Unbounded", "Blocked", "TooMany", "NoName", "NothingLeft", "_law_pool", "_law_take"] : List Str) ++ (["_law_some", "_law_kinds", "_law_roots", "_law_due"] : List Str)
theorem run (w : World) : HandSHeadRun.RunEq RR (PySem.W.view RR.prog [25]) hk ob 20000 loose w := by
  intro os
  kernel_rfl
end K02
end BR
/-! The program's defs on spans and slabs as plain functions; a list that a def fills. -/
namespace BR
open PySem PySem.Spec PyProof.Rows L2
/-! ### mirrors -/
def mstep (f : List Pr) (p : Pr) : List Pr := match f.getLast? with
  | some q => if p.1 ≤ q.2 then f.dropLast ++ [(q.1, max p.2 q.2)] else f ++ [p]
  | none => [p]
def merged (ps : List Pr) : List Pr := (srt ps).foldl mstep []
def cov (sp : List Pr) (n : Int) : Bool := sp.any fun s => decide (s.1 ≤ n) && decide (n < s.2)
inductive Wd | or | and | either | less deriving DecidableEq
def Wd.str : Wd → Str
  | .or => "or"
  | .and => "and"
  | .either => "either"
  | .less => "less"
def wanted (w : Wd) (a b : Bool) : Bool := match w with
  | .or => a || b
  | .and => a && b
  | .either => a != b
  | .less => a && !b
def ends (sp : List Pr) : List Int := sp.flatMap fun s => [s.1, s.2]
def nxt (l : List Int) : List Pr := l.zip l.tail
def combined (one other : List Pr) (w : Wd) : List Pr := merged ((nxt (sd (ends (one ++ other)))).filter fun p => wanted w (cov one p.1) (cov other p.1))
abbrev Sl := Int × Int × List Pr
def spansAt (f : List Sl) (x : Int) : List Pr := match f.find? fun s => decide (s.1 ≤ x) && decide (x < s.2.1) with
  | some s => s.2.2
  | none => []
def tstep (f : List Sl) (s : Sl) : List Sl := match f.getLast? with
  | some q => if q.2.1 = s.1 ∧ q.2.2 = s.2.2 then f.dropLast ++ [(q.1, s.2.1, s.2.2)] else if s.2.2 ≠ [] then f ++ [s] else f
  | none => if s.2.2 ≠ [] then [s] else []
def tidy (f : List Sl) : List Sl := f.foldl tstep []
def cutsOf (f : List Sl) : List Int := sd (f.flatMap fun s => [s.1, s.2.1])
abbrev Bx := Int × Int × Int × Int
def slabsOf (bs : List Bx) : List Sl := tidy ((nxt (sd (bs.flatMap fun b => [b.1, b.2.2.1]))).map fun p => (p.1, p.2, merged ((bs.filter fun b => decide (b.1 ≤ p.1) && decide (p.1 < b.2.2.1)).map fun b => (b.2.1, b.2.2.2))))
def boxesOf (f : List Sl) : List Bx := f.flatMap fun s => s.2.2.map fun p => (s.1, p.1, s.2.1, p.2)
def mixed (one other : List Sl) (w : Wd) : List Sl := tidy ((nxt (cutsOf (one ++ other))).map fun p => (p.1, p.2, combined (spansAt one p.1) (spansAt other p.1) w))
def frameOf (f : List Sl) : Option Bx := if f = [] then none else some ((f.headD (0, 0, [])).1, lMin (f.map fun s => (s.2.2.headD (0, 0)).1), (f.getLastD (0, 0, [])).2.1, lMax (f.map fun s => (s.2.2.getLastD (0, 0)).2))
def addedBox (b o : Bx) : Bx := (b.1 + o.1, b.2.1 + o.2.1, b.2.2.1 + o.2.2.1 - 1, b.2.2.2 + o.2.2.2 - 1)
def opposite (b : Bx) : Bx := (1 - b.2.2.1, 1 - b.2.2.2, 1 - b.1, 1 - b.2.1)
def grown (f : List Sl) (b : Bx) : List Sl := slabsOf ((boxesOf f).map fun o => addedBox o b)
def shrunk (f : List Sl) (b : Bx) : List Sl := if f = [] then [] else
  let places := grown f (0 - b.1, 0 - b.2.1, 1 - b.1, 1 - b.2.1)
  let missing := mixed (slabsOf [addedBox ((frameOf places).getD (0, 0, 0, 0)) b]) f .less
  mixed places (grown missing (opposite b)) .less
/-! ### their data -/
def dP (p : Pr) : PyData := .tuple [.int p.1, .int p.2]
def tSp (sp : List Pr) : Ty := tT (sp.map tP)
def tSlb (s : Sl) : Ty := tT [tI s.1, tI s.2.1, tSp s.2.2]
def tForm (f : List Sl) : Ty := tT (f.map tSlb)
def tB4 (b : Bx) : Ty := tT [tI b.1, tI b.2.1, tI b.2.2.1, tI b.2.2.2]
theorem lay_all {n : Nat} : ∀ {ds : List PyData}, (∀ d ∈ ds, d.canLay0 = true ∧ d.depth ≤ n) → PyData.canLayAll0 ds = true ∧ PyData.depthAll ds ≤ n + 1
  | [], _ => ⟨rfl, by simp [PyData.depthAll]⟩
  | d :: ds, h => by
    obtain ⟨h1, h2⟩ := h d List.mem_cons_self
    obtain ⟨h3, h4⟩ := lay_all fun x hx => h x (List.mem_cons_of_mem _ hx)
    refine ⟨by simp only [PyData.canLayAll0, h1, h3, Bool.and_true], ?_⟩
    simp only [PyData.depthAll]
    omega
def Lay (d : PyData) (n : Nat) : Prop := d.canLay0 = true ∧ d.depth ≤ n
theorem Lay.tuple {n : Nat} {ds : List PyData} (h : ∀ d ∈ ds, Lay d n) : Lay (.tuple ds) (n + 2) := by
  obtain ⟨h1, h2⟩ := lay_all h
  refine ⟨by simp only [PyData.canLay0, h1], ?_⟩
  simp only [PyData.depth]
  omega
theorem Lay.list {n : Nat} {ds : List PyData} (h : ∀ d ∈ ds, Lay d n) : Lay (.list ds) (n + 2) := by
  obtain ⟨h1, h2⟩ := lay_all h
  refine ⟨by simp only [PyData.canLay0, h1], ?_⟩
  simp only [PyData.depth]
  omega
theorem Lay.mono {d : PyData} {n m : Nat} (h : Lay d n) (k : n ≤ m) : Lay d m := ⟨h.1, Nat.le_trans h.2 k⟩
theorem Lay.int (i : Int) : Lay (.int i) 1 := ⟨rfl, by simp [PyData.depth]⟩
theorem Lay.bool (i : Bool) : Lay (.bool i) 1 := ⟨rfl, by simp [PyData.depth]⟩
theorem Lay.shaped {d : PyData} {n : Nat} (h : Lay d n) (hn : n ≤ 64) : SeqAt.shaped d = true := by
  unfold SeqAt.shaped
  rw [h.1, decide_eq_true (Nat.le_trans h.2 hn)] <;> rfl
/-! equality of such data -/
theorem eqvAll_map {α : Type} [DecidableEq α] {f : α → PyData} (hf : ∀ x y, PyData.eqv (f x) (f y) = decide (x = y)) : ∀ xs ys : List α, PyData.eqvAll (xs.map f) (ys.map f) = decide (xs = ys)
  | [], [] => by simp [PyData.eqvAll]
  | [], _ :: _ => by simp [PyData.eqvAll]
  | _ :: _, [] => by simp [PyData.eqvAll]
  | x :: xs, y :: ys => by
    simp only [List.map_cons, PyData.eqvAll, hf, eqvAll_map hf xs ys]
    by_cases h1 : x = y <;> by_cases h2 : xs = ys <;> simp [h1, h2]
/-! ### a list that a def fills -/
structure Fnd (q : Addr) (G H : Hp) (φs : List Ty) : Prop where
  s : Same G H
  n : G q = none
  h : ∃ vs, H q = some (.lst vs) ∧ All G φs vs
section
variable {K : Fg} {σ : St} {G R H : Hp} {te ta tb : TE} {D : Ends} {tz tu : TS} {q : Addr} {φs : List Ty} {φ : Ty}
theorem Fnd.grow {G' H' : Hp} (i : Fnd q G H φs) (g : Grow G H G' H') : Fnd q G' H' φs := by
  obtain ⟨vs, h, k⟩ := i.h
  refine ⟨g.s, ?_, vs, g.h _ _ h, k.mono g.g⟩
  cases e : G' q with
  | none => rfl
  | some o =>
    exact (Fz.no (g.f q i.n (by rw [e]; exact fun z => nomatch z)) (h) fun _ z => nomatch z).elim
theorem Fnd.new (s : Same G H) (h : H q = none) : Fnd q G (upd H q (.lst [])) [] := ⟨same_upd s (s.free h), s.free h, [], upd_same, .nil⟩
/-- the list read as a whole -/
theorem Fnd.data (i : Fnd q G H φs) : (tL φs).p H (.ref q) := by
  obtain ⟨vs, h, k⟩ := i.h
  exact ⟨q, vs, rfl, h, k.mono i.s⟩
/-- handed out: it is data from now on -/
theorem Fnd.fin {G0 H0 : Hp} (i : Fnd q G H φs) (g : Same G0 G) (h : Same H0 H) (f : ∀ a, G0 a = none → G a ≠ none → Fz H0 a) (hq : H0 q = none) : ∃ G', Grow G0 H0 G' H ∧ (tL φs).p G' (.ref q) := by
  obtain ⟨vs, e, k⟩ := i.h
  refine ⟨upd G q (.lst vs), ⟨g.trans (same_new i.n), h, fun x o hx => ?_, fun x hx hy => ?_⟩, q, vs, rfl, upd_same, k.mono (same_new i.n)⟩
  · by_cases z : x = q
    · subst z
      rw [upd_same] at hx
      rw [e]
      exact hx
    · rw [upd_ne z] at hx
      exact i.s x o hx
  · by_cases z : x = q
    · subst z
      exact .inl hq
    · rw [upd_ne z] at hy
      exact f x hx hy
end
end BR
/-! The program's defs on spans and slabs: promises and walks. -/
namespace BR
open PySem PySem.Spec PyProof.Rows L2
/-! ### a list being filled, from the def's start on -/
structure Fil (q : Addr) (G0 H0 G H : Hp) (φs : List Ty) : Prop where
  i : Fnd q G H φs
  g : Same G0 G
  h : Same H0 H
  f : ∀ a, G0 a = none → G a ≠ none → Fz H0 a
  z : H0 q = none
section
variable {K : Fg} {σ : St} {G0 H0 G R H : Hp} {te ta tb : TE} {D : Ends} {tz tu : TS} {q : Addr} {φs : List Ty} {φ : Ty}
theorem Fil.grow {G' H' : Hp} (i : Fil q G0 H0 G H φs) (g : Grow G H G' H') : Fil q G0 H0 G' H' φs :=
  ⟨i.i.grow g, i.g.trans g.g, i.h.trans g.h, fun a h1 h2 => by
    by_cases e : G a = none
    · exact (g.f a e h2).back i.h
    · exact i.f a h1 e, i.z⟩
theorem Fil.start (s : Same G0 H0) (h : H0 q = none) : Fil q G0 H0 G0 (upd H0 q (.lst [])) [] := ⟨.new s h, same_refl _, same_new h, fun a h1 h2 => absurd h1 h2, h⟩
theorem Fil.after {G' H' H2 : Hp} {ψs : List Ty} (i : Fil q G0 H0 G H φs) (g : Grow G H G' H') (n : Fnd q G' H2 ψs) (b : SameBut q H' H2) : Fil q G0 H0 G' H2 ψs :=
  have j := i.grow g
  ⟨n, j.g, fun a o e => b a o (fun z => by subst z; rw [i.z] at e; cases e) (j.h a o e), j.f, j.z⟩
theorem Fil.fin (i : Fil q G0 H0 G H φs) : ∃ G', Grow G0 H0 G' H ∧ (tL φs).p G' (.ref q) := i.i.fin i.g i.h i.f i.z
end
/-! ### promises -/
def Small (f : List Sl) : Prop := f.length ≤ 1000 ∧ ∀ s ∈ f, s.2.2.length ≤ 1000
/-- what shrunk needs -/
structure ShOk (f : List Sl) (b : Bx) : Prop where
  s : Small f
  n : (boxesOf f).length ≤ 2000
  p : Small (grown f (0 - b.1, 0 - b.2.1, 1 - b.1, 1 - b.2.1))
  e : ∀ s ∈ grown f (0 - b.1, 0 - b.2.1, 1 - b.1, 1 - b.2.1), s.2.2 ≠ []
  o : f ≠ [] → grown f (0 - b.1, 0 - b.2.1, 1 - b.1, 1 - b.2.1) ≠ []
  m : (boxesOf (mixed (slabsOf [addedBox ((frameOf (grown f (0 - b.1, 0 - b.2.1, 1 - b.1, 1 - b.2.1))).getD (0, 0, 0, 0)) b]) f .less)).length ≤ 2000
  g : Small (grown (mixed (slabsOf [addedBox ((frameOf (grown f (0 - b.1, 0 - b.2.1, 1 - b.1, 1 - b.2.1))).getD (0, 0, 0, 0)) b]) f .less) (opposite b))
section
variable {K : Fg}
end
end BR
/-! Own layer: readings beside a pool that draws change. -/
namespace BR
open PySem PySem.Spec PyProof.Rows L2
/-- growth, but for the pool -/
structure KG (p : Addr) (G H G' H' : Hp) : Prop where
  g : Same G G'
  b : SameBut p H H'
  i : PI p G' H'
  f : ∀ a, G a = none → G' a ≠ none → Fz H a
theorem KG.refl {p : Addr} {G H : Hp} (i : PI p G H) : KG p G H G H := ⟨same_refl _, fun _ _ _ e => e, i, fun a h h' => absurd h h'⟩
theorem KG.trans {p : Addr} {G H G1 H1 G2 H2 : Hp} (i : PI p G H) (a : KG p G H G1 H1) (b : KG p G1 H1 G2 H2) : KG p G H G2 H2 :=
  ⟨a.g.trans b.g, fun c o n e => b.b c o n (a.b c o n e), b.i, fun c h1 h2 => by
    by_cases e : G1 c = none
    · have h3 := b.f c e h2
      refine h3.back1 fun o e4 => ?_
      by_cases z : c = p
      · subst z
        obtain ⟨c0, z0, hh, _⟩ := a.i.h
        exact (h3.no hh fun _ z => nomatch z).elim
      · exact a.b c o z e4
    · exact a.f c h1 e⟩
theorem KG.grow {p : Addr} {G H G' H' : Hp} (i : PI p G H) (g : Grow G H G' H') : KG p G H G' H' := ⟨g.g, fun a o _ e => g.h a o e, i.grow g, g.f⟩
/-- over more -/
theorem KG.more {p : Addr} {G G1 H G' H' : Hp} (a : KG p G H G' H') (g : Same G G1) (i : PI p G1 H) : KG p G1 H (uni G1 G') H' ∧ Same G' (uni G1 G') := by
  have s1 : Same G1 H' := fun c o e => a.b c o (fun z => by subst z; rw [i.n] at e; cases e) (i.s c o e)
  refine ⟨⟨uni_l _ _, a.b, ⟨uni_s s1 a.i.s, ?_, a.i.h⟩, fun c h1 h2 => ?_⟩, uni_r s1 a.i.s⟩
  · unfold uni
    rw [i.n]
    exact a.i.n
  · have e : uni G1 G' c = G' c := by simp [uni, h1]
    rw [e] at h2
    exact a.f c (g.free h1) h2
/-- a reading gives one of the values φ t, C t -/
def KD (p : Addr) (te : TE) (σ : St) (G : Hp) {T : Type} (C : T → Prop) (φ : T → Ty) : Prop :=
  ∀ H, PI p G H → ∀ Q : VK, (∀ t v G' H', KG p G H G' H' → C t → (φ t).p G' v → Q v H') → te σ H Q
def KA (p : Addr) (ta : TA) (σ : St) (G : Hp) {T : Type} (C : T → Prop) (φs : T → List Ty) : Prop :=
  ∀ H, PI p G H → ∀ Q : List V → Hp → Prop, (∀ t vs G' H', KG p G H G' H' → C t → All G' (φs t) vs → Q vs H') → ta σ H Q
section
variable {K : Fg} {p : Addr} {σ : St} {G G1 H : Hp} {ta tb te : TE} {tr : TA} {T U W : Type} {C : T → Prop} {φ : T → Ty} {B : U → Prop} {ψ : U → Ty} {Q : VK} {E : XK} {D : Ends} {tz : TS}
theorem KD.mono (h : KD p te σ G C φ) (g : Same G G1) : KD p te σ G1 C φ := fun H i Q q =>
  h H (i.less g) Q fun t v G' H' k c hv =>
    let ⟨k2, s2⟩ := k.more g i
    q t v _ H' k2 c ((φ t).m _ _ _ s2 hv)
theorem KA.mono {φs : T → List Ty} (h : KA p tr σ G C φs) (g : Same G G1) : KA p tr σ G1 C φs := fun H i Q q =>
  h H (i.less g) Q fun t v G' H' k c hv =>
    let ⟨k2, s2⟩ := k.more g i
    q t v _ H' k2 c (hv.mono s2)
theorem KD.map {C' : W → Prop} {φ' : W → Ty} (h : KD p te σ G C φ) (f : ∀ t, C t → ∃ w, C' w ∧ φ t = φ' w) : KD p te σ G C' φ' := fun H i Q q =>
  h H i Q fun t v G' H' k c hv => by
    obtain ⟨w, h1, h2⟩ := f t c
    exact q w v G' H' k h1 (h2 ▸ hv)
theorem pd_cv {R : Hp} {χ : Ty} {v : V} (h : χ.p G v) : PD (tC v) σ G R χ := fun H _ sg Q q => q v G H (.refl sg) h
theorem KA.map {C' : W → Prop} {φs : T → List Ty} {φs' : W → List Ty} (h : KA p tr σ G C φs) (f : ∀ t, C t → ∃ w, C' w ∧ φs t = φs' w) : KA p tr σ G C' φs' := fun H i Q q =>
  h H i Q fun t v G' H' k c hv => by
    obtain ⟨w, h1, h2⟩ := f t c
    exact q w v G' H' k h1 (h2 ▸ hv)
/-! statements -/
/-! defs with a pool -/
def spK {T : Type} (pre : List Ty → (T → Prop) → (T → Ty) → Prop) : Sp := fun vs H Q _ => ∃ (p : Addr) (G : Hp) (φs : List Ty) (C : T → Prop) (φ : T → Ty) (ws : List V), vs = .ref p :: ws ∧ PI p G H ∧ All G φs ws ∧ pre φs C φ ∧
  ∀ t v G' H', KG p G H G' H' → C t → (φ t).p G' v → Q v H'
/-! a list that is filled beside the pool -/
structure FilP (p q : Addr) (G0 H0 G H : Hp) (φs : List Ty) : Prop where
  i : Fnd q G H φs
  k : KG p G0 H0 G H
  z : H0 q = none
  ne : q ≠ p
variable {q : Addr} {G0 H0 : Hp} {φs : List Ty}
theorem FilP.step {G' H' : Hp} (i0 : PI p G0 H0) (f : FilP p q G0 H0 G H φs) (k : KG p G H G' H') : FilP p q G0 H0 G' H' φs := by
  obtain ⟨vs, h, a⟩ := f.i.h
  refine ⟨⟨k.i.s, ?_, vs, k.b q _ f.ne h, a.mono k.g⟩, f.k.trans i0 k, f.z, f.ne⟩
  cases e : G' q with
  | none => rfl
  | some o =>
    exact ((k.f q f.i.n (by rw [e]; exact fun z => nomatch z)).no h fun _ z => nomatch z).elim
theorem FilP.start (i0 : PI p G0 H0) (h : H0 q = none) : FilP p q G0 H0 G0 (upd H0 q (.lst [])) [] := by
  have ne : q ≠ p := fun z => by
    subst z
    obtain ⟨c, z, hh, _⟩ := i0.h
    rw [hh] at h
    cases h
  obtain ⟨c, z, hh, ok⟩ := i0.h
  exact ⟨.new i0.s h, ⟨same_refl _, fun a o _ e => by rw [upd_ne (ne_of_none e h)]; exact e, ⟨same_upd i0.s (i0.s.free h), i0.n, c, z, by rw [upd_ne (Ne.symm ne)]; exact hh, ok⟩, fun a h h' => absurd h h'⟩, h, ne⟩
/-- the list's last, changed state -/
theorem FilP.put {G' H' H2 : Hp} {ψs : List Ty} (i0 : PI p G0 H0) (f : FilP p q G0 H0 G H φs) (g : Grow G H G' H') (n : Fnd q G' H2 ψs) (b : SameBut q H' H2) : FilP p q G0 H0 G' H2 ψs := by
  have f2 := f.step i0 (.grow f.k.i g)
  obtain ⟨c, z, hh, ok⟩ := f2.k.i.h
  have pz := b p _ (Ne.symm f.ne) hh
  refine ⟨n, ⟨f2.k.g, fun a o ne e => ?_, ⟨n.s, f2.k.i.n, c, z, pz, ok⟩, f2.k.f⟩, f.z, f.ne⟩
  refine b a o (fun z => ?_) (f2.k.b a o ne e)
  subst z
  rw [f.z] at e
  cases e
/-- handed out -/
theorem FilP.fin (f : FilP p q G0 H0 G H φs) : ∃ G', KG p G0 H0 G' H ∧ (tL φs).p G' (.ref q) := by
  obtain ⟨vs, e, a⟩ := f.i.h
  refine ⟨upd G q (.lst vs), ⟨f.k.g.trans (same_new f.i.n), f.k.b, ⟨fun x o hx => ?_, ?_, f.k.i.h⟩, fun x hx hy => ?_⟩, q, vs, rfl, upd_same, a.mono (same_new f.i.n)⟩
  · by_cases z : x = q
    · subst z
      rw [upd_same] at hx
      rw [e]
      exact hx
    · rw [upd_ne z] at hx
      exact f.i.s x o hx
  · rw [upd_ne (Ne.symm f.ne)]
    exact f.k.i.n
  · by_cases z : x = q
    · subst z
      exact .inl f.z
    · rw [upd_ne z] at hy
      exact f.k.f x hx hy
end
end BR
/-! Own layer: plain mirrors of readings. A mirror is what is wanted of plain values; states by slots. -/
namespace BR
open PySem PySem.Spec PyProof.Rows L2
/-! ### plain wishes -/
abbrev Wp (α : Type) : Type := (α → Prop) → Prop
def wPure {α : Type} (a : α) : Wp α := fun P => P a
def wBind {α β : Type} (m : Wp α) (f : α → Wp β) : Wp β := fun P => m fun a => f a P
def wRun {α : Type} (m : Wp α) (P : α → Prop) : Prop := m P
def wNil : Wp Unit := fun P => P ()
def wCons {α β : Type} (m : Wp α) (r : Wp β) : Wp (α × β) := fun P => m fun a => r fun b => P (a, b)
def wG {α : Type} (c : Prop) (a : α) : Wp α := fun P => c ∧ P a
/-! ### slots -/
/-- what stands in an object that is changed in place -/
structure Ct where
  p : Hp → HO → Prop
  m : ∀ G G' u, Same G G' → p G u → p G' u
  x : ∀ G u φ, p G u → u ≠ .ext φ
  t : ∀ G u xs, p G u → u ≠ .tup xs
def cL (φs : List Ty) : Ct := ⟨fun G u => ∃ vs, u = .lst vs ∧ All G φs vs ∧ φs.length ≤ 100000, fun _ _ _ s ⟨vs, e, h1, h2⟩ => ⟨vs, e, h1.mono s, h2⟩, fun _ _ _ ⟨_, e, _⟩ z => (by rw [e] at z; cases z), fun _ _ _ ⟨_, e, _⟩ z => (by rw [e] at z; cases z)⟩
/-- what the table at P holds, wherever its object is kept and what is told by itself alone -/
theorem TabS.keep {H H' : Hp} {P : Addr} {q : Str} (t : LamX.TabS H P q) (h : ∀ u, H P = some u → H' P = some u) (hx : ∀ a φ, H a = some (.ext φ) → H' a = some (.ext φ)) : LamX.TabS H' P q := by
  obtain ⟨ps, h1, h2, h3⟩ := t
  refine ⟨ps, h _ h1, h2, fun pos cv hc => ?_⟩
  obtain ⟨c, e1, e2⟩ := h3 pos cv hc
  exact ⟨c, e1, hx _ _ e2⟩
inductive Slot where
  | un
  | val (φ : Ty)
  | own (C : Ct)
  | pool
  | tab (P : Addr) (q : Str)
def Slot.mu : Slot → Bool
  | .own _ => true
  | .pool => true
  | .tab _ _ => true
  | _ => false
def SlotOk (G H : Hp) : Slot → Option V → Prop
  | .un, _ => True
  | .val φ, o => ∃ v, o = some v ∧ φ.p G v
  | .own C, o => ∃ q u, o = some (.ref q) ∧ H q = some u ∧ C.p G u ∧ G q = none
  | .pool, o => ∃ q a b, o = some (.ref q) ∧ H q = some (.lst [.int a, .int b]) ∧ PoolOk a b ∧ G q = none
  | .tab P n, o => o = some (.ref P) ∧ LamX.TabS H P n ∧ G P = none
abbrev Sts := List Slot
def MutAt (Φ : Sts) (σ : St) (i : Nat) (q : Addr) : Prop := (∃ s, Φ[i]? = some s ∧ s.mu = true) ∧ σ[i]? = some (some (.ref q))
def Muts (Φ : Sts) (σ : St) (q : Addr) : Prop := ∃ i, MutAt Φ σ i q
structure EnvL (Φ : Sts) (σ : St) (G H : Hp) : Prop where
  s : Same G H
  l : σ.length = Φ.length
  sl : ∀ (i : Nat) (s : Slot), Φ[i]? = some s → ∃ o, σ[i]? = some o ∧ SlotOk G H s o
  nd : ∀ (i j : Nat) (q : Addr), MutAt Φ σ i q → MutAt Φ σ j q → i = j
theorem SlotOk.mutH {G H : Hp} {s : Slot} {q : Addr} (h : SlotOk G H s (some (.ref q))) (m : s.mu = true) : (∃ u, H q = some u ∧ ∀ xs, u ≠ .tup xs) ∧ G q = none := by
  cases s with
  | un => cases m
  | val φ => cases m
  | own φs =>
    obtain ⟨q', vs, e, h1, h2, h3⟩ := h
    cases e
    exact ⟨⟨_, h1, fun xs => φs.t _ _ xs h2⟩, h3⟩
  | pool =>
    obtain ⟨q', a, b, e, h1, h2, h3⟩ := h
    cases e
    exact ⟨⟨_, h1, fun _ z => nomatch z⟩, h3⟩
  | tab P n =>
    obtain ⟨e, ⟨ps, h1, _⟩, h3⟩ := h
    cases e
    exact ⟨⟨_, h1, fun _ z => nomatch z⟩, h3⟩
/-- what is told by itself alone is not at a place that changes -/
theorem SlotOk.notX {G H : Hp} {s : Slot} {q : Addr} {φ : Heap → Prop} (h : SlotOk G H s (some (.ref q))) (m : s.mu = true) (hx : H q = some (.ext φ)) : False := by
  cases s with
  | un => cases m
  | val φ => cases m
  | own C =>
    obtain ⟨q', u, e, h1, h2, h3⟩ := h
    cases e
    rw [hx] at h1
    cases h1
    exact C.x _ _ _ h2 rfl
  | pool =>
    obtain ⟨q', a, b, e, h1, h2, h3⟩ := h
    cases e
    rw [hx] at h1
    cases h1
  | tab P n =>
    obtain ⟨e, ⟨ps, h1, _⟩, h3⟩ := h
    cases e
    rw [hx] at h1
    cases h1
theorem EnvL.notX {Φ : Sts} {σ : St} {G H : Hp} {q : Addr} {φ : Heap → Prop} (e : EnvL Φ σ G H) (hx : H q = some (.ext φ)) : ¬ Muts Φ σ q := fun ⟨i, ⟨s, h1, h2⟩, h3⟩ => by
  obtain ⟨o, h4, h5⟩ := e.sl i s h1
  rw [h3] at h4
  cases h4
  exact h5.notX h2 hx
theorem EnvL.mut {Φ : Sts} {σ : St} {G H : Hp} {q : Addr} (e : EnvL Φ σ G H) (h : Muts Φ σ q) : (∃ u, H q = some u ∧ ∀ xs, u ≠ .tup xs) ∧ G q = none := by
  obtain ⟨i, ⟨s, h1, h2⟩, h3⟩ := h
  obtain ⟨o, h4, h5⟩ := e.sl i s h1
  rw [h3] at h4
  cases h4
  exact h5.mutH h2
structure Step (Φ : Sts) (σ : St) (G H G' H' : Hp) : Prop where
  e : EnvL Φ σ G' H'
  g : Same G G'
  b : ∀ a o, ¬ Muts Φ σ a → H a = some o → H' a = some o
  f : ∀ a, G a = none → G' a ≠ none → Fz H a
theorem Step.refl {Φ : Sts} {σ : St} {G H : Hp} (e : EnvL Φ σ G H) : Step Φ σ G H G H := ⟨e, same_refl _, fun _ _ _ h => h, fun _ h h' => absurd h h'⟩
theorem Step.trans {Φ : Sts} {σ : St} {G H G1 H1 G2 H2 : Hp} (a : Step Φ σ G H G1 H1) (b : Step Φ σ G1 H1 G2 H2) : Step Φ σ G H G2 H2 :=
  ⟨b.e, a.g.trans b.g, fun x o n h => b.b x o n (a.b x o n h), fun x h h' => by
    by_cases e : G1 x = none
    · have h3 := b.f x e h'
      refine h3.back1 fun o h4 => ?_
      by_cases m : Muts Φ σ x
      · obtain ⟨⟨vs, q, nt⟩, _⟩ := a.e.mut m
        exact (h3.no q nt).elim
      · exact a.b x o m h4
    · exact a.f x h e⟩
theorem SlotOk.keep {G H G' H' : Hp} {s : Slot} {o : Option V} (h : SlotOk G H s o) (g : Same G G') (hk : ∀ q u, s.mu = true → o = some (.ref q) → H q = some u → H' q = some u) (hn : ∀ q, s.mu = true → o = some (.ref q) → G' q = none) (hx : ∀ a φ, H a = some (.ext φ) → H' a = some (.ext φ)) : SlotOk G' H' s o := by
  cases s with
  | un => trivial
  | val φ =>
    obtain ⟨v, e, h1⟩ := h
    exact ⟨v, e, φ.m _ _ _ g h1⟩
  | own C =>
    obtain ⟨q, u, e, h1, h2, h3⟩ := h
    exact ⟨q, u, e, hk q _ rfl e h1, C.m _ _ _ g h2, hn q rfl e⟩
  | pool =>
    obtain ⟨q, a, b, e, h1, h2, h3⟩ := h
    exact ⟨q, a, b, e, hk q _ rfl e h1, h2, hn q rfl e⟩
  | tab P n =>
    obtain ⟨e, h1, h2⟩ := h
    exact ⟨e, TabS.keep h1 (fun u hu => hk P u rfl e hu) hx, hn P rfl e⟩
theorem SlotOk.keep0 {G H G' H' : Hp} {s : Slot} {o : Option V} (h : SlotOk G H s o) (g : Same G G') (m : s.mu = false) : SlotOk G' H' s o := by
  cases s with
  | un => trivial
  | val φ =>
    obtain ⟨v, e, h1⟩ := h
    exact ⟨v, e, φ.m _ _ _ g h1⟩
  | own C => cases m
  | pool => cases m
  | tab P n => cases m
theorem Step.grow {Φ : Sts} {σ : St} {G H G' H' : Hp} (e : EnvL Φ σ G H) (g : Grow G H G' H') : Step Φ σ G H G' H' := by
  refine ⟨⟨g.s, e.l, fun i s h => ?_, e.nd⟩, g.g, fun a o _ h => g.h a o h, g.f⟩
  obtain ⟨o, h1, h2⟩ := e.sl i s h
  refine ⟨o, h1, h2.keep g.g (fun q vs _ _ hq => g.h _ _ hq) (fun q m ho => ?_) fun a φ h => g.h _ _ h⟩
  subst ho
  obtain ⟨⟨vs, hv, nt⟩, hn⟩ := h2.mutH m
  cases z : G' q with
  | none => rfl
  | some u =>
    exact ((g.f q hn (by rw [z]; exact fun w => nomatch w)).no hv nt).elim
/-- one of the pools has been drawn from -/
theorem Step.kg {Φ : Sts} {σ : St} {G H G' H' : Hp} {p : Addr} {j : Nat} (e : EnvL Φ σ G H) (hj : Φ[j]? = some .pool) (hp : σ[j]? = some (some (.ref p))) (g : KG p G H G' H') : Step Φ σ G H G' H' := by
  have mp : MutAt Φ σ j p := ⟨⟨_, hj, rfl⟩, hp⟩
  refine ⟨⟨g.i.s, e.l, fun i s h => ?_, e.nd⟩, g.g, fun a o m h => g.b a o (fun z => m ⟨j, z ▸ mp⟩) h, g.f⟩
  obtain ⟨o, h1, h2⟩ := e.sl i s h
  refine ⟨o, h1, ?_⟩
  by_cases z : s.mu = true ∧ o = some (.ref p)
  · obtain ⟨z1, rfl⟩ := z
    have : i = j := e.nd i j p ⟨⟨s, h, z1⟩, h1⟩ mp
    subst this
    rw [hj] at h
    cases h
    obtain ⟨c, d, q1, q2⟩ := g.i.h
    exact ⟨p, c, d, rfl, q1, q2, g.i.n⟩
  · refine h2.keep g.g (fun q vs m ho hq => g.b _ _ (fun w => z ⟨m, by rw [ho, w]⟩) hq) (fun q m ho => ?_) fun a φ h => g.b _ _ (fun w => e.notX h ⟨j, w ▸ mp⟩) h
    subst ho
    obtain ⟨⟨vs, hv, nt⟩, hn⟩ := h2.mutH m
    cases y : G' q with
    | none => rfl
    | some u =>
      exact ((g.f q hn (by rw [y]; exact fun w => nomatch w)).no hv nt).elim
/-! ### judgements -/
def MD (Φ : Sts) (te : TE) {α : Type} (m : Wp α) (e : α → Ty) : Prop :=
  ∀ σ G H, EnvL Φ σ G H → ∀ (P : α → Prop) (Q : VK), m P → (∀ a v G' H', P a → Step Φ σ G H G' H' → (e a).p G' v → Q v H') → te σ H Q
def MA (Φ : Sts) (ta : TA) {α : Type} (m : Wp α) (es : α → List Ty) : Prop :=
  ∀ σ G H, EnvL Φ σ G H → ∀ (P : α → Prop) (Q : List V → Hp → Prop), m P → (∀ a vs G' H', P a → Step Φ σ G H G' H' → All G' (es a) vs → Q vs H') → ta σ H Q
def MT (Φ : Sts) (tt : TT) (m : Wp Bool) : Prop :=
  ∀ σ G H, EnvL Φ σ G H → ∀ (P : Bool → Prop) (Q : Bool → Hp → Prop), m P → (∀ b G' H', P b → Step Φ σ G H G' H' → Q b H') → tt σ H Q
section
variable {K : Fg} {Φ : Sts} {ta tb te : TE} {tr : TA} {tt tu : TT} {α β γ : Type} {m : Wp α} {n : Wp β} {e : α → Ty} {f : β → Ty}
theorem md_var {i : Nat} {a : α} (h : Φ[i]? = some (.val (e a))) : MD Φ (tVar i) (wPure a) e := fun σ G H ev P Q mp q => by
  obtain ⟨o, h1, v, rfl, h2⟩ := ev.sl i _ h
  exact ⟨v, h1, q a v G H mp (.refl ev) h2⟩
theorem md_c {a : α} {v : V} (h : ∀ G, (e a).p G v) : MD Φ (tC v) (wPure a) e := fun σ G H ev P Q mp q => q a v G H mp (.refl ev) (h G)
theorem md_int {i : Int} : MD Φ (tC (.int i)) (wPure i) tI := md_c fun _ => rfl
theorem md_bl {b : Bool} : MD Φ (tC (.bl b)) (wPure b) tBo := md_c fun _ => rfl
theorem md_str {x : Str} : MD Φ (tC (.str x)) (wPure x) tSt := md_c fun _ => rfl
theorem ma_nil : MA Φ tNil wNil (fun _ => []) := fun σ G H ev P Q mp q => q () [] G H mp (.refl ev) .nil
theorem ma_cons {es : β → List Ty} (h : MD Φ te m e) (hr : MA Φ tr n es) : MA Φ (tCons te tr) (wCons m n) (fun z => e z.1 :: es z.2) := fun σ G H ev P Q mp q =>
  h σ G H ev _ _ mp fun a v G1 H1 pa s1 hv => hr σ G1 H1 s1.e _ _ pa fun b vs G2 H2 pb s2 hvs => q (a, b) (v :: vs) G2 H2 pb (s1.trans s2) (.cons ((e a).m _ _ _ s2.g hv) hvs)
/-- two places -/
theorem md_op {r : R2} {g : γ → Ty} {k : α → β → Wp γ} (ha : MD Φ ta m e) (hb : MD Φ tb n f)
    (hr : ∀ a b x y σ G P, (e a).p G x → (f b).p G y → k a b P → ∃ c, P c ∧ PD (tOp r (tC x) (tC y)) σ G G (g c)) : MD Φ (tOp r ta tb) (wBind m fun a => wBind n fun b => k a b) g := fun σ G H ev P Q mp q =>
  ha σ G H ev _ _ mp fun a x G1 H1 pa s1 hx => hb σ G1 H1 s1.e _ _ pa fun b y G2 H2 pb s2 hy => by
    obtain ⟨c, pc, hc⟩ := hr a b x y σ G2 P ((e a).m _ _ _ s2.g hx) hy pb
    exact hc H2 s2.e.s s2.e.s Q fun v G' H' gr hv => q c v G' H' pc ((s1.trans s2).trans (.grow s2.e gr)) hv
theorem md_un {r : V → Hp → VK → Prop} {g : γ → Ty} {k : α → Wp γ} (ha : MD Φ ta m e)
    (hr : ∀ a x σ G P, (e a).p G x → k a P → ∃ c, P c ∧ PD (tUn r (tC x)) σ G G (g c)) : MD Φ (tUn r ta) (wBind m k) g := fun σ G H ev P Q mp q =>
  ha σ G H ev _ _ mp fun a x G1 H1 pa s1 hx => by
    obtain ⟨c, pc, hc⟩ := hr a x σ G1 P hx pa
    exact hc H1 s1.e.s s1.e.s Q fun v G' H' gr hv => q c v G' H' pc (s1.trans (.grow s1.e gr)) hv
/-- a value that PD tells, over values -/
theorem md_1 {F : TE → TE} {g : γ → Ty} {k : α → Wp γ} (hF : ∀ σ H Q, te σ H (fun x H1 => F (tC x) σ H1 Q) → F te σ H Q) (ha : MD Φ te m e)
    (hr : ∀ a x σ G P, (e a).p G x → k a P → ∃ c, P c ∧ PD (F (tC x)) σ G G (g c)) : MD Φ (F te) (wBind m k) g := fun σ G H ev P Q mp q =>
  hF σ H Q (ha σ G H ev _ _ mp fun a x G1 H1 pa s1 hx => by
    obtain ⟨c, pc, hc⟩ := hr a x σ G1 P hx pa
    exact hc H1 s1.e.s s1.e.s Q fun v G' H' gr hv => q c v G' H' pc (s1.trans (.grow s1.e gr)) hv)
theorem MD.conv {g : γ → Ty} {k : α → γ} (h : MD Φ te m e) (hc : ∀ a G v, (e a).p G v → (g (k a)).p G v) : MD Φ te (wBind m fun a => wPure (k a)) g := fun σ G H ev P Q mp q =>
  h σ G H ev _ _ mp fun a v G' H' pa s hv => q (k a) v G' H' pa s (hc a _ _ hv)
theorem MD.enc {g : α → Ty} (h : MD Φ te m e) (hc : ∀ a G v, (e a).p G v → (g a).p G v) : MD Φ te m g := fun σ G H ev P Q mp q =>
  h σ G H ev _ _ mp fun a v G' H' pa s hv => q a v G' H' pa s (hc a _ _ hv)
/-! displays -/
theorem md_tup {es : α → List Ty} (h : MA Φ tr m es) (hl : ∀ a, (es a).length ≤ 100000) : MD Φ (tTup tr) m (fun a => tT (es a)) := fun σ G H ev P Q mp q =>
  h σ G H ev _ _ mp fun a vs G1 H1 pa s1 hvs => ⟨sz_of (by rw [hvs.length]; exact hl a), fun p hp =>
    have g2 : Grow G1 H1 (upd G1 p (.tup vs)) (upd H1 p (.tup vs)) := .new s1.e.s hp
    q a (.ref p) _ _ pa (s1.trans (.grow s1.e g2)) ⟨p, vs, rfl, upd_same, hvs.mono g2.g⟩⟩
theorem md_lst {es : α → List Ty} (h : MA Φ tr m es) (hl : ∀ a, (es a).length ≤ 100000) : MD Φ (tLst tr) m (fun a => tL (es a)) := fun σ G H ev P Q mp q =>
  h σ G H ev _ _ mp fun a vs G1 H1 pa s1 hvs => ⟨sz_of (by rw [hvs.length]; exact hl a), fun p hp =>
    have g2 : Grow G1 H1 (upd G1 p (.lst vs)) (upd H1 p (.lst vs)) := .new s1.e.s hp
    q a (.ref p) _ _ pa (s1.trans (.grow s1.e g2)) ⟨p, vs, rfl, upd_same, hvs.mono g2.g⟩⟩
/-! tests -/
theorem mt_test {m : Wp Bool} (h : MD Φ te m tBo) : MT Φ (tTest te) m := fun σ G H ev P Q mp q =>
  h σ G H ev _ _ mp fun a v G1 H1 pa s1 hv => by
    cases hv
    exact ⟨a, rfl, q a G1 H1 pa s1⟩
def wOr (m n : Wp Bool) : Wp Bool := fun P => m fun a => if a = true then P true else n P
theorem mt_or {m n : Wp Bool} (h : MT Φ tt m) (h2 : MT Φ tu n) : MT Φ (tOr tt tu) (wOr m n) := fun σ G H ev P Q mp q =>
  h σ G H ev _ _ mp fun a G1 H1 pa s1 => by
    cases a with
    | true =>
      rw [if_pos rfl] at pa ⊢
      exact q true G1 H1 pa s1
    | false =>
      rw [if_neg (by decide)] at pa ⊢
      exact h2 σ G1 H1 s1.e P Q pa fun b G2 H2 pb s2 => q b G2 H2 pb (s1.trans s2)
theorem mt_yes : MT Φ tYes (wPure true) := fun σ G H ev P Q mp q => q true G H mp (.refl ev)
/-! calls -/
def spM {ρ : Type} (es : α → List Ty) (er : ρ → Ty) (m : α → Wp ρ) : Sp := fun vs H Q _ => ∃ G a R, Same G H ∧ All G (es a) vs ∧ m a R ∧ ∀ r v G' H', R r → Grow G H G' H' → (er r).p G' v → Q v H'
theorem md_call {ρ : Type} {es es' : α → List Ty} {er : ρ → Ty} {k : α → Wp ρ} {E : XK} (h : MA Φ tr m es') (hes : ∀ a, es' a = es a) : MD Φ (tCall (spM es er k) [] E tr) (wBind m k) er := fun σ G H ev P Q mp q =>
  h σ G H ev _ _ mp fun a vs G1 H1 pa s1 hvs => by
    rw [List.append_nil]
    exact ⟨G1, a, P, s1.e.s, hes a ▸ hvs, pa, fun r v G' H' pr gr hv => q r v G' H' pr (s1.trans (.grow s1.e gr)) hv⟩
theorem EnvL.pi {σ : St} {G H : Hp} {j : Nat} (ev : EnvL Φ σ G H) (hj : Φ[j]? = some .pool) : ∃ p, σ[j]? = some (some (.ref p)) ∧ PI p G H := by
  obtain ⟨o, h1, p, a, b, rfl, h2, h3, h4⟩ := ev.sl j _ hj
  exact ⟨p, h1, ev.s, h4, a, b, h2, h3⟩
def wTake (n : Int) : Wp Int := fun P => 0 < n ∧ n < 2 ^ 200 ∧ ∀ r, 0 ≤ r → r < n → P r
theorem md_take {j : Nat} {m : Wp Int} {E : XK} (hj : Φ[j]? = some .pool) (h : MD Φ te m tI) : MD Φ (tCall sp_l_take [] E (tCons (tVar j) (tCons te tNil))) (wBind m wTake) tI := fun σ G H ev P Q mp q => by
  obtain ⟨p, hp, _⟩ := ev.pi hj
  refine ⟨.ref p, hp, h σ G H ev _ _ mp fun a v G1 H1 pa s1 hv => ?_⟩
  cases hv
  obtain ⟨p', hp', pi'⟩ := s1.e.pi hj
  rw [hp] at hp'
  cases hp'
  obtain ⟨pa1, pa2, pa3⟩ := pa
  obtain ⟨c, z, q1, q2⟩ := pi'.h
  refine ⟨p, c, z, a, rfl, q1, q2, pa1, pa2, fun r c' z' H' r0 r1 q3 q4 q5 => q r _ G1 H' (pa3 r r0 r1) (s1.trans (.kg s1.e hj hp ⟨same_refl _, q4, pi'.but q4 q5 q3, fun a h h' => absurd h h'⟩)) rfl⟩
end
end BR
/-! Own layer: statements by slots, beside their plain mirrors. -/
namespace BR
open PySem PySem.Spec PyProof.Rows L2
/-- how a def was entered: a pool that may change, what stood -/
structure Cn where
  ex : Addr → Prop
  G0 : Hp
  H0 : Hp
  tb : Addr → Option Str
/-- what stands at a place that may change -/
def KpOk (c : Cn) (H : Hp) (a : Addr) : Prop := match c.tb a with
  | none => ∃ x y, H a = some (.lst [.int x, .int y]) ∧ PoolOk x y
  | some q => LamX.TabS H a q
theorem KpOk.at {c : Cn} {H : Hp} {a : Addr} (h : KpOk c H a) : ∃ u, H a = some u := by
  unfold KpOk at h
  split at h
  · obtain ⟨x, y, h, _⟩ := h
    exact ⟨_, h⟩
  · obtain ⟨ps, h, _⟩ := h
    exact ⟨_, h⟩
theorem KpOk.at' {c : Cn} {H : Hp} {a : Addr} (h : KpOk c H a) : ∃ u, H a = some u ∧ ∀ xs, u ≠ .tup xs := by
  unfold KpOk at h
  split at h
  · obtain ⟨x, y, h, _⟩ := h
    exact ⟨_, h, fun _ z => nomatch z⟩
  · obtain ⟨ps, h, _⟩ := h
    exact ⟨_, h, fun _ z => nomatch z⟩
theorem KpOk.keep {c : Cn} {H H' : Hp} {a : Addr} (h : KpOk c H a) (hk : ∀ u, H a = some u → H' a = some u) (hx : ∀ a φ, H a = some (.ext φ) → H' a = some (.ext φ)) : KpOk c H' a := by
  unfold KpOk at h ⊢
  split at h
  · obtain ⟨x, y, h, p⟩ := h
    exact ⟨x, y, hk _ h, p⟩
  · exact TabS.keep h hk hx
theorem KpOk.pool {c : Cn} {H : Hp} {a : Addr} (h : KpOk c H a) (n : c.tb a = none) : ∃ x y, H a = some (.lst [.int x, .int y]) ∧ PoolOk x y := by
  unfold KpOk at h
  rw [n] at h
  exact h
theorem KpOk.ofPool {c : Cn} {H : Hp} {a : Addr} (h : ∃ x y, H a = some (.lst [.int x, .int y]) ∧ PoolOk x y) (n : c.tb a = none) : KpOk c H a := by
  unfold KpOk
  rw [n]
  exact h
theorem KpOk.ofTab {c : Cn} {H : Hp} {a : Addr} {q : Str} (h : LamX.TabS H a q) (n : c.tb a = some q) : KpOk c H a := by
  unfold KpOk
  rw [n]
  exact h
structure EnvOk (c : Cn) (Φ : Sts) (σ : St) (G H : Hp) : Prop where
  L : EnvL Φ σ G H
  g : Same c.G0 G
  b : ∀ a o, ¬ c.ex a → c.H0 a = some o → H a = some o
  f : ∀ a, c.G0 a = none → G a ≠ none → Fz c.H0 a
  m : ∀ (i : Nat) (φs : Ct) (q : Addr), Φ[i]? = some (.own φs) → σ[i]? = some (some (.ref q)) → c.H0 q = none ∧ ¬ c.ex q
  k : ∀ a, c.ex a → G a = none ∧ KpOk c H a
  r : ∀ (i : Nat) (q : Addr), Φ[i]? = some .pool → σ[i]? = some (some (.ref q)) → (c.ex q ∧ c.tb q = none) ∨ (c.H0 q = none ∧ ¬ c.ex q)
  t : ∀ (i : Nat) (P : Addr) (n : Str), Φ[i]? = some (.tab P n) → c.ex P ∧ c.tb P = some n
section
variable {c : Cn} {Φ Ψ : Sts} {σ σ' : St} {G H G' H' : Hp}
theorem EnvOk.mutF (e : EnvOk c Φ σ G H) {q : Addr} (h : Muts Φ σ q) : c.ex q ∨ c.H0 q = none := by
  obtain ⟨i, ⟨s, h1, h2⟩, h3⟩ := h
  cases s with
  | un => cases h2
  | val φ => cases h2
  | own φs => exact .inr (e.m i φs q h1 h3).1
  | pool => exact (e.r i q h1 h3).elim (fun h => .inl h.1) fun h => .inr h.1
  | tab P n =>
    obtain ⟨o, h4, e1, _⟩ := e.L.sl i _ h1
    rw [h3] at h4
    cases h4
    cases e1
    exact .inl (e.t i _ n h1).1
theorem EnvOk.step (e : EnvOk c Φ σ G H) (s : Step Φ σ G H G' H') : EnvOk c Φ σ G' H' := by
  refine ⟨s.e, e.g.trans s.g, fun a o n h => ?_, fun a h h' => ?_, e.m, fun a ha => ?_, e.r, e.t⟩
  · have h1 := e.b a o n h
    refine s.b a o (fun z => ?_) h1
    rcases e.mutF z with z | z
    · exact n z
    · rw [z] at h
      cases h
  · by_cases z : G a = none
    · have h1 := s.f a z h'
      refine h1.back1 fun o h2 => ?_
      by_cases x : c.ex a
      · obtain ⟨_, x⟩ := e.k a x
        obtain ⟨u, x3, nt⟩ := x.at'
        exact (h1.no x3 nt).elim
      · exact e.b a o x h2
    · exact e.f a h z
  · obtain ⟨k1, kk⟩ := e.k a ha
    obtain ⟨u0, k2, nt⟩ := kk.at'
    by_cases z : Muts Φ σ a
    · obtain ⟨i, ⟨sl, h1, h2⟩, h3⟩ := z
      cases sl with
      | un => cases h2
      | val φ => cases h2
      | own φs => exact absurd ha (e.m i φs a h1 h3).2
      | pool =>
        obtain ⟨o, h4, q, x', y', e1, e2, e3, e4⟩ := s.e.sl i _ h1
        rw [h3] at h4
        cases h4
        cases e1
        refine ⟨e4, .ofPool ⟨x', y', e2, e3⟩ ?_⟩
        rcases e.r i _ h1 h3 with h | h
        · exact h.2
        · exact absurd ha h.2
      | tab P n =>
        obtain ⟨o, h4, e1, e2, e3⟩ := s.e.sl i _ h1
        rw [h3] at h4
        cases h4
        cases e1
        exact ⟨e3, .ofTab e2 (e.t i _ n h1).2⟩
    · refine ⟨?_, kk.keep (fun u h => s.b a u z h) fun b φ h => s.b b _ (e.L.notX h) h⟩
      cases w : G' a with
      | none => rfl
      | some u =>
        exact ((s.f a k1 (by rw [w]; exact fun t => nomatch t)).no k2 nt).elim
/-- a slot is set to a value -/
theorem set_at {α : Type} {l : List α} {i j : Nat} {a b : α} (h : (l.set i a)[j]? = some b) : (i = j ∧ b = a ∧ i < l.length) ∨ (i ≠ j ∧ l[j]? = some b) := by
  rw [List.getElem?_set] at h
  split at h
  · rename_i e
    split at h
    · exact .inl ⟨e, (Option.some.inj h).symm, by assumption⟩
    · cases h
  · exact .inr ⟨by assumption, h⟩
theorem mut_set {i j : Nat} {s : Slot} {o : Option V} {q : Addr} (hs : s.mu = false) (h : MutAt (Φ.set i s) (σ.set i o) j q) : MutAt Φ σ j q := by
  obtain ⟨⟨s', h1, h2⟩, h3⟩ := h
  rcases set_at h1 with ⟨rfl, rfl, _⟩ | ⟨n, h1⟩
  · rw [hs] at h2
    cases h2
  · rcases set_at h3 with ⟨rfl, _⟩ | ⟨_, h3⟩
    · exact absurd rfl n
    · exact ⟨⟨s', h1, h2⟩, h3⟩
theorem EnvL.set {i : Nat} {s : Slot} {o : Option V} (e : EnvL Φ σ G H) (hs : s.mu = false) (h : SlotOk G H s o) : EnvL (Φ.set i s) (σ.set i o) G H := by
  refine ⟨e.s, by rw [List.length_set, List.length_set]; exact e.l, fun j s' hj => ?_, fun x y q h1 h2 => e.nd x y q (mut_set hs h1) (mut_set hs h2)⟩
  rcases set_at hj with ⟨rfl, rfl, hl⟩ | ⟨n, hj⟩
  · exact ⟨o, by rw [List.getElem?_set]; simp [e.l, hl], h⟩
  · obtain ⟨o', h1, h2⟩ := e.sl j s' hj
    exact ⟨o', by rw [List.getElem?_set]; simp [n, h1], h2⟩
theorem EnvOk.set {i : Nat} {s : Slot} {o : Option V} (e : EnvOk c Φ σ G H) (hs : s.mu = false) (h : SlotOk G H s o) : EnvOk c (Φ.set i s) (σ.set i o) G H := by
  refine ⟨e.L.set hs h, e.g, e.b, e.f, fun j φs q h1 h2 => ?_, e.k, fun j q h1 h2 => ?_, fun j P n h1 => ?_⟩
  · rcases set_at h1 with ⟨rfl, z, _⟩ | ⟨n, h1⟩
    · rw [← z] at hs
      cases hs
    · rcases set_at h2 with ⟨rfl, _⟩ | ⟨_, h2⟩
      · exact absurd rfl n
      · exact e.m j φs q h1 h2
  · rcases set_at h1 with ⟨rfl, z, _⟩ | ⟨n, h1⟩
    · rw [← z] at hs
      cases hs
    · rcases set_at h2 with ⟨rfl, _⟩ | ⟨_, h2⟩
      · exact absurd rfl n
      · exact e.r j q h1 h2
  · rcases set_at h1 with ⟨rfl, z, _⟩ | ⟨n, h1⟩
    · rw [← z] at hs
      cases hs
    · exact e.t j P _ h1
inductive LeE : Sts → Sts → Prop
  | nil : LeE [] []
  | eq {s Φ Ψ} : LeE Φ Ψ → LeE (s :: Φ) (s :: Ψ)
  | un {s Φ Ψ} : LeE Φ Ψ → LeE (s :: Φ) (.un :: Ψ)
theorem LeE.at : ∀ {Φ Ψ : Sts}, LeE Φ Ψ → ∀ (i : Nat) (s : Slot), Ψ[i]? = some s → (s = .un ∧ i < Φ.length) ∨ Φ[i]? = some s
  | _, _, .nil, i, s, h => by simp at h
  | _, _, .eq l, 0, s, h => .inr h
  | _, _, .eq l, i + 1, s, h => by
    rcases l.at i s (by simpa using h) with ⟨a, b⟩ | a
    · exact .inl ⟨a, by simp; omega⟩
    · exact .inr (by simpa using a)
  | _, _, .un l, 0, s, h => by
    simp at h
    exact .inl ⟨h.symm, by simp⟩
  | _, _, .un l, i + 1, s, h => by
    rcases l.at i s (by simpa using h) with ⟨a, b⟩ | a
    · exact .inl ⟨a, by simp; omega⟩
    · exact .inr (by simpa using a)
theorem LeE.len : ∀ {Φ Ψ : Sts}, LeE Φ Ψ → Φ.length = Ψ.length
  | _, _, .nil => rfl
  | _, _, .eq l => by simp [l.len]
  | _, _, .un l => by simp [l.len]
theorem EnvOk.less (e : EnvOk c Φ σ G H) (l : LeE Φ Ψ) : EnvOk c Ψ σ G H := by
  have mm : ∀ j q, MutAt Ψ σ j q → MutAt Φ σ j q := fun j q ⟨⟨s, h1, h2⟩, h3⟩ => by
    rcases l.at j s h1 with ⟨rfl, _⟩ | h
    · cases h2
    · exact ⟨⟨s, h, h2⟩, h3⟩
  refine ⟨⟨e.L.s, by rw [← l.len]; exact e.L.l, fun j s' h => ?_, fun x y q h1 h2 => e.L.nd x y q (mm x q h1) (mm y q h2)⟩, e.g, e.b, e.f, fun j φs q h1 h2 => ?_, e.k, fun j q h1 h2 => ?_, fun j P n h1 => (l.at j _ h1).elim (fun h => by cases h.1) fun h => e.t j P n h⟩
  · rcases l.at j s' h with ⟨rfl, hj⟩ | h
    · have : j < σ.length := by rw [e.L.l]; exact hj
      exact ⟨σ[j], by simp [this], trivial⟩
    · exact e.L.sl j s' h
  · rcases l.at j _ h1 with ⟨h, _⟩ | h
    · cases h
    · exact e.m j φs q h h2
  · rcases l.at j _ h1 with ⟨h, _⟩ | h
    · cases h
    · exact e.r j q h h2
/-! ### what follows holds wherever the mirror does -/
def Nx (c : Cn) (N : St → Hp → Prop) (Φ : Sts) (M : Prop) : Prop := ∀ σ G H, EnvOk c Φ σ G H → M → N σ H
variable {N : St → Hp → Prop} {D : Ends} {M M1 M2 : Prop} {t u tu tw : TS} {te : TE} {tt : TT} {ta : TA} {α β τ : Type} {m : Wp α} {e : α → Ty}
def NxS (c : Cn) (t : TS) (D : Ends) (Φ : Sts) (M : Prop) : Prop := Nx c (t D) Φ M
def NxC (c : Cn) (D : Ends) (Φ : Sts) (M : Prop) : Prop := Nx c D.nx Φ M
theorem nx_seq (h : NxS c t { D with nx := u D } Φ M) : NxS c (tSeq t u) D Φ M := h
theorem nx_go (h : NxS c u D Φ M) : NxC c { D with nx := u D } Φ M := h
theorem nx_next (h : NxC c D Φ M) : NxS c tNext D Φ M := h
theorem nx_end (h : Nx c D.nx Φ M) : NxC c D Φ M := h
theorem nx_less (l : LeE Φ Ψ) (h : Nx c N Ψ M) : Nx c N Φ M := fun σ G H ev mp => h σ G H (ev.less l) mp
theorem nx_asg {i : Nat} {P : α → Prop} (h : MD Φ te m e) (k : ∀ a, NxC c D (Φ.set i (.val (e a))) (P a)) : NxS c (tAsg te (gName i)) D Φ (wRun m P) := fun σ G H ev mp =>
  h σ G H ev.L _ _ mp fun a v G' H' pa s hv => k a _ G' H' ((ev.step s).set (s := .val (e a)) (o := some v) rfl ⟨v, rfl, hv⟩) pa
theorem nx_if {m : Wp Bool} (h : MT Φ tt m) (h1 : NxS c tu D Φ M1) (h2 : NxS c tw D Φ M2) : NxS c (tIfS tt tu tw) D Φ (wRun m fun b => if b = true then M1 else M2) := fun σ G H ev mp =>
  h σ G H ev.L _ _ mp fun b G' H' pb s => by
    cases b with
    | true =>
      rw [if_pos rfl] at pb ⊢
      exact h1 σ G' H' (ev.step s) pb
    | false =>
      rw [if_neg (by decide)] at pb ⊢
      exact h2 σ G' H' (ev.step s) pb
def Fin (c : Cn) (G H : Hp) : Prop := EnvOk c [] [] G H
theorem EnvOk.fin (e : EnvOk c Φ σ G H) : Fin c G H :=
  ⟨⟨e.L.s, rfl, fun i s h => by simp at h, fun i j q h => by obtain ⟨⟨s, h, _⟩, _⟩ := h; simp at h⟩, e.g, e.b, e.f, fun i φs q h => by simp at h, e.k, fun i q h => by simp at h, fun i P n h => by simp at h⟩
/-- what is handed back is what is wished for -/
def RtOk (c : Cn) (rt : VK) {ρ : Type} (R : ρ → Prop) (e : ρ → Ty) : Prop := ∀ a v G' H', R a → Fin c G' H' → (e a).p G' v → rt v H'
def CLe (c' c : Cn) : Prop := ∀ Φ σ G H, EnvOk c' Φ σ G H → EnvOk c Φ σ G H
theorem RtOk.le {c' : Cn} {rt : VK} {ρ : Type} {R : ρ → Prop} {e : ρ → Ty} (h : RtOk c rt R e) (l : CLe c' c) : RtOk c' rt R e := fun a v G' H' r f hv => h a v G' H' r (l _ _ _ _ f) hv
theorem Nx.le {c' : Cn} (h : Nx c N Φ M) (l : CLe c' c) : Nx c' N Φ M := fun σ G H ev mp => h σ G H (l _ _ _ _ ev) mp
theorem NxC.le {c' : Cn} (h : NxC c D Φ M) (l : CLe c' c) : NxC c' D Φ M := fun σ G H ev mp => h σ G H (l _ _ _ _ ev) mp
theorem nx_ret {R : α → Prop} (h : MD Φ te m e) (k : RtOk c D.rt R e) : NxS c (tRet te) D Φ (wRun m R) := fun σ G H ev mp =>
  h σ G H ev.L _ _ mp fun a v G' H' pa s hv => k a v G' H' pa (ev.step s).fin hv
/-! ### targets -/
structure Tgt (Φ : Sts) (σ : St) (Ψ : Sts) (σ' : St) (js : List Nat) (G : Hp) : Prop where
  l : Ψ.length = Φ.length
  l' : σ'.length = σ.length
  o : ∀ (i : Nat), i ∉ js → σ'[i]? = σ[i]? ∧ Ψ[i]? = Φ[i]?
  n : ∀ (i : Nat), i ∈ js → ∃ φ v, Ψ[i]? = some (.val φ) ∧ σ'[i]? = some (some v) ∧ φ.p G v
theorem Tgt.mut {js : List Nat} (t : Tgt Φ σ Ψ σ' js G) {i : Nat} {s : Slot} (h : Ψ[i]? = some s) (m : s.mu = true) : Φ[i]? = some s ∧ σ'[i]? = σ[i]? := by
  by_cases z : i ∈ js
  · obtain ⟨φ, v, h1, _⟩ := t.n i z
    rw [h1] at h
    cases h
    cases m
  · obtain ⟨h1, h2⟩ := t.o i z
    exact ⟨h2 ▸ h, h1⟩
theorem Tgt.envL {js : List Nat} (t : Tgt Φ σ Ψ σ' js G) (e : EnvL Φ σ G H) : EnvL Ψ σ' G H := by
  have mm : ∀ j q, MutAt Ψ σ' j q → MutAt Φ σ j q := fun j q ⟨⟨s, h1, h2⟩, h3⟩ => by
    obtain ⟨a, b⟩ := t.mut h1 h2
    exact ⟨⟨s, a, h2⟩, b ▸ h3⟩
  refine ⟨e.s, by rw [t.l, t.l']; exact e.l, fun i s h => ?_, fun x y q h1 h2 => e.nd x y q (mm x q h1) (mm y q h2)⟩
  by_cases z : i ∈ js
  · obtain ⟨φ, v, h1, h2, h3⟩ := t.n i z
    rw [h1] at h
    cases h
    exact ⟨_, h2, v, rfl, h3⟩
  · obtain ⟨h1, h2⟩ := t.o i z
    obtain ⟨o, h3, h4⟩ := e.sl i s (h2 ▸ h)
    exact ⟨o, h1 ▸ h3, h4⟩
theorem Tgt.envOk {js : List Nat} (t : Tgt Φ σ Ψ σ' js G) (e : EnvOk c Φ σ G H) : EnvOk c Ψ σ' G H :=
  ⟨t.envL e.L, e.g, e.b, e.f, fun i φs q h1 h2 => by
    obtain ⟨a, b⟩ := t.mut h1 rfl
    exact e.m i φs q a (b ▸ h2), e.k, fun i q h1 h2 => by
    obtain ⟨a, b⟩ := t.mut h1 rfl
    exact e.r i q a (b ▸ h2), fun i P n h1 => e.t i P n (t.mut h1 rfl).1⟩
theorem Tgt.mutS {js : List Nat} (t : Tgt Φ σ Ψ σ' js G) {q : Addr} (h : Muts Ψ σ' q) : Muts Φ σ q := by
  obtain ⟨i, ⟨s, h1, h2⟩, h3⟩ := h
  obtain ⟨a, b⟩ := t.mut h1 h2
  exact ⟨i, ⟨s, a, h2⟩, b ▸ h3⟩
theorem wipe_at (σ : St) : ∀ (vs : List Nat) (i : Nat), (wipe σ vs)[i]? = if i ∈ vs ∧ i < σ.length then some none else σ[i]?
  | [], i => by simp [wipe]
  | v :: vs, i => by
    unfold wipe
    rw [List.getElem?_set, wipe_length, wipe_at σ vs i]
    by_cases e : v = i
    · subst e
      by_cases h : v < σ.length
      · simp [h]
      · simp [h]
    · have e' : ¬ i = v := fun z => e z.symm
      simp [e, e']
theorem Tgt.wipe {js vs : List Nat} (t : Tgt Φ σ Ψ σ' js G) (h : ∀ j ∈ js, j ∈ vs) : wipe σ' vs = wipe σ vs := by
  refine List.ext_getElem? fun i => ?_
  rw [wipe_at, wipe_at, t.l']
  by_cases z : i ∈ js
  · have := h i z
    by_cases w : i < σ.length
    · simp [this, w]
    · have w' : ¬ i < σ'.length := by rw [t.l']; exact w
      rw [List.getElem?_eq_none (by omega), List.getElem?_eq_none (by omega)]
  · rw [(t.o i z).1]
def GM (g : TG) (Φ : Sts) (φ : Ty) (Ψ : Sts) (js : List Nat) : Prop := ∀ σ G H v, EnvL Φ σ G H → φ.p G v → ∀ Q : St → Hp → Prop, (∀ σ', Tgt Φ σ Ψ σ' js G → Q σ' H) → g v σ H Q
theorem Tgt.refl (e : EnvL Φ σ G H) : Tgt Φ σ Φ σ [] G := ⟨rfl, rfl, fun _ _ => ⟨rfl, rfl⟩, fun _ h => nomatch h⟩
theorem Tgt.trans {Χ : Sts} {σ2 : St} {js ks : List Nat} (a : Tgt Φ σ Ψ σ' js G) (b : Tgt Ψ σ' Χ σ2 ks G) : Tgt Φ σ Χ σ2 (js ++ ks) G := by
  refine ⟨b.l.trans a.l, b.l'.trans a.l', fun i h => ?_, fun i h => ?_⟩
  · rw [List.mem_append] at h
    obtain ⟨a1, a2⟩ := a.o i fun z => h (.inl z)
    obtain ⟨b1, b2⟩ := b.o i fun z => h (.inr z)
    exact ⟨b1.trans a1, b2.trans a2⟩
  · by_cases z : i ∈ ks
    · exact b.n i z
    · obtain ⟨b1, b2⟩ := b.o i z
      rcases List.mem_append.mp h with h | h
      · obtain ⟨φ, v, h1, h2, h3⟩ := a.n i h
        exact ⟨φ, v, b2 ▸ h1, b1 ▸ h2, h3⟩
      · exact absurd h z
theorem gm_name {i : Nat} {φ : Ty} (hi : Φ[i]?.isSome = true) : GM (gName i) Φ φ (Φ.set i (.val φ)) [i] := fun σ G H v ev hv Q q => by
  have hl : i < Φ.length := by
    rcases Nat.lt_or_ge i Φ.length with h | h
    · exact h
    · rw [List.getElem?_eq_none h] at hi
      cases hi
  refine q _ ⟨by simp, by simp, fun j h => ?_, fun j h => ?_⟩
  · have : ¬ i = j := fun z => h (by simp [z])
    rw [List.getElem?_set, List.getElem?_set]
    simp [this]
  · have : j = i := by simpa using h
    subst this
    exact ⟨φ, v, by rw [List.getElem?_set]; simp [hl], by rw [List.getElem?_set]; simp [ev.l, hl], hv⟩
/-! ### owned lists -/
theorem EnvOk.new {i : Nat} {q : Addr} {φs : Ct} {u : HO} (e : EnvOk c Φ σ G H) (hq : H q = none) (hv : φs.p G u) : EnvOk c (Φ.set i (.own φs)) (σ.set i (some (.ref q))) G (upd H q u) := by
  have ne : ∀ {a o}, H a = some o → a ≠ q := fun h => ne_of_none h hq
  have gq : G q = none := e.L.s.free hq
  have nex : ¬ c.ex q := fun z => by
    obtain ⟨u, h⟩ := (e.k q z).2.at
    rw [hq] at h
    cases h
  have h0 : c.H0 q = none := by
    cases z : c.H0 q with
    | none => rfl
    | some o =>
      have := e.b q o nex z
      rw [hq] at this
      cases this
  have mm : ∀ (j : Nat) (p : Addr), MutAt (Φ.set i (.own φs)) (σ.set i (some (.ref q))) j p → (j = i ∧ p = q) ∨ (j ≠ i ∧ MutAt Φ σ j p) := by
    rintro j p ⟨⟨s, h1, h2⟩, h3⟩
    rcases set_at h1 with ⟨rfl, rfl, _⟩ | ⟨n, h1⟩
    · rcases set_at h3 with ⟨_, z, _⟩ | ⟨n, _⟩
      · cases z
        exact .inl ⟨rfl, rfl⟩
      · exact absurd rfl n
    · rcases set_at h3 with ⟨z, _⟩ | ⟨_, h3⟩
      · exact absurd z n
      · exact .inr ⟨fun z => n z.symm, ⟨s, h1, h2⟩, h3⟩
  have mq : ∀ {p}, Muts Φ σ p → p ≠ q := fun h z => by
    obtain ⟨⟨vs, h1, _⟩, _⟩ := e.L.mut h
    subst z
    rw [hq] at h1
    cases h1
  refine ⟨⟨fun a o h => ?_, by simp [e.L.l], fun j s h => ?_, fun x y p h1 h2 => ?_⟩, e.g, fun a o n h => ?_, e.f, fun j ψs p h1 h2 => ?_, fun a ha => ?_, fun j p h1 h2 => ?_, fun j P n h1 => ?_⟩
  · have h1 := e.L.s a o h
    rw [upd_ne (ne h1)]
    exact h1
  · rcases set_at h with ⟨rfl, rfl, hl⟩ | ⟨n, h⟩
    · exact ⟨_, by rw [List.getElem?_set]; simp [e.L.l, hl], q, u, rfl, upd_same, hv, gq⟩
    · obtain ⟨o, h1, h2⟩ := e.L.sl j s h
      refine ⟨o, by rw [List.getElem?_set]; simp [n, h1], h2.keep (same_refl _) (fun p ws _ _ hp => by rw [upd_ne (ne hp)]; exact hp) (fun p m ho => ?_) fun a φ hp => by rw [upd_ne (ne hp)]; exact hp⟩
      subst ho
      exact (h2.mutH m).2
  · rcases mm x p h1 with ⟨rfl, rfl⟩ | ⟨nx, h1⟩
    · rcases mm y p h2 with ⟨rfl, _⟩ | ⟨ny, h2⟩
      · rfl
      · exact absurd rfl (mq ⟨y, h2⟩)
    · rcases mm y p h2 with ⟨z1, z2⟩ | ⟨ny, h2⟩
      · exact absurd z2 (mq ⟨x, by assumption⟩)
      · exact e.L.nd x y p (by assumption) h2
  · have := e.b a o n h
    rw [upd_ne (ne this)]
    exact this
  · rcases set_at h1 with ⟨rfl, z, _⟩ | ⟨n, h1⟩
    · rcases set_at h2 with ⟨_, w, _⟩ | ⟨n, _⟩
      · cases w
        exact ⟨h0, nex⟩
      · exact absurd rfl n
    · rcases set_at h2 with ⟨w, _⟩ | ⟨_, h2⟩
      · exact absurd w n
      · exact e.m j ψs p h1 h2
  · obtain ⟨h1, h2⟩ := e.k a ha
    exact ⟨h1, h2.keep (fun u hp => by rw [upd_ne (ne hp)]; exact hp) fun a φ hp => by rw [upd_ne (ne hp)]; exact hp⟩
  · rcases set_at h1 with ⟨rfl, z, _⟩ | ⟨n, h1⟩
    · cases z
    · rcases set_at h2 with ⟨w, _⟩ | ⟨_, h2⟩
      · exact absurd w n
      · exact e.r j p h1 h2
  · rcases set_at h1 with ⟨rfl, z, _⟩ | ⟨n, h1⟩
    · cases z
    · exact e.t j P _ h1
/-- the list at slot i has changed -/
theorem EnvOk.put {i : Nat} {q : Addr} {φs ψs : Ct} {u : HO} (e : EnvOk c Φ σ G H) (hi : Φ[i]? = some (.own φs)) (hs : σ[i]? = some (some (.ref q))) (hv : ψs.p G u) : EnvOk c (Φ.set i (.own ψs)) σ G (upd H q u) := by
  have il : i < Φ.length := (List.getElem?_eq_some_iff.mp hi).1
  have mi : MutAt Φ σ i q := ⟨⟨_, hi, rfl⟩, hs⟩
  have gq := (e.L.mut ⟨i, mi⟩).2
  have mm : ∀ (j : Nat) (p : Addr), MutAt (Φ.set i (.own ψs)) σ j p → MutAt Φ σ j p := by
    rintro j p ⟨⟨s, h1, h2⟩, h3⟩
    rcases set_at h1 with ⟨rfl, rfl, _⟩ | ⟨n, h1⟩
    · exact ⟨⟨_, hi, rfl⟩, h3⟩
    · exact ⟨⟨s, h1, h2⟩, h3⟩
  have hz := (e.m i φs q hi hs)
  have nx : ∀ a φ, H a = some (.ext φ) → upd H q u a = some (.ext φ) := fun a φ h => by
    have : a ≠ q := fun z => e.L.notX h ⟨i, z ▸ mi⟩
    rw [upd_ne this]
    exact h
  refine ⟨⟨fun a o h => ?_, by simp [e.L.l], fun j s h => ?_, fun x y p h1 h2 => e.L.nd x y p (mm x p h1) (mm y p h2)⟩, e.g, fun a o n h => ?_, e.f, fun j χs p h1 h2 => ?_, fun a ha => ?_, fun j p h1 h2 => ?_, fun j P n h1 => ?_⟩
  · have : a ≠ q := fun z => by
      subst z
      rw [gq] at h
      cases h
    rw [upd_ne this]
    exact e.L.s a o h
  · rcases set_at h with ⟨rfl, rfl, hl⟩ | ⟨n, h⟩
    · exact ⟨_, hs, q, u, rfl, upd_same, hv, gq⟩
    · obtain ⟨o, h1, h2⟩ := e.L.sl j s h
      refine ⟨o, h1, h2.keep (same_refl _) (fun p us m ho hp => ?_) (fun p m ho => ?_) nx⟩
      · have : p ≠ q := fun z => by
          subst z
          subst ho
          exact n (e.L.nd i j p mi ⟨⟨s, h, m⟩, h1⟩)
        rw [upd_ne this]
        exact hp
      · subst ho
        exact (h2.mutH m).2
  · have : a ≠ q := fun z => by
      subst z
      rw [hz.1] at h
      cases h
    rw [upd_ne this]
    exact e.b a o n h
  · rcases set_at h1 with ⟨rfl, z, _⟩ | ⟨n, h1⟩
    · rw [hs] at h2
      cases h2
      exact hz
    · exact e.m j χs p h1 h2
  · obtain ⟨h1, h2⟩ := e.k a ha
    have : a ≠ q := fun z => by
      subst z
      exact hz.2 ha
    exact ⟨h1, h2.keep (fun u h => by rw [upd_ne this]; exact h) nx⟩
  · rcases set_at h1 with ⟨rfl, z, _⟩ | ⟨n, h1⟩
    · cases z
    · exact e.r j p h1 h2
  · rcases set_at h1 with ⟨rfl, z, _⟩ | ⟨n, h1⟩
    · cases z
    · exact e.t j P _ h1
/-- x.append(e) -/
theorem nx_app {K : Fg} {i : Nat} {l : List α} {M : α → Prop} (hi : Φ[i]? = some (.own (cL (l.map e)))) (h : MD Φ te m e) (k : ∀ a, NxC c D (Φ.set i (.own (cL ((l ++ [a]).map e)))) (M a)) :
    NxS c (tDrop (tBM K "list" rAppend (tVar i) (tCons te tNil))) D Φ (wRun m fun a => l.length < 100000 ∧ M a) := fun σ G H ev mp => by
  obtain ⟨o, h1, q, u, rfl, h2, ⟨vs, rfl, h3, h5⟩, h4⟩ := ev.L.sl i _ hi
  refine ⟨.ref q, h1, .inl ⟨rfl, _, SqL.of h2⟩, h σ G H ev.L _ _ mp fun a v G' H' pa s hv => ?_⟩
  obtain ⟨o, h1', q', u', e1, h2', ⟨vs', rfl, h3', h5'⟩, h4'⟩ := s.e.sl i _ hi
  rw [h1] at h1'
  cases h1'
  cases e1
  refine ⟨q, vs', _, rfl, rfl, h2', sz_lt (by rw [h3'.length, List.length_map]; exact pa.1), k a σ G' _ ((ev.step s).put hi h1 ⟨_, rfl, ?_, ?_⟩) pa.2⟩
  · rw [List.map_append]
    exact h3'.append (.cons hv .nil)
  · rw [List.length_map, List.length_append]
    exact pa.1
end
end BR
/-! Own layer: loops, comprehensions, owned lists read, beside their plain mirrors. -/
namespace BR
open PySem PySem.Spec PyProof.Rows L2
/-! ### what values are -/
def eL {α : Type} (e : α → Ty) (l : List α) : Ty := ⟨fun G v => (tL (l.map e)).p G v ∧ l.length ≤ 100000, fun _ _ _ s h => ⟨(tL (l.map e)).m _ _ _ s h.1, h.2⟩⟩
def eT {α : Type} (e : α → Ty) (l : List α) : Ty := ⟨fun G v => (tT (l.map e)).p G v ∧ l.length ≤ 100000, fun _ _ _ s h => ⟨(tT (l.map e)).m _ _ _ s h.1, h.2⟩⟩
/-- a list or a tuple -/
def eS {α : Type} (e : α → Ty) (l : List α) : Ty := ⟨fun G v => (tSq (l.map e)).p G v ∧ l.length ≤ 100000, fun _ _ _ s h => ⟨(tSq (l.map e)).m _ _ _ s h.1, h.2⟩⟩
def e2 {α β : Type} (e : α → Ty) (f : β → Ty) (p : α × β) : Ty := tT [e p.1, f p.2]
def e3 {α β γ : Type} (e : α → Ty) (f : β → Ty) (g : γ → Ty) (p : α × β × γ) : Ty := tT [e p.1, f p.2.1, g p.2.2]
def e4 {α β γ δ : Type} (e : α → Ty) (f : β → Ty) (g : γ → Ty) (h : δ → Ty) (p : α × β × γ × δ) : Ty := tT [e p.1, f p.2.1, g p.2.2.1, h p.2.2.2]
def l1 {α : Type} (e : α → Ty) (p : α × Unit) : Ty := tL [e p.1]
def l2 {α β : Type} (e : α → Ty) (f : β → Ty) (p : α × β) : Ty := tL [e p.1, f p.2]
def eO {α : Type} (e : α → Ty) : Option α → Ty
  | some a => e a
  | none => tN
def eU (_ : Unit) : Ty := tN
/-! ### iterators -/
structure ItOk {α : Type} (J : It) (xs : List α) (e : α → Ty) (G1 : Hp) : Prop where
  go : ∀ i H, i < xs.length → Same G1 H → J.go i H
  stop : ∀ H, Same G1 H → J.stop xs.length H
  yld : ∀ i a H x H' G, xs[i]? = some a → Same G1 G → Same G H → J.yld i H x H' → ∃ G', Grow G H G' H' ∧ (e a).p G' x
def MI (Φ : Sts) (wi : TI) {α : Type} (m : Wp (List α)) (e : α → Ty) : Prop :=
  ∀ σ G H, EnvL Φ σ G H → ∀ (P : List α → Prop) (R : It → Hp → Prop), m P → (∀ xs J G' H', P xs → xs.length ≤ 100000 → Step Φ σ G H G' H' → ItOk J xs e G' → R J H') → wi σ H R
section
variable {K : Fg} {c : Cn} {Φ Ψ : Sts} {σ σ' : St} {G H G' H' : Hp} {N : St → Hp → Prop} {D : Ends} {M M1 M2 : Prop} {t u tu tw : TS} {te tl tb : TE} {tt : TT} {ta : TA} {α β γ τ : Type} {m : Wp α} {e : α → Ty} {f : β → Ty}
theorem mi_seq {m : Wp (List α)} (h : MD Φ tl m (eS e)) : MI Φ (iSeq K tl) m e := fun σ G H ev P R mp k =>
  h σ G H ev _ _ mp fun xs v G1 H1 pa s1 hv => by
    obtain ⟨⟨a, vs, rfl, hl, hall⟩, hz⟩ := hv
    have len : vs.length = xs.length := by rw [hall.length, List.length_map]
    have item : ∀ (i : Nat) b x, xs[i]? = some b → vs[i]? = some x → (e b).p G1 x := fun i b x h1 h2 => by
      obtain ⟨χ, hχ, hp⟩ := hall.get' h2
      rw [List.getElem?_map, h1] at hχ
      cases hχ
      exact hp
    rcases hl with hl | hl
    · refine .inl ⟨a, rfl, ⟨vs, .of (s1.e.s _ _ hl)⟩, k xs _ G1 H1 pa hz s1 ⟨fun i H hi sg => ⟨vs, vs[i]'(by omega), .of (sg _ _ hl), by simp⟩, fun H sg => ⟨vs, .of (sg _ _ hl), by omega⟩, ?_⟩⟩
      rintro i b H x H' G hb sg sh ⟨rfl, hx⟩
      exact ⟨G, .refl sh, (e b).m _ _ _ sg (item i b x hb (hx vs (.of (sh _ _ (sg _ _ hl)))))⟩
    · refine .inr ⟨a, rfl, ⟨vs, .of (s1.e.s _ _ hl)⟩, k xs _ G1 H1 pa hz s1 ⟨fun i H hi sg => ⟨vs, vs[i]'(by omega), .of (sg _ _ hl), by simp⟩, fun H sg => ⟨vs, .of (sg _ _ hl), by omega⟩, ?_⟩⟩
      rintro i b H x H' G hb sg sh ⟨rfl, hx⟩
      exact ⟨G, .refl sh, (e b).m _ _ _ sg (item i b x hb (hx vs (.of (sh _ _ (sg _ _ hl)))))⟩
theorem MD.ofL {m : Wp (List α)} (h : MD Φ tl m (eL e)) : MD Φ tl m (eS e) := h.enc fun a G v ⟨⟨p, vs, h1, h2, h3⟩, h4⟩ => ⟨⟨p, vs, h1, .inl h2, h3⟩, h4⟩
def rng (i j : Int) : List Int := (List.range (j - i).toNat).map fun (k : Nat) => i + (k : Int)
theorem rng_at {i j b : Int} {k : Nat} (h : (rng i j)[k]? = some b) : b = i + k := by
  unfold rng at h
  rw [List.getElem?_map] at h
  obtain ⟨x, h1, rfl⟩ := Option.map_eq_some_iff.mp h
  rw [List.getElem?_range] at h1
  · cases h1
    rfl
  · rcases Nat.lt_or_ge k (j - i).toNat with z | z
    · exact z
    · rw [List.getElem?_eq_none (by simpa using z)] at h1
      cases h1
theorem rng_len {i j : Int} : (rng i j).length = (j - i).toNat := by simp [rng]
def InR (n : Int) : Prop := -(2 ^ 62) ≤ n ∧ n ≤ 100000
theorem mi_rng1 {m : Wp Int} (h : MD Φ te m tI) : MI Φ (iRng1 (tCons te tNil)) (wBind m fun n => wG (InR n) (rng 0 n)) tI := fun σ G H ev P R mp k =>
  h σ G H ev _ _ mp fun n v G1 H1 pa s1 hv => by
    cases hv
    have hz : (rng 0 n).length ≤ 100000 := by
      rw [rng_len]
      have := pa.1.2
      omega
    refine ⟨n, rfl, pa.1.1, Int.lt_of_le_of_lt pa.1.2 (by decide), k _ _ G1 H1 pa.2 hz s1 ⟨fun i H hi _ => ?_, fun H _ => ?_, ?_⟩⟩
    · rw [rng_len] at hi
      show i < n.toNat
      simpa using hi
    · show n.toNat ≤ (rng 0 n).length
      rw [rng_len]
      simp
    · rintro i b H x H' G hb sg sh ⟨rfl, rfl⟩
      exact ⟨G, .refl sh, by rw [rng_at hb]; rfl⟩
/-! ### for -/
theorem cle_at {G1 : Hp} (s : Same c.G0 G1) (hf : ∀ a, c.G0 a = none → G1 a ≠ none → Fz c.H0 a) : CLe { c with G0 := G1 } c := fun Φ σ G H ev => ⟨ev.L, s.trans ev.g, ev.b, fun a h h' => by
    by_cases z : G1 a = none
    · exact ev.f a z h'
    · exact hf a h z, ev.m, ev.k, ev.r, ev.t⟩
theorem at_cle {G1 : Hp} (ev : EnvOk c Φ σ G H) (s0 : Same c.G0 G1) (s : Same G1 G) : EnvOk { c with G0 := G1 } Φ σ G H := ⟨ev.L, s, ev.b, fun a h h' => ev.f a (s0.free h) h', ev.m, ev.k, ev.r, ev.t⟩
def wFor {α τ : Type} : List α → τ → (α → τ → (τ → Prop) → (τ → Prop) → Prop) → (τ → Prop) → Prop
  | [], s, _, k => k s
  | x :: xs, s, b, k => b x s (fun s' => wFor xs s' b k) k
theorem nx_for {wi : TI} {g : TG} {tb : TS} {js : List Nat} {m : Wp (List α)} {s0 : τ} {Ψ : τ → Sts} {Χ : α → τ → Sts} {b : α → τ → (τ → Prop) → (τ → Prop) → Prop} {k : τ → Prop} (h : MI Φ wi m e) (hs : LeE Φ (Ψ s0)) (hg : ∀ x s, GM g (Ψ s) (e x) (Χ x s) js)
    (hk : ∀ s, NxC c D (Ψ s) (k s)) (hb : ∀ c', CLe c' c → (∀ s, NxC c' D (Ψ s) (k s)) → ∀ x s n N, (∀ s', Nx c' N (Ψ s') (n s')) → NxS c' tb { D with nx := N, ct := N, bk := D.nx } (Χ x s) (b x s n k)) :
    NxS c (tFor wi g tb) D Φ (wRun m fun xs => wFor xs s0 b k) := fun σ G H ev mp =>
  h σ G H ev.L _ _ mp fun xs J G1 H1 pa _ s1 it => by
    have sG := ev.g.trans s1.g
    have cl := cle_at sG (ev.step s1).f
    refine ⟨fun i m σ' H' => m = xs.length - i ∧ i ≤ xs.length ∧ ∃ s G', Same G1 G' ∧ EnvOk c (Ψ s) σ' G' H' ∧ wFor (xs.drop i) s b k, ⟨_, rfl, Nat.zero_le _, s0, G1, same_refl _, (ev.step s1).less hs, by simpa using pa⟩, ?_⟩
    rintro i m σ' H' ⟨rfl, hi, s, G', sg, ev', w⟩
    rcases Nat.lt_or_ge i xs.length with hlt | hge
    · refine .inr ⟨it.go i H' hlt (sg.trans ev'.L.s), fun σ2 H2 => ∃ s G', Same G1 G' ∧ EnvOk c (Ψ s) σ2 G' H2 ∧ wFor (xs.drop (i + 1)) s b k, fun σ2 H2 ⟨s, G', p1, p2, p3⟩ => ⟨_, by omega, rfl, hlt, s, G', p1, p2, p3⟩, ?_⟩
      intro x H2 hy
      obtain ⟨G2, gr, hx⟩ := it.yld i (xs[i]) H' x H2 G' (by simp [hlt]) sg ev'.L.s hy
      have ev2 := ev'.step (.grow ev'.L gr)
      rw [List.drop_eq_getElem_cons hlt] at w
      refine hg (xs[i]) s σ' G2 H2 x ev2.L hx _ fun σ2 tg => ?_
      exact hb { c with G0 := G1 } cl (fun s => (hk s).le cl) (xs[i]) s (fun s' => wFor (xs.drop (i + 1)) s' b k) _ (fun s' σ3 G3 H3 ev3 w3 => ⟨s', G3, ev3.g, cl _ _ _ _ ev3, w3⟩) σ2 G2 H2 (at_cle (tg.envOk ev2) sG (sg.trans gr.g)) w
    · have e1 : i = xs.length := Nat.le_antisymm hi hge
      subst e1
      refine .inl ⟨it.stop H' (sg.trans ev'.L.s), ?_⟩
      rw [List.drop_length] at w
      exact hk s σ' G' H' ev' w
/-! ### while -/
/-! ### comprehensions -/
def wipeE (Φ : Sts) : List Nat → Sts
  | [] => Φ
  | v :: vs => (wipeE Φ vs).set v .un
theorem wipeE_len (Φ : Sts) : ∀ vs : List Nat, (wipeE Φ vs).length = Φ.length
  | [] => rfl
  | v :: vs => by unfold wipeE; rw [List.length_set, wipeE_len Φ vs]
theorem wipeE_at (Φ : Sts) : ∀ (vs : List Nat) (i : Nat), (wipeE Φ vs)[i]? = if i ∈ vs ∧ i < Φ.length then some .un else Φ[i]?
  | [], i => by simp [wipeE]
  | v :: vs, i => by
    unfold wipeE
    rw [List.getElem?_set, wipeE_len, wipeE_at Φ vs i]
    by_cases e : v = i
    · subst e
      by_cases h : v < Φ.length
      · simp [h]
      · simp [h]
    · have e' : ¬ i = v := fun z => e z.symm
      simp [e, e']
/-- no slot of vs is changed in place -/
def calmE (Φ : Sts) (vs : List Nat) : Bool := vs.all fun v => match Φ[v]? with
  | some s => !s.mu
  | none => true
theorem calm_at {vs : List Nat} (h : calmE Φ vs = true) {i : Nat} {s : Slot} (hs : Φ[i]? = some s) (m : s.mu = true) : i ∉ vs := fun z => by
  have := List.all_eq_true.mp h i z
  rw [hs] at this
  simp [m] at this
theorem EnvL.wipe {vs : List Nat} (ev : EnvL Φ σ G H) : EnvL (wipeE Φ vs) (wipe σ vs) G H := by
  have mm : ∀ (j : Nat) (q : Addr), MutAt (wipeE Φ vs) (L2.wipe σ vs) j q → MutAt Φ σ j q := fun j q ⟨⟨s, h1, h2⟩, h3⟩ => by
    rw [wipeE_at] at h1
    rw [wipe_at, ev.l] at h3
    split at h1
    · cases h1
      cases h2
    · rename_i z
      rw [if_neg z] at h3
      exact ⟨⟨s, h1, h2⟩, h3⟩
  refine ⟨ev.s, by rw [wipe_length, wipeE_len]; exact ev.l, fun i s h => ?_, fun x y q h1 h2 => ev.nd x y q (mm x q h1) (mm y q h2)⟩
  rw [wipeE_at] at h
  rw [wipe_at, ev.l]
  split at h
  · rename_i z
    cases h
    exact ⟨none, by rw [if_pos z], trivial⟩
  · rename_i z
    rw [if_neg z]
    exact ev.sl i s h
/-- behind a step inside: a step outside -/
theorem Step.back {vs js : List Nat} {Χ : Sts} {σ2 : St} {G1 H1 G2 H2 : Hp} (ev : EnvL Φ σ G1 H1) (hw : calmE Φ vs = true) (hj : ∀ j ∈ js, j ∈ vs) {G0 : Hp} (tg : Tgt (wipeE Φ vs) (wipe σ vs) Χ σ2 js G0) (s : Step Χ σ2 G1 H1 G2 H2) : Step Φ σ G1 H1 G2 H2 := by
  have look : ∀ (i : Nat) (sl : Slot), Φ[i]? = some sl → sl.mu = true → Χ[i]? = some sl ∧ σ2[i]? = σ[i]? := fun i sl h m => by
    have nv := calm_at hw h m
    obtain ⟨a, b⟩ := tg.o i fun z => nv (hj i z)
    rw [wipe_at, if_neg fun z => nv z.1] at a
    rw [wipeE_at, if_neg fun z => nv z.1] at b
    exact ⟨b ▸ h, a⟩
  refine ⟨⟨s.e.s, ev.l, fun i sl h => ?_, ev.nd⟩, s.g, fun a o m h => s.b a o (fun z => m ?_) h, s.f⟩
  · obtain ⟨o, h1, h2⟩ := ev.sl i sl h
    cases m : sl.mu with
    | true =>
      obtain ⟨a, b⟩ := look i sl h m
      obtain ⟨o', h3, h4⟩ := s.e.sl i sl a
      exact ⟨o', b ▸ h3, h4⟩
    | false => exact ⟨o, h1, h2.keep0 s.g m⟩
  · obtain ⟨i, ⟨sl, h1, h2⟩, h3⟩ := tg.mutS z
    rw [wipeE_at] at h1
    rw [wipe_at, ev.l] at h3
    split at h1
    · cases h1
      cases h2
    · rename_i w
      rw [if_neg w] at h3
      exact ⟨i, ⟨sl, h1, h2⟩, h3⟩
theorem wipe_wipe (σ : St) (vs : List Nat) : wipe (wipe σ vs) vs = wipe σ vs := by
  refine List.ext_getElem? fun i => ?_
  rw [wipe_at, wipe_at, wipe_length]
  split <;> rfl
def wLcA {α β : Type} : List α → (α → Wp Bool) → (α → Wp β) → List β → Wp (List β)
  | [], _, _, acc => wPure acc
  | x :: xs, c, e, acc => fun P => c x fun b => if b = true then e x fun y => wLcA xs c e (acc ++ [y]) P else wLcA xs c e acc P
def wLc {α β : Type} (xs : List α) (c : α → Wp Bool) (e : α → Wp β) : Wp (List β) := wLcA xs c e []
/-- while the list at D is filled -/
structure LcI (Φ : Sts) (σ : St) (G1 H1 : Hp) (D : Addr) (φs : List Ty) (H : Hp) (G' : Hp) (ws : List V) : Prop where
  s : Step Φ σ G1 H1 G' H
  n : G' D = none
  d : H D = some (.lst ws)
  a : All G' φs ws
theorem notMut {D : Addr} {G1 H1 : Hp} (ev : EnvL Φ σ G1 H1) (hD : H1 D = none) : ¬ Muts Φ σ D := fun z => by
  obtain ⟨⟨vs, h, _⟩, _⟩ := ev.mut z
  rw [hD] at h
  cases h
theorem LcI.step {D : Addr} {φs : List Ty} {G1 H1 H2 G2 : Hp} {ws : List V} (h : LcI Φ σ G1 H1 D φs H G' ws) (nD : ¬ Muts Φ σ D) (s : Step Φ σ G' H G2 H2) : LcI Φ σ G1 H1 D φs H2 G2 ws := by
  refine ⟨h.s.trans s, ?_, s.b _ _ nD h.d, h.a.mono s.g⟩
  cases z : G2 D with
  | none => rfl
  | some o =>
    exact ((s.f D h.n (by rw [z]; exact fun w => nomatch w)).no h.d fun _ z => nomatch z).elim
theorem step_rest {G1 H1 H2 : Hp} (ev : EnvL Φ σ G1 H1) (s : Same H1 H2) : Step Φ σ G1 H1 G1 H2 := .grow ev (.rest ev.s s)
theorem step_upd {G1 H1 : Hp} {D : Addr} {o : HO} (ev : EnvL Φ σ G1 H1) (nD : ¬ Muts Φ σ D) (hg : G1 D = none) (hx : ∀ φ, H1 D ≠ some (.ext φ)) : EnvL Φ σ G1 (upd H1 D o) := by
  refine ⟨same_upd ev.s hg, ev.l, fun i sl h => ?_, ev.nd⟩
  obtain ⟨x, h1, h2⟩ := ev.sl i sl h
  refine ⟨x, h1, h2.keep (same_refl _) (fun q vs m ho hq => ?_) (fun q m ho => ?_) fun a φ h => by
    have na : a ≠ D := fun z => hx φ (by rw [← z]; exact h)
    rw [upd_ne na]
    exact h⟩
  · have : q ≠ D := fun z => by
      subst z
      subst ho
      exact nD ⟨i, ⟨sl, h, m⟩, h1⟩
    rw [upd_ne this]
    exact hq
  · subst ho
    exact (h2.mutH m).2
theorem LcI.put {D : Addr} {φs : List Ty} {ψ : Ty} {G1 H1 : Hp} {ws : List V} {v : V} (h : LcI Φ σ G1 H1 D φs H G' ws) (hD : H1 D = none) (nD : ¬ Muts Φ σ D) (hv : ψ.p G' v) : LcI Φ σ G1 H1 D (φs ++ [ψ]) (upd H D (.lst (ws ++ [v]))) G' (ws ++ [v]) := by
  refine ⟨⟨step_upd h.s.e nD h.n (fun φ z => by rw [h.d] at z; cases z), h.s.g, fun a o m ha => ?_, h.s.f⟩, h.n, upd_same, h.a.append (.cons hv .nil)⟩
  have : a ≠ D := ne_of_none ha hD
  rw [upd_ne this]
  exact h.s.b a o m ha
theorem LcI.fin {D : Addr} {φs : List Ty} {G1 H1 : Hp} {ws : List V} (h : LcI Φ σ G1 H1 D φs H G' ws) (hD : H1 D = none) (nD : ¬ Muts Φ σ D) : ∃ G2, Step Φ σ G1 H1 G2 H ∧ (tL φs).p G2 (.ref D) := by
  have sg : Same G' (upd G' D (.lst ws)) := same_new h.n
  refine ⟨upd G' D (.lst ws), ⟨⟨fun a o e => ?_, h.s.e.l, fun i sl hi => ?_, h.s.e.nd⟩, h.s.g.trans sg, h.s.b, fun a ha hb => ?_⟩, D, ws, rfl, upd_same, h.a.mono sg⟩
  · by_cases z : a = D
    · subst z
      rw [upd_same] at e
      cases e
      exact h.d
    · rw [upd_ne z] at e
      exact h.s.e.s a o e
  · obtain ⟨x, h1, h2⟩ := h.s.e.sl i sl hi
    refine ⟨x, h1, h2.keep sg (fun _ _ _ _ q => q) (fun q m ho => ?_) fun _ _ q => q⟩
    have : q ≠ D := fun z => by
      subst z
      subst ho
      exact nD ⟨i, ⟨sl, hi, m⟩, h1⟩
    rw [upd_ne this]
    subst ho
    exact (h2.mutH m).2
  · by_cases z : a = D
    · subst z
      exact .inl hD
    · rw [upd_ne z] at hb
      exact h.s.f a ha hb
theorem md_lc {wi : TI} {g : TG} {te : TE} {vs js : List Nat} {m : Wp (List α)} {mc : α → Wp Bool} {me : α → Wp β} {Χ : α → Sts} (h : MI Φ wi m e) (hw : calmE Φ vs = true) (hg : ∀ x, GM g (wipeE Φ vs) (e x) (Χ x) js) (hj : ∀ j ∈ js, j ∈ vs)
    (hc : ∀ x, MT (Χ x) tt (mc x)) (he : ∀ x, MD (Χ x) te (me x) f) : MD Φ (tLc wi g tt te vs) (wBind m fun xs => wLc xs mc me) (eL f) := fun σ G H ev P Q mp k =>
  h σ G H ev _ _ mp fun xs J G1 H1 pa hz s1 it => by
    intro D hD
    have nD := notMut s1.e hD
    refine ⟨fun i m H' => m = xs.length - i ∧ i ≤ xs.length ∧ ∃ acc : List β, acc.length ≤ i ∧ (∃ G' ws, LcI Φ σ G1 H1 D (acc.map f) H' G' ws) ∧ wLcA (xs.drop i) mc me acc P, ⟨_, rfl, Nat.zero_le _, [], Nat.le_refl _, ⟨G1, [], step_rest s1.e (same_new hD), s1.e.s.free hD, upd_same, .nil⟩, by rw [List.drop_zero]; exact pa⟩, ?_⟩
    rintro i m H' ⟨rfl, hi, acc, ha, ⟨G', ws, L⟩, w⟩
    rcases Nat.lt_or_ge i xs.length with hlt | hge
    · refine .inr ⟨it.go i H' hlt (L.s.g.trans L.s.e.s), fun H2 => ∃ acc : List β, acc.length ≤ i + 1 ∧ (∃ G' ws, LcI Φ σ G1 H1 D (acc.map f) H2 G' ws) ∧ wLcA (xs.drop (i + 1)) mc me acc P, fun H2 ⟨acc, p1, p2, p3⟩ => ⟨_, by omega, rfl, hlt, acc, p1, p2, p3⟩, ?_⟩
      intro x H2 hy
      obtain ⟨G2, gr, hx⟩ := it.yld i (xs[i]) H' x H2 G' (by simp [hlt]) L.s.g L.s.e.s hy
      have L2 := L.step nD (.grow L.s.e gr)
      rw [List.drop_eq_getElem_cons hlt] at w
      refine hg (xs[i]) _ G2 H2 x L2.s.e.wipe hx _ fun σ2 tg => ⟨?_, ?_⟩
      · rw [tg.wipe hj, wipe_wipe]
      · refine hc (xs[i]) σ2 G2 H2 (tg.envL L2.s.e.wipe) _ _ w fun b G3 H3 pb s3 => ?_
        have L3 := L2.step nD (s3.back L2.s.e hw hj tg)
        cases b with
        | true =>
          rw [if_pos rfl] at pb ⊢
          refine he (xs[i]) σ2 G3 H3 s3.e _ _ pb fun y v G4 H4 py s4 hv => ?_
          have L4 := L3.step nD (s4.back L3.s.e hw hj tg)
          refine ⟨ws, L4.d, sz_lt ?_, acc ++ [y], by simp; omega, ⟨G4, ws ++ [v], ?_⟩, py⟩
          · rw [L4.a.length, List.length_map]
            omega
          · rw [List.map_append]
            exact L4.put hD nD hv
        | false =>
          rw [if_neg (by decide)] at pb ⊢
          exact ⟨acc, by omega, ⟨G3, ws, L3⟩, pb⟩
    · have e1 : i = xs.length := Nat.le_antisymm hi hge
      subst e1
      rw [List.drop_length] at w
      obtain ⟨G2, s2, hv⟩ := L.fin hD nD
      exact .inl ⟨it.stop H' (L.s.g.trans L.s.e.s), k acc _ G2 H' w (s1.trans s2) ⟨hv, by omega⟩⟩
end
end BR
/-! The program's defs with loops: walks. -/
namespace BR
open PySem PySem.Spec PyProof.Rows L2
section
variable {K : Fg}
end
end BR
/-! The program's defs with loops: walks. -/
namespace BR
open PySem PySem.Spec PyProof.Rows L2
section
variable {K : Fg}
/-! pairs of neighbours -/
end
end BR
/-! The program's defs with loops: walks. -/
namespace BR
open PySem PySem.Spec PyProof.Rows L2
section
variable {K : Fg}
end
end BR
namespace BR
open PySem PySem.Spec PyProof.Rows L2
/-! ### the judgements of squares and boxes -/
section
variable {K : Fg}
end
end BR
/-! Regions: what they are, rules for their operators. -/
namespace BR
open PySem PySem.Spec PyProof.Rows L2
abbrev RG (K : Fg) : Addr := He.ga K "Region"
abbrev Reg := List Sl × Bool
def tReg (K : Fg) (r : Reg) : Ty := ⟨fun G v => ∃ a dx fv, v = .ref a ∧ G a = some (.ins (RG K) dx [("form", fv), ("is_outside", .bl r.2)]) ∧ (tForm r.1).p G fv,
  fun _ _ _ s ⟨a, dx, fv, e, h1, h2⟩ => ⟨a, dx, fv, e, s _ _ h1, (tForm r.1).m _ _ _ s h2⟩⟩
/-! mirrors -/
def unite (a b : Reg) : Reg := match a.2, b.2 with
  | true, true => (mixed a.1 b.1 .and, true)
  | true, false => (mixed a.1 b.1 .less, true)
  | false, true => (mixed b.1 a.1 .less, true)
  | false, false => (mixed a.1 b.1 .or, false)
def rout (a : Reg) : Reg := (a.1, !a.2)
def rand (a b : Reg) : Reg := rout (unite (rout a) (rout b))
def rsub (a b : Reg) : Reg := rout (unite (rout a) b)
def rxor (a b : Reg) : Reg := (mixed a.1 b.1 .either, a.2 != b.2)
def rhas (a : Reg) (p : Pr) : Bool := cov (spansAt a.1 p.1) p.2 != a.2
def dSlabs (f : List Sl) : PyData := .list (f.map fun s => .tuple [.int s.1, .int s.2.1, .list (s.2.2.map dP)])
def reprR (a : Reg) : Str := ((if a.2 then ("~" : Str) else "") ++ "Region(") ++ (dSlabs a.1).shown ++ ")"
def bxOk (b : Bx) : Prop := b.1 < b.2.2.1 ∧ b.2.1 < b.2.2.2
/-! promises -/
def spR1 (K : Fg) (pre : Reg → Prop) (g : Reg → Ty) : Sp := spT fun φs φ => ∃ r, pre r ∧ φs = [tReg K r] ∧ φ = g r
def spR2 (K : Fg) (pre : Reg → Reg → Prop) (g : Reg → Reg → Ty) : Sp := spT fun φs φ => ∃ r s, pre r s ∧ φs = [tReg K r, tReg K s] ∧ φ = g r s
def Sm2 (a b : Reg) : Prop := Small a.1 ∧ Small b.1
def sp_slabs (K : Fg) : Sp := spR1 K (fun a => Small a.1) fun a => dt (dSlabs a.1)
def sp_repr (K : Fg) : Sp := spR1 K (fun a => Small a.1 ∧ Shows (dSlabs a.1) 16000000) fun a => tSt (reprR a)
def sp_contains (K : Fg) : Sp := spT fun φs φ => ∃ r p, Small r.1 ∧ φs = [tReg K r, tP p] ∧ φ = tBo (rhas r p)
def sp_eq (K : Fg) : Sp := spT fun φs φ => ∃ r, (∃ s, φs = [tReg K r, tReg K s] ∧ φ = tBo (decide (r = s))) ∨ ∃ ψ n, φs = [tReg K r, ψ] ∧ (∀ G v, ψ.p G v → TyX K G v (.type n)) ∧ Oth K (RG K) n ∧ φ = tBo false
def firstSq (a : Reg) : Option Pr := if a.2 then (if a.1.length > 0 then some ((a.1.getLastD (0, 0, [])).2.1, 0) else some (0, 0)) else match a.1 with
  | [] => none
  | s :: _ => some (s.1, (s.2.2.headD (0, 0)).1)
def tOP : Option Pr → Ty
  | some p => tP p
  | none => tN
def sp_separating (K : Fg) : Sp := spR2 K (fun a b => Sm2 a b ∧ ∀ s ∈ (rxor a b).1, s.2.2 ≠ []) fun a b => tOP (firstSq (rxor a b))
/-! facts of the class -/
structure RegF (K : Fg) : Prop where
  ct : InsT K (RG K)
  n1 : NoAttr K (RG K) "form"
  n2 : NoAttr K (RG K) "is_outside"
section
variable {K : Fg} {σ : St} {G R : Hp} {ta tb te : TE} {a b : Reg} {φ χ : Ty} {E : XK} {pre : List Ty → Ty → Prop}
theorem TyX.mono {G H : Hp} {v : V} {t : Value} (s : Same G H) (h : TyX K G v t) : TyX K H v t := by
  cases h with
  | base b =>
    refine .base ?_
    cases b with
    | non => exact .non
    | bl y => exact .bl y
    | int i => exact .int i
    | str y => exact .str y
    | flt y => exact .flt y
    | lst e => exact .lst (s _ _ e)
    | frz e => exact .frz (s _ _ e)
    | tup e => exact .tup (s _ _ e)
    | dK e => exact .dK (s _ _ e)
    | dT e => exact .dT (s _ _ e)
    | ins e c1 c2 c3 c4 c5 => exact .ins (s _ _ e) c1 c2 c3 c4 c5
  | byt y => exact .byt y
  | set e => exact .set (s _ _ e)
  | kList e c => exact .kList e c
  | kTuple e c => exact .kTuple e c
  | kDict e c => exact .kDict e c
  | fTuple e => exact .fTuple (s _ _ e)
  | fDict e => exact .fDict (s _ _ e)
end
end BR
/-! Regions: the class's methods, walked. -/
namespace BR
open PySem PySem.Spec PyProof.Rows L2
section
variable {K : Fg} {σ : St} {G R H : Hp} {te ta tb : TE} {φ : Ty} {D : Ends} {tz : TS}
end
end BR
/-! Spans and forms: what they cover, and that they are the only ones. -/
namespace BR
open PySem
/-! ### spans -/
theorem cov_iff {sp : List Pr} {n : Int} : cov sp n = true ↔ ∃ s ∈ sp, s.1 ≤ n ∧ n < s.2 := by
  simp only [cov, List.any_eq_true, Bool.and_eq_true, decide_eq_true_eq]
theorem cov_nil (n : Int) : cov [] n = false := rfl
theorem cov_append (a b : List Pr) (n : Int) : cov (a ++ b) n = (cov a n || cov b n) := by simp [cov]
theorem cov_ext {a b : List Pr} {n m : Int} (h : (∃ s ∈ a, s.1 ≤ n ∧ n < s.2) ↔ ∃ s ∈ b, s.1 ≤ m ∧ m < s.2) : cov a n = cov b m := by
  rw [Bool.eq_iff_iff, cov_iff, cov_iff]
  exact h
structure SpOk (sp : List Pr) : Prop where
  w : ∀ p ∈ sp, p.1 < p.2
  s : sp.Pairwise fun p q => p.2 < q.1
theorem SpOk.nil : SpOk [] := ⟨by simp, .nil⟩
theorem mem_srt {ps : List Pr} {p : Pr} : p ∈ srt ps ↔ p ∈ ps := (srt_perm ps).mem_iff
theorem last_split {α : Type} {xs : List α} {x : α} (h : xs.getLast? = some x) : xs = xs.dropLast ++ [x] := by
  rcases List.eq_nil_or_concat xs with rfl | ⟨ys, y, rfl⟩
  · cases h
  · simp only [List.concat_eq_append, List.getLast?_append, List.getLast?_singleton, Option.some_or, Option.some.injEq] at h
    rw [h]
    simp
theorem mstep_ok {f : List Pr} {p : Pr} (hf : SpOk f) (hp : p.1 < p.2) (hb : ∀ q ∈ f, q.1 ≤ p.1) : SpOk (mstep f p) ∧ (∀ n, cov (mstep f p) n = (cov f n || cov [p] n)) ∧ ∀ q ∈ mstep f p, q.1 ≤ p.1 := by
  unfold mstep
  cases hg : f.getLast? with
  | none =>
    have e : f = [] := by simpa using hg
    subst e
    exact ⟨⟨by simpa using hp, by simp⟩, fun n => by simp [cov], by simp⟩
  | some q =>
    have e := last_split hg
    generalize f.dropLast = g at e
    subst e
    obtain ⟨w, s⟩ := hf
    rw [List.pairwise_append] at s
    obtain ⟨s1, _, s2⟩ := s
    have hq := w q (by simp)
    have hqp := hb q (by simp)
    have hgq : ∀ r ∈ g, r.2 < q.1 := fun r hr => s2 r hr q (by simp)
    dsimp only
    split
    · next hle =>
      refine ⟨⟨fun r hr => ?_, ?_⟩, fun n => ?_, fun r hr => ?_⟩
      · rcases List.mem_append.mp hr with h | h
        · exact w r (by simp [h])
        · rw [List.mem_singleton.mp h]
          show q.1 < max p.2 q.2
          omega
      · rw [List.pairwise_append]
        refine ⟨s1, by simp, fun r hr t ht => ?_⟩
        rw [List.mem_singleton.mp ht]
        exact hgq r hr
      · rw [cov_append, cov_append, Bool.or_assoc]
        congr 1
        rw [Bool.eq_iff_iff, Bool.or_eq_true, cov_iff, cov_iff, cov_iff]
        simp only [List.mem_singleton, exists_eq_left]
        constructor
        · intro h
          have h1 := h.1
          have h2 := h.2
          by_cases z : n < q.2
          · exact .inl ⟨h1, z⟩
          · refine .inr ⟨by omega, ?_⟩
            have h3 : n < max p.2 q.2 := h2
            omega
        · rintro (h | h)
          · exact ⟨h.1, by show n < max p.2 q.2; omega⟩
          · exact ⟨by show q.1 ≤ n; omega, by show n < max p.2 q.2; omega⟩
      · rcases List.mem_append.mp hr with h | h
        · exact hb r (by simp [h])
        · rw [List.mem_singleton.mp h]
          exact hqp
    · next hle =>
      refine ⟨⟨fun r hr => ?_, ?_⟩, fun n => cov_append _ _ n, fun r hr => ?_⟩
      · rcases List.mem_append.mp hr with h | h
        · exact w r h
        · rw [List.mem_singleton.mp h]
          exact hp
      · rw [List.pairwise_append]
        refine ⟨by rw [List.pairwise_append]; exact ⟨s1, by simp, s2⟩, by simp, fun r hr t ht => ?_⟩
        rw [List.mem_singleton.mp ht]
        rcases List.mem_append.mp hr with h | h
        · have := hgq r h
          omega
        · rw [List.mem_singleton.mp h]
          omega
      · rcases List.mem_append.mp hr with h | h
        · exact hb r h
        · rw [List.mem_singleton.mp h]
          exact Int.le_refl _
theorem mfold_ok : ∀ (rest f : List Pr), SpOk f → (∀ p ∈ rest, p.1 < p.2) → rest.Pairwise leP → (∀ q ∈ f, ∀ p ∈ rest, q.1 ≤ p.1) → SpOk (rest.foldl mstep f) ∧ ∀ n, cov (rest.foldl mstep f) n = (cov f n || cov rest n)
  | [], f, hf, _, _, _ => ⟨hf, fun n => by simp [cov]⟩
  | p :: rest, f, hf, hw, hs, hb => by
    obtain ⟨h1, h2, h3⟩ := mstep_ok hf (hw p List.mem_cons_self) fun q hq => hb q hq p List.mem_cons_self
    rw [List.pairwise_cons] at hs
    obtain ⟨h4, h5⟩ := mfold_ok rest (mstep f p) h1 (fun q hq => hw q (List.mem_cons_of_mem _ hq)) hs.2 fun q hq r hr => by
      have := h3 q hq
      have z := hs.1 r hr
      unfold leP at z
      omega
    refine ⟨h4, fun n => ?_⟩
    rw [List.foldl_cons, h5 n, h2 n, Bool.or_assoc, ← cov_append]
    rfl
theorem merged_ok {ps : List Pr} (hw : ∀ p ∈ ps, p.1 < p.2) : SpOk (merged ps) ∧ ∀ n, cov (merged ps) n = cov ps n := by
  obtain ⟨h1, h2⟩ := mfold_ok (srt ps) [] .nil (fun p hp => hw p (mem_srt.mp hp)) (srt_sorted ps) (by simp)
  refine ⟨h1, fun n => ?_⟩
  unfold merged
  rw [h2 n, cov_nil, Bool.false_or]
  exact cov_ext ⟨fun ⟨s, hs, h⟩ => ⟨s, mem_srt.mp hs, h⟩, fun ⟨s, hs, h⟩ => ⟨s, mem_srt.mpr hs, h⟩⟩
theorem sp_uniq : ∀ {s t : List Pr}, SpOk s → SpOk t → (∀ n, cov s n = cov t n) → s = t
  | [], [], _, _, _ => rfl
  | [], q :: t, _, ht, h => by
    have z : cov (q :: t) q.1 = true := cov_iff.mpr ⟨q, List.mem_cons_self, Int.le_refl _, ht.w q List.mem_cons_self⟩
    rw [← h q.1] at z
    cases z
  | p :: s, [], hs, _, h => by
    have z : cov (p :: s) p.1 = true := cov_iff.mpr ⟨p, List.mem_cons_self, Int.le_refl _, hs.w p List.mem_cons_self⟩
    rw [h p.1] at z
    cases z
  | p :: s, q :: t, hs, ht, h => by
    have hp := hs.w p List.mem_cons_self
    have hq := ht.w q List.mem_cons_self
    have ps := List.pairwise_cons.mp hs.s
    have pt := List.pairwise_cons.mp ht.s
    have c1 : cov (p :: s) p.1 = true := cov_iff.mpr ⟨p, List.mem_cons_self, Int.le_refl _, hp⟩
    have c2 : cov (q :: t) q.1 = true := cov_iff.mpr ⟨q, List.mem_cons_self, Int.le_refl _, hq⟩
    have low : ∀ {a : Pr} {l : List Pr} {n : Int}, (∀ x ∈ l, a.2 < x.1) → a.1 < a.2 → cov (a :: l) n = true → a.1 ≤ n := by
      intro a l n hl ha hc
      obtain ⟨x, hx, h1, h2⟩ := cov_iff.mp hc
      rcases List.mem_cons.mp hx with rfl | hx
      · exact h1
      · have := hl x hx
        omega
    have gap : ∀ {a : Pr} {l : List Pr}, (∀ x ∈ l, a.2 < x.1) → cov (a :: l) a.2 = false := by
      intro a l hl
      cases e : cov (a :: l) a.2 with
      | false => rfl
      | true =>
        obtain ⟨x, hx, h1, h2⟩ := cov_iff.mp e
        rcases List.mem_cons.mp hx with rfl | hx
        · omega
        · have := hl x hx
          omega
    have e1 : p.1 = q.1 := by
      have l1 := low pt.1 hq (by rw [← h]; exact c1)
      have l2 := low ps.1 hp (by rw [h]; exact c2)
      omega
    have e2 : p.2 = q.2 := by
      rcases Int.lt_trichotomy p.2 q.2 with z | z | z
      · have g := gap ps.1
        rw [h] at g
        have : cov (q :: t) p.2 = true := cov_iff.mpr ⟨q, List.mem_cons_self, by omega, z⟩
        rw [g] at this
        cases this
      · exact z
      · have g := gap pt.1
        rw [← h] at g
        have : cov (p :: s) q.2 = true := cov_iff.mpr ⟨p, List.mem_cons_self, by omega, z⟩
        rw [g] at this
        cases this
    have e : p = q := Prod.ext e1 e2
    subst e
    have tail : ∀ {l : List Pr} {n : Int}, (∀ x ∈ l, p.2 < x.1) → cov l n = (cov (p :: l) n && decide (p.2 ≤ n)) := by
      intro l n hl
      rw [Bool.eq_iff_iff, Bool.and_eq_true, cov_iff, cov_iff, decide_eq_true_eq]
      constructor
      · rintro ⟨x, hx, h1, h2⟩
        have := hl x hx
        exact ⟨⟨x, List.mem_cons_of_mem _ hx, h1, h2⟩, by omega⟩
      · rintro ⟨⟨x, hx, h1, h2⟩, h3⟩
        rcases List.mem_cons.mp hx with rfl | hx
        · omega
        · exact ⟨x, hx, h1, h2⟩
    rw [sp_uniq (s := s) (t := t) ⟨fun x hx => hs.w x (List.mem_cons_of_mem _ hx), ps.2⟩ ⟨fun x hx => ht.w x (List.mem_cons_of_mem _ hx), pt.2⟩ fun n => by rw [tail ps.1, tail pt.1, h n]]
/-! ### neighbours -/
structure Seg (E : List Int) (p : Pr) : Prop where
  a : p.1 ∈ E
  b : p.2 ∈ E
  lt : p.1 < p.2
  g : ∀ e ∈ E, e ≤ p.1 ∨ p.2 ≤ e
theorem nxt_cons (a b : Int) (l : List Int) : nxt (a :: b :: l) = (a, b) :: nxt (b :: l) := rfl
theorem seg_of : ∀ {E : List Int} {p : Pr}, E.Pairwise (· < ·) → p ∈ nxt E → Seg E p
  | [], p, _, h => by simp [nxt] at h
  | [a], p, _, h => by simp [nxt] at h
  | a :: b :: l, p, hs, h => by
    rw [nxt_cons] at h
    obtain ⟨h1, h2⟩ := List.pairwise_cons.mp hs
    rcases List.mem_cons.mp h with rfl | h
    · refine ⟨List.mem_cons_self, by simp, h1 b List.mem_cons_self, fun e he => ?_⟩
      rcases List.mem_cons.mp he with rfl | he
      · exact .inl (Int.le_refl _)
      · rcases List.mem_cons.mp he with rfl | he
        · exact .inr (Int.le_refl _)
        · have := (List.pairwise_cons.mp h2).1 e he
          exact .inr (Int.le_of_lt this)
    · have s := seg_of h2 h
      refine ⟨List.mem_cons_of_mem _ s.a, List.mem_cons_of_mem _ s.b, s.lt, fun e he => ?_⟩
      rcases List.mem_cons.mp he with rfl | he
      · have := h1 p.1 s.a
        exact .inl (Int.le_of_lt this)
      · exact s.g e he
theorem seg_at : ∀ {E : List Int} {n a b : Int}, E.Pairwise (· < ·) → a ∈ E → b ∈ E → a ≤ n → n < b → ∃ p ∈ nxt E, p.1 ≤ n ∧ n < p.2
  | [], _, _, _, _, h, _, _, _ => by cases h
  | [x], n, a, b, _, h1, h2, h3, h4 => by
    rw [List.mem_singleton.mp h1] at h3
    rw [List.mem_singleton.mp h2] at h4
    omega
  | x :: y :: l, n, a, b, hs, h1, h2, h3, h4 => by
    rw [nxt_cons]
    obtain ⟨k1, k2⟩ := List.pairwise_cons.mp hs
    have hx : x ≤ n := by
      rcases List.mem_cons.mp h1 with rfl | h1
      · exact h3
      · have := k1 a h1
        omega
    by_cases z : n < y
    · exact ⟨(x, y), List.mem_cons_self, hx, z⟩
    · have hb : b ∈ y :: l := by
        rcases List.mem_cons.mp h2 with rfl | h2
        · omega
        · exact h2
      obtain ⟨p, hp, q⟩ := seg_at (a := y) k2 List.mem_cons_self hb (by omega) h4
      exact ⟨p, List.mem_cons_of_mem _ hp, q⟩
theorem mem_ends {sp : List Pr} {k : Int} : k ∈ ends sp ↔ ∃ s ∈ sp, k = s.1 ∨ k = s.2 := by
  simp [ends]
theorem cov_seg {one : List Pr} {E : List Int} {p : Pr} {n : Int} (hE : ∀ k ∈ ends one, k ∈ E) (s : Seg E p) (h1 : p.1 ≤ n) (h2 : n < p.2) : cov one n = cov one p.1 := by
  have key : ∀ q ∈ one, (q.1 ≤ n ∧ n < q.2) ↔ (q.1 ≤ p.1 ∧ p.1 < q.2) := fun q hq => by
    have g1 := s.g q.1 (hE _ (mem_ends.mpr ⟨q, hq, .inl rfl⟩))
    have g2 := s.g q.2 (hE _ (mem_ends.mpr ⟨q, hq, .inr rfl⟩))
    omega
  exact cov_ext ⟨fun ⟨q, hq, h⟩ => ⟨q, hq, (key q hq).mp h⟩, fun ⟨q, hq, h⟩ => ⟨q, hq, (key q hq).mpr h⟩⟩
theorem wanted_ff (w : Wd) : wanted w false false = false := by cases w <;> rfl
theorem combined_ok {one other : List Pr} {w : Wd} : SpOk (combined one other w) ∧ ∀ n, cov (combined one other w) n = wanted w (cov one n) (cov other n) := by
  unfold combined
  have hE := sd_rise (ends (one ++ other))
  have h1 : ∀ k ∈ ends one, k ∈ sd (ends (one ++ other)) := fun k hk => by
    rw [mem_sd, mem_ends]
    obtain ⟨s, hs, h⟩ := mem_ends.mp hk
    exact ⟨s, by simp [hs], h⟩
  have h2 : ∀ k ∈ ends other, k ∈ sd (ends (one ++ other)) := fun k hk => by
    rw [mem_sd, mem_ends]
    obtain ⟨s, hs, h⟩ := mem_ends.mp hk
    exact ⟨s, by simp [hs], h⟩
  generalize sd (ends (one ++ other)) = E at hE h1 h2
  obtain ⟨k1, k2⟩ := merged_ok (ps := (nxt E).filter fun p => wanted w (cov one p.1) (cov other p.1)) fun p hp => (seg_of hE (List.mem_filter.mp hp).1).lt
  refine ⟨k1, fun n => ?_⟩
  rw [k2 n, Bool.eq_iff_iff, cov_iff]
  constructor
  · rintro ⟨p, hp, a, b⟩
    obtain ⟨hp, hw⟩ := List.mem_filter.mp hp
    have s := seg_of hE hp
    rw [cov_seg h1 s a b, cov_seg h2 s a b]
    exact hw
  · intro hw
    have key : ∃ a ∈ E, ∃ b ∈ E, a ≤ n ∧ n < b := by
      cases e1 : cov one n with
      | true =>
        obtain ⟨s, hs, a, b⟩ := cov_iff.mp e1
        exact ⟨s.1, h1 _ (mem_ends.mpr ⟨s, hs, .inl rfl⟩), s.2, h1 _ (mem_ends.mpr ⟨s, hs, .inr rfl⟩), a, b⟩
      | false =>
        cases e2 : cov other n with
        | true =>
          obtain ⟨s, hs, a, b⟩ := cov_iff.mp e2
          exact ⟨s.1, h2 _ (mem_ends.mpr ⟨s, hs, .inl rfl⟩), s.2, h2 _ (mem_ends.mpr ⟨s, hs, .inr rfl⟩), a, b⟩
        | false =>
          rw [e1, e2, wanted_ff] at hw
          cases hw
    obtain ⟨a, ha, b, hb, c, d⟩ := key
    obtain ⟨p, hp, x, y⟩ := seg_at hE ha hb c d
    have s := seg_of hE hp
    refine ⟨p, List.mem_filter.mpr ⟨hp, ?_⟩, x, y⟩
    rw [cov_seg h1 s x y, cov_seg h2 s x y] at hw
    exact hw
/-! ### forms -/
def Hit (s : Sl) (x : Int) : Prop := s.1 ≤ x ∧ x < s.2.1
structure Chn (f : List Sl) : Prop where
  w : ∀ s ∈ f, s.1 < s.2.1
  s : f.Pairwise fun s t => s.2.1 ≤ t.1
structure FmOk (f : List Sl) : Prop where
  w : ∀ s ∈ f, s.1 < s.2.1 ∧ s.2.2 ≠ [] ∧ SpOk s.2.2
  s : f.Pairwise fun s t => s.2.1 ≤ t.1 ∧ (s.2.1 = t.1 → s.2.2 ≠ t.2.2)
theorem FmOk.nil : FmOk [] := ⟨by simp, .nil⟩
theorem FmOk.chn {f : List Sl} (h : FmOk f) : Chn f := ⟨fun s hs => (h.w s hs).1, h.s.imp fun h => h.1⟩
theorem spansAt_none {f : List Sl} {x : Int} (h : ∀ s ∈ f, ¬ Hit s x) : spansAt f x = [] := by
  unfold spansAt
  have : f.find? (fun s => decide (s.1 ≤ x) && decide (x < s.2.1)) = none := by
    rw [List.find?_eq_none]
    intro s hs
    have := h s hs
    unfold Hit at this
    simp only [Bool.and_eq_true, decide_eq_true_eq]
    exact this
  rw [this]
theorem spansAt_some {f : List Sl} {x : Int} {sp : List Pr} (h : ∃ s ∈ f, Hit s x) (k : ∀ s ∈ f, Hit s x → s.2.2 = sp) : spansAt f x = sp := by
  unfold spansAt
  cases e : f.find? (fun s => decide (s.1 ≤ x) && decide (x < s.2.1)) with
  | none =>
    obtain ⟨s, hs, h⟩ := h
    rw [List.find?_eq_none] at e
    have := e s hs
    simp only [Bool.and_eq_true, decide_eq_true_eq] at this
    exact absurd h this
  | some s =>
    have h1 := List.mem_of_find?_eq_some e
    have h2 := List.find?_some e
    simp only [Bool.and_eq_true, decide_eq_true_eq] at h2
    exact k s h1 h2
theorem hit_uniq : ∀ {f : List Sl} {s t : Sl} {x : Int}, Chn f → s ∈ f → t ∈ f → Hit s x → Hit t x → s = t
  | [], _, _, _, _, h, _, _, _ => by cases h
  | a :: f, s, t, x, hc, hs, ht, h1, h2 => by
    obtain ⟨k1, k2⟩ := List.pairwise_cons.mp hc.s
    have c1 := h1
    have c2 := h2
    unfold Hit at c1 c2
    rcases List.mem_cons.mp hs with e1 | hs1
    · rcases List.mem_cons.mp ht with e2 | ht1
      · rw [e1, e2]
      · have := k1 t ht1
        rw [e1] at c1
        omega
    · rcases List.mem_cons.mp ht with e2 | ht1
      · have := k1 s hs1
        rw [e2] at c2
        omega
      · exact hit_uniq ⟨fun z hz => hc.w z (List.mem_cons_of_mem _ hz), k2⟩ hs1 ht1 h1 h2
theorem spansAt_hit {f : List Sl} {s : Sl} {x : Int} (hc : Chn f) (hs : s ∈ f) (h : Hit s x) : spansAt f x = s.2.2 :=
  spansAt_some ⟨s, hs, h⟩ fun t ht k => by rw [hit_uniq hc ht hs k h]
theorem spansAt_mem {f : List Sl} {x : Int} (h : spansAt f x ≠ []) : ∃ s ∈ f, Hit s x ∧ spansAt f x = s.2.2 := by
  unfold spansAt at *
  cases e : f.find? (fun s => decide (s.1 ≤ x) && decide (x < s.2.1)) with
  | none =>
    rw [e] at h
    exact absurd rfl h
  | some s =>
    have h1 := List.mem_of_find?_eq_some e
    have h2 := List.find?_some e
    simp only [Bool.and_eq_true, decide_eq_true_eq] at h2
    exact ⟨s, h1, h2, rfl⟩
theorem spansAt_ok {f : List Sl} (h : ∀ s ∈ f, SpOk s.2.2) (x : Int) : SpOk (spansAt f x) := by
  by_cases e : spansAt f x = []
  · rw [e]
    exact .nil
  · obtain ⟨s, hs, _, k⟩ := spansAt_mem e
    rw [k]
    exact h s hs
theorem spansAt_append (f g : List Sl) (x : Int) : (∃ s ∈ f, Hit s x) ∧ spansAt (f ++ g) x = spansAt f x ∨ (∀ s ∈ f, ¬ Hit s x) ∧ spansAt (f ++ g) x = spansAt g x := by
  cases e : f.find? (fun s => decide (s.1 ≤ x) && decide (x < s.2.1)) with
  | none =>
    refine .inr ⟨fun s hs k => ?_, ?_⟩
    · rw [List.find?_eq_none] at e
      have := e s hs
      simp only [Bool.and_eq_true, decide_eq_true_eq] at this
      exact this k
    · unfold spansAt
      rw [List.find?_append, e]
      rfl
  | some s =>
    have h1 := List.mem_of_find?_eq_some e
    have h2 := List.find?_some e
    simp only [Bool.and_eq_true, decide_eq_true_eq] at h2
    refine .inl ⟨⟨s, h1, h2⟩, ?_⟩
    unfold spansAt
    rw [List.find?_append, e]
    rfl
/-- one step of tidy -/
theorem tstep_ok {f : List Sl} {p : Sl} (hf : FmOk f) (hp : p.1 < p.2.1) (hs : SpOk p.2.2) (hb : ∀ q ∈ f, q.2.1 ≤ p.1) : FmOk (tstep f p) ∧ (∀ x, spansAt (tstep f p) x = spansAt (f ++ [p]) x) ∧ (∀ q ∈ tstep f p, q.2.1 ≤ p.2.1) ∧ ∀ x, (∃ s ∈ tstep f p, Hit s x) → ∃ s ∈ f ++ [p], Hit s x := by
  have hc : Chn (f ++ [p]) := ⟨fun s h => by
    rcases List.mem_append.mp h with h | h
    · exact (hf.w s h).1
    · rw [List.mem_singleton.mp h]
      exact hp, by
    rw [List.pairwise_append]
    exact ⟨hf.chn.s, by simp, fun s h t ht => by rw [List.mem_singleton.mp ht]; exact hb s h⟩⟩
  have app : ¬ (∃ q, f.getLast? = some q ∧ q.2.1 = p.1 ∧ q.2.2 = p.2.2) → p.2.2 ≠ [] → FmOk (f ++ [p]) := fun hn hne => by
    refine ⟨fun s h => ?_, ?_⟩
    · rcases List.mem_append.mp h with h | h
      · exact hf.w s h
      · rw [List.mem_singleton.mp h]
        exact ⟨hp, hne, hs⟩
    · rw [List.pairwise_append]
      refine ⟨hf.s, by simp, fun s h t ht => ?_⟩
      rw [List.mem_singleton.mp ht]
      refine ⟨hb s h, fun e1 e2 => hn ⟨s, ?_, e1, e2⟩⟩
      cases hg : f.getLast? with
      | none =>
        have e : f = [] := by simpa using hg
        rw [e] at h
        cases h
      | some q =>
        have e := last_split hg
        rw [e] at h
        rcases List.mem_append.mp h with h | h
        · have z := hf.s
          rw [e, List.pairwise_append] at z
          have z1 := (z.2.2 s h q (by simp)).1
          have z2 := (hf.w q (by rw [e]; simp)).1
          have z3 := hb q (by rw [e]; simp)
          omega
        · rw [List.mem_singleton.mp h]
  have skip : p.2.2 = [] → ∀ x, spansAt f x = spansAt (f ++ [p]) x := fun he x => by
    rcases spansAt_append f [p] x with ⟨_, k⟩ | ⟨h, k⟩
    · exact k.symm
    · rw [k, spansAt_none h]
      by_cases z : Hit p x
      · rw [spansAt_some ⟨p, by simp, z⟩ (sp := []) fun s hs _ => by rw [List.mem_singleton.mp hs]; exact he]
      · rw [spansAt_none fun s hs => by rw [List.mem_singleton.mp hs]; exact z]
  unfold tstep
  cases hg : f.getLast? with
  | none =>
    have e : f = [] := by simpa using hg
    dsimp only
    by_cases he : p.2.2 ≠ []
    · rw [if_pos he]
      have := app (by rw [hg]; simp) he
      rw [e] at this ⊢
      exact ⟨this, fun _ => rfl, by simp, fun x h => h⟩
    · rw [if_neg he]
      have he : p.2.2 = [] := by simpa using he
      have := skip he
      rw [e] at this ⊢
      exact ⟨.nil, this, by simp, by simp⟩
  | some q =>
    have e := last_split hg
    dsimp only
    by_cases hm : q.2.1 = p.1 ∧ q.2.2 = p.2.2
    · rw [if_pos hm]
      generalize hgd : f.dropLast = g at e
      have hqf : q ∈ f := by rw [e]; simp
      have z := hf.s
      rw [e, List.pairwise_append] at z
      have hq := hf.w q hqf
      refine ⟨⟨fun s h => ?_, ?_⟩, fun x => ?_, fun s h => ?_, fun x h => ?_⟩
      · rcases List.mem_append.mp h with h | h
        · exact hf.w s (by rw [e]; simp [h])
        · rw [List.mem_singleton.mp h]
          exact ⟨by show q.1 < p.2.1; omega, by show p.2.2 ≠ []; rw [← hm.2]; exact hq.2.1, hs⟩
      · rw [List.pairwise_append]
        refine ⟨z.1, by simp, fun s h t ht => ?_⟩
        rw [List.mem_singleton.mp ht]
        have k := z.2.2 s h q (by simp)
        exact ⟨k.1, fun e1 => by show s.2.2 ≠ p.2.2; rw [← hm.2]; exact k.2 e1⟩
      · by_cases hx : ∃ s ∈ f ++ [p], Hit s x
        · obtain ⟨s, hs', hh⟩ := hx
          rw [spansAt_hit hc hs' hh]
          have hsub : ∃ t ∈ g ++ [(q.1, p.2.1, p.2.2)], Hit t x ∧ t.2.2 = s.2.2 := by
            rcases List.mem_append.mp hs' with h | h
            · rw [e] at h
              rcases List.mem_append.mp h with h | h
              · exact ⟨s, by simp [h], hh, rfl⟩
              · have es := List.mem_singleton.mp h
                rw [es] at hh ⊢
                refine ⟨(q.1, p.2.1, p.2.2), by simp, ⟨hh.1, ?_⟩, hm.2.symm⟩
                have := hh.2
                show x < p.2.1
                omega
            · have es := List.mem_singleton.mp h
              rw [es] at hh ⊢
              refine ⟨(q.1, p.2.1, p.2.2), by simp, ⟨?_, hh.2⟩, rfl⟩
              have := hh.1
              show q.1 ≤ x
              omega
          obtain ⟨t, ht, h1, h2⟩ := hsub
          rw [← h2]
          refine spansAt_hit ⟨fun r hr => ?_, ?_⟩ ht h1
          · rcases List.mem_append.mp hr with hr | hr
            · exact (hf.w r (by rw [e]; simp [hr])).1
            · rw [List.mem_singleton.mp hr]
              show q.1 < p.2.1
              omega
          · rw [List.pairwise_append]
            refine ⟨z.1.imp fun h => h.1, by simp, fun r hr u hu => ?_⟩
            rw [List.mem_singleton.mp hu]
            exact (z.2.2 r hr q (by simp)).1
        · have hx' : ∀ s ∈ f ++ [p], ¬ Hit s x := fun s h k => hx ⟨s, h, k⟩
          rw [spansAt_none hx', spansAt_none]
          intro s h k
          rcases List.mem_append.mp h with h | h
          · exact hx' s (by rw [e]; simp [h]) k
          · have es := List.mem_singleton.mp h
            subst es
            have k1 := k.1
            have k2 := k.2
            simp only at k1 k2
            by_cases y : x < q.2.1
            · exact hx' q (by simp [hqf]) ⟨k1, y⟩
            · exact hx' p (by simp) ⟨by omega, k2⟩
      · rcases List.mem_append.mp h with h | h
        · have := hb s (by rw [e]; simp [h])
          omega
        · rw [List.mem_singleton.mp h]
          exact Int.le_refl _
      · obtain ⟨s, h, k⟩ := h
        rcases List.mem_append.mp h with h | h
        · exact ⟨s, by rw [e]; simp [h], k⟩
        · have es := List.mem_singleton.mp h
          subst es
          have k1 := k.1
          have k2 := k.2
          simp only at k1 k2
          by_cases y : x < q.2.1
          · exact ⟨q, by simp [hqf], ⟨k1, y⟩⟩
          · exact ⟨p, by simp, ⟨by omega, k2⟩⟩
    · rw [if_neg hm]
      by_cases he : p.2.2 ≠ []
      · rw [if_pos he]
        refine ⟨app (fun ⟨r, h1, h2⟩ => hm ?_) he, fun _ => rfl, fun s h => ?_, fun x h => h⟩
        · rw [hg] at h1
          cases h1
          exact h2
        · rcases List.mem_append.mp h with h | h
          · have := hb s h
            omega
          · rw [List.mem_singleton.mp h]
            exact Int.le_refl _
      · rw [if_neg he]
        have he : p.2.2 = [] := by simpa using he
        exact ⟨hf, skip he, fun s h => by have := hb s h; omega, fun x ⟨s, h, k⟩ => ⟨s, by simp [h], k⟩⟩
theorem tfold_ok : ∀ (rest f : List Sl), FmOk f → Chn rest → (∀ s ∈ rest, SpOk s.2.2) → (∀ q ∈ f, ∀ p ∈ rest, q.2.1 ≤ p.1) → FmOk (rest.foldl tstep f) ∧ ∀ x, spansAt (rest.foldl tstep f) x = spansAt (f ++ rest) x
  | [], f, hf, _, _, _ => ⟨hf, fun x => by simp⟩
  | p :: rest, f, hf, hc, hs, hb => by
    obtain ⟨c1, c2⟩ := List.pairwise_cons.mp hc.s
    obtain ⟨h1, h2, h3, h4⟩ := tstep_ok hf (hc.w p List.mem_cons_self) (hs p List.mem_cons_self) fun q hq => hb q hq p List.mem_cons_self
    obtain ⟨h5, h6⟩ := tfold_ok rest (tstep f p) h1 ⟨fun s h => hc.w s (List.mem_cons_of_mem _ h), c2⟩ (fun s h => hs s (List.mem_cons_of_mem _ h)) fun q hq r hr => by
      have := h3 q hq
      have := c1 r hr
      omega
    refine ⟨h5, fun x => ?_⟩
    rw [List.foldl_cons, h6 x]
    have e : f ++ p :: rest = (f ++ [p]) ++ rest := by simp
    rw [e]
    rcases spansAt_append (tstep f p) rest x with ⟨a, k⟩ | ⟨a, k⟩
    · rw [k, h2 x]
      rcases spansAt_append (f ++ [p]) rest x with ⟨_, k2⟩ | ⟨b, _⟩
      · exact k2.symm
      · obtain ⟨s, hs, hh⟩ := h4 x a
        exact absurd hh (b s hs)
    · rw [k]
      rcases spansAt_append (f ++ [p]) rest x with ⟨⟨s, hs', hh⟩, k2⟩ | ⟨_, k2⟩
      · have z := h2 x
        rw [spansAt_none a] at z
        rw [k2, ← z]
        refine spansAt_none fun r hr hh2 => ?_
        have l1 : s.2.1 ≤ r.1 := by
          rcases List.mem_append.mp hs' with h | h
          · exact hb s h r (List.mem_cons_of_mem _ hr)
          · rw [List.mem_singleton.mp h]
            exact c1 r hr
        have := hh.2
        have := hh2.1
        omega
      · exact k2.symm
theorem tidy_ok {f : List Sl} (hc : Chn f) (hs : ∀ s ∈ f, SpOk s.2.2) : FmOk (tidy f) ∧ ∀ x, spansAt (tidy f) x = spansAt f x := by
  obtain ⟨h1, h2⟩ := tfold_ok f [] .nil hc hs (by simp)
  exact ⟨h1, fun x => by rw [show tidy f = f.foldl tstep [] from rfl, h2 x]; rfl⟩
def cv (f : List Sl) (x y : Int) : Bool := cov (spansAt f x) y
/-! slabs of boxes -/
def inB (b : Bx) (x y : Int) : Bool := decide (b.1 ≤ x) && decide (x < b.2.2.1) && (decide (b.2.1 ≤ y) && decide (y < b.2.2.2))
theorem chn_segs {E : List Int} (hE : E.Pairwise (· < ·)) (g : Pr → List Pr) : Chn ((nxt E).map fun p => (p.1, p.2, g p)) := by
  refine ⟨fun s hs => ?_, ?_⟩
  · obtain ⟨p, hp, rfl⟩ := List.mem_map.mp hs
    exact (seg_of hE hp).lt
  · rw [List.pairwise_map]
    induction E with
    | nil => simp [nxt]
    | cons a l ih =>
      cases l with
      | nil => simp [nxt]
      | cons b l =>
        rw [nxt_cons, List.pairwise_cons]
        obtain ⟨k1, k2⟩ := List.pairwise_cons.mp hE
        refine ⟨fun p hp => ?_, ih k2⟩
        have := (seg_of k2 hp).a
        rcases List.mem_cons.mp this with e | e
        · show b ≤ p.1
          omega
        · have := (List.pairwise_cons.mp k2).1 _ e
          show b ≤ p.1
          omega
theorem spansAt_segs {E : List Int} (hE : E.Pairwise (· < ·)) (g : Pr → List Pr) (x : Int) : (∃ p ∈ nxt E, p.1 ≤ x ∧ x < p.2 ∧ spansAt ((nxt E).map fun p => (p.1, p.2, g p)) x = g p) ∨ (∀ a ∈ E, ∀ b ∈ E, ¬ (a ≤ x ∧ x < b)) ∧ spansAt ((nxt E).map fun p => (p.1, p.2, g p)) x = [] := by
  by_cases h : ∃ a ∈ E, ∃ b ∈ E, a ≤ x ∧ x < b
  · obtain ⟨a, ha, b, hb, h1, h2⟩ := h
    obtain ⟨p, hp, k1, k2⟩ := seg_at hE ha hb h1 h2
    exact .inl ⟨p, hp, k1, k2, spansAt_hit (chn_segs hE g) (List.mem_map.mpr ⟨p, hp, rfl⟩) ⟨k1, k2⟩⟩
  · refine .inr ⟨fun a ha b hb k => h ⟨a, ha, b, hb, k⟩, spansAt_none fun s hs hh => ?_⟩
    obtain ⟨p, hp, rfl⟩ := List.mem_map.mp hs
    have s := seg_of hE hp
    exact h ⟨p.1, s.a, p.2, s.b, hh⟩
theorem slabsOf_ok {bs : List Bx} (hb : ∀ b ∈ bs, b.1 < b.2.2.1 ∧ b.2.1 < b.2.2.2) : FmOk (slabsOf bs) ∧ ∀ x y, cv (slabsOf bs) x y = bs.any fun b => inB b x y := by
  unfold slabsOf
  have hE := sd_rise (bs.flatMap fun b => [b.1, b.2.2.1])
  have hm : ∀ b ∈ bs, b.1 ∈ sd (bs.flatMap fun b => [b.1, b.2.2.1]) ∧ b.2.2.1 ∈ sd (bs.flatMap fun b => [b.1, b.2.2.1]) := fun b h => by
    rw [mem_sd, mem_sd, List.mem_flatMap, List.mem_flatMap]
    exact ⟨⟨b, h, by simp⟩, ⟨b, h, by simp⟩⟩
  generalize sd (bs.flatMap fun b => [b.1, b.2.2.1]) = E at hE hm
  generalize hg : (fun p : Pr => merged ((bs.filter fun b => decide (b.1 ≤ p.1) && decide (p.1 < b.2.2.1)).map fun b => (b.2.1, b.2.2.2))) = g
  have hmk : (nxt E).map (fun p => (p.1, p.2, merged ((bs.filter fun b => decide (b.1 ≤ p.1) && decide (p.1 < b.2.2.1)).map fun b => (b.2.1, b.2.2.2)))) = (nxt E).map fun p => (p.1, p.2, g p) := by
    rw [← hg]
  rw [hmk]
  have gok : ∀ p, SpOk (g p) ∧ ∀ n, cov (g p) n = cov ((bs.filter fun b => decide (b.1 ≤ p.1) && decide (p.1 < b.2.2.1)).map fun b => (b.2.1, b.2.2.2)) n := fun p => by
    rw [← hg]
    refine merged_ok fun q hq => ?_
    obtain ⟨b, h, rfl⟩ := List.mem_map.mp hq
    exact (hb b (List.mem_filter.mp h).1).2
  obtain ⟨h1, h2⟩ := tidy_ok (chn_segs hE g) fun s hs => by
    obtain ⟨p, _, rfl⟩ := List.mem_map.mp hs
    exact (gok p).1
  refine ⟨h1, fun x y => ?_⟩
  unfold cv
  rw [h2 x, Bool.eq_iff_iff, List.any_eq_true]
  rcases spansAt_segs hE g x with ⟨p, hp, k1, k2, k⟩ | ⟨k1, k⟩
  · rw [k, (gok p).2 y, cov_iff]
    have s := seg_of hE hp
    have key : ∀ b ∈ bs, (b.1 ≤ x ∧ x < b.2.2.1) ↔ (b.1 ≤ p.1 ∧ p.1 < b.2.2.1) := fun b h => by
      have g1 := s.g _ (hm b h).1
      have g2 := s.g _ (hm b h).2
      omega
    constructor
    · rintro ⟨q, hq, a, c⟩
      obtain ⟨b, h, rfl⟩ := List.mem_map.mp hq
      obtain ⟨h, h'⟩ := List.mem_filter.mp h
      simp only [Bool.and_eq_true, decide_eq_true_eq] at h'
      refine ⟨b, h, ?_⟩
      unfold inB
      simp only [Bool.and_eq_true, decide_eq_true_eq]
      exact ⟨(key b h).mpr h', a, c⟩
    · rintro ⟨b, h, hh⟩
      unfold inB at hh
      simp only [Bool.and_eq_true, decide_eq_true_eq] at hh
      refine ⟨(b.2.1, b.2.2.2), List.mem_map.mpr ⟨b, List.mem_filter.mpr ⟨h, ?_⟩, rfl⟩, hh.2⟩
      simp only [Bool.and_eq_true, decide_eq_true_eq]
      exact (key b h).mp hh.1
  · rw [k, cov_nil]
    constructor
    · intro z
      cases z
    · rintro ⟨b, h, hh⟩
      unfold inB at hh
      simp only [Bool.and_eq_true, decide_eq_true_eq] at hh
      exact absurd hh.1 (k1 _ (hm b h).1 _ (hm b h).2)
theorem mem_cuts {f : List Sl} {k : Int} : k ∈ cutsOf f ↔ ∃ s ∈ f, k = s.1 ∨ k = s.2.1 := by
  unfold cutsOf
  rw [mem_sd]
  simp
theorem spansAt_seg {one : List Sl} {E : List Int} {p : Pr} {x : Int} (hE : ∀ s ∈ one, s.1 ∈ E ∧ s.2.1 ∈ E) (s : Seg E p) (h1 : p.1 ≤ x) (h2 : x < p.2) : spansAt one x = spansAt one p.1 := by
  unfold spansAt
  have : ∀ t ∈ one, (decide (t.1 ≤ x) && decide (x < t.2.1)) = (decide (t.1 ≤ p.1) && decide (p.1 < t.2.1)) := fun t ht => by
    have g1 := s.g _ (hE t ht).1
    have g2 := s.g _ (hE t ht).2
    rw [Bool.eq_iff_iff]
    simp only [Bool.and_eq_true, decide_eq_true_eq]
    omega
  have e : one.find? (fun t => decide (t.1 ≤ x) && decide (x < t.2.1)) = one.find? (fun t => decide (t.1 ≤ p.1) && decide (p.1 < t.2.1)) := by
    clear h1 h2 s hE
    induction one with
    | nil => rfl
    | cons a l ih =>
      rw [List.find?_cons, List.find?_cons, this a List.mem_cons_self, ih fun t ht => this t (List.mem_cons_of_mem _ ht)]
  rw [e]
theorem mixed_ok {one other : List Sl} {w : Wd} : FmOk (mixed one other w) ∧ ∀ x y, cv (mixed one other w) x y = wanted w (cv one x y) (cv other x y) := by
  unfold mixed
  have hE : (cutsOf (one ++ other)).Pairwise (· < ·) := sd_rise _
  have h1 : ∀ s ∈ one, s.1 ∈ cutsOf (one ++ other) ∧ s.2.1 ∈ cutsOf (one ++ other) := fun s hs => ⟨mem_cuts.mpr ⟨s, by simp [hs], .inl rfl⟩, mem_cuts.mpr ⟨s, by simp [hs], .inr rfl⟩⟩
  have h2 : ∀ s ∈ other, s.1 ∈ cutsOf (one ++ other) ∧ s.2.1 ∈ cutsOf (one ++ other) := fun s hs => ⟨mem_cuts.mpr ⟨s, by simp [hs], .inl rfl⟩, mem_cuts.mpr ⟨s, by simp [hs], .inr rfl⟩⟩
  generalize cutsOf (one ++ other) = E at hE h1 h2
  obtain ⟨k1, k2⟩ := tidy_ok (chn_segs hE fun p => combined (spansAt one p.1) (spansAt other p.1) w) fun s hs => by
    obtain ⟨p, _, rfl⟩ := List.mem_map.mp hs
    exact combined_ok.1
  refine ⟨k1, fun x y => ?_⟩
  unfold cv
  rw [k2 x]
  rcases spansAt_segs hE (fun p => combined (spansAt one p.1) (spansAt other p.1) w) x with ⟨p, hp, c1, c2, k⟩ | ⟨c1, k⟩
  · have s := seg_of hE hp
    rw [k, combined_ok.2 y, spansAt_seg h1 s c1 c2, spansAt_seg h2 s c1 c2]
  · rw [k, cov_nil, spansAt_none (f := one) fun s hs hh => c1 _ (h1 s hs).1 _ (h1 s hs).2 hh, spansAt_none (f := other) fun s hs hh => c1 _ (h2 s hs).1 _ (h2 s hs).2 hh, cov_nil, wanted_ff]
end BR
/-! Regions: what they have; how great forms are. -/
namespace BR
open PySem
/-! ### the lines that ends lie on -/
def OnS (Y : List Int) (sp : List Pr) : Prop := ∀ p ∈ sp, p.1 ∈ Y ∧ p.2 ∈ Y
def On (X Y : List Int) (f : List Sl) : Prop := ∀ s ∈ f, s.1 ∈ X ∧ s.2.1 ∈ X ∧ OnS Y s.2.2
theorem OnS.nil {Y : List Int} : OnS Y [] := fun _ h => nomatch h
theorem On.nil {X Y : List Int} : On X Y [] := fun _ h => nomatch h
theorem mstep_on {Y : List Int} {f : List Pr} {p : Pr} (hf : OnS Y f) (hp : p.1 ∈ Y ∧ p.2 ∈ Y) : OnS Y (mstep f p) := by
  unfold mstep
  cases hg : f.getLast? with
  | none => exact fun q hq => by rw [List.mem_singleton.mp hq]; exact hp
  | some l =>
    have e := last_split hg
    have hl := hf l (by rw [e]; simp)
    dsimp only
    split
    · intro q hq
      rcases List.mem_append.mp hq with h | h
      · exact hf q ((List.dropLast_sublist _).subset h)
      · rw [List.mem_singleton.mp h]
        refine ⟨hl.1, ?_⟩
        show max p.2 l.2 ∈ Y
        rcases Int.le_total p.2 l.2 with z | z
        · rw [Int.max_eq_right z]
          exact hl.2
        · rw [Int.max_eq_left z]
          exact hp.2
    · intro q hq
      rcases List.mem_append.mp hq with h | h
      · exact hf q h
      · rw [List.mem_singleton.mp h]
        exact hp
theorem mfold_on {Y : List Int} : ∀ (rest f : List Pr), OnS Y f → OnS Y rest → OnS Y (rest.foldl mstep f)
  | [], f, hf, _ => hf
  | p :: rest, f, hf, hr => mfold_on rest _ (mstep_on hf (hr p List.mem_cons_self)) fun q hq => hr q (List.mem_cons_of_mem _ hq)
theorem merged_on {Y : List Int} {ps : List Pr} (h : OnS Y ps) : OnS Y (merged ps) := mfold_on _ _ .nil fun p hp => h p (mem_srt.mp hp)
theorem combined_on {Y : List Int} {one other : List Pr} {w : Wd} (h1 : OnS Y one) (h2 : OnS Y other) : OnS Y (combined one other w) := by
  unfold combined
  refine merged_on fun p hp => ?_
  have s := seg_of (sd_rise _) (List.mem_filter.mp hp).1
  have key : ∀ k ∈ sd (ends (one ++ other)), k ∈ Y := fun k hk => by
    rw [mem_sd, mem_ends] at hk
    obtain ⟨q, hq, e⟩ := hk
    have : q.1 ∈ Y ∧ q.2 ∈ Y := by
      rcases List.mem_append.mp hq with h | h
      · exact h1 q h
      · exact h2 q h
    rcases e with rfl | rfl
    · exact this.1
    · exact this.2
  exact ⟨key _ s.a, key _ s.b⟩
theorem tstep_on {X Y : List Int} {f : List Sl} {p : Sl} (hf : On X Y f) (hp : p.1 ∈ X ∧ p.2.1 ∈ X ∧ OnS Y p.2.2) : On X Y (tstep f p) := by
  unfold tstep
  cases hg : f.getLast? with
  | none =>
    dsimp only
    split
    · exact fun q hq => by rw [List.mem_singleton.mp hq]; exact hp
    · exact .nil
  | some l =>
    have e := last_split hg
    have hl := hf l (by rw [e]; simp)
    dsimp only
    split
    · intro q hq
      rcases List.mem_append.mp hq with h | h
      · exact hf q ((List.dropLast_sublist _).subset h)
      · rw [List.mem_singleton.mp h]
        exact ⟨hl.1, hp.2⟩
    · split
      · intro q hq
        rcases List.mem_append.mp hq with h | h
        · exact hf q h
        · rw [List.mem_singleton.mp h]
          exact hp
      · exact hf
theorem tfold_on {X Y : List Int} : ∀ (rest f : List Sl), On X Y f → On X Y rest → On X Y (rest.foldl tstep f)
  | [], f, hf, _ => hf
  | p :: rest, f, hf, hr => tfold_on rest _ (tstep_on hf (hr p List.mem_cons_self)) fun q hq => hr q (List.mem_cons_of_mem _ hq)
theorem tidy_on {X Y : List Int} {f : List Sl} (h : On X Y f) : On X Y (tidy f) := tfold_on _ _ .nil h
theorem spansAt_on {X Y : List Int} {f : List Sl} (h : On X Y f) (x : Int) : OnS Y (spansAt f x) := by
  by_cases e : spansAt f x = []
  · rw [e]
    exact .nil
  · obtain ⟨s, hs, _, k⟩ := spansAt_mem e
    rw [k]
    exact (h s hs).2.2
theorem mixed_on {X Y : List Int} {one other : List Sl} {w : Wd} (h1 : On X Y one) (h2 : On X Y other) : On X Y (mixed one other w) := by
  unfold mixed
  refine tidy_on fun s hs => ?_
  obtain ⟨p, hp, rfl⟩ := List.mem_map.mp hs
  have g := seg_of (sd_rise _) hp
  have key : ∀ k ∈ cutsOf (one ++ other), k ∈ X := fun k hk => by
    obtain ⟨q, hq, e⟩ := mem_cuts.mp hk
    have : q.1 ∈ X ∧ q.2.1 ∈ X := by
      rcases List.mem_append.mp hq with h | h
      · exact ⟨(h1 q h).1, (h1 q h).2.1⟩
      · exact ⟨(h2 q h).1, (h2 q h).2.1⟩
    rcases e with rfl | rfl
    · exact this.1
    · exact this.2
  exact ⟨key _ g.a, key _ g.b, combined_on (spansAt_on h1 _) (spansAt_on h2 _)⟩
def OnB (X Y : List Int) (b : Bx) : Prop := b.1 ∈ X ∧ b.2.2.1 ∈ X ∧ b.2.1 ∈ Y ∧ b.2.2.2 ∈ Y
theorem slabsOf_on {X Y : List Int} {bs : List Bx} (h : ∀ b ∈ bs, OnB X Y b) : On X Y (slabsOf bs) := by
  unfold slabsOf
  refine tidy_on fun s hs => ?_
  obtain ⟨p, hp, rfl⟩ := List.mem_map.mp hs
  have g := seg_of (sd_rise _) hp
  have key : ∀ k ∈ sd (bs.flatMap fun b => [b.1, b.2.2.1]), k ∈ X := fun k hk => by
    rw [mem_sd, List.mem_flatMap] at hk
    obtain ⟨b, hb, e⟩ := hk
    simp only [List.mem_cons, List.not_mem_nil, or_false] at e
    rcases e with rfl | rfl
    · exact (h b hb).1
    · exact (h b hb).2.1
  refine ⟨key _ g.a, key _ g.b, merged_on fun q hq => ?_⟩
  obtain ⟨b, hb, rfl⟩ := List.mem_map.mp hq
  exact (h b (List.mem_filter.mp hb).1).2.2
/-! ### regions -/
theorem rhas_unite (a b : Reg) (p : Pr) : rhas (unite a b) p = (rhas a p || rhas b p) := by
  obtain ⟨f, o⟩ := a
  obtain ⟨g, q⟩ := b
  have k := fun w => (mixed_ok (one := f) (other := g) (w := w)).2 p.1 p.2
  have k' := fun w => (mixed_ok (one := g) (other := f) (w := w)).2 p.1 p.2
  unfold cv at k k'
  cases o <;> cases q <;> simp only [unite, rhas, k, k', wanted] <;> generalize cov (spansAt f p.1) p.2 = u <;> generalize cov (spansAt g p.1) p.2 = v <;> cases u <;> cases v <;> rfl
theorem rhas_out (a : Reg) (p : Pr) : rhas (rout a) p = !rhas a p := by
  unfold rhas rout
  generalize cov (spansAt a.1 p.1) p.2 = u
  generalize a.2 = v
  cases u <;> cases v <;> rfl
theorem rhas_and (a b : Reg) (p : Pr) : rhas (rand a b) p = (rhas a p && rhas b p) := by
  unfold rand
  rw [rhas_out, rhas_unite, rhas_out, rhas_out]
  cases rhas a p <;> cases rhas b p <;> rfl
theorem rhas_sub (a b : Reg) (p : Pr) : rhas (rsub a b) p = (rhas a p && !rhas b p) := by
  unfold rsub
  rw [rhas_out, rhas_unite, rhas_out]
  cases rhas a p <;> cases rhas b p <;> rfl
theorem unite_ok (a b : Reg) : FmOk (unite a b).1 := by
  unfold unite
  split <;> exact mixed_ok.1
theorem unite_on {X Y : List Int} {a b : Reg} (h1 : On X Y a.1) (h2 : On X Y b.1) : On X Y (unite a b).1 := by
  unfold unite
  split
  · exact mixed_on h1 h2
  · exact mixed_on h1 h2
  · exact mixed_on h2 h1
  · exact mixed_on h1 h2
theorem rand_ok (a b : Reg) : FmOk (rand a b).1 := unite_ok _ _
theorem rsub_ok (a b : Reg) : FmOk (rsub a b).1 := unite_ok _ _
theorem rand_on {X Y : List Int} {a b : Reg} (h1 : On X Y a.1) (h2 : On X Y b.1) : On X Y (rand a b).1 := unite_on (a := rout a) (b := rout b) h1 h2
theorem rsub_on {X Y : List Int} {a b : Reg} (h1 : On X Y a.1) (h2 : On X Y b.1) : On X Y (rsub a b).1 := unite_on (a := rout a) (b := b) h1 h2
/-- a region along lines -/
structure RegOn (X Y : List Int) (a : Reg) : Prop where
  ok : FmOk a.1
  on : On X Y a.1
theorem RegOn.unite {X Y : List Int} {a b : Reg} (h1 : RegOn X Y a) (h2 : RegOn X Y b) : RegOn X Y (unite a b) := ⟨unite_ok a b, unite_on h1.on h2.on⟩
theorem RegOn.and {X Y : List Int} {a b : Reg} (h1 : RegOn X Y a) (h2 : RegOn X Y b) : RegOn X Y (rand a b) := ⟨rand_ok a b, rand_on h1.on h2.on⟩
theorem RegOn.sub {X Y : List Int} {a b : Reg} (h1 : RegOn X Y a) (h2 : RegOn X Y b) : RegOn X Y (rsub a b) := ⟨rsub_ok a b, rsub_on h1.on h2.on⟩
theorem RegOn.out {X Y : List Int} {a : Reg} (h1 : RegOn X Y a) : RegOn X Y (rout a) := ⟨h1.ok, h1.on⟩
theorem RegOn.nil {X Y : List Int} {o : Bool} : RegOn X Y ([], o) := ⟨.nil, .nil⟩
theorem RegOn.of {X Y : List Int} {bs : List Bx} (h : ∀ b ∈ bs, bxOk b ∧ OnB X Y b) : RegOn X Y (slabsOf bs, false) := ⟨(slabsOf_ok fun b hb => (h b hb).1).1, slabsOf_on fun b hb => (h b hb).2⟩
theorem rhas_nil {o : Bool} (p : Pr) : rhas ([], o) p = o := by cases o <;> rfl
theorem RegOn.ne {X Y : List Int} {a : Reg} (h : RegOn X Y a) : ∀ s ∈ a.1, s.2.2 ≠ [] := fun s hs => (h.ok.w s hs).2.1
end BR
/-! Defs that many laws share: lines, boxes along them, probes, regions of boxes. -/
namespace BR
open PySem PySem.Spec PyProof.Rows L2
structure LinesOk (L : List Int) (n : Int) : Prop where
  l : (L.length : Int) = n
  s : L.Pairwise (· < ·)
  b : ∀ x ∈ L, x.natAbs < 2 ^ 120
def sp_l_lines : Sp := spK (T := List Int) fun φs C φ => ∃ n : Int, 1 ≤ n ∧ n ≤ 20 ∧ φs = [tI n] ∧ (∀ L, LinesOk L n → C L) ∧ φ = fun L => tL (L.map tI)
structure BoxesOk (xs ys : List Int) (m : Nat) (bs : List Bx) : Prop where
  l : bs.length ≤ m
  b : ∀ b ∈ bs, bxOk b ∧ OnB xs ys b
structure AxOk (xs : List Int) : Prop where
  l : 2 ≤ xs.length
  m : xs.length ≤ 40
  s : xs.Pairwise (· < ·)
def sp_l_boxes : Sp := spK (T := List Bx) fun φs C φ => ∃ (xs ys : List Int) (m : Nat), AxOk xs ∧ AxOk ys ∧ m ≤ 100 ∧ φs = [tL (xs.map tI), tL (ys.map tI), tI (m : Int)] ∧ (∀ bs, BoxesOk xs ys m bs → C bs) ∧ φ = fun bs => tL (bs.map tB4)
def hasB (bs : List Bx) (p : Pr) : Bool := bs.any fun b => inB b p.1 p.2
def sp_l_has : Sp := spT fun φs φ => ∃ (bs : List Bx) (p : Pr), bs.length ≤ 50000 ∧ φs = [tL (bs.map tB4), tP p] ∧ φ = tBo (hasB bs p)
def prob (xs : List Int) : List Int := [xs.headD 0 - 1] ++ xs ++ xs.tail.map (· - 1)
def probes (xs ys : List Int) : List Pr := (prob xs).flatMap fun x => (prob ys).map fun y => (x, y)
def sp_l_probes : Sp := spT fun φs φ => ∃ xs ys : List Int, xs ≠ [] ∧ ys ≠ [] ∧ xs.length ≤ 100 ∧ ys.length ≤ 100 ∧ φs = [tL (xs.map tI), tL (ys.map tI)] ∧ φ = tL ((probes xs ys).map tP)
def madeB (bs : List Bx) : Reg := bs.foldl (fun r b => unite r (slabsOf [b], false)) ([], false)
def made (bs : List Bx) (o : Bool) : Reg := if o then rout (madeB bs) else madeB bs
def sp_l_made (K : Fg) : Sp := spT fun φs φ => ∃ (bs : List Bx) (o : Bool) (X Y : List Int), X.length ≤ 1000 ∧ Y.length ≤ 1000 ∧ (∀ b ∈ bs, bxOk b ∧ OnB X Y b) ∧ φs = [tL (bs.map tB4), tBo o] ∧ φ = tReg K (made bs o)
section
variable {K : Fg}
theorem FilP.of {p q : Addr} {G0 H0 G H : Hp} {φs : List Ty} {vs : List V} (i0 : PI p G0 H0) (k : KG p G0 H0 G H) (h : H q = none) (hv : All G φs vs) : FilP p q G0 H0 G (upd H q (.lst vs)) φs := by
  have ne : q ≠ p := fun z => by
    subst z
    obtain ⟨c, z, hh, _⟩ := k.i.h
    rw [hh] at h
    cases h
  obtain ⟨c, z, hh, ok⟩ := k.i.h
  refine ⟨⟨same_upd k.i.s (k.i.s.free h), k.i.s.free h, vs, upd_same, hv⟩, ⟨k.g, fun a o na e => ?_, ⟨same_upd k.i.s (k.i.s.free h), k.i.n, c, z, by rw [upd_ne (Ne.symm ne)]; exact hh, ok⟩, k.f⟩, ?_, ne⟩
  · have := k.b a o na e
    rw [upd_ne (ne_of_none this h)]
    exact this
  · cases e : H0 q with
    | none => rfl
    | some o =>
      have := k.b q o ne e
      rw [h] at this
      cases this
end
end BR
/-! Boxes along lines, probes, regions of boxes. -/
namespace BR
open PySem PySem.Spec PyProof.Rows L2
section
variable {K : Fg}
/-! regions of boxes -/
end
end BR
/-! Lists reversed; cells told by probes. -/
namespace BR
open PySem PySem.Spec PyProof.Rows L2
/-! ### l[::-1] -/
def rIsN : R2 := fun x y H Q => y = .non ∧ Q (.bl (decide (x = .non))) H
def rNotN : R2 := fun x y H Q => y = .non ∧ Q (.bl (!decide (x = .non))) H
section
variable {K : Fg} {σ : St} {G R : Hp} {te : TE} {o : Option Pr}
end
/-! ### probes -/
theorem rep (xs : List Int) (hn : xs ≠ []) (hs : xs.Pairwise (· < ·)) (x : Int) : ∃ x' ∈ prob xs, ∀ k ∈ xs, (k ≤ x ↔ k ≤ x') := by
  by_cases h : ∃ k ∈ xs, k ≤ x
  · have key : ∀ l : List Int, l.Pairwise (· < ·) → (∃ k ∈ l, k ≤ x) → ∃ m ∈ l, m ≤ x ∧ ∀ k ∈ l, k ≤ x → k ≤ m := by
      intro l
      induction l with
      | nil => rintro _ ⟨k, hk, _⟩; cases hk
      | cons a l ih =>
        intro hl hk
        obtain ⟨h1, h2⟩ := List.pairwise_cons.mp hl
        by_cases hk2 : ∃ k ∈ l, k ≤ x
        · obtain ⟨m, hm, hmx, hmax⟩ := ih h2 hk2
          refine ⟨m, List.mem_cons_of_mem _ hm, hmx, fun k hk hkx => ?_⟩
          rcases List.mem_cons.mp hk with rfl | hk
          · exact Int.le_of_lt (h1 m hm)
          · exact hmax k hk hkx
        · obtain ⟨k, hk, hkx⟩ := hk
          have hka : k = a := by
            rcases List.mem_cons.mp hk with e | hk
            · exact e
            · exact absurd ⟨k, hk, hkx⟩ hk2
          subst hka
          refine ⟨k, List.mem_cons_self, hkx, fun j hj hjx => ?_⟩
          rcases List.mem_cons.mp hj with rfl | hj
          · exact Int.le_refl _
          · exact absurd ⟨j, hj, hjx⟩ hk2
    obtain ⟨m, hm, hmx, hmax⟩ := key xs hs h
    refine ⟨m, by unfold prob; simp [hm], fun k hk => ⟨hmax k hk, fun hle => Int.le_trans hle hmx⟩⟩
  · cases xs with
    | nil => exact absurd rfl hn
    | cons a l =>
      refine ⟨a - 1, by unfold prob; simp, fun k hk => ⟨fun hle => absurd ⟨k, hk, hle⟩ h, fun hle => ?_⟩⟩
      have : a ≤ k := by
        rcases List.mem_cons.mp hk with rfl | hk
        · exact Int.le_refl _
        · exact Int.le_of_lt ((List.pairwise_cons.mp hs).1 k hk)
      omega
end BR
/-! Own layer: operators and built-ins beside their plain mirrors. -/
namespace BR
open PySem PySem.Spec PyProof.Rows L2
def wIx {α : Type} (l : List α) (i : Int) : Wp α := fun P => ∃ x, atI l i = some x ∧ P x
/-! ### data -/
class DatE {α : Type} (e : α → Ty) where
  d : α → PyData
  n : Nat
  to : ∀ a G v, (e a).p G v → (dt (d a)).p G v
  lay : ∀ a, Lay (d a) n
class EqE {α : Type} [DecidableEq α] (e : α → Ty) extends DatE e where
  eq : ∀ a b, PyData.eqv (d a) (d b) = decide (a = b)
theorem All.dts {α : Type} {e : α → Ty} [DatE e] {G : Hp} : ∀ {l : List α} {vs : List V}, All G (l.map e) vs → All G ((l.map (DatE.d e)).map dt) vs
  | [], _, .nil => .nil
  | a :: l, _, .cons h t => .cons (DatE.to a _ _ h) t.dts
instance : DatE tI := ⟨.int, 1, fun a G v h => h, fun a => .int a⟩
instance : DatE tBo := ⟨.bool, 1, fun a G v h => h, fun a => .bool a⟩
instance : DatE eU := ⟨fun _ => .none, 1, fun a G v h => h, fun a => ⟨rfl, by simp [PyData.depth]⟩⟩
instance {α : Type} {e : α → Ty} [h : DatE e] : DatE (eL e) := ⟨fun l => .list (l.map h.d), h.n + 2, fun a G v hv => by
  obtain ⟨⟨p, vs, h1, h2, h3⟩, _⟩ := hv
  rw [dt_list]
  exact ⟨p, vs, h1, h2, h3.dts⟩, fun a => Lay.list fun d hd => by
  obtain ⟨x, _, rfl⟩ := List.mem_map.mp hd
  exact h.lay x⟩
instance {α : Type} {e : α → Ty} [h : DatE e] : DatE (eT e) := ⟨fun l => .tuple (l.map h.d), h.n + 2, fun a G v hv => by
  obtain ⟨⟨p, vs, h1, h2, h3⟩, _⟩ := hv
  rw [dt_tuple]
  exact ⟨p, vs, h1, h2, h3.dts⟩, fun a => Lay.tuple fun d hd => by
  obtain ⟨x, _, rfl⟩ := List.mem_map.mp hd
  exact h.lay x⟩
instance {α β : Type} {e : α → Ty} {f : β → Ty} [h : DatE e] [k : DatE f] : DatE (e2 e f) := ⟨fun p => .tuple [h.d p.1, k.d p.2], max h.n k.n + 2, fun a G v hv => by
  obtain ⟨p, vs, h1, h2, h3⟩ := hv
  rw [dt_tuple]
  cases h3 with
  | cons h4 h5 =>
    cases h5 with
    | cons h5 h6 =>
      cases h6
      exact ⟨p, _, h1, h2, .cons (h.to _ _ _ h4) (.cons (k.to _ _ _ h5) .nil)⟩, fun a => Lay.tuple fun d hd => by
  simp only [List.mem_cons, List.not_mem_nil, or_false] at hd
  rcases hd with rfl | rfl
  · exact (h.lay _).mono (Nat.le_max_left _ _)
  · exact (k.lay _).mono (Nat.le_max_right _ _)⟩
instance {α β γ : Type} {e : α → Ty} {f : β → Ty} {g : γ → Ty} [h : DatE e] [k : DatE f] [l : DatE g] : DatE (e3 e f g) := ⟨fun p => .tuple [h.d p.1, k.d p.2.1, l.d p.2.2], h.n + k.n + l.n + 2, fun a G v hv => by
  obtain ⟨p, vs, h1, h2, h3⟩ := hv
  rw [dt_tuple]
  cases h3 with
  | cons h4 h5 =>
    cases h5 with
    | cons h5 h6 =>
      cases h6 with
      | cons h6 h7 =>
        cases h7
        exact ⟨p, _, h1, h2, .cons (h.to _ _ _ h4) (.cons (k.to _ _ _ h5) (.cons (l.to _ _ _ h6) .nil))⟩, fun a => Lay.tuple fun d hd => by
  simp only [List.mem_cons, List.not_mem_nil, or_false] at hd
  rcases hd with rfl | rfl | rfl
  · exact (h.lay _).mono (by omega)
  · exact (k.lay _).mono (by omega)
  · exact (l.lay _).mono (by omega)⟩
instance {α β γ δ : Type} {e : α → Ty} {f : β → Ty} {g : γ → Ty} {i : δ → Ty} [h : DatE e] [k : DatE f] [l : DatE g] [m : DatE i] : DatE (e4 e f g i) := ⟨fun p => .tuple [h.d p.1, k.d p.2.1, l.d p.2.2.1, m.d p.2.2.2], h.n + k.n + l.n + m.n + 2, fun a G v hv => by
  obtain ⟨p, vs, h1, h2, h3⟩ := hv
  rw [dt_tuple]
  cases h3 with
  | cons h4 h5 =>
    cases h5 with
    | cons h5 h6 =>
      cases h6 with
      | cons h6 h7 =>
        cases h7 with
        | cons h7 h8 =>
          cases h8
          exact ⟨p, _, h1, h2, .cons (h.to _ _ _ h4) (.cons (k.to _ _ _ h5) (.cons (l.to _ _ _ h6) (.cons (m.to _ _ _ h7) .nil)))⟩, fun a => Lay.tuple fun d hd => by
  simp only [List.mem_cons, List.not_mem_nil, or_false] at hd
  rcases hd with rfl | rfl | rfl | rfl
  · exact (h.lay _).mono (by omega)
  · exact (k.lay _).mono (by omega)
  · exact (l.lay _).mono (by omega)
  · exact (m.lay _).mono (by omega)⟩
instance {α : Type} {e : α → Ty} [h : DatE e] : DatE (eO e) := ⟨fun o => match o with | some a => h.d a | none => .none, h.n + 1, fun a G v hv => by
  cases a with
  | none => exact hv
  | some a => exact h.to _ _ _ hv, fun a => by
  cases a with
  | none => exact ⟨rfl, by simp [PyData.depth]⟩
  | some a => exact (h.lay a).mono (by omega)⟩
instance : EqE tI := ⟨fun a b => by simp only [DatE.d, PyData.eqv]; rw [Bool.eq_iff_iff]; simp⟩
instance : EqE tBo := ⟨fun a b => by cases a <;> cases b <;> simp [DatE.d, PyData.eqv]⟩
instance {α : Type} [DecidableEq α] {e : α → Ty} [h : EqE e] : EqE (eL e) := ⟨fun a b => by
  simp only [DatE.d, PyData.eqv]
  exact eqvAll_map h.eq a b⟩
instance {α : Type} [DecidableEq α] {e : α → Ty} [h : EqE e] : EqE (eT e) := ⟨fun a b => by
  simp only [DatE.d, PyData.eqv]
  exact eqvAll_map h.eq a b⟩
instance {α β : Type} [DecidableEq α] [DecidableEq β] {e : α → Ty} {f : β → Ty} [h : EqE e] [k : EqE f] : EqE (e2 e f) := ⟨fun ⟨a, a'⟩ ⟨b, b'⟩ => by
  simp only [DatE.d, PyData.eqv, PyData.eqvAll, Bool.and_true, h.eq, k.eq, Prod.mk.injEq, Bool.decide_and]⟩
instance {α β γ : Type} [DecidableEq α] [DecidableEq β] [DecidableEq γ] {e : α → Ty} {f : β → Ty} {g : γ → Ty} [h : EqE e] [k : EqE f] [l : EqE g] : EqE (e3 e f g) := ⟨fun ⟨a, a', a''⟩ ⟨b, b', b''⟩ => by
  simp only [DatE.d, PyData.eqv, PyData.eqvAll, Bool.and_true, h.eq, k.eq, l.eq, Prod.mk.injEq, Bool.decide_and]⟩
instance {α β γ δ : Type} [DecidableEq α] [DecidableEq β] [DecidableEq γ] [DecidableEq δ] {e : α → Ty} {f : β → Ty} {g : γ → Ty} {i : δ → Ty} [h : EqE e] [k : EqE f] [l : EqE g] [m : EqE i] : EqE (e4 e f g i) := ⟨fun ⟨a, a', a'', a3⟩ ⟨b, b', b'', b3⟩ => by
  simp only [DatE.d, PyData.eqv, PyData.eqvAll, Bool.and_true, h.eq, k.eq, l.eq, m.eq, Prod.mk.injEq, Bool.decide_and]⟩
section
variable {K : Fg} {c : Cn} {Φ : Sts} {ta tb te tl tc : TE} {tr : TA} {α β γ : Type} {m n : Wp Int} {e : α → Ty} {f : β → Ty} {D : Ends}
/-! ### ints -/
theorem md_ii {r : R2} {C : Int → Int → Prop} {o : Int → Int → γ} {g : γ → Ty} (ha : MD Φ ta m tI) (hb : MD Φ tb n tI) (hr : ∀ i j σ G, C i j → PD (tOp r (tC (.int i)) (tC (.int j))) σ G G (g (o i j))) : MD Φ (tOp r ta tb) (wBind m fun i => wBind n fun j => wG (C i j) (o i j)) g :=
  md_op ha hb fun i j x y σ G P hx hy hp => by
    cases hx
    cases hy
    exact ⟨_, hp.2, hr i j σ G hp.1⟩
theorem md_pow (ha : MD Φ ta m tI) (hb : MD Φ tb n tI) : MD Φ (tOp rPowI ta tb) (wBind m fun i => wBind n fun j => wG (CPow i j) (i ^ j.toNat)) tI := md_ii ha hb fun i j σ G h => pd_pow pd_c pd_c h
theorem md_neg (ha : MD Φ ta m tI) : MD Φ (tUn rNegI ta) (wBind m fun i => wPure (-i)) tI := md_un ha fun i x σ G P hx hp => by
  cases hx
  exact ⟨_, hp, pd_neg pd_c⟩
/-! ### == -/
variable {p : Wp α} {q : Wp β}
theorem md_eq [DecidableEq α] [h : EqE e] {p q : Wp α} (ha : MD Φ ta p e) (hb : MD Φ tb q e) (hn : h.n ≤ 64 := by decide) : MD Φ (tOp (rEqX K) ta tb) (wBind p fun a => wBind q fun b => wPure (decide (a = b))) tBo :=
  md_op ha hb fun a b x y σ G P hx hy hp => ⟨_, hp, by
    rw [← h.eq]
    exact pd_eqD (pd_cv (h.to _ _ _ hx)) (pd_cv (h.to _ _ _ hy)) ((h.lay a).shaped hn) ((h.lay b).shaped hn)⟩
theorem md_ne [DecidableEq α] [h : EqE e] {p q : Wp α} (ha : MD Φ ta p e) (hb : MD Φ tb q e) (hn : h.n ≤ 64 := by decide) : MD Φ (tOp (rNeX K) ta tb) (wBind p fun a => wBind q fun b => wPure (!decide (a = b))) tBo :=
  md_op ha hb fun a b x y σ G P hx hy hp => ⟨_, hp, by
    rw [← h.eq]
    exact pd_neD (pd_cv (h.to _ _ _ hx)) (pd_cv (h.to _ _ _ hy)) ((h.lay a).shaped hn) ((h.lay b).shaped hn)⟩
/-! ### lists and tuples -/
theorem md_nilL : MD Φ (tLst tNil) (wPure []) (eL e) := (md_lst ma_nil (fun _ => by simp)).conv (k := fun _ => ([] : List α)) fun a G v h => ⟨h, by simp⟩
theorem md_nilT : MD Φ (tTup tNil) (wPure []) (eT e) := (md_tup ma_nil (fun _ => by simp)).conv (k := fun _ => ([] : List α)) fun a G v h => ⟨h, by simp⟩
theorem md_toL {es : γ → List Ty} {r : Wp γ} {k : γ → List α} (h : MA Φ tr r es) (he : ∀ c, es c = (k c).map e) (hl : ∀ c, (k c).length ≤ 100000) : MD Φ (tLst tr) (wBind r fun c => wPure (k c)) (eL e) :=
  (md_lst h (fun c => by rw [he, List.length_map]; exact hl c)).conv fun a G v hv => ⟨by rw [← he]; exact hv, hl a⟩
theorem md_catL {p q : Wp (List α)} (ha : MD Φ ta p (eL e)) (hb : MD Φ tb q (eL e)) : MD Φ (tOp (rAddX K) ta tb) (wBind p fun a => wBind q fun b => wG (a.length + b.length ≤ 100000) (a ++ b)) (eL e) :=
  md_op ha hb fun a b x y σ G P hx hy hp => ⟨_, hp.2, (pd_catL (pd_cv hx.1) (pd_cv hy.1) (by simpa using hp.1)).imp fun G v h => ⟨by rw [List.map_append]; exact h, by simpa using hp.1⟩⟩
theorem md_ixL {p : Wp (List α)} (ha : MD Φ ta p (eL e)) (hb : MD Φ tb n tI) : MD Φ (tOp (rIx K) ta tb) (wBind p fun a => wBind n fun i => wIx a i) e :=
  md_op ha hb fun a i x y σ G P hx hy ⟨c, h1, h2⟩ => ⟨c, h2, pd_ixLX (pd_cv hx.1) (pd_cv hy) (at_map h1)⟩
theorem md_b1 {t : TE → TE} {g : β → Ty} {o : α → β} {p : Wp α} (hF : ∀ te σ H Q, te σ H (fun x H1 => t (tC x) σ H1 Q) → t te σ H Q) (ha : MD Φ ta p e) (hr : ∀ a x σ G, (e a).p G x → PD (t (tC x)) σ G G (g (o a))) : MD Φ (t ta) (wBind p fun a => wPure (o a)) g :=
  md_1 (F := t) (hF ta) ha fun a x σ G P hx hp => ⟨_, hp, hr a x σ G hx⟩
theorem hF1 {r : List V → Hp → VK → Prop} (te : TE) (σ : St) (H : Hp) (Q : VK) (h : te σ H fun x H1 => tCB r (tCons (tC x) tNil) σ H1 Q) : tCB r (tCons te tNil) σ H Q := h
theorem md_lenL {p : Wp (List α)} (ha : MD Φ ta p (eL e)) : MD Φ (tCB (rLenX K) (tCons ta tNil)) (wBind p fun a => wPure (a.length : Int)) tI :=
  md_b1 (t := fun te => tCB (rLenX K) (tCons te tNil)) hF1 ha fun a x σ G hx => PD.is (pd_lenL (pd_cv hx.1)) (by rw [List.length_map])
theorem md_max2 (ha : MD Φ ta m tI) (hb : MD Φ tb n tI) : MD Φ (tCB rMax2 (tCons ta (tCons tb tNil))) (wBind m fun i => wBind n fun j => wPure (max i j)) tI := fun σ G H ev P Q mp k =>
  ha σ G H ev _ _ mp fun i v G1 H1 p1 s1 hv => hb σ G1 H1 s1.e _ _ p1 fun j w G2 H2 p2 s2 hw => by
    cases hv
    cases hw
    exact ⟨i, j, rfl, k _ _ G2 H2 p2 (s1.trans s2) (by show V.int _ = V.int _; congr 1; split <;> omega)⟩
theorem md_min2 (ha : MD Φ ta m tI) (hb : MD Φ tb n tI) : MD Φ (tCB rMin2 (tCons ta (tCons tb tNil))) (wBind m fun i => wBind n fun j => wPure (min i j)) tI := fun σ G H ev P Q mp k =>
  ha σ G H ev _ _ mp fun i v G1 H1 p1 s1 hv => hb σ G1 H1 s1.e _ _ p1 fun j w G2 H2 p2 s2 hw => by
    cases hv
    cases hw
    exact ⟨i, j, rfl, k _ _ G2 H2 p2 (s1.trans s2) (by show V.int _ = V.int _; congr 1; split <;> omega)⟩
/-! slices -/
/-! owned lists, read -/
theorem md_ownIx {i : Nat} {l : List α} (hi : Φ[i]? = some (.own (cL (l.map e)))) (hb : MD Φ tb n tI) : MD Φ (tOp (rIx K) (tVar i) tb) (wBind n fun j => wIx l j) e := fun σ G H ev P Q mp k => by
  obtain ⟨o, h1, _⟩ := ev.sl i _ hi
  obtain ⟨o', h1', q, u, rfl, _⟩ := ev.sl i _ hi
  refine ⟨.ref q, h1', hb σ G H ev _ _ mp fun j v G1 H1 pj s1 hv => ?_⟩
  cases hv
  obtain ⟨x, e1, e2⟩ := pj
  obtain ⟨o2, h1'', q2, u2, e3, h2, ⟨vs2, rfl, h3, h5⟩, h4⟩ := s1.e.sl i _ hi
  rw [h1'] at h1''
  cases h1''
  cases e3
  obtain ⟨v, k1, k2⟩ := at_of_all h3 (at_map (f := e) e1)
  exact .inl ⟨q, vs2, j, v, rfl, rfl, .of h2, k1, k x v G1 H1 e2 s1 k2⟩
/-! ### defs -/
/-- the slots at a def's beginning -/
theorem start_at {N : List Str} {vs : List V} {i : Nat} : (L2.start N vs)[i]? = if i < vs.length then some vs[i]? else if i < N.length then some none else none := by
  unfold L2.start
  rw [List.getElem?_append]
  simp only [List.length_map]
  split
  · rename_i h
    simp [h]
  · rename_i h
    rw [List.getElem?_replicate]
    by_cases z : i < N.length
    · rw [if_pos (by omega), if_pos z]
    · rw [if_neg (by omega), if_neg z]
theorem start_ok {ex : Addr → Prop} {N : List Str} {G H : Hp} {Φ : Sts} {φs : List Ty} {vs : List V} {n : Nat} (s : Same G H) (h : All G φs vs) (hΦ : Φ = φs.map Slot.val ++ List.replicate n .un) (hn : N.length = φs.length + n) (hex : ∀ a, ¬ ex a) : EnvOk ⟨ex, G, H, fun _ => none⟩ Φ (L2.start N vs) G H := by
  subst hΦ
  have hl := h.length
  have at_ : ∀ (i : Nat) (sl : Slot), (φs.map Slot.val ++ List.replicate n Slot.un)[i]? = some sl → (∃ φ, φs[i]? = some φ ∧ sl = .val φ) ∨ (sl = .un ∧ vs.length ≤ i ∧ i < N.length) := fun i sl hi => by
    rw [List.getElem?_append] at hi
    simp only [List.length_map] at hi
    split at hi
    · rw [List.getElem?_map] at hi
      obtain ⟨φ, h1, rfl⟩ := Option.map_eq_some_iff.mp hi
      exact .inl ⟨φ, h1, rfl⟩
    · rw [List.getElem?_replicate] at hi
      split at hi
      · cases hi
        exact .inr ⟨rfl, by omega, by omega⟩
      · cases hi
  have nm : ∀ (i : Nat) (q : Addr), ¬ MutAt (φs.map Slot.val ++ List.replicate n Slot.un) (L2.start N vs) i q := fun i q ⟨⟨sl, h1, h2⟩, _⟩ => by
    rcases at_ i sl h1 with ⟨φ, _, rfl⟩ | ⟨rfl, _⟩ <;> cases h2
  refine ⟨⟨s, by unfold L2.start; simp; omega, fun i sl hi => ?_, fun i j q h1 => absurd h1 (nm i q)⟩, same_refl _, fun _ _ _ e => e, fun _ h h' => absurd h h', fun i ψs q hi => ?_, fun a ha => absurd ha (hex a), fun i q hi => ?_, fun i P n hi => ?_⟩
  · rw [start_at]
    rcases at_ i sl hi with ⟨φ, h1, rfl⟩ | ⟨rfl, h1, h2⟩
    · obtain ⟨v, h2, h3⟩ := h.get h1
      have : i < vs.length := (List.getElem?_eq_some_iff.mp h2).1
      exact ⟨some v, by rw [if_pos this, h2], v, rfl, h3⟩
    · exact ⟨none, by rw [if_neg (by omega), if_pos h2], trivial⟩
  · rcases at_ i _ hi with ⟨φ, _, h⟩ | ⟨h, _⟩ <;> cases h
  · rcases at_ i _ hi with ⟨φ, _, h⟩ | ⟨h, _⟩ <;> cases h
  · rcases at_ i _ hi with ⟨φ, _, h⟩ | ⟨h, _⟩ <;> cases h
theorem fin_grow {G H G' H' : Hp} {ex : Addr → Prop} {tb : Addr → Option Str} (hex : ∀ a, ¬ ex a) (f : Fin ⟨ex, G, H, tb⟩ G' H') : Grow G H G' H' := ⟨f.g, fun a o e => f.b a o (hex a) e, f.L.s, f.f⟩
/-- a def without a pool: its promise from its mirror -/
theorem pure_of {ρ : Type} {es : α → List Ty} {er : ρ → Ty} {k : α → Wp ρ} {t : TS} {N : List Str} {Φ : α → Sts} {n : Nat} (hΦ : ∀ a, Φ a = (es a).map Slot.val ++ List.replicate n .un) (hn : ∀ a, N.length = (es a).length + n)
    (h : ∀ c D a (R : ρ → Prop), RtOk c D.rt R er → NxS c t D (Φ a) (k a R)) : ∀ vs H (Q : VK) (E : XK), spM es er k vs H Q E → t { nx := fun _ H' => Q .non H', rt := Q } (L2.start N vs) H := by
  rintro vs H Q E ⟨G, a, R, s, hv, hk, hq⟩
  exact h ⟨fun _ => False, G, H, fun _ => none⟩ _ a R (fun r v G' H' pr f hv => hq r v G' H' pr (fin_grow (fun _ x => x) f) hv) _ G H (start_ok s hv (hΦ a) (hn a) fun _ x => x) hk
theorem len_of {ρ : Type} {es : α → List Ty} {er : ρ → Ty} {k : α → Wp ρ} {n : Nat} (h : ∀ a, (es a).length = n) : ∀ vs H Q E, spM es er k vs H Q E → vs.length = n := by
  rintro vs H Q E ⟨G, a, R, s, hv, _⟩
  rw [hv.length]
  exact h a
end
end BR
/-! Own layer: regions, draws, beside their plain mirrors. -/
namespace BR
open PySem PySem.Spec PyProof.Rows L2
section
variable {K : Fg} {c : Cn} {Φ : Sts} {ta tb te tl tc : TE} {tr : TA} {α β γ : Type} {m n : Wp Int} {e : α → Ty} {f : β → Ty} {D : Ends} {E : XK} {p q : Wp Reg}
/-! operators -/
/-! draws that are told by conditions -/
/-! the script -/
def tScr (K : Fg) (ns : List Int) : Ty := ⟨fun G v => ∃ a, v = .ref a ∧ SqL K G a (ns.map V.int), fun _ _ _ s ⟨a, e, h⟩ => ⟨a, e, sqL_mono s h⟩⟩
theorem md_lenScr {r : Wp (List Int)} (h : MD Φ te r (tScr K)) : MD Φ (tCB (rLenX K) (tCons te tNil)) (wBind r fun ns => wPure (ns.length : Int)) tI := fun σ G H ev P Q mp k =>
  h σ G H ev _ _ mp fun ns v G1 H1 pa s1 hv => by
    obtain ⟨a, rfl, hs⟩ := hv
    exact ⟨.ref a, (ns.map V.int).length, rfl, .inl ⟨_, sqL_mono s1.e.s hs, rfl⟩, k _ _ G1 H1 pa s1 (by rw [List.length_map]; rfl)⟩
/-- pool = _law_pool(script, k) -/
theorem EnvOk.newPool {i : Nat} {q : Addr} {x y : Int} {σ : St} {G H H' : Hp} (ev : EnvOk c Φ σ G H) (hq : H q = none) (s : Same H H') (hh : H' q = some (.lst [.int x, .int y])) (po : PoolOk x y) : EnvOk c (Φ.set i .pool) (σ.set i (some (.ref q))) G H' := by
  have st := ev.step (step_rest ev.L s)
  have gq : G q = none := ev.L.s.free hq
  have nex : ¬ c.ex q := fun z => by
    obtain ⟨u, h⟩ := (ev.k q z).2.at
    rw [hq] at h
    cases h
  have h0 : c.H0 q = none := by
    cases z : c.H0 q with
    | none => rfl
    | some o =>
      have := ev.b q o nex z
      rw [hq] at this
      cases this
  have mm : ∀ (j : Nat) (p : Addr), MutAt (Φ.set i .pool) (σ.set i (some (.ref q))) j p → (j = i ∧ p = q) ∨ (j ≠ i ∧ MutAt Φ σ j p) := by
    rintro j p ⟨⟨s, h1, h2⟩, h3⟩
    rcases set_at h1 with ⟨rfl, rfl, _⟩ | ⟨n, h1⟩
    · rcases set_at h3 with ⟨_, z, _⟩ | ⟨n, _⟩
      · cases z
        exact .inl ⟨rfl, rfl⟩
      · exact absurd rfl n
    · rcases set_at h3 with ⟨z, _⟩ | ⟨_, h3⟩
      · exact absurd z n
      · exact .inr ⟨fun z => n z.symm, ⟨s, h1, h2⟩, h3⟩
  have mq : ∀ {p}, Muts Φ σ p → p ≠ q := fun h z => by
    obtain ⟨⟨vs, h1, _⟩, _⟩ := ev.L.mut h
    subst z
    rw [hq] at h1
    cases h1
  refine ⟨⟨st.L.s, by simp [ev.L.l], fun j s h => ?_, fun x y p h1 h2 => ?_⟩, st.g, st.b, st.f, fun j ψs p h1 h2 => ?_, st.k, fun j p h1 h2 => ?_, fun j P n h1 => ?_⟩
  · rcases set_at h with ⟨rfl, rfl, hl⟩ | ⟨n, h⟩
    · exact ⟨_, by rw [List.getElem?_set]; simp [ev.L.l, hl], q, x, y, rfl, hh, po, gq⟩
    · obtain ⟨o, h1, h2⟩ := st.L.sl j s h
      exact ⟨o, by rw [List.getElem?_set]; simp [n, h1], h2⟩
  · rcases mm x p h1 with ⟨z1, z2⟩ | ⟨nx, k1⟩
    · rcases mm y p h2 with ⟨z3, _⟩ | ⟨ny, k2⟩
      · omega
      · exact absurd z2 (mq ⟨y, k2⟩)
    · rcases mm y p h2 with ⟨_, z4⟩ | ⟨ny, k2⟩
      · exact absurd z4 (mq ⟨x, k1⟩)
      · exact ev.L.nd x y p k1 k2
  · rcases set_at h1 with ⟨rfl, z, _⟩ | ⟨n, h1⟩
    · cases z
    · rcases set_at h2 with ⟨w, _⟩ | ⟨_, h2⟩
      · exact absurd w n
      · exact st.m j ψs p h1 h2
  · rcases set_at h1 with ⟨rfl, z, _⟩ | ⟨n, h1⟩
    · rcases set_at h2 with ⟨_, w, _⟩ | ⟨n, _⟩
      · cases w
        exact .inr ⟨h0, nex⟩
      · exact absurd rfl n
    · rcases set_at h2 with ⟨w, _⟩ | ⟨_, h2⟩
      · exact absurd w n
      · exact st.r j p h1 h2
  · rcases set_at h1 with ⟨rfl, z, _⟩ | ⟨n, h1⟩
    · cases z
    · exact st.t j P _ h1
theorem nx_pool {i : Nat} {M : Prop} {r : Wp (List Int)} (h : MD Φ te r (tScr K)) (hb : MD Φ tb n tI) (k : NxC c D (Φ.set i .pool) M) :
    NxS c (tAsg (tCall (sp_l_pool K) [] E (tCons te (tCons tb tNil))) (gName i)) D Φ (wRun r fun _ => n fun j => (0 ≤ j ∧ j ≤ 100) ∧ M) := fun σ G H ev mp =>
  h σ G H ev.L _ _ mp fun ns v G1 H1 pa s1 hv => hb σ G1 H1 s1.e _ _ pa fun j w G2 H2 pb s2 hw => by
    cases hw
    obtain ⟨a, rfl, hs⟩ := hv
    have ev2 := (ev.step s1).step s2
    exact ⟨a, ns, j, rfl, sqL_mono ev2.L.s (sqL_mono s2.g hs), pb.1.1, pb.1.2, fun p x y H' po hp hS hh => k _ G2 H' (ev2.newPool hp hS hh po) pb.2⟩
end
end BR
/-! Law k06. -/
namespace BR
open PySem PySem.Spec PyProof.Rows L2
def sp_l_changed : Sp := spK (T := List Bx) fun φs C φ => ∃ (bs : List Bx) (xs ys : List Int), AxOk xs ∧ AxOk ys ∧ BoxesOk xs ys 5 bs ∧ φs = [tL (bs.map tB4), tL (xs.map tI), tL (ys.map tI)] ∧ (∀ bs, BoxesOk xs ys 12 bs → C bs) ∧ φ = fun bs => tL (bs.map tB4)
def sp_law (K : Fg) : Sp := fun vs H Q _ => ∃ (a : Addr) (ns : List Int), vs = [.ref a] ∧ SqL K H a (ns.map V.int) ∧ ns.length ≤ 63 ∧ ∀ H', Q (.bl true) H'
def t_law (K : Fg) : TS :=
  (tSeq (tFor (iRng1 (tCons (tCB rMax2 (tCons (tC (.int 1)) (tCons (tCB rMin2 (tCons (tCB (rLenX K) (tCons (tVar 0) tNil)) (tCons (tC (.int 4)) tNil))) tNil))) tNil)) (gName 1)
  (tSeq (tAsg (tCall (sp_l_pool K) [] E0 (tCons (tVar 0) (tCons (tVar 1) tNil))) (gName 2))
  (tSeq (tPar 3 4 (tCons (tCall sp_l_lines [] E0 (tCons (tVar 2) (tCons (tOp (rAddX K) (tC (.int 2)) (tCall sp_l_take [] E0 (tCons (tVar 2) (tCons (tC (.int 6)) tNil)))) tNil))) (tCons (tCall sp_l_lines [] E0 (tCons (tVar 2) (tCons (tOp (rAddX K) (tC (.int 2)) (tCall sp_l_take [] E0 (tCons (tVar 2) (tCons (tC (.int 6)) tNil)))) tNil))) tNil)))
  (tSeq (tFor (iRng1 (tCons (tC (.int 4)) tNil)) (gName 5)
  (tSeq (tAsg (tCall sp_l_boxes [] E0 (tCons (tVar 2) (tCons (tVar 3) (tCons (tVar 4) (tCons (tC (.int 5)) tNil))))) (gName 6))
  (tSeq (tPar 7 8 (tCons (tCall sp_l_changed [] E0 (tCons (tVar 2) (tCons (tVar 6) (tCons (tVar 3) (tCons (tVar 4) tNil))))) (tCons (tLst (tCons (tOp (rEqX K) (tCall sp_l_take [] E0 (tCons (tVar 2) (tCons (tC (.int 8)) tNil))) (tC (.int 0))) (tCons (tOp (rEqX K) (tCall sp_l_take [] E0 (tCons (tVar 2) (tCons (tC (.int 8)) tNil))) (tC (.int 0))) tNil))) tNil)))
  (tSeq (tPar 9 10 (tCons (tCall (sp_l_made K) [] E0 (tCons (tVar 6) (tCons (tOp (rIx K) (tVar 8) (tC (.int 0))) tNil))) (tCons (tCall (sp_l_made K) [] E0 (tCons (tVar 7) (tCons (tOp (rIx K) (tVar 8) (tC (.int 1))) tNil))) tNil)))
  (tSeq (tAsg (tLst tNil) (gName 11))
  (tSeq (tFor (iSeq K (tCall sp_l_probes [] E0 (tCons (tVar 3) (tCons (tVar 4) tNil)))) (gName 12)
  (tIfS (tTest (tOp (rNeX K) (tOp (rNeX K) (tCall sp_l_has [] E0 (tCons (tVar 6) (tCons (tVar 12) tNil))) (tOp (rIx K) (tVar 8) (tC (.int 0)))) (tOp (rNeX K) (tCall sp_l_has [] E0 (tCons (tVar 7) (tCons (tVar 12) tNil))) (tOp (rIx K) (tVar 8) (tC (.int 1))))))
  (tDrop (tBM K "list" rAppend (tVar 11) (tCons (tVar 12) tNil)))
  tNext))
  (tSeq (tAsg (tCall (sp_separating K) [] E0 (tCons (tVar 9) (tCons (tVar 10) tNil))) (gName 13))
  (tSeq (tIfS (tOr (tTest (tOp (rNeX K) (tOp (rEqO K (RG K) (sp_eq K) E0) (tVar 9) (tVar 10)) (tOp (rEqX K) (tVar 11) (tLst tNil)))) (tOr (tTest (tOp (rNeX K) (tOp (rNeO K (RG K) (sp_eq K) E0) (tVar 9) (tVar 10)) (tOp (rNeX K) (tVar 11) (tLst tNil)))) (tTest (tOp (rNeX K) (tOp rIsN (tVar 13) (tC .non)) (tOp (rEqX K) (tVar 11) (tLst tNil))))))
  (tRet (tC (.bl false)))
  tNext)
  (tIfS (tTest (tOp rNotN (tVar 13) (tC .non)))
  (tSeq (tAsg (tLst (tCons (tOp (rNeX K) (tCall sp_l_has [] E0 (tCons (tVar 6) (tCons (tVar 13) tNil))) (tOp (rIx K) (tVar 8) (tC (.int 0)))) (tCons (tOp (rNeX K) (tCall sp_l_has [] E0 (tCons (tVar 7) (tCons (tVar 13) tNil))) (tOp (rIx K) (tVar 8) (tC (.int 1)))) tNil))) (gName 14))
  (tIfS (tOr (tTest (tOp (rEqX K) (tOp (rIx K) (tVar 14) (tC (.int 0))) (tOp (rIx K) (tVar 14) (tC (.int 1))))) (tTest (tOp (rNeX K) (tLst (tCons (tOp (rInO (RG K) (sp_contains K) E0) (tVar 13) (tVar 9)) (tCons (tOp (rInO (RG K) (sp_contains K) E0) (tVar 13) (tVar 10)) tNil))) (tVar 14))))
  (tRet (tC (.bl false)))
  tNext))
  tNext)))))))))
  (tIfS (tOr (tTest (tOp (rEqO K (RG K) (sp_eq K) E0) (tVar 9) (tVar 6))) (tOr (tTest (tOp (rEqO K (RG K) (sp_eq K) E0) (tVar 9) (tPropR (RG K) (sp_slabs K) E0 (tVar 9)))) (tTest (tOp (rEqO K (RG K) (sp_eq K) E0) (tVar 9) (tCB (rReprO (RG K) (sp_repr K) E0) (tCons (tVar 9) tNil))))))
  (tRet (tC (.bl false)))
  tNext)))))
  (tRet (tC (.bl true))))
section
variable {K : Fg}
end
section
variable {K : Fg}
structure LnOk (L : List Int) : Prop where
  a : AxOk L
  m : L.length ≤ 7
  b : ∀ x ∈ L, x.natAbs < 2 ^ 120
end
end BR
/-! Own layer: tuples by places, None, methods of regions; a law's own def. -/
namespace BR
open PySem PySem.Spec PyProof.Rows L2
/-! ### x.m(..) -/
section
variable {X : Cx} {CX : CXT} {k : Nat} {C f : Addr} {m : Str} {sp : Sp} {E : XK} {o e : Expr} {es : List Expr} {ta : TE} {t : TA} {apos pos : Pos}
end
class NN {α : Type} (e : α → Ty) : Prop where
  h : ∀ a G v, (e a).p G v → v ≠ .non
instance : NN tI := ⟨fun a G v h => by cases h; exact fun z => nomatch z⟩
instance : NN tBo := ⟨fun a G v h => by cases h; exact fun z => nomatch z⟩
instance : NN tSt := ⟨fun a G v h => by cases h; exact fun z => nomatch z⟩
instance {α : Type} {e : α → Ty} : NN (eL e) := ⟨fun a G v h => by obtain ⟨⟨p, vs, rfl, _⟩, _⟩ := h; exact fun z => nomatch z⟩
instance {α : Type} {e : α → Ty} : NN (eT e) := ⟨fun a G v h => by obtain ⟨⟨p, vs, rfl, _⟩, _⟩ := h; exact fun z => nomatch z⟩
instance {α β : Type} {e : α → Ty} {f : β → Ty} : NN (e2 e f) := ⟨fun a G v h => by obtain ⟨p, vs, rfl, _⟩ := h; exact fun z => nomatch z⟩
instance {α β γ : Type} {e : α → Ty} {f : β → Ty} {g : γ → Ty} : NN (e3 e f g) := ⟨fun a G v h => by obtain ⟨p, vs, rfl, _⟩ := h; exact fun z => nomatch z⟩
instance {α β γ δ : Type} {e : α → Ty} {f : β → Ty} {g : γ → Ty} {i : δ → Ty} : NN (e4 e f g i) := ⟨fun a G v h => by obtain ⟨p, vs, rfl, _⟩ := h; exact fun z => nomatch z⟩
instance {K : Fg} : NN (tReg K) := ⟨fun a G v h => by obtain ⟨p, dx, fv, rfl, _⟩ := h; exact fun z => nomatch z⟩
class TyE {α : Type} (e : α → Ty) where
  cls : String
  h : ∀ (K : Fg) a G v, (e a).p G v → TyX K G v (.type cls)
instance : TyE tI := ⟨"int", fun K a G v h => by cases h; exact .base (.int a)⟩
instance : TyE tBo := ⟨"bool", fun K a G v h => by cases h; exact .base (.bl a)⟩
instance : TyE tSt := ⟨"str", fun K a G v h => by cases h; exact .base (.str a)⟩
instance : TyE eU := ⟨"NoneType", fun K a G v h => by cases h; exact .base .non⟩
instance {α : Type} {e : α → Ty} : TyE (eL e) := ⟨"list", fun K a G v h => by obtain ⟨⟨p, vs, rfl, h, _⟩, _⟩ := h; exact .base (.lst h)⟩
instance {α : Type} {e : α → Ty} : TyE (eT e) := ⟨"tuple", fun K a G v h => by obtain ⟨⟨p, vs, rfl, h, _⟩, _⟩ := h; exact .base (.tup h)⟩
instance {α β : Type} {e : α → Ty} {f : β → Ty} : TyE (e2 e f) := ⟨"tuple", fun K a G v h => by obtain ⟨p, vs, rfl, h, _⟩ := h; exact .base (.tup h)⟩
instance {α β γ : Type} {e : α → Ty} {f : β → Ty} {g : γ → Ty} : TyE (e3 e f g) := ⟨"tuple", fun K a G v h => by obtain ⟨p, vs, rfl, h, _⟩ := h; exact .base (.tup h)⟩
instance {α β γ δ : Type} {e : α → Ty} {f : β → Ty} {g : γ → Ty} {i : δ → Ty} : TyE (e4 e f g i) := ⟨"tuple", fun K a G v h => by obtain ⟨p, vs, rfl, h, _⟩ := h; exact .base (.tup h)⟩
section
variable {K : Fg} {c : Cn} {Φ : Sts} {ta tb te tl tc td : TE} {tr : TA} {α β γ δ : Type} {m n : Wp Int} {e : α → Ty} {f : β → Ty} {g : γ → Ty} {h : δ → Ty} {D : Ends} {E : XK} {p q : Wp Reg} {wa : Wp α} {wb : Wp β} {wc : Wp γ} {wd : Wp δ}
theorem md_ma {es : α → List Ty} {g : γ → Ty} {k : α → γ} {T : List V → HO} {tf : TE} (h : MA Φ tr wa es) (ht : ∀ σ H Q, (tr σ H fun vs H1 => vs.length ≤ sizeLine ∧ ∀ q, H1 q = none → Q (.ref q) (upd H1 q (T vs))) → tf σ H Q) (hl : ∀ a, (es a).length ≤ 100000) (hg : ∀ a G q vs, G q = some (T vs) → All G (es a) vs → (g (k a)).p G (.ref q)) :
    MD Φ tf (wBind wa fun a => wPure (k a)) g := fun σ G H ev P Q mp q =>
  ht σ H Q (h σ G H ev _ _ mp fun a vs G1 H1 pa s1 hvs => ⟨sz_of (by rw [hvs.length]; exact hl a), fun p hp =>
    have g2 : Grow G1 H1 (upd G1 p (T vs)) (upd H1 p (T vs)) := .new s1.e.s hp
    q _ (.ref p) _ _ pa (s1.trans (.grow s1.e g2)) (hg a _ _ vs upd_same (hvs.mono g2.g))⟩)
theorem md_t2 (h1 : MD Φ ta wa e) (h2 : MD Φ tb wb f) : MD Φ (tTup (tCons ta (tCons tb tNil))) (wBind wa fun a => wBind wb fun b => wPure (a, b)) (e2 e f) :=
  md_ma (wa := wCons wa (wCons wb wNil)) (k := fun z => (z.1, z.2.1)) (T := .tup) (ma_cons h1 (ma_cons h2 ma_nil)) (fun _ _ _ h => h) (fun _ => by simp) fun a G q vs h k => ⟨q, vs, rfl, h, k⟩
/-! None -/
theorem md_nonU : MD Φ (tC .non) (wPure ()) eU := md_c fun _ => rfl
theorem MD.some (h : MD Φ te wa e) : MD Φ te (wBind wa fun a => wPure (some a)) (eO e) := h.conv fun _ _ _ h => h
/-! ### regions, further -/
/-- a law's own def -/
theorem pure_law_of {t : TS} {N : List Str} {k : List Int → (Bool → Prop) → Prop} {n : Nat} (hn : N.length = n + 1) (h : ∀ c D ns (R : Bool → Prop), RtOk c D.rt R tBo → NxS c t D (.val (tScr K ns) :: List.replicate n .un) (k ns R)) (hk : ∀ ns : List Int, ns.length ≤ 63 → k ns (· = true)) :
    ∀ vs H (Q : VK) (E : XK), sp_law K vs H Q E → t { nx := fun _ H' => Q .non H', rt := Q } (L2.start N vs) H := by
  rintro vs H Q E ⟨a, ns, rfl, hs, hl, q⟩
  refine h ⟨fun _ => False, H, H, fun _ => none⟩ _ ns (· = true) (fun b v G' H' hb _ hv => ?_) _ H H (start_ok (φs := [tScr K ns]) (n := n) (same_refl H) (.cons ⟨a, rfl, hs⟩ .nil) rfl (by simp; omega) fun _ x => x) (hk ns hl)
  subst hb
  cases hv
  exact q H'
end
end BR
/-! Own layer: calls of the program's defs on forms, regions made, lists taken apart. -/
namespace BR
open PySem PySem.Spec PyProof.Rows L2
section
variable {K : Fg} {c : Cn} {Φ Ψ : Sts} {ta tb te tl tc td : TE} {tr : TA} {α β γ δ : Type} {m n : Wp Int} {e : α → Ty} {f : β → Ty} {g : γ → Ty} {h : δ → Ty} {D : Ends} {E : XK} {p q : Wp Reg} {wa : Wp α} {wb : Wp β} {wc : Wp γ} {wd : Wp δ}
/-! lists taken apart -/
/-! fields, regions made -/
/-! calls of defs whose promises are told by types -/
theorem nx_norm {t : TS} {M : Prop} (h : NxS c t D Ψ M) (e : Φ = Ψ) : NxS c t D Φ M := e ▸ h
end
end BR
namespace BR
open PySem PySem.Spec PyProof.Rows L2
section
variable {K : Fg}

end
end BR
/-! Growing and shrinking forms and regions: what they have. -/
namespace BR
open PySem PySem.Spec PyProof.Rows L2
/-! ### boxes of a form -/
def InB (b : Bx) (u v : Int) : Prop := b.1 ≤ u ∧ u < b.2.2.1 ∧ b.2.1 ≤ v ∧ v < b.2.2.2
theorem inB_iff {b : Bx} {x y : Int} : inB b x y = true ↔ InB b x y := by
  unfold inB InB
  simp only [Bool.and_eq_true, decide_eq_true_eq]
  constructor
  · rintro ⟨⟨h1, h2⟩, h3, h4⟩
    exact ⟨h1, h2, h3, h4⟩
  · rintro ⟨h1, h2, h3, h4⟩
    exact ⟨⟨h1, h2⟩, h3, h4⟩
theorem mem_boxes {f : List Sl} {c : Bx} : c ∈ boxesOf f ↔ ∃ s ∈ f, ∃ p ∈ s.2.2, c = (s.1, p.1, s.2.1, p.2) := by
  unfold boxesOf
  simp only [List.mem_flatMap, List.mem_map]
  constructor
  · rintro ⟨s, hs, p, hp, rfl⟩
    exact ⟨s, hs, p, hp, rfl⟩
  · rintro ⟨s, hs, p, hp, rfl⟩
    exact ⟨s, hs, p, hp, rfl⟩
theorem boxes_ok {f : List Sl} (h : FmOk f) : ∀ c ∈ boxesOf f, bxOk c := fun c hc => by
  obtain ⟨s, hs, p, hp, rfl⟩ := mem_boxes.mp hc
  obtain ⟨h1, h2, h3⟩ := h.w s hs
  exact ⟨h1, h3.w p hp⟩
theorem cv_iff {f : List Sl} (h : FmOk f) {x y : Int} : cv f x y = true ↔ ∃ c ∈ boxesOf f, InB c x y := by
  unfold cv
  constructor
  · intro hc
    obtain ⟨p, hp, h1, h2⟩ := cov_iff.mp hc
    have ne : spansAt f x ≠ [] := by
      intro z
      rw [z] at hp
      cases hp
    obtain ⟨s, hs, hh, e⟩ := spansAt_mem ne
    rw [e] at hp
    exact ⟨_, mem_boxes.mpr ⟨s, hs, p, hp, rfl⟩, hh.1, hh.2, h1, h2⟩
  · rintro ⟨c, hc, h1, h2, h3, h4⟩
    obtain ⟨s, hs, p, hp, rfl⟩ := mem_boxes.mp hc
    rw [spansAt_hit h.chn hs ⟨h1, h2⟩]
    exact cov_iff.mpr ⟨p, hp, h3, h4⟩
/-! ### grown -/
theorem added_iff {c b : Bx} (hc : bxOk c) (hb : bxOk b) {x y : Int} : InB (addedBox c b) x y ↔ ∃ u v, InB b u v ∧ InB c (x - u) (y - v) := by
  unfold InB addedBox bxOk at *
  dsimp only
  constructor
  · rintro ⟨h1, h2, h3, h4⟩
    refine ⟨max b.1 (x - c.2.2.1 + 1), max b.2.1 (y - c.2.2.2 + 1), ?_, ?_⟩ <;> omega
  · rintro ⟨u, v, ⟨h1, h2, h3, h4⟩, h5, h6, h7, h8⟩
    omega
theorem added_ok {c b : Bx} (hc : bxOk c) (hb : bxOk b) : bxOk (addedBox c b) := by
  unfold addedBox bxOk at *
  dsimp only
  omega
theorem opp_ok {b : Bx} (hb : bxOk b) : bxOk (opposite b) := by
  unfold opposite bxOk at *
  dsimp only
  omega
theorem opp_iff {b : Bx} {u v : Int} : InB (opposite b) u v ↔ InB b (-u) (-v) := by
  unfold InB opposite
  dsimp only
  omega
theorem grown_ok {f : List Sl} {b : Bx} (h : FmOk f) (hb : bxOk b) : FmOk (grown f b) ∧ ∀ x y, cv (grown f b) x y = true ↔ ∃ u v, InB b u v ∧ cv f (x - u) (y - v) = true := by
  have hz : ∀ c ∈ (boxesOf f).map fun o => addedBox o b, c.1 < c.2.2.1 ∧ c.2.1 < c.2.2.2 := fun c hc => by
    obtain ⟨o, ho, rfl⟩ := List.mem_map.mp hc
    exact added_ok (boxes_ok h o ho) hb
  obtain ⟨h1, h2⟩ := slabsOf_ok hz
  refine ⟨h1, fun x y => ?_⟩
  unfold grown
  rw [h2, List.any_eq_true]
  constructor
  · rintro ⟨c, hc, hi⟩
    obtain ⟨o, ho, rfl⟩ := List.mem_map.mp hc
    obtain ⟨u, v, k1, k2⟩ := (added_iff (boxes_ok h o ho) hb).mp (inB_iff.mp hi)
    exact ⟨u, v, k1, (cv_iff h).mpr ⟨o, ho, k2⟩⟩
  · rintro ⟨u, v, k1, k2⟩
    obtain ⟨o, ho, k3⟩ := (cv_iff h).mp k2
    exact ⟨_, List.mem_map.mpr ⟨o, ho, rfl⟩, inB_iff.mpr ((added_iff (boxes_ok h o ho) hb).mpr ⟨u, v, k1, k3⟩)⟩
/-! ### the frame -/
theorem head_le : ∀ {sp : List Pr}, SpOk sp → ∀ p ∈ sp, (sp.headD (0, 0)).1 ≤ p.1 ∧ p.2 ≤ (sp.getLastD (0, 0)).2
  | [], _, p, hp => nomatch hp
  | q :: sp, h, p, hp => by
    have hs := List.pairwise_cons.mp h.s
    have h' : SpOk sp := ⟨fun p hp => h.w p (by simp [hp]), hs.2⟩
    have hq := h.w q (by simp)
    rcases List.mem_cons.mp hp with rfl | hp
    · refine ⟨Int.le_refl _, ?_⟩
      cases sp with
      | nil => exact Int.le_refl _
      | cons r sp =>
        have hr := hs.1 r (by simp)
        have := (head_le h' r (by simp)).2
        have hw := h'.w r (by simp)
        simp only [List.getLastD_cons] at *
        omega
    · have k1 := hs.1 p hp
      have k2 := (head_le h' p hp).2
      have k3 := h'.w p hp
      refine ⟨by simp; omega, ?_⟩
      cases sp with
      | nil => cases hp
      | cons r sp =>
        simp only [List.getLastD_cons] at *
        exact k2
theorem slab_le : ∀ {f : List Sl}, Chn f → ∀ s ∈ f, (f.headD (0, 0, [])).1 ≤ s.1 ∧ s.2.1 ≤ (f.getLastD (0, 0, [])).2.1
  | [], _, p, hp => nomatch hp
  | q :: sp, h, p, hp => by
    have hs := List.pairwise_cons.mp h.s
    have h' : Chn sp := ⟨fun p hp => h.w p (by simp [hp]), hs.2⟩
    have hq := h.w q (by simp)
    rcases List.mem_cons.mp hp with rfl | hp
    · refine ⟨Int.le_refl _, ?_⟩
      cases sp with
      | nil => exact Int.le_refl _
      | cons r sp =>
        have hr := hs.1 r (by simp)
        have := (slab_le h' r (by simp)).2
        have hw := h'.w r (by simp)
        simp only [List.getLastD_cons] at *
        omega
    · have k1 := hs.1 p hp
      have k2 := (slab_le h' p hp).2
      have k3 := h'.w p hp
      refine ⟨by simp; omega, ?_⟩
      cases sp with
      | nil => cases hp
      | cons r sp =>
        simp only [List.getLastD_cons] at *
        exact k2
theorem frame_in {f : List Sl} (h : FmOk f) (hn : f ≠ []) {x y : Int} (hc : cv f x y = true) : InB ((frameOf f).getD (0, 0, 0, 0)) x y := by
  unfold frameOf
  rw [if_neg hn]
  obtain ⟨c, hc, h1, h2, h3, h4⟩ := (cv_iff h).mp hc
  obtain ⟨s, hs, p, hp, rfl⟩ := mem_boxes.mp hc
  dsimp only at h1 h2 h3 h4
  have k1 := slab_le h.chn s hs
  have k2 := head_le (h.w s hs).2.2 p hp
  have k3 := lMin_le (List.mem_map.mpr ⟨s, hs, rfl⟩ : (s.2.2.headD (0, 0)).1 ∈ f.map fun s => (s.2.2.headD (0, 0)).1)
  have k4 := le_lMax (List.mem_map.mpr ⟨s, hs, rfl⟩ : (s.2.2.getLastD (0, 0)).2 ∈ f.map fun s => (s.2.2.getLastD (0, 0)).2)
  unfold InB
  simp only [Option.getD_some]
  omega
end BR
/-! Shrunk forms; grown, shrunk and shifted regions; how great they are. -/
namespace BR
open PySem PySem.Spec PyProof.Rows L2
theorem cv_nil (x y : Int) : cv [] x y = false := rfl
theorem cv_ex {f : List Sl} (h : FmOk f) (hn : f ≠ []) : ∃ x y, cv f x y = true := by
  cases f with
  | nil => exact absurd rfl hn
  | cons s f =>
    obtain ⟨h1, h2, h3⟩ := h.w s (by simp)
    cases e : s.2.2 with
    | nil => exact absurd e h2
    | cons p sp =>
      have hp := h3.w p (by rw [e]; simp)
      exact ⟨s.1, p.1, (cv_iff h).mpr ⟨_, mem_boxes.mpr ⟨s, by simp, p, by rw [e]; simp, rfl⟩, Int.le_refl _, h1, Int.le_refl _, hp⟩⟩
theorem corner_iff {b : Bx} {u v : Int} : InB (0 - b.1, 0 - b.2.1, 1 - b.1, 1 - b.2.1) u v ↔ u = -b.1 ∧ v = -b.2.1 := by
  unfold InB
  dsimp only
  omega
theorem corner_ok (b : Bx) : bxOk (0 - b.1, 0 - b.2.1, 1 - b.1, 1 - b.2.1) := by
  unfold bxOk
  dsimp only
  omega
theorem places_ok {f : List Sl} {b : Bx} (h : FmOk f) : FmOk (grown f (0 - b.1, 0 - b.2.1, 1 - b.1, 1 - b.2.1)) ∧ ∀ x y, cv (grown f (0 - b.1, 0 - b.2.1, 1 - b.1, 1 - b.2.1)) x y = true ↔ cv f (x + b.1) (y + b.2.1) = true := by
  obtain ⟨h1, h2⟩ := grown_ok h (corner_ok b)
  refine ⟨h1, fun x y => ?_⟩
  rw [h2]
  constructor
  · rintro ⟨u, v, k1, k2⟩
    obtain ⟨rfl, rfl⟩ := corner_iff.mp k1
    rw [Int.sub_neg, Int.sub_neg] at k2
    exact k2
  · intro k
    exact ⟨-b.1, -b.2.1, corner_iff.mpr ⟨rfl, rfl⟩, by rw [Int.sub_neg, Int.sub_neg]; exact k⟩
theorem places_ne {f : List Sl} {b : Bx} (h : FmOk f) (hn : f ≠ []) : grown f (0 - b.1, 0 - b.2.1, 1 - b.1, 1 - b.2.1) ≠ [] := fun z => by
  obtain ⟨x, y, hc⟩ := cv_ex h hn
  have := ((places_ok (b := b) h).2 (x - b.1) (y - b.2.1)).mpr (by rw [Int.sub_add_cancel, Int.sub_add_cancel]; exact hc)
  rw [z, cv_nil] at this
  cases this
theorem one_ok {c : Bx} (hc : bxOk c) : FmOk (slabsOf [c]) ∧ ∀ x y, cv (slabsOf [c]) x y = true ↔ InB c x y := by
  obtain ⟨h1, h2⟩ := slabsOf_ok (bs := [c]) (fun b hb => by rw [List.mem_singleton.mp hb]; exact hc)
  exact ⟨h1, fun x y => by rw [h2]; simp only [List.any_cons, List.any_nil, Bool.or_false]; exact inB_iff⟩
theorem frame_ok {f : List Sl} (h : FmOk f) (hn : f ≠ []) : bxOk ((frameOf f).getD (0, 0, 0, 0)) := by
  obtain ⟨x, y, hc⟩ := cv_ex h hn
  obtain ⟨h1, h2, h3, h4⟩ := frame_in h hn hc
  exact ⟨by omega, by omega⟩
theorem shrunk_nil (b : Bx) : shrunk [] b = [] := by
  unfold shrunk
  rw [if_pos rfl]
theorem shrunk_eq {f : List Sl} (hn : f ≠ []) (b : Bx) : shrunk f b = mixed (grown f (0 - b.1, 0 - b.2.1, 1 - b.1, 1 - b.2.1)) (grown (mixed (slabsOf [addedBox ((frameOf (grown f (0 - b.1, 0 - b.2.1, 1 - b.1, 1 - b.2.1))).getD (0, 0, 0, 0)) b]) f .less) (opposite b)) .less := by
  unfold shrunk
  rw [if_neg hn]
theorem shrunk_ok {f : List Sl} {b : Bx} (h : FmOk f) (hb : bxOk b) : FmOk (shrunk f b) ∧ ∀ x y, cv (shrunk f b) x y = true ↔ ∀ u v, InB b u v → cv f (x + u) (y + v) = true := by
  by_cases hn : f = []
  · subst hn
    rw [shrunk_nil]
    refine ⟨FmOk.nil, fun x y => ?_⟩
    rw [cv_nil]
    constructor
    · intro z
      cases z
    · intro z
      have := z b.1 b.2.1 ⟨Int.le_refl _, hb.1, Int.le_refl _, hb.2⟩
      rw [cv_nil] at this
      cases this
  · rw [shrunk_eq hn]
    obtain ⟨p1, p2⟩ := places_ok (b := b) h
    have pn := places_ne (b := b) h hn
    generalize grown f (0 - b.1, 0 - b.2.1, 1 - b.1, 1 - b.2.1) = P at p1 p2 pn
    have fo := frame_ok p1 pn
    have fi := fun {x y} => frame_in p1 pn (x := x) (y := y)
    generalize (frameOf P).getD (0, 0, 0, 0) = fr at fo fi
    obtain ⟨a1, a2⟩ := one_ok (added_ok fo hb)
    obtain ⟨m1, m2⟩ := mixed_ok (one := slabsOf [addedBox fr b]) (other := f) (w := .less)
    generalize mixed (slabsOf [addedBox fr b]) f .less = M at m1 m2
    obtain ⟨g1, g2⟩ := grown_ok m1 (opp_ok hb)
    obtain ⟨r1, r2⟩ := mixed_ok (one := P) (other := grown M (opposite b)) (w := .less)
    refine ⟨r1, fun x y => ?_⟩
    rw [r2]
    unfold wanted
    simp only [Bool.and_eq_true, Bool.not_eq_true']
    have mm : ∀ x y, cv M x y = true ↔ InB (addedBox fr b) x y ∧ cv f x y = false := fun x y => by
      rw [m2]
      unfold wanted
      simp only [Bool.and_eq_true, Bool.not_eq_true']
      rw [a2]
    constructor
    · rintro ⟨h1, h2⟩ u v huv
      cases hc : cv f (x + u) (y + v) with
      | true => rfl
      | false =>
        have k1 := fi h1
        have k2 : cv (grown M (opposite b)) x y = true := (g2 x y).mpr ⟨-u, -v, opp_iff.mpr (by rw [Int.neg_neg, Int.neg_neg]; exact huv), by
          rw [Int.sub_neg, Int.sub_neg]
          exact (mm _ _).mpr ⟨(added_iff fo hb).mpr ⟨u, v, huv, by rw [Int.add_sub_cancel, Int.add_sub_cancel]; exact k1⟩, hc⟩⟩
        rw [h2] at k2
        cases k2
    · intro hu
      refine ⟨(p2 x y).mpr (hu _ _ ⟨Int.le_refl _, hb.1, Int.le_refl _, hb.2⟩), ?_⟩
      cases hc : cv (grown M (opposite b)) x y with
      | false => rfl
      | true =>
        obtain ⟨u, v, k1, k2⟩ := (g2 x y).mp hc
        have k3 := ((mm _ _).mp k2).2
        have k4 := hu (-u) (-v) (opp_iff.mp k1)
        rw [← Int.sub_eq_add_neg, ← Int.sub_eq_add_neg, k3] at k4
        cases k4
/-! ### regions -/
def rgrow (a : Reg) (b : Bx) : Reg := if a.2 = true then (shrunk a.1 (opposite b), true) else (grown a.1 b, false)
theorem rhas_f (f : List Sl) (x y : Int) : rhas (f, false) (x, y) = cv f x y := by
  unfold rhas cv
  cases cov (spansAt f x) y <;> rfl
theorem rhas_t (f : List Sl) (x y : Int) : rhas (f, true) (x, y) = !cv f x y := by
  unfold rhas cv
  cases cov (spansAt f x) y <;> rfl
theorem rgrow_ok {a : Reg} {b : Bx} (h : FmOk a.1) (hb : bxOk b) : FmOk (rgrow a b).1 := by
  unfold rgrow
  split
  · exact (shrunk_ok h (opp_ok hb)).1
  · exact (grown_ok h hb).1
theorem rgrow_has {a : Reg} {b : Bx} (h : FmOk a.1) (hb : bxOk b) {x y : Int} : rhas (rgrow a b) (x, y) = true ↔ ∃ u v, InB b u v ∧ rhas a (x - u, y - v) = true := by
  obtain ⟨f, o⟩ := a
  cases o with
  | false =>
    show rhas (grown f b, false) (x, y) = true ↔ _
    rw [rhas_f, (grown_ok h hb).2]
    simp only [rhas_f]
  | true =>
    show rhas (shrunk f (opposite b), true) (x, y) = true ↔ _
    rw [rhas_t, Bool.not_eq_true', ← Bool.not_eq_true, (shrunk_ok h (opp_ok hb)).2]
    simp only [rhas_t]
    constructor
    · intro k
      refine Classical.byContradiction fun n => k fun u v huv => ?_
      cases hc : cv f (x + u) (y + v) with
      | true => rfl
      | false => exact absurd ⟨-u, -v, opp_iff.mp huv, by rw [Int.sub_neg, Int.sub_neg, hc]; rfl⟩ n
    · rintro ⟨u, v, k1, k2⟩ k
      have := k (-u) (-v) (opp_iff.mpr (by rw [Int.neg_neg, Int.neg_neg]; exact k1))
      rw [← Int.sub_eq_add_neg, ← Int.sub_eq_add_neg] at this
      rw [this] at k2
      cases k2
end BR
namespace BR
open PySem PySem.Spec PyProof.Rows L2
/-! ### the lines of a region, by what it has -/
structure RegS (X Y : List Int) (a : Reg) : Prop where
  ok : FmOk a.1
  lx : ∀ x y, rhas a (x - 1, y) ≠ rhas a (x, y) → x ∈ X
  ly : ∀ x y, rhas a (x, y - 1) ≠ rhas a (x, y) → y ∈ Y
theorem rhas_ne {a : Reg} {p q : Pr} (h : cv a.1 p.1 p.2 ≠ cv a.1 q.1 q.2) : rhas a p ≠ rhas a q := by
  obtain ⟨f, o⟩ := a
  obtain ⟨x, y⟩ := p
  obtain ⟨x', y'⟩ := q
  dsimp only at h
  cases o
  · rw [rhas_f, rhas_f]
    exact h
  · rw [rhas_t, rhas_t]
    intro z
    exact h (by revert z; cases cv f x y <;> cases cv f x' y' <;> simp)
theorem RegS.on {X Y : List Int} {a : Reg} (h : RegS X Y a) : On X Y a.1 := by
  intro s hs
  obtain ⟨w1, w2, w3⟩ := h.ok.w s hs
  have at1 : spansAt a.1 s.1 = s.2.2 := spansAt_hit h.ok.chn hs ⟨Int.le_refl _, w1⟩
  have at2 : spansAt a.1 (s.2.1 - 1) = s.2.2 := spansAt_hit h.ok.chn hs ⟨by omega, by omega⟩
  have oks : ∀ x, SpOk (spansAt a.1 x) := fun x => spansAt_ok (fun s hs => (h.ok.w s hs).2.2) x
  refine ⟨?_, ?_, fun p hp => ⟨?_, ?_⟩⟩
  · refine Classical.byContradiction fun n => ?_
    have eq : spansAt a.1 (s.1 - 1) = spansAt a.1 s.1 := sp_uniq (oks _) (oks _) fun y => Classical.byContradiction fun k => n (h.lx s.1 y (rhas_ne k))
    rw [at1] at eq
    obtain ⟨t, ht, hh, e⟩ := spansAt_mem (f := a.1) (x := s.1 - 1) (by rw [eq]; exact w2)
    rw [e] at eq
    by_cases z : t = s
    · subst z
      have := hh.1
      omega
    · have sep : t.2.1 ≤ s.1 ∧ (t.2.1 = s.1 → t.2.2 ≠ s.2.2) ∨ s.2.1 ≤ t.1 := by
        obtain ⟨i, hi⟩ := List.getElem?_of_mem ht
        obtain ⟨j, hj⟩ := List.getElem?_of_mem hs
        have pw := List.pairwise_iff_getElem.mp h.ok.s
        obtain ⟨hi1, hi2⟩ := List.getElem?_eq_some_iff.mp hi
        obtain ⟨hj1, hj2⟩ := List.getElem?_eq_some_iff.mp hj
        rcases Nat.lt_trichotomy i j with k | k | k
        · have := pw i j hi1 hj1 k
          rw [hi2, hj2] at this
          exact .inl this
        · subst k
          rw [hi2] at hj2
          exact absurd hj2 z
        · have := pw j i hj1 hi1 k
          rw [hi2, hj2] at this
          exact .inr this.1
      have h1 := hh.1
      have h2 := hh.2
      rcases sep with ⟨k1, k2⟩ | k
      · exact k2 (by omega) eq
      · omega
  · refine Classical.byContradiction fun n => ?_
    have eq : spansAt a.1 (s.2.1 - 1) = spansAt a.1 s.2.1 := sp_uniq (oks _) (oks _) fun y => Classical.byContradiction fun k => n (h.lx s.2.1 y (rhas_ne k))
    rw [at2] at eq
    obtain ⟨t, ht, hh, e⟩ := spansAt_mem (f := a.1) (x := s.2.1) (by rw [← eq]; exact w2)
    rw [e] at eq
    by_cases z : t = s
    · subst z
      have := hh.2
      omega
    · have sep : t.2.1 ≤ s.1 ∨ s.2.1 ≤ t.1 ∧ (s.2.1 = t.1 → s.2.2 ≠ t.2.2) := by
        obtain ⟨i, hi⟩ := List.getElem?_of_mem ht
        obtain ⟨j, hj⟩ := List.getElem?_of_mem hs
        have pw := List.pairwise_iff_getElem.mp h.ok.s
        obtain ⟨hi1, hi2⟩ := List.getElem?_eq_some_iff.mp hi
        obtain ⟨hj1, hj2⟩ := List.getElem?_eq_some_iff.mp hj
        rcases Nat.lt_trichotomy i j with k | k | k
        · have := pw i j hi1 hj1 k
          rw [hi2, hj2] at this
          exact .inl this.1
        · subst k
          rw [hi2] at hj2
          exact absurd hj2 z
        · have := pw j i hj1 hi1 k
          rw [hi2, hj2] at this
          exact .inr this
      have h1 := hh.1
      have h2 := hh.2
      rcases sep with k | ⟨k1, k2⟩
      · omega
      · exact k2 (by omega) eq
  · have pw := w3.w p hp
    refine h.ly s.1 p.1 (rhas_ne ?_)
    show cov (spansAt a.1 s.1) (p.1 - 1) ≠ cov (spansAt a.1 s.1) p.1
    rw [at1, cov_iff.mpr ⟨p, hp, Int.le_refl _, pw⟩]
    intro z
    obtain ⟨q, hq, k1, k2⟩ := cov_iff.mp z
    obtain ⟨i, hi⟩ := List.getElem?_of_mem hp
    obtain ⟨j, hj⟩ := List.getElem?_of_mem hq
    have pr := List.pairwise_iff_getElem.mp w3.s
    obtain ⟨hi1, hi2⟩ := List.getElem?_eq_some_iff.mp hi
    obtain ⟨hj1, hj2⟩ := List.getElem?_eq_some_iff.mp hj
    have qw := w3.w q hq
    rcases Nat.lt_trichotomy i j with k | k | k
    · have := pr i j hi1 hj1 k
      rw [hi2, hj2] at this
      omega
    · subst k
      rw [hi2] at hj2
      subst hj2
      omega
    · have := pr j i hj1 hi1 k
      rw [hi2, hj2] at this
      omega
  · have pw := w3.w p hp
    refine h.ly s.1 p.2 (rhas_ne ?_)
    show cov (spansAt a.1 s.1) (p.2 - 1) ≠ cov (spansAt a.1 s.1) p.2
    rw [at1, cov_iff.mpr ⟨p, hp, by omega, by omega⟩]
    intro z
    obtain ⟨q, hq, k1, k2⟩ := cov_iff.mp z.symm
    obtain ⟨i, hi⟩ := List.getElem?_of_mem hp
    obtain ⟨j, hj⟩ := List.getElem?_of_mem hq
    have pr := List.pairwise_iff_getElem.mp w3.s
    obtain ⟨hi1, hi2⟩ := List.getElem?_eq_some_iff.mp hi
    obtain ⟨hj1, hj2⟩ := List.getElem?_eq_some_iff.mp hj
    have qw := w3.w q hq
    rcases Nat.lt_trichotomy i j with k | k | k
    · have := pr i j hi1 hj1 k
      rw [hi2, hj2] at this
      omega
    · subst k
      rw [hi2] at hj2
      subst hj2
      omega
    · have := pr j i hj1 hi1 k
      rw [hi2, hj2] at this
      omega
/-- .. from lines that were told by the form -/
theorem On.col {X Y : List Int} {f : List Sl} (h : On X Y f) {x : Int} (hx : x ∉ X) : spansAt f (x - 1) = spansAt f x := by
  unfold spansAt
  have e : (fun s : Sl => decide (s.1 ≤ x - 1) && decide (x - 1 < s.2.1)) = (fun s : Sl => decide (s.1 ≤ x - 1) && decide (x - 1 < s.2.1)) := rfl
  have key : f.find? (fun s => decide (s.1 ≤ x - 1) && decide (x - 1 < s.2.1)) = f.find? (fun s => decide (s.1 ≤ x) && decide (x < s.2.1)) := by
    clear e
    induction f with
    | nil => rfl
    | cons s f ih =>
      obtain ⟨h1, h2, _⟩ := h s (by simp)
      have n1 : s.1 ≠ x := fun z => hx (z ▸ h1)
      have n2 : s.2.1 ≠ x := fun z => hx (z ▸ h2)
      have q : (decide (s.1 ≤ x - 1) && decide (x - 1 < s.2.1)) = (decide (s.1 ≤ x) && decide (x < s.2.1)) := by
        rw [Bool.eq_iff_iff]
        simp only [Bool.and_eq_true, decide_eq_true_eq]
        omega
      rw [List.find?_cons, List.find?_cons, q]
      split
      · rfl
      · exact ih fun t ht => h t (by simp [ht])
  rw [key]
theorem OnS.row {Y : List Int} {sp : List Pr} (h : OnS Y sp) {y : Int} (hy : y ∉ Y) : cov sp (y - 1) = cov sp y := by
  rw [Bool.eq_iff_iff, cov_iff, cov_iff]
  constructor
  · rintro ⟨s, hs, h1, h2⟩
    have n1 : s.1 ≠ y := fun z => hy (z ▸ (h s hs).1)
    have n2 : s.2 ≠ y := fun z => hy (z ▸ (h s hs).2)
    exact ⟨s, hs, by omega, by omega⟩
  · rintro ⟨s, hs, h1, h2⟩
    have n1 : s.1 ≠ y := fun z => hy (z ▸ (h s hs).1)
    have n2 : s.2 ≠ y := fun z => hy (z ▸ (h s hs).2)
    exact ⟨s, hs, by omega, by omega⟩
theorem RegOn.s {X Y : List Int} {a : Reg} (h : RegOn X Y a) : RegS X Y a := by
  refine ⟨h.ok, fun x y k => Classical.byContradiction fun n => k ?_, fun x y k => Classical.byContradiction fun n => k ?_⟩
  · unfold rhas
    dsimp only
    rw [h.on.col n]
  · unfold rhas
    dsimp only
    rw [(spansAt_on h.on x).row n]
theorem RegS.mono {X Y X' Y' : List Int} {a : Reg} (h : RegS X Y a) (hx : ∀ k ∈ X, k ∈ X') (hy : ∀ k ∈ Y, k ∈ Y') : RegS X' Y' a := ⟨h.ok, fun x y k => hx _ (h.lx x y k), fun x y k => hy _ (h.ly x y k)⟩
def gl (X : List Int) (lo hi : Int) : List Int := X.map (· + lo) ++ X.map (· + (hi - 1))
theorem mem_gl {X : List Int} {lo hi k : Int} : k ∈ gl X lo hi ↔ k - lo ∈ X ∨ k - (hi - 1) ∈ X := by
  unfold gl
  simp only [List.mem_append, List.mem_map]
  constructor
  · rintro (⟨a, h, rfl⟩ | ⟨a, h, rfl⟩)
    · exact .inl (by rw [Int.add_sub_cancel]; exact h)
    · exact .inr (by rw [Int.add_sub_cancel]; exact h)
  · rintro (h | h)
    · exact .inl ⟨_, h, by omega⟩
    · exact .inr ⟨_, h, by omega⟩
theorem bool_ne {a b : Bool} (h : a ≠ b) : (a = true ∧ b = false) ∨ (a = false ∧ b = true) := by revert h; cases a <;> cases b <;> simp
theorem RegS.grow {X Y : List Int} {a : Reg} {b : Bx} (h : RegS X Y a) (hb : bxOk b) : RegS (gl X b.1 b.2.2.1) (gl Y b.2.1 b.2.2.2) (rgrow a b) := by
  have nt : ∀ {x y}, rhas (rgrow a b) (x, y) = false → ∀ u v, InB b u v → rhas a (x - u, y - v) = false := fun {x y} hn u v huv => by
    cases hc : rhas a (x - u, y - v) with
    | false => rfl
    | true =>
      have := (rgrow_has h.ok hb (x := x) (y := y)).mpr ⟨u, v, huv, hc⟩
      rw [hn] at this
      cases this
  refine ⟨rgrow_ok h.ok hb, fun x y k => ?_, fun x y k => ?_⟩
  · rw [mem_gl]
    rcases bool_ne k with ⟨k1, k2⟩ | ⟨k1, k2⟩
    · obtain ⟨u, v, ⟨b1, b2, b3, b4⟩, hu⟩ := (rgrow_has h.ok hb).mp k1
      by_cases z : u + 1 < b.2.2.1
      · have := nt k2 (u + 1) v ⟨by omega, z, b3, b4⟩
        rw [show x - (u + 1) = x - 1 - u by omega, hu] at this
        cases this
      · refine .inr (h.lx _ (y - v) ?_)
        have k3 := nt k2 u v ⟨b1, b2, b3, b4⟩
        rw [show x - (b.2.2.1 - 1) - 1 = x - 1 - u by omega, show x - (b.2.2.1 - 1) = x - u by omega, hu, k3]
        decide
    · obtain ⟨u, v, ⟨b1, b2, b3, b4⟩, hu⟩ := (rgrow_has h.ok hb).mp k2
      by_cases z : b.1 ≤ u - 1
      · have := nt k1 (u - 1) v ⟨z, by omega, b3, b4⟩
        rw [show x - 1 - (u - 1) = x - u by omega, hu] at this
        cases this
      · refine .inl (h.lx _ (y - v) ?_)
        have k3 := nt k1 u v ⟨b1, b2, b3, b4⟩
        rw [show x - b.1 - 1 = x - 1 - u by omega, show x - b.1 = x - u by omega, hu, k3]
        decide
  · rw [mem_gl]
    rcases bool_ne k with ⟨k1, k2⟩ | ⟨k1, k2⟩
    · obtain ⟨u, v, ⟨b1, b2, b3, b4⟩, hu⟩ := (rgrow_has h.ok hb).mp k1
      by_cases z : v + 1 < b.2.2.2
      · have := nt k2 u (v + 1) ⟨b1, b2, by omega, z⟩
        rw [show y - (v + 1) = y - 1 - v by omega, hu] at this
        cases this
      · refine .inr (h.ly (x - u) _ ?_)
        have k3 := nt k2 u v ⟨b1, b2, b3, b4⟩
        rw [show y - (b.2.2.2 - 1) - 1 = y - 1 - v by omega, show y - (b.2.2.2 - 1) = y - v by omega, hu, k3]
        decide
    · obtain ⟨u, v, ⟨b1, b2, b3, b4⟩, hu⟩ := (rgrow_has h.ok hb).mp k2
      by_cases z : b.2.1 ≤ v - 1
      · have := nt k1 u (v - 1) ⟨b1, b2, z, by omega⟩
        rw [show y - 1 - (v - 1) = y - v by omega, hu] at this
        cases this
      · refine .inl (h.ly (x - u) _ ?_)
        have k3 := nt k1 u v ⟨b1, b2, b3, b4⟩
        rw [show y - b.2.1 - 1 = y - 1 - v by omega, show y - b.2.1 = y - v by omega, hu, k3]
        decide
theorem RegS.out {X Y : List Int} {a : Reg} (h : RegS X Y a) : RegS X Y (rout a) := ⟨h.ok, fun x y k => h.lx x y fun z => k (by rw [rhas_out, rhas_out, z]), fun x y k => h.ly x y fun z => k (by rw [rhas_out, rhas_out, z])⟩
theorem RegS.bin {X Y : List Int} {a b c : Reg} {f : Bool → Bool → Bool} (ok : FmOk c.1) (hc : ∀ p, rhas c p = f (rhas a p) (rhas b p)) (ha : RegS X Y a) (hb : RegS X Y b) : RegS X Y c := by
  refine ⟨ok, fun x y k => ?_, fun x y k => ?_⟩
  · by_cases z : rhas a (x - 1, y) = rhas a (x, y)
    · by_cases w : rhas b (x - 1, y) = rhas b (x, y)
      · exact absurd (by rw [hc, hc, z, w]) k
      · exact hb.lx x y w
    · exact ha.lx x y z
  · by_cases z : rhas a (x, y - 1) = rhas a (x, y)
    · by_cases w : rhas b (x, y - 1) = rhas b (x, y)
      · exact absurd (by rw [hc, hc, z, w]) k
      · exact hb.ly x y w
    · exact ha.ly x y z
theorem RegS.unite {X Y : List Int} {a b : Reg} (ha : RegS X Y a) (hb : RegS X Y b) : RegS X Y (BR.unite a b) := .bin (f := fun a b => a || b) (unite_ok a b) (rhas_unite a b) ha hb
theorem RegS.and {X Y : List Int} {a b : Reg} (ha : RegS X Y a) (hb : RegS X Y b) : RegS X Y (rand a b) := .bin (f := fun a b => a && b) (rand_ok a b) (rhas_and a b) ha hb
theorem RegS.sub {X Y : List Int} {a b : Reg} (ha : RegS X Y a) (hb : RegS X Y b) : RegS X Y (rsub a b) := .bin (f := fun a b => a && !b) (rsub_ok a b) (rhas_sub a b) ha hb
theorem RegS.nil {X Y : List Int} {o : Bool} : RegS X Y ([], o) := ⟨FmOk.nil, fun x y k => absurd (by rw [rhas_nil, rhas_nil]) k, fun x y k => absurd (by rw [rhas_nil, rhas_nil]) k⟩
end BR
namespace BR
open PySem PySem.Spec PyProof.Rows L2
theorem rgrow_f (f : List Sl) (b : Bx) : rgrow (f, false) b = (grown f b, false) := by
  unfold rgrow
  rw [if_neg (fun z => by cases z)]
theorem RegS.grown {X Y : List Int} {f : List Sl} {b : Bx} (h : RegS X Y (f, false)) (hb : bxOk b) : RegS (gl X b.1 b.2.2.1) (gl Y b.2.1 b.2.2.2) (BR.grown f b, false) := by
  have := h.grow hb
  rw [rgrow_f] at this
  exact this
theorem RegS.less {X Y : List Int} {f : List Sl} {A : Bx} (h : RegS X Y (f, false)) : RegS (X ++ [A.1, A.2.2.1]) (Y ++ [A.2.1, A.2.2.2]) (mixed (slabsOf [A]) f .less, false) := by
  refine RegOn.s ⟨mixed_ok.1, mixed_on (slabsOf_on fun c hc => ?_) fun s hs => ?_⟩
  · rw [List.mem_singleton.mp hc]
    exact ⟨by simp, by simp, by simp, by simp⟩
  · obtain ⟨k1, k2, k3⟩ := h.on s hs
    exact ⟨by simp [k1], by simp [k2], fun p hp => by simp [(k3 p hp).1, (k3 p hp).2]⟩
end BR
/-! What the program's mirrors give. -/
namespace BR
open PySem PySem.Spec PyProof.Rows L2
/-! ### wishes, opened (not by rfl: the kernel would look into the mirrors) -/
section
variable {α β : Type}
end
/-! ### loops and comprehensions -/
theorem wFor_inv {α τ : Type} {b : α → τ → (τ → Prop) → (τ → Prop) → Prop} {k : τ → Prop} (I : List α → τ → Prop) (hk : ∀ s, I [] s → k s) (hb : ∀ x xs s (n : τ → Prop), I (x :: xs) s → (∀ s', I xs s' → n s') → b x s n k) : ∀ (xs : List α) (s : τ), I xs s → wFor xs s b k
  | [], s, h => hk s h
  | x :: xs, s, h => hb x xs s _ h fun s' h' => wFor_inv I hk hb xs s' h'
theorem wLcA_map {α β : Type} {e : α → Wp β} {g : α → β} : ∀ (xs : List α) (acc : List β) (P : List β → Prop), (∀ x ∈ xs, ∀ Q : β → Prop, Q (g x) → e x Q) → P (acc ++ xs.map g) → wLcA xs (fun _ => wPure true) e acc P
  | [], acc, P, _, h => by simpa [wLcA, wPure] using h
  | x :: xs, acc, P, he, h => by
    show (if true = true then e x fun y => wLcA xs (fun _ => wPure true) e (acc ++ [y]) P else wLcA xs (fun _ => wPure true) e acc P)
    rw [if_pos rfl]
    exact he x (by simp) _ (wLcA_map xs _ P (fun y hy => he y (by simp [hy])) (by simpa using h))
theorem wLc_map {α β : Type} {e : α → Wp β} {g : α → β} {xs : List α} {P : List β → Prop} (he : ∀ x ∈ xs, ∀ Q : β → Prop, Q (g x) → e x Q) (h : P (xs.map g)) : wLc xs (fun _ => wPure true) e P := wLcA_map xs [] P he (by simpa using h)
theorem wTake_ok {n : Int} {P : Int → Prop} (h0 : 0 < n) (h1 : n < 2 ^ 200) (k : ∀ r, 0 ≤ r → r < n → P r) : wTake n P := ⟨h0, h1, k⟩
theorem wIx_ok {α : Type} {l : List α} {i : Int} {P : α → Prop} (h0 : 0 ≤ i) (h1 : i < (l.length : Int)) (k : ∀ x ∈ l, P x) : wIx l i P := by
  obtain ⟨x, h2, h3⟩ := atI_nat h0 h1
  exact ⟨x, h2, k x (List.mem_of_getElem? h3)⟩
/-! ### regions -/
section
variable {X Y : List Int} {a : Reg} {b : Bx} {R : Reg → Prop}
end
/-! ### regions of boxes, however a law makes them -/
end BR
/-! Own layer: in, lists taken several times. -/
namespace BR
open PySem PySem.Spec PyProof.Rows L2
section
variable {K : Fg} {c : Cn} {Φ Ψ : Sts} {ta tb te : TE} {α β : Type} {m n : Wp Int} {e : α → Ty} {D : Ends} {wa : Wp α} {wl : Wp (List α)}
theorem All.rep {G : Hp} {φs : List Ty} {vs : List V} (h : All G φs vs) : ∀ k : Nat, All G (List.replicate k φs).flatten (List.replicate k vs).flatten
  | 0 => .nil
  | k + 1 => by
    rw [List.replicate_succ, List.replicate_succ, List.flatten_cons, List.flatten_cons]
    exact h.append (h.rep k)
theorem rep_len {α : Type} (l : List α) (k : Nat) : (List.replicate k l).flatten.length = k * l.length := by simp
theorem md_rep (ha : MD Φ ta wl (eL e)) (hb : MD Φ tb n tI) : MD Φ (tOp rRep ta tb) (wBind wl fun a => wBind n fun b => wG (a.length * b.toNat ≤ 100000 ∧ InR b) (List.replicate b.toNat a).flatten) (eL e) := fun σ G H ev P Q mp k =>
  ha σ G H ev _ _ mp fun l v G1 H1 p1 s1 hv => hb σ G1 H1 s1.e _ _ p1 fun b w G2 H2 p2 s2 hw => by
    cases hw
    obtain ⟨⟨h1, h2⟩, p2⟩ := p2
    obtain ⟨⟨q, vs, rfl, e1, e2⟩, hz⟩ := (eL e l).m _ _ _ s2.g hv
    have hl : vs.length = l.length := by rw [e2.length, List.length_map]
    refine ⟨q, b, vs, rfl, rfl, s2.e.s _ _ e1, ?_, ?_, ?_, fun p hp => ?_⟩
    · have := h2.1
      omega
    · have := h2.2
      omega
    · rw [hl]
      exact sz_of h1
    · have g4 : Grow G2 H2 (upd G2 p (.lst (List.replicate b.toNat vs).flatten)) (upd H2 p (.lst (List.replicate b.toNat vs).flatten)) := .new s2.e.s hp
      refine k _ _ _ _ p2 ((s1.trans s2).trans (.grow s2.e g4)) ⟨⟨p, _, rfl, upd_same, ?_⟩, ?_⟩
      · have e3 : (List.replicate b.toNat l).flatten.map e = (List.replicate b.toNat (l.map e)).flatten := by
          rw [List.map_flatten, List.map_replicate]
        rw [e3]
        exact (e2.rep _).mono g4.g
      · rw [rep_len, Nat.mul_comm]
        exact h1
end
end BR
/-! Own layer: dicts whose keys are tuples of ints. -/
namespace BR
open PySem PySem.Spec PyProof.Rows L2
class KeyE {κ : Type} (e : κ → Ty) where
  k : κ → List Key
  tup : ∀ a G v, (e a).p G v → ∃ b, v = .ref b ∧ G b = some (.tup ((k a).map kV))
  inj : ∀ a b, k a = k b → a = b
instance : KeyE (e2 tI tI) := ⟨fun p => [.inl p.1, .inl p.2], fun a G v h => by
  obtain ⟨b, vs, rfl, h1, h2⟩ := h
  cases h2 with
  | cons h3 h4 =>
    cases h4 with
    | cons h4 h5 =>
      cases h5
      cases h3
      cases h4
      exact ⟨b, rfl, h1⟩, fun a b h => by
  obtain ⟨a1, a2⟩ := a
  obtain ⟨b1, b2⟩ := b
  simp only [List.cons.injEq, Sum.inl.injEq, and_true] at h
  rw [h.1, h.2]⟩
instance : KeyE (e4 tI tI tI tI) := ⟨fun p => [.inl p.1, .inl p.2.1, .inl p.2.2.1, .inl p.2.2.2], fun a G v h => by
  obtain ⟨b, vs, rfl, h1, h2⟩ := h
  cases h2 with
  | cons h3 h4 =>
    cases h4 with
    | cons h4 h5 =>
      cases h5 with
      | cons h5 h6 =>
        cases h6 with
        | cons h6 h7 =>
          cases h7
          cases h3
          cases h4
          cases h5
          cases h6
          exact ⟨b, rfl, h1⟩, fun a b h => by
  obtain ⟨a1, a2, a3, a4⟩ := a
  obtain ⟨b1, b2, b3, b4⟩ := b
  simp only [List.cons.injEq, Sum.inl.injEq, and_true] at h
  rw [h.1, h.2.1, h.2.2.1, h.2.2.2]⟩
/-! plain dicts -/
section
variable {κ β : Type} [DecidableEq κ]
end
/-! what stands -/
structure DOk {κ β : Type} (ek : κ → Ty) [i : KeyE ek] (ev : β → Ty) (G : Hp) (l : List (κ × β)) (kvs : List (List Key × V)) : Prop where
  ks : kvs.map (·.1) = l.map fun p => i.k p.1
  vs : All G (l.map fun p => ev p.2) (kvs.map (·.2))
  z : l.length ≤ 100000
section
variable {κ β : Type} [DecidableEq κ] {ek : κ → Ty} [i : KeyE ek] {ev : β → Ty} {G : Hp} {l : List (κ × β)} {kvs : List (List Key × V)}
end
section
variable {K : Fg} {c : Cn} {Φ Ψ : Sts} {ta tb te tk : TE} {κ β : Type} [DecidableEq κ] {ek : κ → Ty} [ii : KeyE ek] {ev : β → Ty} {D : Ends} {wk : Wp κ} {wv : Wp β} {l : List (κ × β)} {i : Nat}
end
/-! an owned object is changed no more -/
section
variable {c : Cn} {Φ : Sts} {D : Ends}
end
end BR
/-! Own layer: comprehensions of two clauses. -/
namespace BR
open PySem PySem.Spec PyProof.Rows L2
theorem Tgt.mono {Φ Ψ : Sts} {σ σ' : St} {js : List Nat} {G G' : Hp} (t : Tgt Φ σ Ψ σ' js G) (s : Same G G') : Tgt Φ σ Ψ σ' js G' :=
  ⟨t.l, t.l', t.o, fun i h => by
    obtain ⟨φ, v, h1, h2, h3⟩ := t.n i h
    exact ⟨φ, v, h1, h2, φ.m _ _ _ s h3⟩⟩
section
variable {K : Fg} {Φ : Sts} {σ : St} {α β γ : Type} {e : α → Ty} {e1 : β → Ty} {f : γ → Ty} {tt tt1 : TT}
end
end BR
/-! Own layer: bool of an own object. -/
namespace BR
open PySem PySem.Spec PyProof.Rows L2
section
variable {K : Fg} {c : Cn} {Φ : Sts} {σ : St} {G R : Hp} {ta tb te : TE} {α β γ : Type} {e : α → Ty} {E : XK} {p : Wp Reg} {pre : List Ty → Ty → Prop}
/-- flat values -/
class FlatE {α : Type} (e : α → Ty) where
  v : α → V
  to : ∀ a G w, (e a).p G w → w = v a
  flat : ∀ a, flatV (v a) = true
  eq : ∀ a b, a = b ↔ eqV (v a) (v b) = true
instance : FlatE tI := ⟨.int, fun a G w h => h, fun _ => rfl, fun a b => by simp [eqV]⟩
instance : FlatE tSt := ⟨.str, fun a G w h => h, fun _ => rfl, fun a b => by simp [eqV]⟩
theorem flat_all [h : FlatE e] {G : Hp} : ∀ {l : List α} {vs : List V}, All G (l.map e) vs → vs = l.map h.v
  | [], _, .nil => rfl
  | a :: l, _, .cons h1 h2 => by rw [h.to a _ _ h1, flat_all h2, List.map_cons]
theorem flat_in [DecidableEq α] [h : FlatE e] (a : α) : ∀ l : List α, inV (h.v a) (l.map h.v) = decide (a ∈ l)
  | [] => by simp [inV]
  | b :: l => by
    have ih := flat_in a l
    unfold inV at ih ⊢
    rw [List.map_cons, List.any_cons, ih, Bool.eq_iff_iff]
    simp only [Bool.or_eq_true, decide_eq_true_eq, List.mem_cons, ← h.eq]
    constructor
    · rintro (h | h)
      · exact .inl h.symm
      · exact .inr h
    · rintro (h | h)
      · exact .inl h.symm
      · exact .inr h
theorem md_inF0 [DecidableEq α] [i : FlatE e] {neg : Bool} {wa : Wp α} {wl : Wp (List α)} (ha : MD Φ ta wa e) (hb : MD Φ tb wl (eS e)) : MD Φ (tOp (rIn K neg) ta tb) (wBind wa fun a => wBind wl fun b => wPure (if neg = true then !decide (a ∈ b) else decide (a ∈ b))) tBo := fun σ G H ev P Q mp k =>
  ha σ G H ev _ _ mp fun a v G1 H1 p1 s1 hv => hb σ G1 H1 s1.e _ _ p1 fun l w G2 H2 p2 s2 hw => by
    obtain ⟨⟨q, vs, rfl, hl, hall⟩, hz⟩ := hw
    cases i.to a _ _ hv
    cases flat_all hall
    refine ⟨q, _, rfl, hl.imp (fun h => .inl (.of (s2.e.s _ _ h))) (fun h => .inl (.of (s2.e.s _ _ h))), i.flat a, ?_, ?_⟩
    · rw [List.all_map, List.all_eq_true]
      exact fun x _ => i.flat x
    · rw [flat_in]
      refine k _ _ G2 H2 p2 (s1.trans s2) ?_
      cases neg <;> rfl
theorem md_inF [DecidableEq α] [i : FlatE e] {wa : Wp α} {wl : Wp (List α)} (ha : MD Φ ta wa e) (hb : MD Φ tb wl (eS e)) : MD Φ (tOp (rIn K false) ta tb) (wBind wa fun a => wBind wl fun b => wPure (decide (a ∈ b))) tBo := md_inF0 ha hb
end
end BR
/-! Own layer: yield from a list. -/
namespace BR
open PySem PySem.Spec PyProof.Rows L2
section
variable {prog : Program} {w : World} {A : Around} {E : Value → Shared → Prop} {s : Shared} {X : Cx} {e : Expr} {te : TE}
end
/-! ### a generator def's promise by a mirror -/
section
variable {K : Fg} {Φ : Sts} {ta te1 te2 : TE} {tr : TA} {α β γ : Type} {E : XK}
end
end BR
/-! Own layer: generator defs as facts. -/
namespace BR
open PySem PySem.Spec PyProof.Rows L2
def GHas (P : Program) (w : World) (K : Fg) (mg : Str → Option Value) (base : Heap) (k : Nat) (f : Addr) (ps : List Str) (sp : SpG) : Prop := ∃ fd, GFn P w K mg base k f fd ps sp ∧ Binds K fd ps []
section
variable {P : Program} {w : World} {K : Fg} {mg : Str → Option Value} {base : Heap} {f : Addr} {fd : FuncData} {x q : Str} {st : Stmt} {N ps : List Str} {sp : SpG} {k : Nat}
end
section
variable {X : Cx} {k : Nat} {f C : Addr} {ps : List Str} {sp : SpG} {o : Expr} {ta : TE} {m : Str} {p apos pos' pos : Pos}
end
end BR
/-! Own layer: sorted(set(xs)) of a list of ints. -/
namespace BR
open PySem PySem.Spec PyProof.Rows L2
section
variable {P : Program} {w : World} {A : Around} {E : Value → Shared → Prop} {s : Shared}
end
/-! the mirror -/
section
variable {K : Fg} {Φ : Sts} {ta : TE}
end
/-! ### a op b op c op d -/
section
variable {X : Cx} {a b c d : Expr} {ta tb tc td : TE} {pos : Pos}
end
section
variable {K : Fg} {Φ : Sts} {ta tb tc td te : TE} {α : Type} {e : α → Ty} {m n : Wp Int} {E : XK}
/-! a value that is not None -/
def wSome {α : Type} (o : Option α) : Wp α := fun P => ∃ a, o = some a ∧ P a
theorem MD.get {p : Wp (Option α)} (h : MD Φ te p (eO e)) : MD Φ te (wBind p wSome) e := fun σ G H ev P Q mp k =>
  h σ G H ev _ _ mp fun o v G' H' po s hv => by
    obtain ⟨a, rfl, pa⟩ := po
    exact k a v G' H' pa s hv
/-! calls -/
end
/-! ### a def's end without return -/
section
variable {K : Fg} {Φ : Sts} {ta : TE} {E : XK} {p : Wp Reg}
end
end BR
/-! Own layer: list.count and list.index of data, abs, int(flag), repr of any data. -/
namespace BR
open PySem PySem.Spec PyProof.Rows L2
section
variable {X : Cx}
/-- repr of any data -/
def rReprD (K : Fg) : List V → Hp → VK → Prop := fun xs H Q => ∃ (x : V) (d : PyData), xs = [x] ∧ Dp K H x d ∧ d.showable = true ∧ d.hasDict = false ∧ d.shown.length ≤ sizeLine ∧ d.depth ≤ 64 ∧ Q (.str d.shown) H
theorem call_reprD {k : Nat} (hr : X.A.units + 200 < cLine) (hg : X.A.guards = some []) : CallR X (.builtin "repr") (rReprD X.K) := by
  intro pins s σ H xs us Q I r h
  obtain ⟨x, d, rfl, hd, h1, h2, h3, h4, q⟩ := h
  cases r with
  | cons r1 r2 =>
    cases r2
    have done : ∀ u tk, EP X pins σ Q (.str d.shown u) { s with toks := tk } := fun u tk => ⟨.str d.shown, H, I.tok _, ⟨u, rfl⟩, q⟩
    cases hd with
    | non =>
      cases r1
      exact PySem.P.repr_of_none (done _ _)
    | bl b =>
      cases r1
      exact PySem.P.repr_of_bool (done _ _)
    | int i =>
      obtain ⟨t, rfl⟩ := r1
      exact PySem.P.repr_of_int (of_decide_eq_true h1) (done _ _)
    | str z =>
      obtain ⟨t, rfl⟩ := r1
      exact PySem.P.repr_of_str (done _ _) h3
    | lst hs ha =>
      obtain ⟨as, hrd⟩ := Dp.reads I _ _ _ (.lst hs ha) r1
      cases r1
      exact repr_of_reads' hrd h1 (fun z => by rw [h2] at z; cases z) hg (by omega) (fun _ _ e => e) (fun h' u tk hk => ⟨.str _, H, I.kept hk, ⟨u, rfl⟩, q⟩) h3
    | tup hs ha =>
      obtain ⟨as, hrd⟩ := Dp.reads I _ _ _ (.tup hs ha) r1
      cases r1
      exact repr_of_reads' hrd h1 (fun z => by rw [h2] at z; cases z) hg (by omega) (fun _ _ e => e) (fun h' u tk hk => ⟨.str _, H, I.kept hk, ⟨u, rfl⟩, q⟩) h3
end
section
variable {K : Fg} {Φ : Sts} {ta tb te : TE} {α : Type} {e : α → Ty} {wa : Wp α} {wl : Wp (List α)} {m : Wp Int}
/-- repr of data -/
def ShowOk (d : PyData) : Prop := Shows d 16000000
/-- typed data as any data -/
theorem MD.dat [i : DatE e] (h : MD Φ te wa e) : MD Φ te (wBind wa fun a => wPure (i.d a)) dt := h.conv fun a G v hv => i.to a G v hv
theorem MD.datS {w : Wp Str} (h : MD Φ te w tSt) : MD Φ te (wBind w fun a => wPure (PyData.str a)) dt := h.conv fun a G v hv => hv
end
end BR
/-! Own layer: within an except suite: going through a tuple, taking one apart, comprehensions. -/
namespace BR
open PySem PySem.Spec PyProof.Rows L2 HotX
open L2H (RoomH Hot1 PinOk HotC)
section
variable {prog : Program} {w : World} {A : Around} {E : Value → Shared → Prop} {s : Shared} {x1 it t : Addr} {i : Nat} {items : Array Value}
theorem HotAt.lt {h : Heap} (z : HotAt A x1 h) : x1 < h.objs.size := by
  obtain ⟨_, o1, v1, q2, _⟩ := z
  exact Heap.lt_size q2
end
/-! ### targets -/
structure PGH (X : Cx) (x1 : Addr) (tg : Expr) (g : TG) : Prop where
  run : ∀ (pins : List (Addr × Obj)) (s : Shared) (σ : L2.St) (H : Hp) (v : V) (u : Value) (Q : L2.St → Hp → Prop), Inv X pins σ H s → HotAt X.A x1 s.heap → RelV v u → g v σ H Q →
    wpAny (model X.prog X.w) X.A (assign tg X.env u) (fun _ s2 => ∃ σ2 H2, Inv X pins σ2 H2 s2 ∧ Q σ2 H2) X.xe s
end BR
/-! Own layer: comprehensions within an except suite. -/
namespace BR
open PySem PySem.Spec PyProof.Rows L2 HotX
open L2H (RoomH Hot1 PinOk HotC)
/-- an iterator that can be gone through there -/
structure TrnH (P : Program) (w : World) (K : Fg) (tg : Expr) (J : It) (it : Addr) (tn : Nat → Heap → Prop) : Prop where
  obj : ∀ i h, tn i h → ∃ o, h.get? it = some o ∧ ∀ v, o.data ≠ .cell v
  keep : ∀ i h h', tn i h → (∀ o, h.get? it = some o → h'.get? it = some o) → tn i h'
  item : ∀ (X : Cx), X.prog = P → X.w = w → X.K = K → ∀ (i : Nat) (pins : List (Addr × Obj)) (s : Shared) (σ : L2.St) (H : Hp) (E : Value → Shared → Prop), Inv X pins σ H s → FpOk X pins H it → tn i s.heap → J.go i H →
    wpAny (model P w) X.A (pyNext (.ref it)) (fun r s1 => ∃ u, r = some u ∧
      wpAny (model P w) X.A (letOwnedTupleGo tg (.ref it) u) (fun _ s2 => ∃ x H', Inv X pins σ H' s2 ∧ RelV x u ∧ J.yld i H x H' ∧ tn (i + 1) s2.heap ∧ H' it = none ∧ ∀ b o, b ≠ it → s.heap.get? b = some o → s2.heap.get? b = some o) E s1) E s
  done : ∀ (X : Cx), X.prog = P → X.w = w → X.K = K → ∀ (i : Nat) (pins : List (Addr × Obj)) (s : Shared) (σ : L2.St) (H : Hp) (E : Value → Shared → Prop) (x1 : Addr), HotAt X.A x1 s.heap → x1 ≠ it → Inv X pins σ H s → FpOk X pins H it → tn i s.heap → J.stop i H →
    wpAny (model P w) X.A (pyNext (.ref it)) (fun r s1 => r = none ∧ Inv X pins σ H s1) E s
  self : ∀ (A : Around) (i : Nat) (s : Shared) (Q : Value → Shared → Prop) (E : Value → Shared → Prop), tn i s.heap → Q (.ref it) s → wpAny (model P w) A (pyIter (.ref it)) Q E s
def PIEI (X : Cx) (pins : List (Addr × Obj)) (σ : L2.St) (tg : Expr) (R : It → Hp → Prop) (itv : Value) (s2 : Shared) : Prop :=
  ∃ (it : Addr) (tn : Nat → Heap → Prop) (J : It) (H' : Hp), itv = .ref it ∧ Inv X pins σ H' s2 ∧ TrnH X.prog X.w X.K tg J it tn ∧ tn 0 s2.heap ∧ FpOk X pins H' it ∧ R J H'
structure PII (X : Cx) (tg iter : Expr) (wi : TI) : Prop where
  run : ∀ (pins : List (Addr × Obj)) (s : Shared) (σ : L2.St) (H : Hp) (R : It → Hp → Prop), Inv X pins σ H s → wi σ H R →
    wpAny (model X.prog X.w) X.A (eval iter X.env) (fun v s1 => wpAny (model X.prog X.w) X.A (pyIter v) (PIEI X pins σ tg R) X.xe s1) X.xe s
section
variable {X : Cx}
end
end BR
/-! Own layer: defs called within an except suite: repr of an own object, properties. -/
namespace BR
open PySem PySem.Spec PyProof.Rows L2 HotX
open L2H (RoomH Hot1 PinOk HotC)
theorem RoomH.u200 {k : Nat} {A : Around} (r : RoomH k A) : A.units + 200 < cLine := by have := r.un; omega
section
variable {CX : CXT} {P : Program} {w : World} {K : Fg} {mg : Str → Option Value} {base : Heap} {k : Nat} {x q : Str} {st : Stmt} {f : Addr} {fd : FuncData} {N ps : List Str} {sp : Sp}
end
section
variable {X : Cx} {CX : CXT} {n : Nat} {C f : Addr} {sp : Sp} {E : XK} {pins : List (Addr × Obj)} {σ : L2.St} {H : Hp} {s : Shared} {Q : VK}
end
end BR
/-! Own layer: calls of own exception classes, with keywords too; a class whose __new__ is another class's. -/
namespace PySem
namespace HandSPX
open PySem.W PySem.Calls PyProof.Rows
section
variable {prog : Program} {w : World} {M : Model} {A : Around} {E : Value → Shared → Prop} {R : Result → Shared → Prop} {h : Heap} {g : Array GenState} {d : Drawn} {t : Nat} {os : OsState}
variable {nm q : Str} {C N : Addr} {bs bm bmO : List Value} {hdct : Bool} {sn : List Str} {sub : List Value} {ab : Bool} {col : Option Bool} {dd : Option Addr} {k0 k1 k2 k3 k5 : Option Value} {O newId initO : String}
/-- what an own class's list of bases says of the class whose __new__ it has -/
structure Ups (O : String) (bm : List Value) : Prop where
  o : bm.contains (.type O) = true
  a : bm.contains (.type "AttributeError") = false
  n : bm.contains (.type "NameError") = false
theorem check_newK (F : ExcBaseFacts O newId initO bmO) (u : Ups O bm) {rest : List Value} {kw : List (Str × Value)} {Q : Unit → Shared → Prop}
    (hC : h.get? C = some (excClassObj nm q C N bs bm hdct sn sub ab col dd k0 k1 k2 k3 k5 newId)) (hq : Q () ⟨h, g, d, t, os⟩) : wpAny M A (checkBuiltinCall newId ⟨.ref C :: rest, kw⟩) Q E ⟨h, g, d, t, os⟩ := by
  have hcont : (Value.ref C :: bm).contains (.type O) = true := by rw [List.contains_cons, u.o, Bool.or_true]
  have hstar := F.noStar
  simp only [checkBuiltinCall, F.newKind, F.newSplit, F.newRow]
  repeat (first | refine wpAny_loadPart_at hC ?_ | (refine wpAny_isSubtype_exc hC ?_; rw [hcont]) | refine wpAny_staticBase_exc hC ?_ | refine wpAny_madeBy_exc hC ?_ | simp only [bne_self_eq_false, Bool.false_eq_true, if_false] | wp_step)
  exact hq
theorem newK (F : ExcBaseFacts O newId initO bmO) (u : Ups O bm) {rest : List Value} {kw : List (Str × Value)}
    (hC : h.get? C = some (excClassObj nm q C N bs bm hdct sn sub ab col dd k0 k1 k2 k3 k5 newId))
    (hq : R (.ok (.ret (.ref (h.objs.size + 1)))) ⟨(h.push { cls := .type "tuple", data := .seq rest.toArray }).push
      { cls := .ref C, data := .fields #[.ref h.objs.size, .none, .none, .none, .bool false, .none] }, g, d, t, os⟩) (hrest : rest.length ≤ sizeLine) :
    codeAny (model prog w) A (.builtin newId ⟨.ref C :: rest, kw⟩) R ⟨h, g, d, t, os⟩ := by
  have hends := F.ends
  have hcB : (Value.ref C :: bm).contains (.type O) = true := by rw [List.contains_cons, u.o, Bool.or_true]
  have hcA : (Value.ref C :: bm).contains (.type "AttributeError") = false := by rw [List.contains_cons, u.a]; rfl
  have hcN : (Value.ref C :: bm).contains (.type "NameError") = false := by rw [List.contains_cons, u.n]; rfl
  refine codeAny_builtinAt F.entry ?_
  unfold Builtin.«BaseException.__new__»
  refine wpAt_bind ?_
  show wpAt _ _ _ (stack >>= _) _ _ _
  refine wpAt_bind (wpAt_stack fun p below => wpAt_of_wpAny ?_)
  wp_walk
  refine wpAt_of_wpAny ?_
  rw [F.owner]
  repeat (first | with_reducible refine wpAny_madeHere_exc F.canon hC ?_ | with_reducible refine wpAny_loadPart_at hC ?_ | (with_reducible refine wpAny_isSubtype_exc hC ?_; first | rw [hcB] | rw [hcA] | rw [hcN]) | wp_step)
  show R _ _
  rw [Heap.size_push]
  exact hq
theorem type_callK (F : ExcBaseFacts O newId initO bmO) (u : Ups O bm) {rest : List Value} {kw : List (Str × Value)} {fI : Addr} {Q : Fin → Shared → Prop}
    (hC : h.get? C = some (excClassObj nm q C N bs bm hdct sn sub ab col dd k0 k1 k2 k3 k5 newId))
    (hi : W.Looks (model prog w) h (typeLookup (.ref C) "__init__") (some (.ref fI))) (hb : ∀ self, W.Looks (model prog w) h (bindSpecial (.ref fI) self) (.ref fI, [self])) (hrest : rest.length ≤ sizeLine)
    (hq : codeAny (model prog w) A (.call (.ref fI) ⟨.ref (h.objs.size + 1) :: rest, kw⟩)
      (fun r s' => match r with | .ok (.ret v) => v = .none ∧ Q (.done (.ret (.ref (h.objs.size + 1)))) s' | .ok _ => False | .error e => E e s')
      ⟨(h.push (W.kdv_tup rest)).push (excO C h.objs.size), g, d, t, os⟩) :
    wpAny (model prog w) A (Builtin.«type.__call__» ⟨.ref C :: rest, kw⟩) Q E ⟨h, g, d, t, os⟩ := by
  repeat (first | with_reducible refine wpAny_loadPart_at hC ?_ | with_reducible refine wpAny_madeBy_exc hC ?_ | wp_step)
  refine codeAny_call_builtin_code (Code.quiet_builtin _ F.quiet) (check_newK F u hC ?_)
  refine newK F u hC ?_ hrest
  show wpAny _ _ _ _ _ _
  have k : ∀ b o, h.get? b = some o → ((h.push (W.kdv_tup rest)).push (excO C h.objs.size)).get? b = some o := fun b o e => Heap.get?_push_of_some _ (Heap.get?_push_of_some _ e)
  have hC₁ := k _ _ hC
  have hget : ((h.push (W.kdv_tup rest)).push (excO C h.objs.size)).get? (h.objs.size + 1) = some (excO C h.objs.size) := by heap_get
  have hcC : (Value.ref C :: bm).contains (.ref C) = true := by simp
  have i1 := hi.keeps k
  have b1 := (hb (.ref (h.objs.size + 1))).keeps k
  unfold isInstance
  repeat (first | with_reducible refine wpAny_loadPart_at hget ?_ | (with_reducible refine wpAny_isSubtype_exc hC₁ ?_; rw [hcC]) | wp_step)
  show wpAny _ _ (typeLookup (.ref C) _) _ _ _
  refine i1.at ?_
  refine wpAny_holding (wpAny_bind (b1.at ?_))
  refine wpAny_bind (wpAny_call (codeAny_mono hq fun r s' z => ?_))
  rcases r with e | (v | _ | _ | _) <;> first | exact z | exact z.elim | skip
  obtain ⟨rfl, z⟩ := z
  first
    | exact wpAny_pure (wpAny_pure z)
    | (wp_walk; exact z)
theorem call_K (F : ExcBaseFacts O newId initO bmO) (u : Ups O bm) {rest : List Value} {kw : List (Str × Value)} {fI : Addr}
    (hC : h.get? C = some (excClassObj nm q C N bs bm hdct sn sub ab col dd k0 k1 k2 k3 k5 newId))
    (hi : W.Looks (model prog w) h (typeLookup (.ref C) "__init__") (some (.ref fI))) (hb : ∀ self, W.Looks (model prog w) h (bindSpecial (.ref fI) self) (.ref fI, [self])) (hrest : rest.length ≤ sizeLine)
    (hq : codeAny (model prog w) (A.under (.builtin "type.__call__" ⟨.ref C :: rest, kw⟩)) (.call (.ref fI) ⟨.ref (h.objs.size + 1) :: rest, kw⟩) (W.InitBack (h.objs.size + 1) R)
      ⟨(h.push (W.kdv_tup rest)).push (excO C h.objs.size), g, d, t, os⟩) :
    codeAny (model prog w) A (.call (.ref C) ⟨rest, kw⟩) R ⟨h, g, d, t, os⟩ := by
  have f1 := tc_lookup
  have f2 := tc_bind (.ref C)
  have hTy : (⟨h, g, d, t, os⟩ : Shared).TypeIs (.ref C) "type" := ⟨_, hC, rfl⟩
  refine codeAny_of_tree ?_
  show wpAny _ _ (callAny (.ref C) _) _ _ _
  repeat (any_goals (first | assumption | with_reducible refine wpAny_loadPart_at hC ?_ | wp_step))
  refine ⟨rfl, ?_⟩
  refine codeAny_call_builtin_at (Code.quiet_builtin _ (by decide +kernel)) entry_typeCall (wpAny_check_type_call_sub hC (type_callK F u hC hi hb hrest ?_))
  refine codeAny_mono hq fun r s' z => ?_
  rcases r with e | (v | _ | _ | _) <;> exact z
/-- the built-in __init__ that an own class reaches -/
def InitB (initId : String) (tail : List Value) : Prop := ∀ {prog : Program} {w : World} {A : Around} {R : Result → Shared → Prop} {h : Heap} {g : Array GenState} {d : Drawn} {t : Nat} {os : OsState} {nm q : Str} {C N : Addr} {bs bm : List Value} {hdct : Bool} {sn : List Str} {sub : List Value} {ab : Bool} {col : Option Bool} {dd : Option Addr} {k0 k1 k2 k3 k5 : Option Value} {newId : String}
    (_ : ∀ X : String, bm.contains (.type X) = tail.contains (.type X)) {e t0 : Addr} {rest : List Value} (_ : h.get? C = some (excClassObj nm q C N bs bm hdct sn sub ab col dd k0 k1 k2 k3 k5 newId)) (_ : h.get? e = some (excO C t0)) (_ : rest.length ≤ sizeLine)
    (_ : ∀ h' t1, (∀ b o, b ≠ e → h.get? b = some o → h'.get? b = some o) → h'.get? e = some (excO C t1) → R (.ok (.ret .none)) ⟨h', g, d, t, os⟩),
    codeAny (model prog w) A (.call (.builtin initId) ⟨.ref e :: rest, []⟩) R ⟨h, g, d, t, os⟩
/-- what is asked of a built-in class's __init__ -/
structure IniF (B initId : String) (bmB : List Value) : Prop where
  init : Slot B "__init__" initId
  initEntry : entryFor table initId = some Builtin.«BaseException.__init__»
  initSplit : splitId initId = some (B, "__init__")
  initKind : builtinKind initId = some .slot
  initRow : Manifest.signature? initId = some ⟨.positional, "*", B, .self, [⟨"args", .varPos, false⟩]⟩
  noStar : (B != "*") = true
  hasB : bmB.contains (.type B) = true
theorem check_initK {B initId : String} {bmB : List Value} (F : IniF B initId bmB) (hT : ∀ X : String, bm.contains (.type X) = bmB.contains (.type X)) {e : Addr} {oe : Obj} {rest : List Value} {Q : Unit → Shared → Prop}
    (hC : h.get? C = some (excClassObj nm q C N bs bm hdct sn sub ab col dd k0 k1 k2 k3 k5 newId)) (he : h.get? e = some oe) (hcls : oe.cls = .ref C) (hq : Q () ⟨h, g, d, t, os⟩) :
    wpAny M A (checkBuiltinCall initId ⟨.ref e :: rest, []⟩) Q E ⟨h, g, d, t, os⟩ := by
  have hcB : (Value.ref C :: bm).contains (.type B) = true := by rw [List.contains_cons, hT, F.hasB, Bool.or_true]
  have hshort := F.noStar
  simp only [checkBuiltinCall, F.initKind, F.initSplit, F.initRow]
  repeat (first | (with_reducible refine wpAny_loadPart_at he ?_; rw [hcls]) | with_reducible refine wpAny_loadPart_at hC ?_ | (with_reducible refine wpAny_isSubtype_exc hC ?_; rw [hcB]) | wp_step)
  refine wpAny_onRaise ?_
  rw [show ∀ (a b : String) (n : Nat), Bind.check ⟨.positional, "*", B, .self, [⟨"args", .varPos, false⟩]⟩ a b n (List.map (fun x => x.fst) ({ pos := Value.ref e :: rest } : Args).kw) = pure () from
    fun a b n => check_star_args _ _ _ _ _ _]
  exact wpAny_pure hq
theorem initB_of {B initId : String} {bmB : List Value} (F : IniF B initId bmB) : InitB initId bmB := by
  intro prog w A R h g d t os nm q C N bs bm hdct sn sub ab col dd k0 k1 k2 k3 k5 newId hT e t0 rest hC he hrest hq
  refine codeAny_call_builtin F.init.plain F.initEntry (check_initK F hT hC he rfl ?_)
  wp_walk
  refine hq _ h.objs.size (fun b o hb ho => ?_) ?_
  · rw [Heap.get?_update_other _ _ (Ne.symm hb)]
    exact Heap.get?_push_of_some _ ho
  · rw [Heap.get?_update_self _ (Heap.get?_push_of_some _ he) rfl]
    rfl
end
end HandSPX
end PySem
/-! Own layer: own exception classes below any of Python's. -/
namespace BR
open PySem PySem.Spec PyProof.Rows L2
open PySem.W (handedIn)
/-- what the library tells of a built-in exception class -/
structure BaseE (B newId initId : String) (tail : List Value) : Prop where
  nw : ∃ (O initO : String) (bmO : List Value), ExcBaseFacts O newId initO bmO ∧ PySem.HandSPX.Ups O tail
  ini : PySem.HandSPX.InitB initId tail
  st : StoreFacts B tail "object.__setattr__" "object"
theorem base_std {B n i : String} {tail : List Value} (F : ExcBaseFacts B n i tail) (st : StoreFacts B tail "object.__setattr__" "object") : BaseE B n i tail :=
  ⟨⟨_, _, _, F, ⟨F.hasB, F.noAttr, F.noName⟩⟩, PySem.HandSPX.initB_of ⟨F.init, F.initEntry, F.initSplit, F.initKind, F.initRow, F.noStar, F.hasB⟩, st⟩
theorem base_VE : BaseE "ValueError" "ValueError.__new__" "ValueError.__init__" [.type "ValueError", .type "Exception", .type "BaseException", .type "object"] := base_std PySem.F.excBase_ValueError PySem.F.store_ValueError
theorem store_RE : StoreFacts "RuntimeError" [.type "RuntimeError", .type "Exception", .type "BaseException", .type "object"] "object.__setattr__" "object" :=
  ⟨by kernel_rfl, .of (owner := "object") (n := "__setattr__") (by rw [typeLookup_type, builtinLookup_eq_fast]; kernel_rfl) (by decide +kernel) (by decide +kernel) (by decide +kernel)
    (by first | exact .inl (by decide +kernel) | exact .inr (by decide +kernel)) (by rw [isSubtype_type]; kernel_rfl), PySem.F.store_ValueError.entry, by decide +kernel, by decide +kernel, by decide +kernel, fun a b c => by unfold argsOk; kernel_rfl, fun self => by kernel_rfl⟩
theorem base_RE : BaseE "RuntimeError" "RuntimeError.__new__" "RuntimeError.__init__" [.type "RuntimeError", .type "Exception", .type "BaseException", .type "object"] := base_std PySem.F.excBase_RuntimeError store_RE
theorem refsB_cases {tail : List Value} (l : List Value) (h : refsB tail l = true) : (∃ c r, l = .ref c :: r ∧ refsB tail r = true) ∨ l = tail := by
  cases l with
  | nil => exact .inr (beq_iff_eq.mp h)
  | cons a r => cases a <;> first | exact .inl ⟨_, _, rfl, h⟩ | exact .inr (beq_iff_eq.mp h)
theorem refsB_pass {B n i : String} {tail : List Value} (b : BaseE B n i tail) (self : Value) (l : List Value) (h : refsB tail l = true) : refuseLoop self "__setattr__" l = pure () := by
  induction l with
  | nil =>
    rcases refsB_cases [] h with ⟨_, _, z, _⟩ | z
    · cases z
    · rw [z]
      exact b.st.passes self
  | cons a r ih =>
    rcases refsB_cases _ h with ⟨c, r', z, h'⟩ | z
    · obtain ⟨rfl, rfl⟩ := List.cons.inj z
      rw [refuseLoop_ref]
      exact ih h'
    · rw [z]
      exact b.st.passes self
theorem refsB_has {tail : List Value} (X : String) (l : List Value) (h : refsB tail l = true) : l.contains (.type X) = tail.contains (.type X) := by
  induction l with
  | nil =>
    rcases refsB_cases [] h with ⟨_, _, z, _⟩ | z
    · cases z
    · rw [z]
  | cons a r ih =>
    rcases refsB_cases _ h with ⟨c, r', z, h'⟩ | z
    · obtain ⟨rfl, rfl⟩ := List.cons.inj z
      rw [List.contains_cons, ih h']
      rfl
    · rw [z]
theorem refsB_ne {B n i : String} {tail l : List Value} (b : BaseE B n i tail) (h : refsB tail l = true) : l.isEmpty = false := by
  have h1 := refsB_has "object" l h
  rw [b.st.hasOwner] at h1
  cases l with
  | nil => cases h1
  | cons _ _ => rfl
section
open Builtin Builtin.ObjectAttr PySem.HandSPX
variable {prog : Program} {w : World} {A : Around} {E : Value → Shared → Prop} {R : Result → Shared → Prop} {hp : Heap} {g : Array GenState} {d : Drawn} {t : Nat} {os : OsState}
theorem osaG {K : Fg} {B n i : String} {tail : List Value} (b : BaseE B n i tail) {name : Str} {tk : Tok} {v : Value} {x C : Addr} {fv : Array Value} {cd : ClassData}
    (X : K.In hp) (hx : hp.get? x = some { cls := .ref C, data := .fields fv }) (hcd : W.clsIn K C = some cd) (hm : refsB tail cd.mro = true) (hh : cd.hasDict = true) (ha : W.findIn K (.ref C) name = some none)
    (hq : ∀ h' tk' dx, (∀ b o, b ≠ x → hp.get? b = some o → h'.get? b = some o) → hp.objs.size ≤ dx → dx ≠ x → h'.get? x = some { cls := .ref C, dict := some dx, data := .fields fv } →
      h'.Ns1 dx (fun y => if y = name then some v else none) → R (.ok (.ret .none)) ⟨h', g, d, tk', os⟩) :
    codeAny (model prog w) A (.call (.builtin "object.__setattr__") ⟨[.ref x, .str name tk, v], []⟩) R ⟨hp, g, d, t, os⟩ := by
  have J : W.InstAt hp x { cls := .ref C, data := .fields fv } C none := ⟨hx, rfl, rfl, trivial⟩
  have SF := F.store_object
  have ho : cd.mro.contains (.type "object") = true := (refsB_has "object" _ hm).trans b.st.hasOwner
  have xs : x ≠ hp.objs.size := Nat.ne_of_lt (Heap.lt_size hx)
  have sub : W.Looks (model prog w) hp (isInstance (.ref x) (.type "object")) true := J.type.andThen (W.looks_mroIn X (by unfold W.mroIn; rw [hcd, Option.bind_some, if_neg (by rw [refsB_ne b hm]; decide), ho]))
  refine codeAny_call_builtin SF.slot.plain SF.entry (@W.check_slot (model prog w) _ _ ⟨hp, g, d, t, os⟩ "object.__setattr__" "object" "__setattr__" (.ref x) [.str name tk, v] [] _ SF.kind SF.split sub (SF.args (.ref x) (.str name tk) v) ?_)
  have lm : W.Looks (model prog w) hp (mroOf (.ref C)) cd.mro := (W.looks_clsIn X hcd).andThen .now
  have ls : W.Looks (model prog w) hp (storeTaker? none) none := .now
  have lc : W.Looks (model prog w) hp (classData C) cd := W.looks_clsIn X hcd
  rw [W.osa_eq, refuse_eq]
  refine wpAny_bind (wpAny_bind (J.type.at (wpAny_bind (lm.at ?_))))
  rw [refsB_pass b _ _ hm]
  refine wpAny_pure (wpAny_bind (J.type.at (wpAny_bind ((W.looks_findIn X ha).at (wpAny_bind (ls.at ?_))))))
  show wpAny _ _ (storeInOwnDict (.ref x) (.ref C) (.str name tk) name v false) _ _ _
  obtain ⟨nm, bs, mro, ns, qn, hd, sn, sb, ab, col, del⟩ := cd
  dsimp only at hh
  subst hh
  unfold storeInOwnDict ownDictForStores
  repeat (first | with_reducible refine store_in_new ?_ ?_ | with_reducible refine wpAny_loadPart_at hx ?_ | with_reducible refine lc.at ?_ | wp_step)
  · exact ⟨_, #[], _, (Heap.get?_update_ne _ _ _ _ xs.symm).trans (Heap.get?_push_at rfl rfl), rfl, fun e he => absurd he (by simp), fun _ => rfl⟩
  · intro h' tk' hn' hs
    have x1 : (hp.push { cls := .type "dict", data := .dict #[] }).get? x = some { cls := .ref C, data := .fields fv } := Heap.get?_push_of_some _ hx
    refine hq h' tk' hp.objs.size (fun c o hc hv => ?_) (Nat.le_refl _) xs.symm ?_ hn'
    · exact (hs.2 c (Nat.ne_of_lt (Heap.lt_size hv))).trans ((Heap.get?_update_ne _ _ _ _ hc).trans (Heap.get?_push_of_some _ hv))
    · exact (hs.2 x xs).trans (Heap.get?_update_self _ x1 rfl)
end
/-- what the written part says of the class; I: the built-in __init__ that it reaches -/
structure OexG (K : Fg) (C : Addr) (I : String) : Prop where
  cls : ∃ B nid tail nm q N bs bm sn sub ab col dd k0 k1 k2 k3 k5, BaseE B nid I tail ∧ K.lookup C = some (excClassObj nm q C N bs bm true sn sub ab col dd k0 k1 k2 k3 k5 nid) ∧ refsB tail bm = true
  sa : PySem.W.findIn K (.ref C) "__setattr__" = some (some (.builtin "object.__setattr__"))
  exC : PySem.W.subIn K (.ref C) (.type "BaseException") = some true
  tyC : PySem.W.typeIn K (.ref C) = some (.type "type")
  kC : PySem.W.keepIn K (.ref C) = true
section
variable {X : Cx} {pins : List (Addr × Obj)} {σ : L2.St} {H : Hp} {s : Shared} {a C dx : Addr} {f : Str} {y : V} {u : Value} {fs : List (Str × V)} {Q : Unit → Shared → Prop} {E : Value → Shared → Prop} {A : Around} {I0 : String}
theorem ost_newG (T : OexG X.K C I0) (I : Inv X pins σ H s) (e : H a = some (exo a C none)) (hno : PySem.W.findIn X.K (.ref C) f = some none) (ry : RelV y u)
    (h : ∀ dx s', H dx = none → dx ≠ a → Inv X pins σ (upd (upd H dx (exd dx [(f, y)])) a (exo a C (some dx))) s' → Q () s') : wpAny (model X.prog X.w) A (setAttr (.ref a) f u) Q E s := by
  obtain ⟨B, nid, tail, nm, q, N, bs, bm, sn, sub, ab, col, dd, k0, k1, k2, k3, k5, b, hC, hbm⟩ := T.cls
  have cl : PySem.W.clsIn X.K C = some { name := nm, bases := bs, mro := .ref C :: bm, ns := N, qualname := q, hasDict := true, slotNames := sn, subclasses := sub, abstract := ab, collection := col, hasDel := false } := by unfold PySem.W.clsIn; rw [hC] <;> rfl
  obtain ⟨t1, ho⟩ := exo_at I.hok e
  obtain ⟨hp, g, d, t, os⟩ := s
  refine PySem.W.set_plain I.kIn (ox := { cls := .ref C, dict := none, data := .fields #[.ref t1, .none, .none, .none, .bool false, .none] }) (od := none) ⟨ho, rfl, rfl, trivial⟩ T.sa ?_
  refine osaG b I.kIn ho cl (show refsB tail (.ref C :: bm) = true from hbm) rfl hno (fun h' tk' dx k dn dne hx hn => ?_)
  have nH : H dx = none := I.hok.fresh dn
  have nd : ∀ {c : Addr} {o : Obj}, hp.get? c = some o → c ≠ dx := fun {c o} z => Nat.ne_of_lt (Nat.lt_of_lt_of_le (Heap.lt_size z) dn)
  have na : ∀ {c : Addr}, H c = none → c ≠ a := fun {c} n z => by
    rw [z, e] at n
    cases n
  have un : Un X.fs [] H (upd (upd H dx (exd dx [(f, y)])) a (exo a C (some dx))) hp h' := {
    keep := fun c o z n _ _ => k c o (na n) z
    slot := fun c o z n _ _ => ⟨o.slots, k c o (na n) z⟩
    free := fun c o z n _ => by rw [upd_ne (na n), upd_ne (nd z)]; exact n
    there := fun c o z _ => by
      by_cases hc : c = a
      · exact ⟨_, by rw [hc]; exact hx⟩
      · exact ⟨o, k c o hc z⟩
    tups := fun c xs z => by rw [upd_ne (at_ne e z exo_tup), upd_ne (ne_of_none z nH)]; exact z
    frzs := fun c o v z => by rw [upd_ne (at_ne e z exo_frz), upd_ne (ne_of_none z nH)]; exact z
    tbls := fun c ps z => ⟨#[], by rw [upd_ne (at_ne e z exo_tbl), upd_ne (ne_of_none z nH), z]; simp⟩ }
  refine h dx _ nH dne (I.un (t' := tk') un fun c o z => ?_)
  by_cases hc : c = a
  · subst hc
    rw [upd_same] at z
    cases z
    exact exo_ok hx
  · rw [upd_ne hc] at z
    by_cases hd : c = dx
    · subst hd
      rw [upd_same] at z
      cases z
      exact exd_ok hn (relO_put (fs := []) ry fun g => True.intro)
    · rw [upd_ne hd] at z
      exact (I.hok c o z).stay (fun c2 v hc2 z2 => k c2 v (by
          rcases hc2 with hc2 | hc2
          · rw [hc2]
            exact hc
          · exact at_ne e hc2 exo_own) z2)
        (fun c2 hc2 => by rw [upd_ne (at_ne e hc2 exo_own), upd_ne (ne_of_none hc2 nH)]; exact hc2) (fun c2 xs hc2 => by rw [upd_ne (at_ne e hc2 exo_tup), upd_ne (ne_of_none hc2 nH)]; exact hc2)
/-- the built-in __init__: nothing of it is told -/
theorem oinitG {us : List Value} {Q : Value → Shared → Prop} (T : OexG X.K C I0) (I : Inv X pins σ H s) (e : H a = some (exo a C none)) (hl : us.length ≤ sizeLine) (h : ∀ s', Inv X pins σ H s' → Q .none s') :
    wpAny (model X.prog X.w) A (call (.builtin I0) (.ref a :: us)) Q E s := by
  obtain ⟨B, nid, tail, nm, q, N, bs, bm, sn, sub, ab, col, dd, k0, k1, k2, k3, k5, b, hC, hbm⟩ := T.cls
  obtain ⟨t1, ho⟩ := exo_at I.hok e
  obtain ⟨hp, g, d, t, os⟩ := s
  refine wpAny_call (b.ini (fun Y => refsB_has Y bm hbm) (I.kIn _ _ hC) ho hl fun h' t2 k hx => ?_)
  have J := I.write (t' := t) (x := a) (e := a) (o := exo a C none) (by rw [e]; exact True.intro) (.inl rfl) k ⟨_, hx⟩ (exo_ok hx)
  have eu : upd H a (exo a C none) = H := by
    funext c
    by_cases hc : c = a
    · rw [hc, upd_same, e]
    · rw [upd_ne hc]
  rw [eu] at J
  exact h _ J
end
/-! readings and rules -/
/-- B.__init__(self, ..) -/
def tVeG (K : Fg) (I0 : String) (ta : TA) : TE := fun σ H Q => ta σ H fun vs H1 => ∃ (a C : Addr) (ws : List V), vs = .ref a :: ws ∧ ws.length ≤ 1000 ∧ OexG K C I0 ∧ H1 a = some (exo a C none) ∧ Q .non H1
/-- self.f = e, the first one -/
def tOsG (K : Fg) (I0 : String) (f : Str) (to te : TE) : TS := fun D σ H => te σ H fun y H1 => to σ H1 fun x H2 => ∃ a C : Addr, x = .ref a ∧ OexG K C I0 ∧ PySem.W.findIn K (.ref C) f = some none ∧
  H2 a = some (exo a C none) ∧ ∀ dx, H2 dx = none → dx ≠ a → D.nx σ (upd (upd H2 dx (exd dx [(f, y)])) a (exo a C (some dx)))
section
variable {X : Cx} {o e : Expr} {es : List Expr} {to te : TE} {ta : TA} {f x : Str} {p p' p1 p2 pos : Pos} {I0 : String} {B : Addr}
theorem pe_ginit {pl : Sem Bool} (hg : Gl X x) (hm : X.mg x = some (.ref B)) (cr : ClX.CRead X.K B (.type "type")) (vV : PySem.W.findCls X.K (.ref B) (.type "type") "__init__" = some (.val (.builtin I0))) (hb : handedIn (.builtin I0) = true) (ha : PA X (e :: es) ta)
    (hdb : (x == ("__debug__" : Str)) = false := by decide)
    (hc : eval (.Call (.Attribute (.Name x p1) "__init__" p2) (e :: es) [] pos) X.env = (do
      let ov ← eval (.Name x p1) X.env
      standAt p2.atName
      let (g, one) ← holding [ov] (getMethod ov "__init__" pl)
      callWith pos g one (backTo pos (starEach (e :: es) X.env)) (backToKw pos (keywordEach [] X.env))) := by rfl)
    (he : starEach (e :: es) X.env = (false, eval e X.env) :: starEach es X.env := by rfl) (hpl : (backTo pos (starEach es X.env)).any (·.1) = false := by rfl) :
    PE X (.Call (.Attribute (.Name x p1) "__init__" p2) (e :: es) [] pos) (tVeG X.K I0 ta) := by
  refine ⟨fun pins s σ H Q I h => ?_⟩
  refine PySem.W.methodCall_KW (ld_glob I hg hm ?_ hdb) hc
  refine PySem.W.method_cls I.kIn cr.ga (PySem.W.cls_value I.kIn cr.rd vV hb ?_)
  show wpAny _ _ (callWith pos (Value.builtin I0) [] (backTo pos (starEach (e :: es) X.env)) []) _ _ _
  refine PyProof.Rows.callWith_method1 (thn (ha.run pos pins _ σ H _ (I.tok _) h) fun us s1 ⟨vs, H1, I1, r1, a, C, ws, ev, hl, T, ea, q⟩ => ?_) he hpl
  subst ev
  cases r1 with
  | @cons _ u0 _ ur ra rw' =>
    obtain rfl : u0 = Value.ref a := ra
    exact oinitG T I1 ea (by rw [← Paired.length rw', sizeLine_eq]; omega) fun s' J => ⟨.non, H1, J, rfl, q⟩
theorem pe_ginitB {pl : Sem Bool} {T : String} (hg : Gl X T) (hm : X.mg T = none) (ld : ∀ {pins : List (Addr × Obj)} {σ : L2.St} {H : Hp} {s : Shared} {Q : Value → Shared → Prop}, Inv X pins σ H s → Q (.type T) s → wpAny (model X.prog X.w) X.A (eval (.Name T p1) X.env) Q X.xe s)
    (ht : typeOf (.type T) = pure (.type "type")) (hs : Manifest.isStub T = false) (vV : PySem.W.findCls X.K (.type T) (.type "type") "__init__" = some (.val (.builtin I0))) (hb : handedIn (.builtin I0) = true) (ha : PA X (e :: es) ta)
    (hc : eval (.Call (.Attribute (.Name T p1) "__init__" p2) (e :: es) [] pos) X.env = (do
      let ov ← eval (.Name T p1) X.env
      standAt p2.atName
      let (g, one) ← holding [ov] (getMethod ov "__init__" pl)
      callWith pos g one (backTo pos (starEach (e :: es) X.env)) (backToKw pos (keywordEach [] X.env))) := by rfl)
    (he : starEach (e :: es) X.env = (false, eval e X.env) :: starEach es X.env := by rfl) (hpl : (backTo pos (starEach es X.env)).any (·.1) = false := by rfl) :
    PE X (.Call (.Attribute (.Name T p1) "__init__" p2) (e :: es) [] pos) (tVeG X.K I0 ta) := by
  refine ⟨fun pins s σ H Q I h => ?_⟩
  refine PySem.W.methodCall_KW (ld I ?_) hc
  obtain ⟨m, fr⟩ := I.fr
  refine PySem.W.method_type fr I.ok.mod.kin ht hs vV hb ?_
  show wpAny _ _ (callWith pos (Value.builtin I0) [] (backTo pos (starEach (e :: es) X.env)) []) _ _ _
  refine PyProof.Rows.callWith_method1 (thn (ha.run pos pins _ σ H _ (I.tok _) h) fun us s1 ⟨vs, H1, I1, r1, a, C, ws, ev, hl, T, ea, q⟩ => ?_) he hpl
  subst ev
  cases r1 with
  | @cons _ u0 _ ur ra rw' =>
    obtain rfl : u0 = Value.ref a := ra
    exact oinitG T I1 ea (by rw [← Paired.length rw', sizeLine_eq]; omega) fun s' J => ⟨.non, H1, J, rfl, q⟩
theorem typ_RE : typeOf (.type "RuntimeError") = pure (.type "type") := by kernel_rfl
/-- RuntimeError.__init__(self, ..) -/
theorem pe_rinit {pl : Sem Bool} (hg : Gl X "RuntimeError") (hm : X.mg "RuntimeError" = none) (vV : PySem.W.findCls X.K (.type "RuntimeError") (.type "type") "__init__" = some (.val (.builtin "RuntimeError.__init__"))) (ha : PA X (e :: es) ta)
    (hc : eval (.Call (.Attribute (.Name "RuntimeError" p1) "__init__" p2) (e :: es) [] pos) X.env = (do
      let ov ← eval (.Name "RuntimeError" p1) X.env
      standAt p2.atName
      let (g, one) ← holding [ov] (getMethod ov "__init__" pl)
      callWith pos g one (backTo pos (starEach (e :: es) X.env)) (backToKw pos (keywordEach [] X.env))) := by rfl)
    (he : starEach (e :: es) X.env = (false, eval e X.env) :: starEach es X.env := by rfl) (hpl : (backTo pos (starEach es X.env)).any (·.1) = false := by rfl) :
    PE X (.Call (.Attribute (.Name "RuntimeError" p1) "__init__" p2) (e :: es) [] pos) (tVeG X.K "RuntimeError.__init__" ta) :=
  pe_ginitB (pl := pl) (T := "RuntimeError") hg hm (fun I q => ld_blt I hg hm PyProof.Rows.Boot.«RuntimeError» q (by decide) (by decide)) typ_RE (by decide +kernel) vV (by decide +kernel) ha hc he hpl
theorem ps_ostG (ho : PE X o to) (he : PE X e te) (hs : swapsWith e (some (.Attribute o f p')) pos.line X.env = pure false := by rfl) : PS X (.Assign [.Attribute o f p'] e pos) (tOsG X.K I0 f to te) := by
  refine ⟨fun pins s σ H D I h => ?_⟩
  refine plainObj_wpAny_Assign_Attribute (thn (he.run pins s σ H _ I h) fun v s1 ⟨y, H1, I1, r1, q1⟩ => thn (ho.run pins s1 σ H1 _ I1 q1) fun u s2 ⟨x, H2, I2, r2, a, C, ex, T, hno, ea, q⟩ => ?_) hs
  subst ex
  obtain rfl : u = Value.ref a := r2
  exact ost_newG T I2 ea hno r1 fun dx s' n ne J => ⟨σ, _, J, q dx n ne⟩
end
end BR
/-! Own layer: exceptions. Raise, several except clauses that name what they catch, calls that may raise. -/
namespace BR
open PySem PySem.Spec PyProof.Rows L2
/-! ### except X as n, several clauses -/
abbrev Hdl : Type := Value × (Addr → Value → Option Addr → TS)
inductive Hds (X : Cx) (n : Str) : List ExceptHandler → List Hdl → Prop
  | nil : Hds X n [] []
  | cons {x : Str} {c : Value} {ts : Addr → Value → Option Addr → TS} {b0 : Stmt} {su : List Stmt} {np hp : Pos} {hs : List ExceptHandler} {l : List Hdl} (hc : Names X x c)
      (hsu : ∀ (a : Addr) (oe : Obj) (cls : Value) (d : Option Addr) (pn : List (Addr × Obj)), L2N.Zn cls d oe → (∃ vs, oe.data = .fields vs) → PSs (X.suite a ((a, oe) :: pn)) (b0 :: su) (ts a cls d)) (r : Hds X n hs l) :
      Hds X n (.ExceptHandler (some (.Name x np)) (some n) (b0 :: su) hp :: hs) ((c, ts) :: l)
section
variable {X : Cx} {n : Str} {i : Nat} {body : List Stmt} {h0 : ExceptHandler} {hs : List ExceptHandler} {l : List Hdl} {pos : Pos} {tb : WX → TS} {Wo : WX}
end
/-! ### calls that may raise -/
end BR
/-! Own layer: exceptions beside their plain mirrors. -/
namespace BR
open PySem PySem.Spec PyProof.Rows L2
structure XcF (K : Fg) (l : List Str) : Prop where
  oex : ∀ n ∈ l, OexG K (cA K n) (xBase n).2.1
  xf : ∀ n ∈ l, XfC K (cA K n)
  nv : ∀ n ∈ l, PySem.W.findIn K (.ref (cA K n)) "value" = some none
  exm : ∀ n ∈ l, ∀ m ∈ l, PySem.W.exmOne K (.ref (cA K n)) (.ref (cA K m)) = some (decide (n = m))
  iC : ∀ n ∈ l, PySem.W.findIn K (.ref (cA K n)) "__init__" = some (some (.ref (mA K n "__init__")))
  tI : ∀ n ∈ l, PySem.W.typeIn K (.ref (mA K n "__init__")) = some (.type "function")
  ns : ∀ n ∈ l, PySem.W.subIn K (.ref (cA K n)) (.type "StopIteration") = some false
abbrev Exc (τ : Type) : Type := Str × τ
/-! ### __init__ -/
def sp_xinit (C : Addr) : Sp := fun vs H Q _ => ∃ (a : Addr) (v : V), vs = [.ref a, v] ∧ H a = some (exo a C none) ∧ ∀ dx, H dx = none → dx ≠ a → Q .non (upd (upd H dx (exd dx [("value", v)])) a (exo a C (some dx)))
def t_xinit (K : Fg) (I0 : String) : TS := tSeq (tDrop (tVeG K I0 (tCons (tVar 0) (tCons (tVar 1) tNil)))) (tOsG K I0 "value" (tVar 0) (tVar 1))
theorem pure_xinit {K : Fg} {l : List Str} {n : Str} (F : XcF K l) (hn : n ∈ l) : ∀ vs H (Q : VK) (E : XK), sp_xinit (cA K n) vs H Q E → t_xinit K (xBase n).2.1 { nx := fun _ H' => Q .non H', rt := Q } (L2.start ["self", "value"] vs) H := by
  rintro vs H Q E ⟨a, v, rfl, ha, q⟩
  refine ⟨_, rfl, _, rfl, a, cA K n, [v], rfl, (by show 1 ≤ 1000; decide), F.oex n hn, ha, ?_⟩
  exact ⟨_, rfl, _, rfl, a, cA K n, rfl, F.oex n hn, F.nv n hn, ha, fun dx h1 h2 => q dx h1 h2⟩
theorem len_xinit {C : Addr} : ∀ vs H Q E, sp_xinit C vs H Q E → vs.length = (["self", "value"] : List Str).length := by
  rintro vs H Q E ⟨a, v, rfl, _⟩
  rfl
/-! ### raise -/
/-- an exception's __init__, as a fact -/
structure XIn (P : Program) (w : World) (K : Fg) (mg : Str → Option Value) (base : Heap) (n : Str) : Prop where
  g : mg n = some (.ref (cA K n))
  ex : ∃ fd, FnOk P w K mg base CX0 1 (mA K n "__init__") fd ["self", "value"] (sp_xinit (cA K n)) ∧ Binds K fd ["self", "value"] []
section
variable {τ : Type}
/-- what is wished of exceptions, plain and not -/
def XOk (K : Fg) (l : List Str) (ev : τ → Ty) (c : Cn) (Φ : Sts) (W : WX) (X : Exc τ → Prop) : Prop :=
  ∀ (x : Exc τ) (d : Addr) (u : V) σ G H, x.1 ∈ l → X x → EnvOk c Φ σ G H → G d = some (.xd [("value", u)]) → (ev x.2).p G u → W (.ref (cA K x.1)) (some d) σ H
variable {K : Fg} {l : List Str} {ev : τ → Ty} {c : Cn} {Φ Ψ : Sts} {ta te : TE} {tr : TA} {α ρ : Type} {m : Wp α} {e : α → Ty} {D : Ends} {W Wo : WX} {X X' : Exc τ → Prop}
/-! ### defs that may raise -/
/-! ### try -/
end
end BR
/-! Own layer: OverflowError, IndexError and KeyError as bases of own exception classes. -/
namespace BR
open PySem PySem.Spec PyProof.Rows L2
theorem store_OE : StoreFacts "OverflowError" [.type "OverflowError", .type "ArithmeticError", .type "Exception", .type "BaseException", .type "object"] "object.__setattr__" "object" :=
  ⟨by kernel_rfl, .of (owner := "object") (n := "__setattr__") (by rw [typeLookup_type, builtinLookup_eq_fast]; kernel_rfl) (by decide +kernel) (by decide +kernel) (by decide +kernel)
    (by first | exact .inl (by decide +kernel) | exact .inr (by decide +kernel)) (by rw [isSubtype_type]; kernel_rfl), PySem.F.store_ValueError.entry, by decide +kernel, by decide +kernel, by decide +kernel, fun a b c => by unfold argsOk; kernel_rfl, fun self => by kernel_rfl⟩
theorem store_IE : StoreFacts "IndexError" [.type "IndexError", .type "LookupError", .type "Exception", .type "BaseException", .type "object"] "object.__setattr__" "object" :=
  ⟨by kernel_rfl, .of (owner := "object") (n := "__setattr__") (by rw [typeLookup_type, builtinLookup_eq_fast]; kernel_rfl) (by decide +kernel) (by decide +kernel) (by decide +kernel)
    (by first | exact .inl (by decide +kernel) | exact .inr (by decide +kernel)) (by rw [isSubtype_type]; kernel_rfl), PySem.F.store_ValueError.entry, by decide +kernel, by decide +kernel, by decide +kernel, fun a b c => by unfold argsOk; kernel_rfl, fun self => by kernel_rfl⟩
theorem store_KE : StoreFacts "KeyError" [.type "KeyError", .type "LookupError", .type "Exception", .type "BaseException", .type "object"] "object.__setattr__" "object" :=
  ⟨by kernel_rfl, .of (owner := "object") (n := "__setattr__") (by rw [typeLookup_type, builtinLookup_eq_fast]; kernel_rfl) (by decide +kernel) (by decide +kernel) (by decide +kernel)
    (by first | exact .inl (by decide +kernel) | exact .inr (by decide +kernel)) (by rw [isSubtype_type]; kernel_rfl), PySem.F.store_ValueError.entry, by decide +kernel, by decide +kernel, by decide +kernel, fun a b c => by unfold argsOk; kernel_rfl, fun self => by kernel_rfl⟩
theorem base_OE : BaseE "OverflowError" "OverflowError.__new__" "OverflowError.__init__" [.type "OverflowError", .type "ArithmeticError", .type "Exception", .type "BaseException", .type "object"] := base_std PySem.F.excBase_OverflowError store_OE
theorem base_IE : BaseE "IndexError" "IndexError.__new__" "IndexError.__init__" [.type "IndexError", .type "LookupError", .type "Exception", .type "BaseException", .type "object"] := base_std PySem.F.excBase_IndexError store_IE
theorem ini_KE : PySem.HandSPX.IniF "KeyError" "KeyError.__init__" [.type "KeyError", .type "LookupError", .type "Exception", .type "BaseException", .type "object"] where
  init := .of (owner := "KeyError") (n := "__init__") (by rw [typeLookup_type, builtinLookup_eq_fast]; kernel_rfl) (by decide +kernel) (by decide +kernel) (by decide +kernel)
    (by first | exact .inl (by decide +kernel) | exact .inr (by decide +kernel)) (by rw [isSubtype_type]; kernel_rfl)
  initEntry := PyProof.Rows.excClass_KeyError.initEntry
  initSplit := by decide +kernel
  initKind := by decide +kernel
  initRow := by kernel_rfl
  noStar := by decide +kernel
  hasB := by decide +kernel
theorem base_KE : BaseE "KeyError" "LookupError.__new__" "KeyError.__init__" [.type "KeyError", .type "LookupError", .type "Exception", .type "BaseException", .type "object"] :=
  ⟨⟨_, _, _, PySem.F.excBase_LookupError, ⟨by decide +kernel, by decide +kernel, by decide +kernel⟩⟩, PySem.HandSPX.initB_of ini_KE, store_KE⟩
section
variable {X : Cx} {o e : Expr} {es : List Expr} {to te : TE} {ta : TA} {f x : Str} {p p' p1 p2 pos : Pos} {I0 : String} {B : Addr}
theorem typ_OverflowError : typeOf (.type "OverflowError") = pure (.type "type") := by kernel_rfl
/-- OverflowError.__init__(self, ..) -/
theorem pe_oinit {pl : Sem Bool} (hg : Gl X "OverflowError") (hm : X.mg "OverflowError" = none) (vV : PySem.W.findCls X.K (.type "OverflowError") (.type "type") "__init__" = some (.val (.builtin "OverflowError.__init__"))) (ha : PA X (e :: es) ta)
    (hc : eval (.Call (.Attribute (.Name "OverflowError" p1) "__init__" p2) (e :: es) [] pos) X.env = (do
      let ov ← eval (.Name "OverflowError" p1) X.env
      standAt p2.atName
      let (g, one) ← holding [ov] (getMethod ov "__init__" pl)
      callWith pos g one (backTo pos (starEach (e :: es) X.env)) (backToKw pos (keywordEach [] X.env))) := by rfl)
    (he : starEach (e :: es) X.env = (false, eval e X.env) :: starEach es X.env := by rfl) (hpl : (backTo pos (starEach es X.env)).any (·.1) = false := by rfl) :
    PE X (.Call (.Attribute (.Name "OverflowError" p1) "__init__" p2) (e :: es) [] pos) (tVeG X.K "OverflowError.__init__" ta) :=
  pe_ginitB (pl := pl) (T := "OverflowError") hg hm (fun I q => ld_blt I hg hm PyProof.Rows.Boot.«OverflowError» q (by decide) (by decide)) typ_OverflowError (by decide +kernel) vV (by decide +kernel) ha hc he hpl
theorem typ_KeyError : typeOf (.type "KeyError") = pure (.type "type") := by kernel_rfl
/-- KeyError.__init__(self, ..) -/
theorem pe_kinit {pl : Sem Bool} (hg : Gl X "KeyError") (hm : X.mg "KeyError" = none) (vV : PySem.W.findCls X.K (.type "KeyError") (.type "type") "__init__" = some (.val (.builtin "KeyError.__init__"))) (ha : PA X (e :: es) ta)
    (hc : eval (.Call (.Attribute (.Name "KeyError" p1) "__init__" p2) (e :: es) [] pos) X.env = (do
      let ov ← eval (.Name "KeyError" p1) X.env
      standAt p2.atName
      let (g, one) ← holding [ov] (getMethod ov "__init__" pl)
      callWith pos g one (backTo pos (starEach (e :: es) X.env)) (backToKw pos (keywordEach [] X.env))) := by rfl)
    (he : starEach (e :: es) X.env = (false, eval e X.env) :: starEach es X.env := by rfl) (hpl : (backTo pos (starEach es X.env)).any (·.1) = false := by rfl) :
    PE X (.Call (.Attribute (.Name "KeyError" p1) "__init__" p2) (e :: es) [] pos) (tVeG X.K "KeyError.__init__" ta) :=
  pe_ginitB (pl := pl) (T := "KeyError") hg hm (fun I q => ld_blt I hg hm PyProof.Rows.Boot.«KeyError» q (by decide) (by decide)) typ_KeyError (by decide +kernel) vV (by decide +kernel) ha hc he hpl
theorem typ_IndexError : typeOf (.type "IndexError") = pure (.type "type") := by kernel_rfl
/-- IndexError.__init__(self, ..) -/
theorem pe_iinit {pl : Sem Bool} (hg : Gl X "IndexError") (hm : X.mg "IndexError" = none) (vV : PySem.W.findCls X.K (.type "IndexError") (.type "type") "__init__" = some (.val (.builtin "IndexError.__init__"))) (ha : PA X (e :: es) ta)
    (hc : eval (.Call (.Attribute (.Name "IndexError" p1) "__init__" p2) (e :: es) [] pos) X.env = (do
      let ov ← eval (.Name "IndexError" p1) X.env
      standAt p2.atName
      let (g, one) ← holding [ov] (getMethod ov "__init__" pl)
      callWith pos g one (backTo pos (starEach (e :: es) X.env)) (backToKw pos (keywordEach [] X.env))) := by rfl)
    (he : starEach (e :: es) X.env = (false, eval e X.env) :: starEach es X.env := by rfl) (hpl : (backTo pos (starEach es X.env)).any (·.1) = false := by rfl) :
    PE X (.Call (.Attribute (.Name "IndexError" p1) "__init__" p2) (e :: es) [] pos) (tVeG X.K "IndexError.__init__" ta) :=
  pe_ginitB (pl := pl) (T := "IndexError") hg hm (fun I q => ld_blt I hg hm PyProof.Rows.Boot.«IndexError» q (by decide) (by decide)) typ_IndexError (by decide +kernel) vV (by decide +kernel) ha hc he hpl
end
end BR
/-! Own layer: what the top is asked about exception classes. -/
namespace BR
open PySem PySem.Spec PyProof.Rows L2
theorem xBase_ok (n : Str) : ∃ B, BaseE B (xBase n).1 (xBase n).2.1 (xBase n).2.2 := by
  unfold xBase
  split
  · exact ⟨_, base_RE⟩
  · split
    · exact ⟨_, base_OE⟩
    · split
      · exact ⟨_, base_KE⟩
      · split
        · exact ⟨_, base_IE⟩
        · exact ⟨_, base_VE⟩
theorem oexB_ok {K : Fg} {C : Addr} {n : Str} (h : oexB K C (xBase n) = true) : OexG K C (xBase n).2.1 := by
  obtain ⟨B, hB⟩ := xBase_ok n
  generalize xBase n = b at h hB ⊢
  obtain ⟨h1, h⟩ := He.ba h
  obtain ⟨h2, h⟩ := He.ba h
  obtain ⟨h3, h⟩ := He.ba h
  obtain ⟨h4, h5⟩ := He.ba h
  refine ⟨?_, He.eqO_ok h2, of_decide_eq_true h3, of_decide_eq_true h4, h5⟩
  split at h1
  · rename_i dd cd sl ho
    split at h1
    · rename_i C' bm k0 k1 k2 k3 n k5 hm hs
      obtain ⟨q1, h1⟩ := He.ba h1
      obtain ⟨q2, h1⟩ := He.ba h1
      obtain ⟨q3, h1⟩ := He.ba h1
      obtain ⟨q4, q5⟩ := He.ba h1
      have q1 := of_decide_eq_true q1
      have q2 := of_decide_eq_true q2
      subst q1
      subst q2
      obtain ⟨nm, bs, mro, ns, qn, hd, sn, sub, ab, col, del⟩ := cd
      dsimp only at hm q3 q4
      subst hm
      obtain ⟨l⟩ := sl
      dsimp only at hs
      subst hs
      cases hd with
      | false => cases q4
      | true =>
        cases del with
        | true => cases q3
        | false => exact ⟨B, b.1, b.2.2, nm, qn, ns, bs, bm, sn, sub, ab, col, dd, k0, k1, k2, k3, k5, hB, ho, q5⟩
    · cases h1
  · cases h1
theorem xcB_ok {K : Fg} {l : List Str} (h : (Fb.b (xcB l)).ok K = true) : XcF K l := by
  have h' := fun n hn => List.all_eq_true.mp (show xcB l K = true from h) n hn
  have a : ∀ n ∈ l, OexG K (cA K n) (xBase n).2.1 ∧ XfC K (cA K n) ∧ PySem.W.findIn K (.ref (cA K n)) "value" = some none ∧ PySem.W.findIn K (.ref (cA K n)) "__init__" = some (some (.ref (mA K n "__init__"))) ∧ PySem.W.typeIn K (.ref (mA K n "__init__")) = some (.type "function") ∧ PySem.W.subIn K (.ref (cA K n)) (.type "StopIteration") = some false ∧
      ∀ m ∈ l, PySem.W.exmOne K (.ref (cA K n)) (.ref (cA K m)) = some (decide (n = m)) := fun n hn => by
    obtain ⟨h1, h⟩ := He.ba (h' n hn)
    obtain ⟨h2, h⟩ := He.ba h
    obtain ⟨h3, h⟩ := He.ba h
    obtain ⟨h4, h⟩ := He.ba h
    obtain ⟨h5, h⟩ := He.ba h
    obtain ⟨h7, h6⟩ := He.ba h
    exact ⟨oexB_ok h1, xfB_ok h2, He.eqO_ok h3, He.eqO_ok h4, of_decide_eq_true h5, of_decide_eq_true h7, fun m hm => of_decide_eq_true (List.all_eq_true.mp h6 m hm)⟩
  exact ⟨fun n hn => (a n hn).1, fun n hn => (a n hn).2.1, fun n hn => (a n hn).2.2.1, fun n hn m hm => (a n hn).2.2.2.2.2.2 m hm, fun n hn => (a n hn).2.2.2.1, fun n hn => (a n hn).2.2.2.2.1, fun n hn => (a n hn).2.2.2.2.2.1⟩
/-- BoxError -/
structure BxE (K : Fg) (mg : Str → Option Value) : Prop where
  g : mg "BoxError" = some (.ref (cA K "BoxError"))
  cr : ClX.CRead K (cA K "BoxError") (.type "type")
  fi : PySem.W.findCls K (.ref (cA K "BoxError")) (.type "type") "__init__" = some (.val (.builtin "ValueError.__init__"))
theorem bxB_ok {K : Fg} (h : (Fb.b bxB).ok K = true) : PySem.W.findCls K (.ref (cA K "BoxError")) (.type "type") "__init__" = some (.val (.builtin "ValueError.__init__")) := by
  have h : bxB K = true := h
  unfold bxB at h
  split at h
  · rename_i s e
    rw [e, of_decide_eq_true h]
  · cases h
end BR
/-! Own layer: rules for the second family of laws; isinstance of any data; another pool. -/
namespace BR
open PySem PySem.Spec PyProof.Rows L2
/-- no data is a region -/
structure OthA (K : Fg) : Prop where
  o : ∀ n ∈ oTys, Oth K (RG K) n
section
variable {K : Fg} {c : Cn} {Φ Ψ : Sts} {ta tb te : TE} {tr : TA} {α β : Type} {e : α → Ty} {f : β → Ty} {wa : Wp α} {wl : Wp (List α)} {m n : Wp Int} {D : Ends}
end
/-! ### another pool -/
end BR
/-! Own layer: a lambda handed to a def; only the one table changes. -/
namespace BR
open PySem PySem.Spec PyProof.Rows L2 LamX
/-- all but what stands at P stays -/
def ButP (P : Addr) (H H' : Hp) : Prop := ∀ a o, a ≠ P → H a = some o → H' a = some o
section
variable {X : Cx} {pins : List (Addr × Obj)} {σ : L2.St} {H : Hp} {s : Shared}
end
section
variable {X : Cx}
end
end BR
/-! Own layer: a, b, c = x, y, z. -/
theorem L2.Room.u200 {k : Nat} {A : PySem.Around} (r : L2.Room k A) : A.units + 200 < PySem.cLine := by have := r.un; omega
namespace BR
open PySem PySem.Spec PyProof.Rows L2
section
variable {c : Cn} {D : Ends} {Φ : Sts} {ta : TA} {α : Type} {m : Wp α}
end
end BR
/-! Own layer: regions as tests, max and min of three, forms beside (). -/
namespace BR
open PySem PySem.Spec PyProof.Rows L2
section
variable {X : Cx} {a : Expr} {ta : TE} {pos : Pos} {r : V → Hp → (Bool → Hp → Prop) → Prop}
end
section
variable {K : Fg} {Φ : Sts} {ta tb tc : TE} {α : Type} {e : α → Ty} {m n k : Wp Int} {p : Wp Reg} {E : XK}
instance : EqE (eO tI) := ⟨fun a b => by
  cases a with
  | none =>
    cases b with
    | none => rfl
    | some b => simp [DatE.d, PyData.eqv]
  | some a =>
    cases b with
    | none => simp [DatE.d, PyData.eqv]
    | some b =>
      have := EqE.eq (e := tI) a b
      show PyData.eqv (DatE.d tI a) (DatE.d tI b) = _
      rw [this]
      simp⟩
end
end BR
/-! found, left = [], e ; forms by index. -/
namespace BR
open PySem PySem.Spec PyProof.Rows L2
section
variable {K : Fg} {c : Cn} {Φ Ψ : Sts} {σ : St} {G H : Hp} {ta tb te : TE} {α β : Type} {e : α → Ty} {wa : Wp α} {D : Ends}
/-- a list that lies there becomes one's own -/
theorem EnvOk.adopt {i : Nat} {q : Addr} {φs : Ct} {u : HO} (e : EnvOk c Φ σ G H) (gq : G q = none) (hu : H q = some u) (nm : ¬ Muts Φ σ q) (h0 : c.H0 q = none) (nex : ¬ c.ex q) (hv : φs.p G u) :
    EnvOk c (Φ.set i (.own φs)) (σ.set i (some (.ref q))) G H := by
  have mm : ∀ (j : Nat) (p : Addr), MutAt (Φ.set i (.own φs)) (σ.set i (some (.ref q))) j p → (j = i ∧ p = q) ∨ (j ≠ i ∧ MutAt Φ σ j p) := by
    rintro j p ⟨⟨s, h1, h2⟩, h3⟩
    rcases set_at h1 with ⟨rfl, rfl, _⟩ | ⟨n, h1⟩
    · rcases set_at h3 with ⟨_, z, _⟩ | ⟨n, _⟩
      · cases z
        exact .inl ⟨rfl, rfl⟩
      · exact absurd rfl n
    · rcases set_at h3 with ⟨z, _⟩ | ⟨_, h3⟩
      · exact absurd z n
      · exact .inr ⟨fun z => n z.symm, ⟨s, h1, h2⟩, h3⟩
  have mq : ∀ {p}, Muts Φ σ p → p ≠ q := fun h z => nm (z ▸ h)
  refine ⟨⟨e.L.s, by simp [e.L.l], fun j s h => ?_, fun x y p h1 h2 => ?_⟩, e.g, e.b, e.f, fun j ψs p h1 h2 => ?_, e.k, fun j p h1 h2 => ?_, fun j P n h1 => ?_⟩
  · rcases set_at h with ⟨rfl, rfl, hl⟩ | ⟨n, h⟩
    · exact ⟨_, by rw [List.getElem?_set]; simp [e.L.l, hl], q, u, rfl, hu, hv, gq⟩
    · obtain ⟨o, h1, h2⟩ := e.L.sl j s h
      exact ⟨o, by rw [List.getElem?_set]; simp [n, h1], h2⟩
  · rcases mm x p h1 with ⟨rfl, rfl⟩ | ⟨nx, h1⟩
    · rcases mm y p h2 with ⟨rfl, _⟩ | ⟨ny, h2⟩
      · rfl
      · exact absurd rfl (mq ⟨y, h2⟩)
    · rcases mm y p h2 with ⟨z1, z2⟩ | ⟨ny, h2⟩
      · exact absurd z2 (mq ⟨x, by assumption⟩)
      · exact e.L.nd x y p (by assumption) h2
  · rcases set_at h1 with ⟨rfl, z, _⟩ | ⟨n, h1⟩
    · rcases set_at h2 with ⟨_, w, _⟩ | ⟨n, _⟩
      · cases w
        exact ⟨h0, nex⟩
      · exact absurd rfl n
    · rcases set_at h2 with ⟨w, _⟩ | ⟨_, h2⟩
      · exact absurd w n
      · exact e.m j ψs p h1 h2
  · rcases set_at h1 with ⟨rfl, z, _⟩ | ⟨n, h1⟩
    · cases z
    · rcases set_at h2 with ⟨w, _⟩ | ⟨_, h2⟩
      · exact absurd w n
      · exact e.r j p h1 h2
  · rcases set_at h1 with ⟨rfl, z, _⟩ | ⟨n, h1⟩
    · cases z
    · exact e.t j P _ h1
/-! a list of anything beside [] -/
end
end BR
/-! Own layer: sorted of tuples of ints of one length, any number of any ints. -/
namespace BR
open PySem PySem.Spec PyProof.Rows L2
def IsInts : List Int → List Value → Prop := Paired fun i u => ∃ t, u = Value.int i t
def IsTI (h : Heap) (v : Value) (ns : List Int) : Prop := ∃ a o its n, v = Value.ref a ∧ h.get? a = some o ∧ o.cls = .type "tuple" ∧ o.data = .seq its n ∧ IsInts ns its.toList
theorem IsTI.keeps {h h' : Heap} {v : Value} {ns : List Int} (p : IsTI h v ns) (k : ∀ b o, h.get? b = some o → o.cls = .type "tuple" → h'.get? b = some o) : IsTI h' v ns := by
  obtain ⟨a, o, its, n, e, ho, hc, hd, hi⟩ := p
  exact ⟨a, o, its, n, e, k _ _ ho hc, hc, hd, hi⟩
section
variable {prog : Program} {w : World} {A : Around} {s : Shared}
open Srt
end
end BR
namespace BR
open PySem PySem.Spec PyProof.Rows L2
section
variable {X : Cx}
end
/-! plain sorting by codes -/
structure Cod {α : Type} (d : Nat) (l : α → List Int) : Prop where
  len : ∀ a, (l a).length = d
  inj : ∀ a b, l a = l b → a = b
section
variable {α : Type} {d : Nat} {l : α → List Int}
end
section
variable {K : Fg} {σ : St} {G R H : Hp} {te : TE} {α : Type} {d : Nat} {l : α → List Int} {e : α → Ty}
end
def c4 (b : Bx) : List Int := [b.1, b.2.1, b.2.2.1, b.2.2.2]
section
variable {K : Fg} {Φ : Sts} {ta : TE}
end
end BR
/-! Own layer: sorted(set(xs)), xs tuples of ints of one length. -/
namespace BR
open PySem PySem.Spec PyProof.Rows L2
section
variable {P : Program} {w : World} {A : Around} {s : Shared} {E : Value → Shared → Prop}
end
end BR
/-! Own layer: enumerate of a tuple. -/
namespace BR
open PySem PySem.Spec PyProof.Rows L2
section
variable {prog : Program} {w : World} {A : Around} {E : Value → Shared → Prop} {s : Shared}
end
/-! the mirror -/
section
variable {K : Fg} {Φ : Sts} {te : TE} {α : Type} {e : α → Ty}
end
end BR
/-! Own layer: max(xs, default=i), x < y of data, list(f(..)) of a generator def, sorted(set(boxes)). -/
namespace BR
open PySem PySem.Spec PyProof.Rows L2
/-! max(xs, default=i) -/
section
variable {X : Cx}
/-! x < y -/
end
section
variable {K : Fg} {Φ : Sts} {ta tb : TE} {α β : Type} {e : α → Ty} {E : XK}
end
/-! each once, in order -/
section
variable {α : Type} [DecidableEq α] {d : Nat} {l : α → List Int}
end
section
variable {K : Fg} {Φ : Sts} {ta : TE}
end
end BR
/-! Own layer: generator defs of the module. -/
namespace BR
open PySem PySem.Spec PyProof.Rows L2
structure GHasF (P : Program) (w : World) (K : Fg) (mg : Str → Option Value) (base : Heap) (k : Nat) (x : Str) (ps : List Str) (sp : SpG) : Prop where
  ex : ∃ f, mg x = some (.ref f) ∧ PySem.W.keepIn K (.ref f) = true ∧ GHas P w K mg base k f ps sp
section
variable {P : Program} {w : World} {K : Fg} {mg : Str → Option Value} {base : Heap} {f : Addr} {fd : FuncData} {x q : Str} {st : Stmt} {N ps : List Str} {sp : SpG} {k : Nat}
end
section
variable {X : Cx} {k : Nat} {x : Str} {ps : List Str} {sp : SpG} {e : Expr} {es : List Expr} {t : TA} {p p1 pos' pos : Pos}
end
end BR
/-! Own layer: lambdas and tables beside plain mirrors. -/
namespace BR
open PySem PySem.Spec PyProof.Rows L2 LamX
/-! ### tables that stand -/
def TabsH (T : List (Addr × Str)) (G H : Hp) : Prop := ∀ p ∈ T, G p.1 = none ∧ TabS H p.1 p.2
structure GrowT (T : List (Addr × Str)) (G H G' H' : Hp) : Prop where
  g : Same G G'
  b : ∀ a o, (∀ p ∈ T, p.1 ≠ a) → H a = some o → H' a = some o
  s : Same G' H'
  f : ∀ a, G a = none → G' a ≠ none → Fz H a
  t : TabsH T G' H'
section
variable {K : Fg} {c : Cn} {Φ Φv : Sts} {σ : St} {G H G' H' : Hp} {T : List (Addr × Str)} {α ρ τ : Type} {tr : TA}
theorem Step.growT (ev : EnvL Φ σ G H) (hT : ∀ p ∈ T, ∃ j : Nat, Φ[j]? = some (.tab p.1 p.2)) (g : GrowT T G H G' H') : Step Φ σ G H G' H' := by
  have mt : ∀ p ∈ T, ∃ j, Φ[j]? = some (.tab p.1 p.2) ∧ MutAt Φ σ j p.1 := fun p hp => by
    obtain ⟨j, hj⟩ := hT p hp
    obtain ⟨o, h1, rfl, _⟩ := ev.sl j _ hj
    exact ⟨j, hj, ⟨_, hj, rfl⟩, h1⟩
  refine ⟨⟨g.s, ev.l, fun i s h => ?_, ev.nd⟩, g.g, fun a o n h => g.b a o (fun p hp z => ?_) h, g.f⟩
  · obtain ⟨o, h1, h2⟩ := ev.sl i s h
    refine ⟨o, h1, ?_⟩
    by_cases hm : s.mu = true ∧ ∃ p ∈ T, o = some (.ref p.1)
    · obtain ⟨m, p, hp, rfl⟩ := hm
      obtain ⟨j, hj, mj⟩ := mt p hp
      have : i = j := ev.nd i j p.1 ⟨⟨s, h, m⟩, h1⟩ mj
      subst this
      rw [hj] at h
      cases h
      exact ⟨rfl, (g.t p hp).2, (g.t p hp).1⟩
    · refine h2.keep g.g (fun q u m ho hq => g.b q u (fun p hp z => hm ⟨m, p, hp, by rw [ho, z]⟩) hq) (fun q m ho => ?_) fun a φ ha => g.b a _ (fun p hp z => ?_) ha
      · subst ho
        obtain ⟨⟨u, hu, nt⟩, hn⟩ := h2.mutH m
        cases z : G' q with
        | none => rfl
        | some w =>
          exact ((g.f q hn (by rw [z]; exact fun w => nomatch w)).no hu nt).elim
      · obtain ⟨j, hj, mj⟩ := mt p hp
        exact ev.notX ha ⟨j, z ▸ mj⟩
  · obtain ⟨j, hj, mj⟩ := mt p hp
    exact n ⟨j, z ▸ mj⟩
/-- the table is written -/
theorem Step.tab {j : Nat} {P : Addr} {n : Str} (ev : EnvL Φ σ G H) (hj : Φ[j]? = some (.tab P n)) (b : ButP P H H') (t : TabS H' P n) : Step Φ σ G H G H' := by
  obtain ⟨o, h1, h2, h3, h4⟩ := ev.sl j _ hj
  exact Step.growT (T := [(P, n)]) ev (fun p hp => by rw [List.mem_singleton.mp hp]; exact ⟨j, hj⟩) ⟨same_refl _, fun a o m h => b a o (fun z => m _ List.mem_cons_self z.symm) h, fun a o h => b a o (fun z => by rw [z, h4] at h; cases h) (ev.s _ _ h), fun a h h' => absurd h h', fun p hp => by rw [List.mem_singleton.mp hp]; exact ⟨h4, t⟩⟩
/-! ### what a lambda does -/
def DoorOk (K : Fg) (l : List Str) (ev : τ → Ty) (er : ρ → Ty) (k : (ρ → Prop) → (Exc τ → Prop) → Prop) (G0 : Hp) (tl : XK → Hp → VK → Prop) : Prop :=
  ∀ G H, Same G0 G → Same G H → ∀ (R : ρ → Prop) (X : Exc τ → Prop) (Q : VK) (E : XK), k R X → (∀ r v G' H', R r → Grow G H G' H' → (er r).p G' v → Q v H') →
    (∀ (x : Exc τ) (d : Addr) (u : V) G' H', x.1 ∈ l → X x → Grow G H G' H' → G' d = some (.xd [("value", u)]) → (ev x.2).p G' u → E (.ref (cA K x.1)) (some d) H') → tl E H Q
variable {l : List Str} {ev : τ → Ty}
/-- what a def may take for granted of the lambda that it got -/
structure Dr (K : Fg) (l : List Str) (ev : τ → Ty) (er : ρ → Ty) (k : (ρ → Prop) → (Exc τ → Prop) → Prop) (c : Cn) (c' : Addr) (q : Str) (tl : XK → Hp → VK → Prop) : Prop where
  d : DoorOk K l ev er k c.G0 tl
  h : c.H0 c' = some (CodeO c' q)
  n : ¬ c.ex c'
end
/-! ### defs that make lambdas -/
def tbOf (T : List (Addr × Str)) (a : Addr) : Option Str := (T.find? fun p => decide (p.1 = a)).map (·.2)
def cT (T : List (Addr × Str)) (G H : Hp) : Cn := ⟨fun a => ∃ p ∈ T, p.1 = a, G, H, tbOf T⟩
section
variable {K : Fg} {α : Type}
end
end BR
/-! Own layer: the Hook that tells of tables of code objects too. -/
namespace BR
open PySem PySem.Spec PyProof.Rows L2
/-! ### the Hook -/
structure SaysPT (fb : List Fb) (fn : List DefP) (tf : List He.Defn) (h : Heap) (K : Fg) : Prop where
  p : SaysP fb fn K
  hd : ∀ p ∈ tf, PySem.W.codeHdIn K (He.cT K p).1 (He.cT K p).2 = true
  out : ∀ p ∈ tf, K.lookup (He.cT K p).2 = none
  empty : ∀ p ∈ tf, h.get? (He.cT K p).2 = some { cls := .none, data := .fields #[] }
end BR
/-! Own layer: a law's end where tables of code objects stand; the Hook that tells of them. -/
namespace BR
open PySem PySem.Spec PyProof.Rows L2 LamX
end BR
/-! Own layer: the printed texts' last rules for lambdas; data that are ints. -/
namespace BR
open PySem PySem.Spec PyProof.Rows L2 LamX
section
variable {X : Cx}
end
section
variable {K : Fg} {Φ : Sts} {te : TE} {E : XK}
end
/-! lists of texts, as long as each other -/
def rNeLS (K : Fg) : R2 := fun x y H Q => ∃ a b, ∃ xs ys : List Str, x = .ref a ∧ y = .ref b ∧ SqL K H a (xs.map V.str) ∧ SqL K H b (ys.map V.str) ∧ xs.length = ys.length ∧ Q (.bl (!decide (xs = ys))) H
theorem op_neLS {X : Cx} (hu : X.A.units + 64 < cLine) : OpR X (compareOp .NotEq) (rNeLS X.K) := by
  intro pins s σ H x y v u Q I rx ry h
  obtain ⟨a, b, xs, ys, rfl, rfl, ha, hb, hl, q⟩ := h
  cases rx
  cases ry
  obtain ⟨its, rv, hl1, _⟩ := I.list ha
  obtain ⟨its2, rv2, hl2, _⟩ := I.list hb
  have l1 : xs.length = its.length := by simpa using rv.length
  have l2 : ys.length = its2.length := by simpa using rv2.length
  have key : (!(List.range its.toArray.size).all fun j => decide (xs[j]? = ys[j]?)) = !decide (xs = ys) := by
    congr 1
    rw [Bool.eq_iff_iff, List.all_eq_true, decide_eq_true_eq]
    constructor
    · intro h
      refine List.ext_getElem? fun j => ?_
      by_cases hj : j < its.length
      · exact of_decide_eq_true (h j (by simpa using hj))
      · rw [List.getElem?_eq_none (by omega), List.getElem?_eq_none (by omega)]
    · rintro rfl j _
      simp
  refine (SeqAt.RcNeAt.lists (e := fun j => decide (xs[j]? = ys[j]?)) hl1.isList hl2.isList (by simp; omega) (by omega) fun j h1 h2 => ?_) _ _ _ _ ⟨.bl _, H, I, rfl, by rw [key]; exact q⟩
  have j1 : j < xs.length := by simp at h1; omega
  have j2 : j < ys.length := by omega
  obtain ⟨u1, e1, r1⟩ := rv.get (i := j) (x := .str xs[j]) (by simp [j1])
  obtain ⟨u2, e2, r2⟩ := rv2.get (i := j) (x := .str ys[j]) (by simp [j2])
  have f1 : its.toArray[j] = u1 := by
    have := (List.getElem?_eq_some_iff.mp e1).2
    simpa using this
  have f2 : its2.toArray[j] = u2 := by
    have := (List.getElem?_eq_some_iff.mp e2).2
    simpa using this
  obtain ⟨t1, rfl⟩ := (r1 : ∃ t, u1 = .str xs[j] t)
  obtain ⟨t2, rfl⟩ := (r2 : ∃ t, u2 = .str ys[j] t)
  rw [f1, f2]
  have e : decide (xs[j]? = ys[j]?) = (xs[j] == ys[j]) := by
    rw [List.getElem?_eq_getElem j1, List.getElem?_eq_getElem j2]
    rw [Bool.eq_iff_iff]
    simp
  rw [e]
  exact SeqAt.EqAt.str_str _ _ _ _
theorem md_neLS {Φ : Sts} {K : Fg} {ta tb : TE} {p q : Wp (List Str)} (ha : MD Φ ta p (eL tSt)) (hb : MD Φ tb q (eL tSt)) : MD Φ (tOp (rNeLS K) ta tb) (wBind p fun a => wBind q fun b => wG (a.length = b.length) (!decide (a = b))) tBo := fun σ G H ev P Q mp k =>
  ha σ G H ev _ _ mp fun a v G1 H1 p1 s1 hv => hb σ G1 H1 s1.e _ _ p1 fun b w G2 H2 p2 s2 hw => by
    obtain ⟨⟨x, vs, rfl, g1, a1⟩, _⟩ := hv
    obtain ⟨⟨y, ws, rfl, g2, a2⟩, _⟩ := hw
    have txts : ∀ {G : Hp} {l : List Str} {vs : List V}, All G (l.map tSt) vs → vs = l.map V.str := by
      intro G l
      induction l with
      | nil =>
        intro vs h
        cases h
        rfl
      | cons z l ih =>
        intro vs h
        cases h with
        | cons h1 h2 => rw [ih h2, List.map_cons, show _ = V.str z from h1]
    have e1 := txts a1
    have e2 := txts a2
    subst e1
    subst e2
    exact ⟨x, y, a, b, rfl, rfl, .of (s2.e.s _ _ (s2.g _ _ g1)), .of (s2.e.s _ _ g2), p2.1, k _ _ G2 H2 p2.2 (s1.trans s2) rfl⟩
theorem XOk.le {τ : Type} {K : Fg} {l : List Str} {ev : τ → Ty} {c c' : Cn} {Φ : Sts} {W : WX} {X : Exc τ → Prop} (h : XOk K l ev c Φ W X) (le : CLe c' c) : XOk K l ev c' Φ W X := fun x d u σ G H hl px en hd hu => h x d u σ G H hl px (le _ _ _ _ en) hd hu
/-! tuples of one -/
def e1 {α : Type} (e : α → Ty) (a : α) : Ty := tT [e a]
instance {α : Type} {e : α → Ty} [h : DatE e] : DatE (e1 e) := ⟨fun a => .tuple [h.d a], h.n + 2, fun a G v hv => by
  obtain ⟨p, vs, h1, h2, h3⟩ := hv
  rw [dt_tuple]
  cases h3 with
  | cons h4 h5 =>
    cases h5
    exact ⟨p, _, h1, h2, .cons (h.to _ _ _ h4) .nil⟩, fun a => Lay.tuple fun d hd => by
  simp only [List.mem_cons, List.not_mem_nil, or_false] at hd
  rcases hd with rfl
  exact h.lay _⟩
end BR
/-! Keyword-only parameters. -/
namespace BR
open PySem PySem.Spec PyProof.Rows L2
def FnRK (P : Program) (w : World) (K : Fg) (mg : Str → Option Value) (base : Heap) (CX : CXT) (k : Nat) (f : Addr) (n : Nat) (ks : List Str) (sp : Sp) : Prop :=
  ∀ (A : Around) (outer : List Env) (s : Shared) (H : Hp) (us ws : List Value) (vs zs : List V) (Q : VK) (E : XK), Room k A → Env0 P w K mg base A outer s H → Vals vs us → Vals zs ws → vs.length = n → zs.length = ks.length → sp (vs ++ zs) H Q E →
    codeAny (model P w) A (.call (.ref f) ⟨us, ks.zip ws⟩) (CR CX outer P w H s Q E) s
/-- a def whose keyword-only parameters ks have the defaults dv -/
structure HasK (P : Program) (w : World) (K : Fg) (mg : Str → Option Value) (base : Heap) (CX : CXT) (k : Nat) (x : Str) (n : Nat) (ks : List Str) (dv : List V) (sp : Sp) : Prop where
  ex : ∃ f, mg x = some (.ref f) ∧ PySem.W.keepIn K (.ref f) = true ∧ FnRK P w K mg base CX k f n ks sp ∧ FnR P w K mg base CX k f (fun vs H Q E => sp (vs ++ dv) H Q E)
section
variable {CX : CXT} {P : Program} {w : World} {K : Fg} {mg : Str → Option Value} {base : Heap} {k n : Nat} {x q qual : Str} {st : Stmt} {kws : List (Str × V)} {f : Addr} {fd : FuncData} {N ps ks : List Str} {sp : Sp} {params : Arguments} {body : List Stmt} {scope : Scope}
end
section
variable {X : Cx} {CX : CXT} {k n : Nat} {x : Str} {ks : List Str} {dv : List V} {sp : Sp} {E : XK} {p pos : Pos} {e : Expr} {es : List Expr} {kws : List Keyword} {t tk : TA}
end
section
variable {Φ : Sts} {t tk : TA} {α β γ : Type} {m : Wp α} {m' : Wp β} {es : α → List Ty} {es' : β → List Ty} {es'' : γ → List Ty} {n n' : Nat}
end
end BR
/-! the call with keywords, its length apart -/
namespace BR
open PySem PySem.Spec PyProof.Rows L2
variable {X : Cx} {CX : CXT} {k n m : Nat} {x : Str} {ks : List Str} {dv : List V} {sp : Sp} {E : XK} {p pos : Pos} {e : Expr} {es : List Expr} {kws : List Keyword} {t tk : TA}
end BR
/-! Own layer: lists that are new, so that they may be changed by whoever gets them. -/
namespace BR
open PySem PySem.Spec PyProof.Rows L2
/-- the list at q is new and not frozen -/
structure Nw {α : Type} (e : α → Ty) (l : List α) (H : Hp) (q : Addr) (vs : List V) (G' H' : Hp) : Prop where
  o : H q = none
  g : G' q = none
  h : H' q = some (.lst vs)
  a : All G' (l.map e) vs
  z : l.length ≤ 100000
def MDF (Φ : Sts) (te : TE) {α : Type} (m : Wp (List α)) (e : α → Ty) : Prop :=
  ∀ σ G H, EnvL Φ σ G H → ∀ (P : List α → Prop) (Q : VK), m P → (∀ l q vs G' H', P l → Step Φ σ G H G' H' → Nw e l H q vs G' H' → Q (.ref q) H') → te σ H Q
section
variable {K : Fg} {c : Cn} {Φ : Sts} {σ : St} {G H G' H' : Hp} {D : Ends} {ta tb te : TE} {tt : TT} {tr : TA} {α β γ : Type} {e : α → Ty} {f : β → Ty}
theorem Step.none (ev : EnvL Φ σ G H) (s : Step Φ σ G H G' H') {p : Addr} (h : H' p = none) : H p = none := by
  cases z : H p with
  | none => rfl
  | some o =>
    by_cases m : Muts Φ σ p
    · obtain ⟨⟨u, hu, _⟩, _⟩ := s.e.mut m
      rw [h] at hu
      cases hu
    · have := s.b p o m z
      rw [h] at this
      cases this
theorem mdf_cat {p q : Wp (List α)} (ha : MD Φ ta p (eL e)) (hb : MD Φ tb q (eL e)) : MDF Φ (tOp (rAddX K) ta tb) (wBind p fun a => wBind q fun b => wG (a.length + b.length ≤ 100000) (a ++ b)) e := fun σ G H ev P Q mp k =>
  ha σ G H ev _ _ mp fun a x G1 H1 pa s1 hx => hb σ G1 H1 s1.e _ _ pa fun b y G2 H2 pb s2 hy => by
    obtain ⟨pb1, pb2⟩ := pb
    obtain ⟨⟨u, vs, rfl, h1, h2⟩, _⟩ := (eL e a).m _ _ _ s2.g hx
    obtain ⟨⟨v, ws, rfl, h3, h4⟩, _⟩ := hy
    refine .inr (.inr (.inl ⟨u, v, vs, ws, rfl, rfl, s2.e.s _ _ h1, s2.e.s _ _ h3, sz_of (by rw [h2.length, h4.length, List.length_map, List.length_map]; exact pb1), fun r hr => ?_⟩))
    have s12 := s1.trans s2
    exact k (a ++ b) r _ G2 _ pb2 (s12.trans (step_rest s2.e (same_new hr))) ⟨s12.none ev hr, s2.e.s.free hr, upd_same, by rw [List.map_append]; exact h2.append h4, by simpa using pb1⟩
/-! ### statements -/
theorem EnvOk.h0 (ev : EnvOk c Φ σ G H) {q : Addr} (hq : H q = none) : c.H0 q = none ∧ ¬ c.ex q := by
  have nex : ¬ c.ex q := fun z => by
    obtain ⟨u, h⟩ := (ev.k q z).2.at
    rw [hq] at h
    cases h
  refine ⟨?_, nex⟩
  cases z : c.H0 q with
  | none => rfl
  | some o =>
    have := ev.b q o nex z
    rw [hq] at this
    cases this
/-- x = e, a new list that is changed later -/
theorem nx_asgF {i : Nat} {m : Wp (List α)} {P : List α → Prop} (h : MDF Φ te m e) (k : ∀ l, NxC c D (Φ.set i (.own (cL (l.map e)))) (P l)) : NxS c (tAsg te (gName i)) D Φ (wRun m P) := fun σ G H ev mp =>
  h σ G H ev.L _ _ mp fun l q vs G' H' pl s n => by
    obtain ⟨h0, nex⟩ := ev.h0 n.o
    exact k l _ G' H' ((ev.step s).adopt (φs := cL (l.map e)) n.g n.h (notMut ev.L n.o) h0 nex ⟨vs, rfl, n.a, by rw [List.length_map]; exact n.z⟩) pl
/-- what is handed back is new -/
def RtF (c : Cn) (rt : VK) (R : List α → Prop) (e : α → Ty) : Prop := ∀ l q vs G' H', R l → Fin c G' H' → Nw e l c.H0 q vs G' H' → rt (.ref q) H'
theorem RtF.le {c' : Cn} {rt : VK} {R : List α → Prop} (h : RtF c rt R e) (l : CLe c' c) (h0 : c'.H0 = c.H0) : RtF c' rt R e := fun a q vs G' H' r f n => h a q vs G' H' r (l _ _ _ _ f) (h0 ▸ n)
end
end BR
/-! Own layer: == and != of two lists whose items are equal by an own ==. -/
namespace GQ
open PySem PySem.Spec PyProof.Rows PySem.SeqAt
open AutoSeq1 (wpAny_loadPart')
open MeetsSeq MeetsSeq2 MeetsSeq3
section
variable {prog : Program} {w : World} {A : Around} {R : Result → Shared → Prop}
end
section
variable {prog : Program} {w : World} {A : Around} {E : Value → Shared → Prop} {s : Shared}
end
end GQ
namespace BR
open PySem PySem.Spec PyProof.Rows L2
section
variable {X : Cx} {CX : CXT} {n : Nat} {f : Addr} {E : XK}
end
section
variable {K : Fg} {Φ : Sts} {ta tb : TE} {p q : Wp (List Reg)} {G H : Hp}
end
end BR
/-! Own layer: values that are data or a region. -/
namespace BR
open PySem PySem.Spec PyProof.Rows L2
inductive RV where
  | d (x : PyData)
  | r (x : Reg)
def rv (K : Fg) : RV → Ty
  | .d x => dt x
  | .r x => tReg K x
def RV.shown : RV → Str
  | .d x => x.shown
  | .r x => reprR x
def RV.ok : RV → Prop
  | .d x => ShowOk x
  | .r x => Small x.1 ∧ Shows (dSlabs x.1) 16000000
/-- what regions are asked about built-in types -/
structure OthV (K : Fg) : Prop where
  i : ∀ n ∈ oTys, PySem.W.kitOne K (.ref (RG K)) (.type n) = some false
section
variable {K : Fg} {c : Cn} {Φ : Sts} {ta tb te : TE} {tr : TA} {α β : Type} {e : α → Ty} {w : Wp α}
/-! isinstance -/
/-! == of data -/
/-! repr -/
end
section
variable {X : Cx} {CX : CXT} {n : Nat}
end
/-! two promises of one def -/
theorem HasR.or {CX : CXT} {P : Program} {w : World} {K : Fg} {mg : Str → Option Value} {base : Heap} {k : Nat} {x : Str} {sp sp' : Sp} (a : HasR P w K mg base CX k x sp) (b : HasR P w K mg base CX k x sp') : HasR P w K mg base CX k x (fun vs H Q E => sp vs H Q E ∨ sp' vs H Q E) := by
  obtain ⟨f, h1, h2, F⟩ := a.ex
  obtain ⟨g, h3, h4, F'⟩ := b.ex
  rw [h1] at h3
  cases h3
  exact ⟨f, h1, h2, fun A outer s H us vs Q E hr e0 r h => h.elim (F A outer s H us vs Q E hr e0 r) (F' A outer s H us vs Q E hr e0 r)⟩
/-! are_integers, is_square, is_box of a region -/
section
variable {K : Fg}
/-! .. of anything -/
end
/-! keywords in a call that may raise -/
section
variable {X : Cx} {CX : CXT} {k n m : Nat} {x : Str} {ks : List Str} {dv : List V} {sp : Sp} {E : L2.St → XK} {p pos : Pos} {e : Expr} {es : List Expr} {kws : List Keyword} {t tk : TA}
end
/-! isinstance(e, B) in a suite -/
structure XfI (K : Fg) (C : Addr) : Prop where
  cl : PySem.W.findIn K (.ref C) "__class__" = some (some (.builtin "object.__class__"))
  gs : PySem.W.specialIn K (.builtin "object.__class__") "__get__" = some (some (.builtin "getset_descriptor.__get__"))
  tk : PySem.W.takesIn K (.builtin "object.__class__") = some true
  mo : PySem.W.mroIn K C (.type "object") = some true
theorem pe_gref {X : Cx} {x : Str} {B : Addr} {p : Pos} (hg : Gl X x) (hm : X.mg x = some (.ref B)) (hdb : (x == ("__debug__" : Str)) = false := by decide) : PE X (.Name x p) (tC (.ref B)) := ⟨fun pins s σ H Q I h => ld_glob I hg hm ⟨.ref B, H, I, rfl, h⟩ hdb⟩
theorem xfiB_ok {K : Fg} {l : List Str} (h : (Fb.b (xfiB l)).ok K = true) : ∀ n ∈ l, XfI K (cA K n) := fun n hn => by
  obtain ⟨h1, h⟩ := He.ba (List.all_eq_true.mp (show xfiB l K = true from h) n hn)
  obtain ⟨h2, h⟩ := He.ba h
  obtain ⟨h3, h4⟩ := He.ba h
  exact ⟨He.eqO_ok h1, of_decide_eq_true h2, of_decide_eq_true h3, of_decide_eq_true h4⟩
/-! lists as data -/
section
variable {Φ : Sts} {ta : TE}
end
end BR
/-! Own layer: own exceptions as values (not raised): made, kept, asked for their field. -/
namespace BR
open PySem PySem.Spec PyProof.Rows L2
def tMkV (C : Addr) (sp : Sp) (ta : TA) : TE := fun σ H Q => ta σ H fun vs H1 => vs.length ≤ 1000 ∧ ∀ a, H1 a = none → sp (.ref a :: vs) (upd H1 a (exo a C none)) (fun v H2 => v = .non ∧ Q (.ref a) H2) (fun _ _ _ => False)
section
variable {X : Cx} {I0 : String} {e : Expr} {es : List Expr} {ta : TA} {x : Str} {p pos : Pos}
theorem pe_mkV {CX : CXT} {C fI : Addr} {k : Nat} {fd : FuncData} {ps : List Str} {sp : Sp} (T : OexG X.K C I0) (iC : PySem.W.findIn X.K (.ref C) "__init__" = some (some (.ref fI))) (tI : PySem.W.typeIn X.K (.ref fI) = some (.type "function"))
    (F1 : FnOk X.prog X.w X.K X.mg X.base CX k fI fd ps sp) (hr : Room (k + 1) X.A) (hb : Binds X.K fd ps []) (hx : Passes CX X (fun _ _ _ => False)) (hg : Gl X x) (hm : X.mg x = some (.ref C)) (ha : PA X (e :: es) ta)
    (hdb : (x == ("__debug__" : Str)) = false := by decide) (he : starEach (e :: es) X.env = (false, eval e X.env) :: starEach es X.env := by rfl) (hpl : (backTo pos (starEach es X.env)).any (·.1) = false := by rfl) :
    PE X (.Call (.Name x p) (e :: es) [] pos) (tMkV C sp ta) := by
  refine ⟨fun pins s σ H Q I h => ?_⟩
  obtain ⟨B, nid, tail, nm, q, N, bs, bm, sn, sub, ab, col, dd, k0, k1, k2, k3, k5, b, hC, hbm⟩ := T.cls
  refine wpAny_Call_Name_kw (ld_glob I hg hm ?_ hdb)
  refine PySem.W.callWith_K (h₀ := X.base) I.ok.mod.kin T.kC (thn (ha.run pos pins s σ H _ I h) fun us s1 ⟨vs, H1, I1, r1, hz, q1⟩ => ⟨I1.kIn, ?_⟩) he hpl
  show wpAny _ _ (call (.ref C) us) _ _ _
  obtain ⟨hp, g, dr, tk, os⟩ := s1
  have ls : hp.objs.size ≤ hp.objs.size + 1 := Nat.le_succ _
  have hn : H1 (hp.objs.size + 1) = none := I1.hok.fresh ls
  have hq := q1 (hp.objs.size + 1) hn
  have kk : ∀ c o, hp.get? c = some o → ((hp.push (PySem.W.kdv_tup us)).push (PySem.HandSPX.excO C hp.objs.size)).get? c = some o := fun c o z => Heap.get?_push_of_some _ (Heap.get?_push_of_some _ z)
  have hget : ((hp.push (PySem.W.kdv_tup us)).push (PySem.HandSPX.excO C hp.objs.size)).get? (hp.objs.size + 1) = some (PySem.HandSPX.excO C hp.objs.size) := by heap_get
  have I2 : Inv X pins σ (upd H1 (hp.objs.size + 1) (exo (hp.objs.size + 1) C none)) ⟨(hp.push (PySem.W.kdv_tup us)).push (PySem.HandSPX.excO C hp.objs.size), g, dr, tk, os⟩ :=
    I1.laid (t' := tk) (a := hp.objs.size + 1) (o := exo (hp.objs.size + 1) C none) (h' := (hp.push (PySem.W.kdv_tup us)).push (PySem.HandSPX.excO C hp.objs.size)) kk ls (exo_ok hget)
  have r2 : Vals (V.ref (hp.objs.size + 1) :: vs) (Value.ref (hp.objs.size + 1) :: us) := .cons rfl r1
  have hl : (Value.ref (hp.objs.size + 1) :: us ++ []).length = ps.length := by
    have z := r2.length
    rw [F1.len _ _ _ _ hq] at z
    rw [List.append_nil]
    exact z.symm
  have hus : us.length ≤ sizeLine := by
    rw [← Paired.length r1, sizeLine_eq]
    omega
  have b2 := hb _ (Value.ref (hp.objs.size + 1) :: us) I2.kIn hl
  rw [List.append_nil] at b2
  obtain ⟨O, iO, bO, F0, u0⟩ := b.nw
  refine wpAny_call (PySem.HandSPX.call_K F0 ⟨(refsB_has _ bm hbm).trans u0.o, (refsB_has _ bm hbm).trans u0.a, (refsB_has _ bm hbm).trans u0.n⟩ (I1.kIn _ _ hC) (PySem.W.looks_findIn I1.kIn iC) (fun self => PySem.W.bind_fn I1.kIn self tI) hus
    (codeAny_mono (F1.run _ X.stack _ _ ⟨Value.ref (hp.objs.size + 1) :: us, []⟩ (Value.ref (hp.objs.size + 1) :: us) _ _ (fun _ _ _ => False) (hr.make C us []) (I2.env0.make C us []) b2 r2 hq) fun r s' hq' => ?_))
  cases r with
  | error er => exact hx pins σ _ _ er s' I2 hq'
  | ok fl =>
    cases fl with
    | ret u =>
      obtain ⟨v, H', I3, rv, ev, q3⟩ := I2.after hq'
      subst ev
      exact ⟨rv, ⟨V.ref (hp.objs.size + 1), H', I3, rfl, q3⟩⟩
    | next => exact False.elim hq'
    | brk => exact False.elim hq'
    | cont => exact False.elim hq'
/-- C(n=e, ..) -/
def tMkVK (C : Addr) (m : Nat) (sp : Sp) (gV : List V → List V → List V) (tk : TA) : TE := fun σ H Q => tk σ H fun zs H1 => zs.length = m ∧ ∀ a, H1 a = none → sp (gV [.ref a] zs) (upd H1 a (exo a C none)) (fun v H2 => v = .non ∧ Q (.ref a) H2) (fun _ _ _ => False)
theorem pe_mkVK {CX : CXT} {C fI : Addr} {k : Nat} {fd : FuncData} {ps ks : List Str} {sp : Sp} {kws : List Keyword} {tk : TA} {g : List Value → List Value → List Value} {gV : List V → List V → List V} (T : OexG X.K C I0) (iC : PySem.W.findIn X.K (.ref C) "__init__" = some (some (.ref fI))) (tI : PySem.W.typeIn X.K (.ref fI) = some (.type "function"))
    (F1 : FnOk X.prog X.w X.K X.mg X.base CX k fI fd ps sp) (hr : Room (k + 1) X.A) (hb : KBn X.K fd ps 1 ks g gV) (hx : Passes CX X (fun _ _ _ => False)) (hg : Gl X x) (hm : X.mg x = some (.ref C)) (hkw : PK X kws tk)
    (hall : (backToKw pos (keywordEach kws X.env)).all (·.1.isSome) = true := by rfl) (hks : (backToKw pos (keywordEach kws X.env)).filterMap (·.1) = ks := by rfl)
    (hdb : (x == ("__debug__" : Str)) = false := by decide) (hpl : ((backTo pos (starEach [] X.env)).any (·.1) || (backToKw pos (keywordEach kws X.env)).any (·.1.isNone)) = false := by rfl) :
    PE X (.Call (.Name x p) [] kws pos) (tMkVK C ks.length sp gV tk) := by
  refine ⟨fun pins s σ H Q I h => ?_⟩
  obtain ⟨B, nid, tail, nm, q, N, bs, bm, sn, sub, ab, col, dd, k0, k1, k2, k3, k5, b, hC, hbm⟩ := T.cls
  refine wpAny_Call_Name_kw (ld_glob I hg hm ?_ hdb)
  refine PySem.W.callWith_KW0 (h₀ := X.base) I.ok.mod.kin T.kC hall (thn (hkw.run pos pins s σ H _ I h) fun ws s1 ⟨zs, H1, I1, rz, hz, q1⟩ => ⟨I1.kIn, ?_⟩) hpl
  rw [hks]
  show wpAny _ _ (call (.ref C) [] (ks.zip ws)) _ _ _
  obtain ⟨hp, gs, dr, tt, os⟩ := s1
  have ls : hp.objs.size ≤ hp.objs.size + 1 := Nat.le_succ _
  have hn : H1 (hp.objs.size + 1) = none := I1.hok.fresh ls
  have hq := q1 (hp.objs.size + 1) hn
  have kk : ∀ c o, hp.get? c = some o → ((hp.push (PySem.W.kdv_tup [])).push (PySem.HandSPX.excO C hp.objs.size)).get? c = some o := fun c o z => Heap.get?_push_of_some _ (Heap.get?_push_of_some _ z)
  have hget : ((hp.push (PySem.W.kdv_tup [])).push (PySem.HandSPX.excO C hp.objs.size)).get? (hp.objs.size + 1) = some (PySem.HandSPX.excO C hp.objs.size) := by heap_get
  have I2 : Inv X pins σ (upd H1 (hp.objs.size + 1) (exo (hp.objs.size + 1) C none)) ⟨(hp.push (PySem.W.kdv_tup [])).push (PySem.HandSPX.excO C hp.objs.size), gs, dr, tt, os⟩ :=
    I1.laid (t' := tt) (a := hp.objs.size + 1) (o := exo (hp.objs.size + 1) C none) (h' := (hp.push (PySem.W.kdv_tup [])).push (PySem.HandSPX.excO C hp.objs.size)) kk ls (exo_ok hget)
  have r1 : Vals [V.ref (hp.objs.size + 1)] [Value.ref (hp.objs.size + 1)] := .cons rfl .nil
  have r2 := hb.rel r1 rz
  have e2 : ws.length = ks.length := rz.length.symm.trans hz
  have b2 := hb.to _ [Value.ref (hp.objs.size + 1)] ws I2.kIn rfl e2
  obtain ⟨O, iO, bO, F0, u0⟩ := b.nw
  refine wpAny_call (PySem.HandSPX.call_K F0 ⟨(refsB_has _ bm hbm).trans u0.o, (refsB_has _ bm hbm).trans u0.a, (refsB_has _ bm hbm).trans u0.n⟩ (rest := []) (kw := ks.zip ws) (I1.kIn _ _ hC) (PySem.W.looks_findIn I1.kIn iC) (fun self => PySem.W.bind_fn I1.kIn self tI) (Nat.zero_le _)
    (codeAny_mono (F1.run _ X.stack _ _ ⟨[Value.ref (hp.objs.size + 1)], ks.zip ws⟩ (g [Value.ref (hp.objs.size + 1)] ws) _ _ (fun _ _ _ => False) (hr.make C [] (ks.zip ws)) (I2.env0.make C [] (ks.zip ws)) b2 r2 hq) fun r s' hq' => ?_))
  cases r with
  | error er => exact hx pins σ _ _ er s' I2 hq'
  | ok fl =>
    cases fl with
    | ret u =>
      obtain ⟨v, H', I3, rv, ev, q3⟩ := I2.after hq'
      subst ev
      exact ⟨rv, ⟨V.ref (hp.objs.size + 1), H', I3, rfl, q3⟩⟩
    | next => exact False.elim hq'
    | brk => exact False.elim hq'
    | cont => exact False.elim hq'
end
/-! ### isinstance, and the field -/
def rIsX (K : Fg) : List V → Hp → VK → Prop := fun xs H Q => ∃ (a C : Addr) (d : Option Addr) (c : V) (cv : Value) (b : Bool), xs = [.ref a, c] ∧ H a = some (exo a C d) ∧ (∀ dd, d = some dd → ∃ fs, H dd = some (exd dd fs)) ∧ XfC K C ∧ XfI K C ∧ (∀ u, RelV c u → u = cv) ∧ PySem.W.kitOne K (.ref C) cv = some b ∧ Q (.bl b) H
theorem call_isX {X : Cx} : CallR X (.builtin "isinstance") (rIsX X.K) := by
  intro pins s σ H xs us Q I r h
  obtain ⟨a, C, d, c, cv, b, rfl, ha, hd, T, T2, hcv, hk, q⟩ := h
  obtain ⟨u, v, rfl, ru, rv⟩ := vals2 r
  obtain rfl : u = Value.ref a := ru
  have ec := hcv _ rv
  subst ec
  obtain ⟨t1, ho⟩ := exo_at I.hok ha
  have hdc : (PySem.W.clsIn X.K C).isSome = true := by
    obtain ⟨cd, h1, _⟩ := PySem.W.any_some T.hdC
    rw [h1]
    rfl
  cases d with
  | none =>
    have J : PySem.W.InstAt s.heap a { cls := .ref C, dict := none, data := .fields #[.ref t1, .none, .none, .none, .bool false, .none] } C none := ⟨ho, rfl, rfl, trivial⟩
    exact PySem.W.kia_one (PySem.W.kitx_exc hdc T.ga T.gg T.exC T2.cl T2.gs T2.tk T2.mo) I.kIn J hk (fun z => nomatch z) fun tk => ⟨.bl b, H, I.tok tk, rfl, q⟩
  | some dd =>
    obtain ⟨fs, hdd⟩ := hd dd rfl
    obtain ⟨mA, hns, hr⟩ := exd_at I.hok hdd
    obtain ⟨od, ho2, hl⟩ := lookIn_ns hns
    have J : PySem.W.InstAt s.heap a { cls := .ref C, dict := some dd, data := .fields #[.ref t1, .none, .none, .none, .bool false, .none] } C (some od) := ⟨ho, rfl, rfl, ho2⟩
    exact PySem.W.kia_one (PySem.W.kitx_exc hdc T.ga T.gg T.exC T2.cl T2.gs T2.tk T2.mo) I.kIn J hk (fun z => nomatch z) fun tk => ⟨.bl b, H, I.tok tk, rfl, q⟩
def tXv (K : Fg) (f : Str) (te : TE) : TE := fun σ H Q => te σ H fun x H1 => ∃ (a C d : Addr) (fs : List (Str × V)) (v : V), x = .ref a ∧ H1 a = some (exo a C (some d)) ∧ H1 d = some (exd d fs) ∧ XfC K C ∧ PySem.W.findIn K (.ref C) f = some none ∧ fs.lookup f = some v ∧ Q v H1
theorem pe_xv {X : Cx} {e : Expr} {te : TE} {pos : Pos} {f : Str} (he : PE X e te) (hb : attributeBase e f X.env (eval e X.env) = eval e X.env := by rfl) : PE X (.Attribute e f pos) (tXv X.K f te) := by
  refine ⟨fun pins s σ H Q I h => ?_⟩
  refine attr_of hb (thn (he.run pins s σ H _ I h) fun u s1 hh => ?_)
  obtain ⟨x, H1, I1, rx, a, C, d, fs, v, ex, ha, hd, T, hno, l, q⟩ := hh
  subst ex
  obtain rfl : u = Value.ref a := rx
  obtain ⟨t1, ho⟩ := exo_at I1.hok ha
  obtain ⟨mA, hns, hr⟩ := exd_at I1.hok hd
  obtain ⟨od, ho2, hl⟩ := lookIn_ns hns
  obtain ⟨u, hu, ru⟩ := RelO.some_of (v := v) (o := mA f) (by rw [← l]; exact hr f)
  have J : PySem.W.InstAt s1.heap a { cls := .ref C, dict := some d, data := .fields #[.ref t1, .none, .none, .none, .bool false, .none] } C (some od) := ⟨ho, rfl, rfl, ho2⟩
  exact HandSPX.exc_get I1.kIn J T.ga T.gg T.exC (PySem.W.findObj_own T.hdC hno rfl (by rw [hl, hu])) (handed_of ru) ⟨v, H1, I1.tok _, ru, q⟩
end BR
/-! Own layer: the type of kept exceptions. -/
namespace BR
open PySem PySem.Spec PyProof.Rows L2
/-- a kept exception: its class, its value if it has one -/
def tEx (K : Fg) {τ : Type} (ev : τ → Ty) (x : Str × Option τ) : Ty :=
  ⟨fun G v => ∃ a, v = .ref a ∧ (match x.2 with
      | none => G a = some (exo a (cA K x.1) none)
      | some d => ∃ dx u, G a = some (exo a (cA K x.1) (some dx)) ∧ G dx = some (exd dx [("value", u)]) ∧ (ev d).p G u),
    fun G G' v s h => by
      obtain ⟨n, o⟩ := x
      obtain ⟨a, e, h⟩ := h
      cases o with
      | none => exact ⟨a, e, s _ _ h⟩
      | some d =>
        obtain ⟨dx, u, h1, h2, h3⟩ := h
        exact ⟨a, e, dx, u, s _ _ h1, s _ _ h2, (ev d).m _ _ _ s h3⟩⟩
section
variable {K : Fg} {τ : Type} {ev : τ → Ty} {Φ : Sts} {te : TE} {w : Wp τ} {n : Str}
theorem mk_grow {G1 H1 : Hp} {a dx C : Addr} {u : V} (s : Same G1 H1) (ha : H1 a = none) (hd : H1 dx = none) (ne : dx ≠ a) :
    Grow G1 H1 (upd (upd G1 dx (exd dx [("value", u)])) a (exo a C (some dx))) (upd (upd H1 dx (exd dx [("value", u)])) a (exo a C (some dx))) := by
  have g1 : Grow G1 H1 (upd G1 dx (exd dx [("value", u)])) (upd H1 dx (exd dx [("value", u)])) := .new s hd
  exact g1.trans (.new g1.s ((upd_ne fun z => ne z.symm).trans ha))
theorem mk_heap {H1 : Hp} {a dx : Addr} {o0 o1 o2 : HO} (ne : dx ≠ a) : upd (upd (upd H1 a o0) dx o1) a o2 = upd (upd H1 dx o1) a o2 := by
  funext b
  by_cases e : b = a
  · rw [e, upd_same, upd_same]
  · rw [upd_ne e, upd_ne e]
    by_cases e2 : b = dx
    · rw [e2, upd_same, upd_same]
    · rw [upd_ne e2, upd_ne e2, upd_ne e]
theorem md_mkV (h : MD Φ te w ev) : MD Φ (tMkV (cA K n) (sp_xinit (cA K n)) (tCons te tNil)) (wBind w fun d => wPure (n, some d)) (tEx K ev) := fun σ G H e P Q mp k =>
  h σ G H e _ _ mp fun d u G1 H1 p1 s1 hu => ⟨by show 1 ≤ 1000; decide, fun a ha => ⟨a, u, rfl, upd_same, fun dx hdx ne => ⟨rfl, by
    rw [upd_ne ne] at hdx
    rw [mk_heap ne]
    have gr := mk_grow (C := cA K n) (u := u) s1.e.s ha hdx ne
    exact k (n, some d) (.ref a) _ _ p1 (s1.trans (.grow s1.e gr)) ⟨a, rfl, dx, u, upd_same, (upd_ne ne).trans upd_same, (ev d).m _ _ _ gr.g hu⟩⟩⟩⟩
/-- isinstance of a kept exception -/
theorem md_isX {l : List Str} {cv : Value} {c : V} {b : Str → Bool} {w : Wp (Str × Option τ)} (xf : ∀ n ∈ l, XfC K (cA K n)) (xi : ∀ n ∈ l, XfI K (cA K n)) (hc : ∀ u, RelV c u → u = cv) (hk : ∀ n ∈ l, PySem.W.kitOne K (.ref (cA K n)) cv = some (b n)) (h : MD Φ te w (tEx K ev)) :
    MD Φ (tCB (rIsX K) (tCons te (tCons (tC c) tNil))) (wBind w fun x => wG (x.1 ∈ l) (b x.1)) tBo := fun σ G H e P Q mp k =>
  h σ G H e _ _ mp fun x v G1 H1 p1 s1 hv => by
    obtain ⟨n, o⟩ := x
    obtain ⟨hn, pb⟩ := p1
    obtain ⟨a, rfl, hv⟩ := hv
    cases o with
    | none => exact ⟨a, cA K n, none, c, cv, b n, rfl, s1.e.s _ _ hv, fun dd z => (by cases z), xf n hn, xi n hn, hc, hk n hn, k _ _ G1 H1 pb s1 rfl⟩
    | some d =>
      obtain ⟨dx, u, h1, h2, h3⟩ := hv
      exact ⟨a, cA K n, some dx, c, cv, b n, rfl, s1.e.s _ _ h1, fun dd z => (by cases z; exact ⟨_, s1.e.s _ _ h2⟩), xf n hn, xi n hn, hc, hk n hn, k _ _ G1 H1 pb s1 rfl⟩
/-- the field of a kept exception -/
theorem md_xv {l : List Str} {w : Wp (Str × Option τ)} (xf : ∀ n ∈ l, XfC K (cA K n)) (hv : ∀ n ∈ l, PySem.W.findIn K (.ref (cA K n)) "value" = some none) (h : MD Φ te w (tEx K ev)) : MD Φ (tXv K "value" te) (wBind w fun x P => x.1 ∈ l ∧ ∃ d, x.2 = some d ∧ P d) ev := fun σ G H e P Q mp k =>
  h σ G H e _ _ mp fun x v G1 H1 p1 s1 hx => by
    obtain ⟨n, o⟩ := x
    obtain ⟨hn, d, rfl, pd⟩ := p1
    obtain ⟨a, rfl, dx, u, h1, h2, h3⟩ := hx
    exact ⟨a, cA K n, dx, _, u, rfl, s1.e.s _ _ h1, s1.e.s _ _ h2, xf n hn, hv n hn, rfl, k d u G1 H1 pd s1 h3⟩
end
end BR
/-! Own layer: __init__ of own exceptions by name, and one without a value. -/
namespace BR
open PySem PySem.Spec PyProof.Rows L2
section
variable {K : Fg} {x q : Str} {st : Stmt} {f : Addr} {fd : FuncData} {ps ks : List Str} {n : Nat}
/-- arguments by their places, then by names, in the parameters' order -/
theorem kbn_of (F : FnQ K x q st f fd)
    (h : ∀ (kV doc pm : Value) (an : Option Addr) (cdv ct : Value) (us ws : List Value), us.length = n → ws.length = ks.length → bindArgs (PySem.W.fnOf x q (defArgs st) (defBody st) (defScope st) .none kV doc pm an cdv ct) ⟨us, ks.zip ws⟩ = pure (ps.zip (us ++ ws))) :
    KBn K fd ps n ks (fun us ws => us ++ ws) (fun us ws => us ++ ws) := by
  obtain ⟨oc, od, dV, kV, doc, pm, an, cdv, ct, osl, rfl, lk, hcd, hD, hK⟩ := F.ex
  rcases hD with ⟨_, rfl⟩ | ⟨e, _⟩
  · exact ⟨fun s us ws _ h1 h2 => .of_eq (h kV doc pm an cdv ct us ws h1 h2), fun r1 r2 => r1.append r2⟩
  · exact absurd rfl e
end
/-- __init__(self) of a class without a field: only the built-in one is called -/
def sp_xinit0 (C : Addr) : Sp := fun vs H Q _ => ∃ a : Addr, vs = [.ref a] ∧ H a = some (exo a C none) ∧ Q .non H
def t_xinit0 (K : Fg) (I0 : String) (m : Str) : TS := tDrop (tVeG K I0 (tCons (tVar 0) (tCons (tC (.str m)) tNil)))
theorem pure_xinit0 {K : Fg} {C : Addr} {I0 : String} {m : Str} (T : OexG K C I0) : ∀ vs H (Q : VK) (E : XK), sp_xinit0 C vs H Q E → t_xinit0 K I0 m { nx := fun _ H' => Q .non H', rt := Q } (L2.start ["self"] vs) H := by
  rintro vs H Q E ⟨a, rfl, ha, q⟩
  exact ⟨_, rfl, a, C, [.str m], rfl, (by show 1 ≤ 1000; decide), T, ha, q⟩
theorem len_xinit0 {C : Addr} : ∀ vs H Q E, sp_xinit0 C vs H Q E → vs.length = (["self"] : List Str).length := by
  rintro vs H Q E ⟨a, rfl, _⟩
  rfl
/-- an exception's __init__, as a fact: by places and by names -/
structure XKn (P : Program) (w : World) (K : Fg) (mg : Str → Option Value) (base : Heap) (n : Str) : Prop where
  g : mg n = some (.ref (cA K n))
  ex : ∃ fd, FnOk P w K mg base CX0 1 (mA K n "__init__") fd ["self", "value"] (sp_xinit (cA K n)) ∧ Binds K fd ["self", "value"] [] ∧ KBn K fd ["self", "value"] 1 ["value"] (fun us ws => us ++ ws) (fun us ws => us ++ ws)
structure XK0 (P : Program) (w : World) (K : Fg) (mg : Str → Option Value) (base : Heap) (n : Str) : Prop where
  g : mg n = some (.ref (cA K n))
  ex : ∃ fd, FnOk P w K mg base CX0 1 (mA K n "__init__") fd ["self"] (sp_xinit0 (cA K n)) ∧ KBn K fd ["self"] 1 [] (fun us ws => us ++ ws) (fun us ws => us ++ ws)
section
variable {X : Cx} {l : List Str} {n : Str} {e : Expr} {te : TE} {p pos : Pos}
/-- n(e) -/
theorem pe_excV (F : XcF X.K l) (i : XKn X.prog X.w X.K X.mg X.base n) (hn : n ∈ l) (hr : Room 2 X.A) (hg : Gl X n) (he : PE X e te) (hdb : (n == ("__debug__" : Str)) = false := by decide)
    (hs : starEach [e] X.env = (false, eval e X.env) :: starEach [] X.env := by rfl) : PE X (.Call (.Name n p) [e] [] pos) (tMkV (cA X.K n) (sp_xinit (cA X.K n)) (tCons te tNil)) := by
  obtain ⟨fd, F1, hb, _⟩ := i.ex
  exact pe_mkV (F.oex n hn) (F.iC n hn) (F.tI n hn) F1 hr hb pass0 hg i.g (pa_cons he pa_nil hs) hdb hs rfl
/-- n(value=e) -/
theorem pe_excK {kws : List Keyword} {tk : TA} (F : XcF X.K l) (i : XKn X.prog X.w X.K X.mg X.base n) (hn : n ∈ l) (hr : Room 2 X.A) (hg : Gl X n) (hkw : PK X kws tk)
    (hall : (backToKw pos (keywordEach kws X.env)).all (·.1.isSome) = true := by rfl) (hks : (backToKw pos (keywordEach kws X.env)).filterMap (·.1) = ([("value" : Str)] : List Str) := by rfl)
    (hdb : (n == ("__debug__" : Str)) = false := by decide) (hpl : ((backTo pos (starEach [] X.env)).any (·.1) || (backToKw pos (keywordEach kws X.env)).any (·.1.isNone)) = false := by rfl) :
    PE X (.Call (.Name n p) [] kws pos) (tMkVK (cA X.K n) 1 (sp_xinit (cA X.K n)) (fun us ws => us ++ ws) tk) := by
  obtain ⟨fd, F1, _, hb⟩ := i.ex
  exact pe_mkVK (F.oex n hn) (F.iC n hn) (F.tI n hn) F1 hr hb pass0 hg i.g hkw hall hks hdb hpl
end
section
variable {K : Fg} {τ : Type} {ev : τ → Ty} {Φ : Sts} {te : TE} {w : Wp τ} {n : Str}
theorem md_mkVK (h : MD Φ te w ev) : MD Φ (tMkVK (cA K n) 1 (sp_xinit (cA K n)) (fun us ws => us ++ ws) (tCons te tNil)) (wBind w fun d => wPure (n, some d)) (tEx K ev) := fun σ G H e P Q mp k =>
  h σ G H e _ _ mp fun d u G1 H1 p1 s1 hu => ⟨rfl, fun a ha => ⟨a, u, rfl, upd_same, fun dx hdx ne => ⟨rfl, by
    rw [upd_ne ne] at hdx
    rw [mk_heap ne]
    have gr := mk_grow (C := cA K n) (u := u) s1.e.s ha hdx ne
    exact k (n, some d) (.ref a) _ _ p1 (s1.trans (.grow s1.e gr)) ⟨a, rfl, dx, u, upd_same, (upd_ne ne).trans upd_same, (ev d).m _ _ _ gr.g hu⟩⟩⟩⟩
/-- n() -/
theorem md_mkV0 : MD Φ (tMkVK (cA K n) 0 (sp_xinit0 (cA K n)) (fun us ws => us ++ ws) tNil) (wPure (n, (none : Option τ))) (tEx K ev) := fun σ G H e P Q mp k =>
  ⟨rfl, fun a ha => ⟨a, rfl, upd_same, rfl, k (n, none) (.ref a) _ _ mp ((Step.refl e).trans (.grow e (.new e.s ha))) ⟨a, rfl, upd_same⟩⟩⟩
end
end BR
/-! Own layer: a dict of one text and one int, shown. -/
namespace BR
open PySem PySem.Spec PyProof.Rows L2
def oneK (x : Str) (i : Int) : List (Key × V) := [(.inr x, .int i)]
theorem reads_oneK {X : Cx} {pins : List (Addr × Obj)} {σ : L2.St} {H : Hp} {s : Shared} {a : Addr} {x : Str} {i : Int} (I : Inv X pins σ H s) (h : H a = some (.dK (oneK x i))) : Reads s.heap (.ref a) (.dict [(.str x, .int i)]) [a] ∧ sysModules ∉ [a] := by
  have ok : ObjOk X.prog X.w H s.heap a (.dK (oneK x i)) := I.hok a _ h
  obtain ⟨_, hs, vs, kv, o, es, ep, ho, hc, hd, hk, hp, hn⟩ := ok
  refine ⟨?_, fun z => ?_⟩
  · cases kv with
    | cons k1 k2 =>
      cases k2
      cases he : es.toList with
      | nil => rw [he] at hp; cases hp
      | cons e1 er =>
        rw [he] at hp
        cases hp with
        | cons p1 p2 p3 =>
          cases p3
          rename_i q
          obtain ⟨qk, qv⟩ := q
          obtain ⟨e1k, e1v⟩ := k1
          dsimp only at e1k e1v p1 p2
          subst e1k
          obtain ⟨t2, hv⟩ : ∃ t, qv = Value.int i t := e1v
          have hk1 : ∃ t, e1.key = Value.str x t := by
            rcases keyIs_shape (k := Sum.inr x) (v := e1.key) p1 with ⟨_, _, z, _⟩ | ⟨y, t, z, z2⟩
            · cases z
            · cases z
              exact ⟨t, z2⟩
          obtain ⟨t1, hk1⟩ := hk1
          have r1 : ReadsAll s.heap (es.toList.map (·.key)) ([(PyData.str x, PyData.int i)].map (·.1)) [] := by
            rw [he]
            simp only [List.map_cons, List.map_nil, hk1]
            exact .cons (as := []) (bs := []) (.str x t1) .nil
          have r2 : ReadsAll s.heap (es.toList.map (·.val)) ([(PyData.str x, PyData.int i)].map (·.2)) [] := by
            rw [he]
            simp only [List.map_cons, List.map_nil, p2, hv]
            exact .cons (as := []) (bs := []) (.int i t2) .nil
          exact Reads.dict (as := []) (bs := []) ho hc.1 hd r1 r2
  · rw [List.mem_singleton.mp z] at hs
    simp at hs
/-- repr of such a dict -/
def rReprK : List V → Hp → VK → Prop := fun xs H Q => ∃ (a : Addr) (x : Str) (i : Int), xs = [.ref a] ∧ H a = some (.dK (oneK x i)) ∧ i.natAbs.log2 < 1920 ∧ (PyData.dict [(.str x, .int i)]).shown.length ≤ sizeLine ∧ Q (.str (PyData.dict [(.str x, .int i)]).shown) H
theorem call_reprK {X : Cx} {k : Nat} (hr : Room k X.A) (hg : X.A.guards = some []) : CallR X (.builtin "repr") rReprK := by
  intro pins s σ H xs us Q I r h
  obtain ⟨a, x, i, rfl, hd, hi, hl, q⟩ := h
  obtain ⟨u, rfl, ru⟩ := vals1 r
  obtain rfl : u = Value.ref a := ru
  obtain ⟨rd, ns⟩ := reads_oneK I hd
  have hu := hr.un
  exact repr_of_reads' rd (by simp [PyData.showable, PyData.showableKv, hi]) (fun _ => ns) hg (by simp [PyData.depth, PyData.depthKv]; omega) (fun _ _ e => e) (fun h' u tk hk => ⟨.str _, H, I.kept hk, ⟨u, rfl⟩, q⟩) hl
end BR
/-! Own layer: values that are data, or a dict of one text and one int. -/
namespace BR
open PySem PySem.Spec PyProof.Rows L2
inductive EV where
  | d (x : PyData)
  | k (x : Str) (i : Int)
def ev : EV → Ty
  | .d x => dt x
  | .k x i => ⟨fun G v => ∃ a, v = .ref a ∧ G a = some (.dK (oneK x i)), fun _ _ _ s ⟨a, e, h⟩ => ⟨a, e, s _ _ h⟩⟩
def EV.shown : EV → Str
  | .d x => x.shown
  | .k x i => (PyData.dict [(.str x, .int i)]).shown
/-- what can be shown -/
def EV.Ok : EV → Prop
  | .d x => ShowOk x
  | .k x i => i.natAbs.log2 < 1920 ∧ (PyData.dict [(.str x, .int i)]).shown.length ≤ sizeLine
def rReprE (K : Fg) : List V → Hp → VK → Prop := fun xs H Q => rReprD K xs H Q ∨ rReprK xs H Q
theorem call_reprE {X : Cx} {k : Nat} (hr : Room k X.A) (hu : X.A.units + 200 < cLine) (hg : X.A.guards = some []) : CallR X (.builtin "repr") (rReprE X.K) := fun pins s σ H xs us Q I r h => by
  rcases h with h | h
  · exact call_reprD (k := k) hu hg pins s σ H xs us Q I r h
  · exact call_reprK hr hg pins s σ H xs us Q I r h
section
variable {K : Fg} {Φ : Sts} {te : TE} {x : Str} {i : Int}
theorem MD.evd {w : Wp PyData} (h : MD Φ te w dt) : MD Φ te (wBind w fun d => wPure (EV.d d)) ev := fun σ G H e P Q mp k => h σ G H e _ _ mp fun d v G1 H1 p1 s1 hv => k _ v G1 H1 p1 s1 hv
theorem md_disp1 : MD Φ (tDisp [(tC (.str x), tC (.int i))]) (wPure (EV.k x i)) ev := fun σ G H e P Q mp k => fun p hp => ⟨upd_same, oneK x i, rfl, (by show 1 ≤ 15; decide), by
  have e1 : upd (upd H p (.dK [])) p (.dK (mergeK [] (oneK x i))) = upd H p (.dK (oneK x i)) := by
    funext b
    by_cases z : b = p
    · rw [z, upd_same, upd_same]
      rfl
    · rw [upd_ne z, upd_ne z, upd_ne z]
  rw [e1]
  exact k _ _ _ _ mp ((Step.refl e).trans (.grow e (.new e.s hp))) ⟨p, rfl, upd_same⟩⟩
theorem md_reprE {w : Wp EV} (h : MD Φ te w ev) : MD Φ (tCB (rReprE K) (tCons te tNil)) (wBind w fun a => wG a.Ok a.shown) tSt := fun σ G H e P Q mp k =>
  h σ G H e _ _ mp fun a v G1 H1 p1 s1 hv => by
    obtain ⟨h1, p1⟩ := p1
    cases a with
    | d x =>
      have h1' : Shows x 16000000 := h1
      exact .inl ⟨v, x, rfl, dt_dp (K := K) (G := H1) _ _ h1'.lay (Ty.m _ _ _ _ s1.e.s hv), h1'.shw, h1'.nod, h1'.len (by decide), by have := h1'.dep; omega, k _ _ G1 H1 p1 s1 rfl⟩
    | k x i =>
      obtain ⟨a, rfl, ha⟩ := hv
      exact .inr ⟨a, x, i, rfl, s1.e.s _ _ ha, h1.1, h1.2, k _ _ G1 H1 p1 s1 rfl⟩
end
end BR
/-! Own layer: facts that a Hook checks. -/
namespace BR
open PySem PySem.Spec PyProof.Rows L2
end BR
/-! Own layer: x op y, x an instance of the class, y of any kind. -/
namespace BR
open PySem PySem.Spec PyProof.Rows L2
structure OpV (K : Fg) (C : Addr) (nm : String) : Prop where
  l : PySem.W.findIn K (.ref C) (PySem.dunderR nm) = some none
  r : ∀ n ∈ oTys, ∃ fo ro, PySem.W.findIn K (.type n) (PySem.dunder nm) = some fo ∧ PySem.W.findIn K (.type n) (PySem.dunderR nm) = some ro
  s : ∀ n ∈ oTys, PySem.W.subIn K (.type n) (.ref C) = some false
section
variable {M : Model} {h : Heap} {K : Fg} {nm : String} {C f : Addr} {n : String}
end
section
variable {X : Cx} {pins : List (Addr × Obj)} {CX : CXT} {n : Nat} {f C : Addr} {sp : Sp} {E : XK}
end
/-! the whole of a lambda -/
section
variable {K : Fg} {Φ Φv : Sts} {l : List Str} {ρ : Type} {ta tb : TE} {wa : Wp Reg} {wb : Wp RV}
end
end BR
/-! Own layer: the last item of an own list replaced; a tuple by a number. -/
namespace BR
open PySem PySem.Spec PyProof.Rows L2
section
variable {K : Fg} {c : Cn} {D : Ends} {Φ : Sts} {te : TE} {β : Type} {e : β → Ty}
end
end BR
namespace BR
open PySem PySem.Spec PyProof.Rows L2
section
variable {K : Fg}
end
end BR
namespace BR
open PySem PySem.Spec PyProof.Rows L2
section
variable {K : Fg}
end
end BR
/-! Sums over ranges of ints; lengths of spans, counts of forms. -/
namespace BR
open PySem PySem.Spec PyProof.Rows L2
def lenS (sp : List Pr) : Int := (sp.map fun p => p.2 - p.1).sum
/-- all of a form lies in a window -/
structure Win (f : List Sl) (x0 : Int) (n : Nat) (y0 : Int) (m : Nat) : Prop where
  x : ∀ s ∈ f, x0 ≤ s.1 ∧ s.2.1 ≤ x0 + n
  y : ∀ s ∈ f, ∀ p ∈ s.2.2, y0 ≤ p.1 ∧ p.2 ≤ y0 + m
theorem Win.sp {f : List Sl} {x0 y0 : Int} {n m : Nat} (h : Win f x0 n y0 m) (x : Int) : ∀ p ∈ spansAt f x, y0 ≤ p.1 ∧ p.2 ≤ y0 + m := fun p hp => by
  obtain ⟨s, hs, _, e⟩ := spansAt_mem (f := f) (x := x) (fun z => by rw [z] at hp; cases hp)
  rw [e] at hp
  exact h.y s hs p hp
end BR
/-! The algebra of growing and shrinking. -/
namespace BR
open PySem PySem.Spec PyProof.Rows L2
section
variable {X Y : List Int} {a c d : Reg} {b e : Bx}
/-! ### around -/
end
end BR
/-! Borders: sums over edges. -/
namespace BR
open PySem PySem.Spec PyProof.Rows L2
def bl (f : List Sl) : Int := (f.map fun s => 2 * (s.2.2.length : Int) * (s.2.1 - s.1)).sum + ((cutsOf f).map fun x => lenS (combined (spansAt f (x - 1)) (spansAt f x) .either)).sum
end BR
/-! Borders: union and meet, shadows, boxes. -/
namespace BR
open PySem PySem.Spec PyProof.Rows L2
/-! shadows -/
end BR
/-! What border_length and shadow give. -/
namespace BR
open PySem PySem.Spec PyProof.Rows L2
end BR
/-! The n-th square, and how many come before a square. -/
namespace BR
open PySem PySem.Spec PyProof.Rows L2
theorem FmOk.tail {s : Sl} {f : List Sl} (h : FmOk (s :: f)) : FmOk f := ⟨fun t ht => h.w t (by simp [ht]), (List.pairwise_cons.mp h.s).2⟩
theorem FmOk.after {s : Sl} {f : List Sl} (h : FmOk (s :: f)) : ∀ t ∈ f, s.2.1 ≤ t.1 := fun t ht => ((List.pairwise_cons.mp h.s).1 t ht).1
end BR
/-! Counts of combinations, boxes of a form, shadows, products. -/
namespace BR
open PySem PySem.Spec PyProof.Rows L2
section
variable {X Y : List Int} {a b : Reg}
end
/-! the boxes of a form -/
def bsz (b : Bx) : Int := (b.2.2.1 - b.1) * (b.2.2.2 - b.2.1)
/-! shadows -/
section
variable {X Y : List Int} {f : List Sl} {x0 y0 : Int} {n m : Nat}
end
end BR
/-! What count, nth, rank, product, least_count and frame give. -/
namespace BR
open PySem PySem.Spec PyProof.Rows L2
section
variable {X Y : List Int} {a : Reg}
end
end BR
/-! Own layer: are_spans of any data. -/
namespace BR
open PySem PySem.Spec PyProof.Rows L2
section
variable {K : Fg} {Φ : Sts} {ta tb te : TE} {E : XK}
end
section
variable {K : Fg}
end
end BR
/-! Own layer: a list of two new lists that are spoiled before they are forgotten. -/
namespace BR
open PySem PySem.Spec PyProof.Rows L2
section
variable {K : Fg} {c : Cn} {Φ : Sts} {σ : St} {G H G' H' : Hp} {D : Ends} {ta tb te : TE} {tt : TT} {α : Type} {e : α → Ty}
/-- what was frozen since is let go again; two objects that are new since may have changed -/
theorem EnvOk.back {i : Nat} {o : Option V} {φ : Ty} {G4 H4 H6 : Hp} {q1 q2 : Addr} (ev : EnvOk c Φ σ G H) (no : ∀ (j : Nat) (C : Ct), Φ[j]? ≠ some (Slot.own C)) (ev4 : EnvOk c (Φ.set i (.val φ)) (σ.set i o) G4 H4) (n1 : H q1 = none) (n2 : H q2 = none) (sG : Same G H4)
    (kp : ∀ a u, a ≠ q1 → a ≠ q2 → H4 a = some u → H6 a = some u) (x1 : ∀ φ, H4 q1 ≠ some (.ext φ)) (x2 : ∀ φ, H4 q2 ≠ some (.ext φ)) : EnvOk c (Φ.set i .un) (σ.set i o) G H6 := by
  have ne : ∀ {a u}, H a = some u → a ≠ q1 ∧ a ≠ q2 := fun {a u} h => ⟨fun z => (by rw [z, n1] at h; cases h), fun z => (by rw [z, n2] at h; cases h)⟩
  have hx : ∀ a φ, H4 a = some (.ext φ) → H6 a = some (.ext φ) := fun a φ h => kp a _ (fun z => x1 φ (z ▸ h)) (fun z => x2 φ (z ▸ h)) h
  have mm : ∀ {x q}, MutAt (Φ.set i .un) (σ.set i o) x q → x ≠ i ∧ MutAt Φ σ x q := fun {x q} ⟨⟨s, h1, h2⟩, h3⟩ => by
    rcases set_at h1 with ⟨_, z, _⟩ | ⟨n, h1⟩
    · rw [z] at h2
      cases h2
    · rw [List.getElem?_set_ne n] at h3
      exact ⟨fun z => n z.symm, ⟨s, h1, h2⟩, h3⟩
  refine ⟨⟨fun a u e => kp a u (ne (ev.L.s a u e)).1 (ne (ev.L.s a u e)).2 (sG a u e), ?_, fun j s hj => ?_, fun x y q h1 h2 => ev.L.nd x y q (mm h1).2 (mm h2).2⟩, ev.g, fun a u nx h => kp a u (ne (ev.b a u nx h)).1 (ne (ev.b a u nx h)).2 (ev4.b a u nx h), ev.f, fun j φs q h1 h2 => ?_, fun a ha => ?_, fun j q h1 h2 => ?_, fun j P n h1 => ?_⟩
  · have := ev4.L.l
    simpa using this
  · rcases set_at hj with ⟨z, rfl, hi⟩ | ⟨n, hj⟩
    · subst z
      obtain ⟨o', h1, _⟩ := ev4.L.sl i (.val φ) (by simp [hi])
      exact ⟨o', h1, trivial⟩
    · obtain ⟨o4, e4, k4⟩ := ev4.L.sl j s (by rw [List.getElem?_set_ne n]; exact hj)
      obtain ⟨o0, e0, k0⟩ := ev.L.sl j s hj
      refine ⟨o4, e4, ?_⟩
      rw [List.getElem?_set_ne n, e0] at e4
      cases e4
      cases s with
      | un => trivial
      | val ψ => exact k0
      | own C => exact absurd hj (no j C)
      | pool =>
        obtain ⟨q, a, b, e, h1, h2, h3⟩ := k4
        obtain ⟨q', a', b', e', h1', h2', h3'⟩ := k0
        subst e
        cases e'
        exact ⟨q, a, b, rfl, kp q _ (ne h1').1 (ne h1').2 h1, h2, h3'⟩
      | tab P n =>
        obtain ⟨e, t, h3⟩ := k4
        obtain ⟨e', ⟨ps, h1', _⟩, h3'⟩ := k0
        exact ⟨e, TabS.keep t (fun u hu => kp P u (ne h1').1 (ne h1').2 hu) hx, h3'⟩
  · rcases set_at h1 with ⟨_, z, _⟩ | ⟨_, h1⟩
    · cases z
    · exact absurd h1 (no j φs)
  · obtain ⟨u, h⟩ := (ev.k a ha).2.at
    exact ⟨(ev.k a ha).1, (ev4.k a ha).2.keep (fun u hu => kp a u (ne h).1 (ne h).2 hu) hx⟩
  · rcases set_at h1 with ⟨_, z, _⟩ | ⟨n, h1⟩
    · cases z
    · rw [List.getElem?_set_ne n] at h2
      exact ev.r j q h1 h2
  · rcases set_at h1 with ⟨_, z, _⟩ | ⟨n', h1⟩
    · cases z
    · exact ev.t j P n h1
end
end BR
/-! Own layer: the slabs of a region as new lists, that are spoiled before they are forgotten. -/
namespace BR
open PySem PySem.Spec PyProof.Rows L2
section
variable {K : Fg} {σ : St} {G R : Hp} {tl te : TE}
theorem PD.ty {φ ψ : Ty} (h : PD te σ G R φ) (k : ∀ G v, φ.p G v → ψ.p G v) : PD te σ G R ψ := fun H sr sg Q q => h H sr sg Q fun v G' H' g hv => q v G' H' g (k _ _ hv)
end
end BR
/-! Own layer: the slabs of a region, spoiled. -/
namespace BR
open PySem PySem.Spec PyProof.Rows L2
instance : EqE (eO (e4 tI tI tI tI)) := ⟨fun a b => by
  cases a with
  | none =>
    cases b with
    | none => rfl
    | some b => simp [DatE.d, PyData.eqv]
  | some a =>
    cases b with
    | none => simp [DatE.d, PyData.eqv]
    | some b =>
      have := EqE.eq (e := e4 tI tI tI tI) a b
      show PyData.eqv (DatE.d (e4 tI tI tI tI) a) (DatE.d (e4 tI tI tI tI) b) = _
      rw [this]
      simp⟩
section
variable {K : Fg} {c : Cn} {Φ Ψ : Sts} {σ : St} {G H : Hp} {D : Ends} {ta te : TE} {tr : TS} {E : XK} {α ρ : Type} {e : α → Ty} {R : Hp}
end
end BR
/-! Own layer: a class method called without arguments. -/
namespace BR
open PySem PySem.Spec PyProof.Rows L2 ClX
end BR
/-! Own layer: texts: methods, signs, f-strings, int(text), x or y. -/
namespace BR
open PySem PySem.Spec PyProof.Rows L2
def rSplitS : V → List V → Hp → VK → Prop := fun x xs H Q => ∃ a b, x = .str a ∧ xs = [.str b] ∧ (b.length == 0) = false ∧ a.length + 2 ≤ sizeLine ∧ rNewStrs (Txt.split a b) H Q
section
variable {X : Cx} {o e : Expr} {to te : TE} {apos pos : Pos}
theorem pe_splitS (ho : PE X o to) (he : PE X e te) (hs : starEach [e] X.env = [(false, eval e X.env)] := by rfl) (hbase : attributeBase o "split" X.env (eval o X.env) = eval o X.env := by rfl) (hline : (apos.endLine == pos.line) = true := by rfl) :
    PE X (.Call (.Attribute o "split" apos) [e] [] pos) (tM1 rSplitS to te) := pe_split ho he hs hbase hline
end
/-- a part of an f-string -/
inductive FP where
  | s (w : Wp Str)
  | i (w : Wp Int)
inductive MPs (Φ : Sts) : List TE → List FP → Prop where
  | nil : MPs Φ [] []
  | c {z : Str} {ts : List TE} {fs : List FP} (h : MPs Φ ts fs) : MPs Φ (tC (.str z) :: ts) (.s (wPure z) :: fs)
  | s {te : TE} {w : Wp Str} {ts : List TE} {fs : List FP} (h : MD Φ te w tSt) (r : MPs Φ ts fs) : MPs Φ (tFmt te :: ts) (.s w :: fs)
  | i {te : TE} {w : Wp Int} {ts : List TE} {fs : List FP} (h : MD Φ te w tI) (r : MPs Φ ts fs) : MPs Φ (tFmt te :: ts) (.i w :: fs)
section
variable {K : Fg} {Φ : Sts} {ta tb te : TE} {m a b : Wp Str} {α : Type} {e : α → Ty}
theorem md_tM1 {r : V → List V → Hp → VK → Prop} {γ : Type} {g : γ → Ty} {k : Str → Str → Wp γ} (ha : MD Φ ta a tSt) (hb : MD Φ tb b tSt)
    (hr : ∀ (x y : Str) σ G H (P : γ → Prop) (Q : VK), EnvL Φ σ G H → k x y P → (∀ c v G' H', P c → Step Φ σ G H G' H' → (g c).p G' v → Q v H') → r (.str x) [.str y] H Q) : MD Φ (tM1 r ta tb) (wBind a fun x => wBind b fun y => k x y) g := fun σ G H ev P Q mp q =>
  ha σ G H ev _ _ mp fun x v G1 H1 pa s1 hv => by
    cases hv
    refine ⟨⟨x, rfl⟩, hb σ G1 H1 s1.e _ _ pa fun y w G2 H2 pb s2 hw => ?_⟩
    cases hw
    exact hr x y σ G2 H2 P Q s2.e pb fun c v G' H' pc s3 hv => q c v G' H' pc ((s1.trans s2).trans s3) hv
theorem all_strs {G : Hp} : ∀ ys : List Str, All G (ys.map tSt) (ys.map V.str)
  | [] => .nil
  | y :: ys => .cons rfl (all_strs ys)
theorem md_splitS (ha : MD Φ ta a tSt) (hb : MD Φ tb b tSt) : MD Φ (tM1 rSplitS ta tb) (wBind a fun x => wBind b fun y => wG ((y.length == 0) = false ∧ x.length ≤ 90000 ∧ (Txt.split x y).length ≤ 100000) (Txt.split x y)) (eL tSt) :=
  md_tM1 ha hb fun x y σ G H P Q ev h q => ⟨x, y, rfl, rfl, h.1.1, sz_of (by have := h.1.2.1; omega), fun p hp => by
    have gr : Grow G H (upd G p (.lst ((Txt.split x y).map V.str))) (upd H p (.lst ((Txt.split x y).map V.str))) := .new ev.s hp
    exact q (Txt.split x y) (.ref p) _ _ h.2 (.grow ev gr) ⟨⟨p, _, rfl, upd_same, all_strs _⟩, h.1.2.2⟩⟩
end
end BR
/-! Own layer: kept exceptions: facts of the top, the one without a value. -/
namespace BR
open PySem PySem.Spec PyProof.Rows L2
theorem tyInB_ok {T I : String} {K : Fg} (h : (Fb.b (tyInB T I)).ok K = true) : PySem.W.findCls K (.type T) (.type "type") "__init__" = some (.val (.builtin I)) := by
  have h : tyInB T I K = true := h
  unfold tyInB at h
  split at h
  · rename_i s e
    rw [e, of_decide_eq_true h]
  · cases h
theorem kRtB_ok {K : Fg} {l : List Str} (h : (Fb.b (kRtB l)).ok K = true) : ∀ T ∈ roots6, ∀ n ∈ l, PySem.W.kitOne K (.ref (cA K n)) (.type T) = some (xUnder T n) := fun T hT n hn =>
  of_decide_eq_true (List.all_eq_true.mp (List.all_eq_true.mp (show kRtB l K = true from h) n hn) T hT)
theorem kBxB_ok {K : Fg} {l : List Str} (h : (Fb.b (kBxB l)).ok K = true) : ∀ n ∈ l, PySem.W.kitOne K (.ref (cA K n)) (.ref (cA K "BoxError")) = some (xUnder "BoxError" n) := fun n hn =>
  of_decide_eq_true (List.all_eq_true.mp (show kBxB l K = true from h) n hn)
theorem kOwB_ok {K : Fg} {l : List Str} (h : (Fb.b (kOwB l)).ok K = true) : ∀ m ∈ l, ∀ n ∈ l, PySem.W.kitOne K (.ref (cA K n)) (.ref (cA K m)) = some (decide (n = m)) := fun m hm n hn =>
  of_decide_eq_true (List.all_eq_true.mp (List.all_eq_true.mp (show kOwB l K = true from h) n hn) m hm)
section
variable {X : Cx} {l : List Str} {n : Str} {p pos : Pos}
/-- n() -/
theorem pe_exc0 (F : XcF X.K l) (i : XK0 X.prog X.w X.K X.mg X.base n) (hn : n ∈ l) (hr : Room 2 X.A) (hg : Gl X n)
    (hall : (backToKw pos (keywordEach [] X.env)).all (·.1.isSome) = true := by rfl) (hks : (backToKw pos (keywordEach [] X.env)).filterMap (·.1) = ([] : List Str) := by rfl)
    (hdb : (n == ("__debug__" : Str)) = false := by decide) (hpl : ((backTo pos (starEach [] X.env)).any (·.1) || (backToKw pos (keywordEach [] X.env)).any (·.1.isNone)) = false := by rfl) :
    PE X (.Call (.Name n p) [] [] pos) (tMkVK (cA X.K n) 0 (sp_xinit0 (cA X.K n)) (fun us ws => us ++ ws) tNil) := by
  obtain ⟨fd, F1, hb⟩ := i.ex
  exact pe_mkVK (F.oex n hn) (F.iC n hn) (F.tI n hn) F1 hr hb pass0 hg i.g pk_nil hall hks hdb hpl
end
end BR
namespace BR
open PySem PySem.Spec PyProof.Rows L2
namespace K02
section
variable {K : Fg}

def m_l_some (a_one : EV) (R : (List (Str × Option EV)) → Prop) : Prop :=
  (wRun (wBind (wCons (wBind (wPure a_one) fun d => wPure (("InvalidBox" : Str), some d)) (wCons (wBind (wPure a_one) fun d => wPure (("InvalidSquare" : Str), some d)) (wCons (wBind (wPure a_one) fun d => wPure (("InvalidRegion" : Str), some d)) (wCons (wBind (wPure a_one) fun d => wPure (("InvalidNumber" : Str), some d)) (wCons (wBind (wPure a_one) fun d => wPure (("InvalidLoops" : Str), some d)) wNil))))) fun z => wPure [z.1, z.2.1, z.2.2.1, z.2.2.2.1, z.2.2.2.2.1]) fun v1 => (wRun (wBind (wPure v1) fun a => wBind (wBind (wCons (wBind (wPure a_one) fun d => wPure (("InvalidAxis" : Str), some d)) (wCons (wBind (wPure a_one) fun d => wPure (("InvalidSpans" : Str), some d)) (wCons (wBind (wPure a_one) fun d => wPure (("InvalidName" : Str), some d)) (wCons (wBind (wPure a_one) fun d => wPure (("InvalidText" : Str), some d)) (wCons (wBind (wPure a_one) fun d => wPure (("InvalidLine" : Str), some d)) wNil))))) fun z => wPure [z.1, z.2.1, z.2.2.1, z.2.2.2.1, z.2.2.2.2.1]) fun b => wG (a.length + b.length ≤ 100000) (a ++ b)) fun v2 => (wRun (wBind (wPure v2) fun a => wBind (wBind (wCons (wBind (wPure a_one) fun d => wPure (("Outside" : Str), some d)) (wCons (wBind (wPure a_one) fun d => wPure (("Unbounded" : Str), some d)) (wCons (wBind (wPure a_one) fun d => wPure (("Blocked" : Str), some d)) (wCons (wBind (wPure a_one) fun d => wPure (("TooMany" : Str), some d)) wNil)))) fun z => wPure [z.1, z.2.1, z.2.2.1, z.2.2.2.1]) fun b => wG (a.length + b.length ≤ 100000) (a ++ b)) fun v3 => (wRun (wBind (wPure v3) fun a => wBind (wBind (wCons (wBind (wPure a_one) fun d => wPure (("NoName" : Str), some d)) (wCons (wPure (("NothingLeft" : Str), (none : Option EV))) wNil)) fun z => wPure [z.1, z.2.1]) fun b => wG (a.length + b.length ≤ 100000) (a ++ b)) R))))
def sp_l_some (K : Fg) : Sp := spM (fun z : EV × Unit => [ev z.1]) (eL (tEx K ev)) (fun z => m_l_some z.1)
def t_l_some (K : Fg) : TS :=
  (tSeq (tAsg (tLst (tCons (tMkV (cA K "InvalidBox") (sp_xinit (cA K "InvalidBox")) (tCons (tVar 0) tNil)) (tCons (tMkV (cA K "InvalidSquare") (sp_xinit (cA K "InvalidSquare")) (tCons (tVar 0) tNil)) (tCons (tMkV (cA K "InvalidRegion") (sp_xinit (cA K "InvalidRegion")) (tCons (tVar 0) tNil)) (tCons (tMkV (cA K "InvalidNumber") (sp_xinit (cA K "InvalidNumber")) (tCons (tVar 0) tNil)) (tCons (tMkV (cA K "InvalidLoops") (sp_xinit (cA K "InvalidLoops")) (tCons (tVar 0) tNil)) tNil)))))) (gName 1))
  (tSeq (tAsg (tOp (rAddX K) (tVar 1) (tLst (tCons (tMkV (cA K "InvalidAxis") (sp_xinit (cA K "InvalidAxis")) (tCons (tVar 0) tNil)) (tCons (tMkV (cA K "InvalidSpans") (sp_xinit (cA K "InvalidSpans")) (tCons (tVar 0) tNil)) (tCons (tMkV (cA K "InvalidName") (sp_xinit (cA K "InvalidName")) (tCons (tVar 0) tNil)) (tCons (tMkV (cA K "InvalidText") (sp_xinit (cA K "InvalidText")) (tCons (tVar 0) tNil)) (tCons (tMkV (cA K "InvalidLine") (sp_xinit (cA K "InvalidLine")) (tCons (tVar 0) tNil)) tNil))))))) (gName 1))
  (tSeq (tAsg (tOp (rAddX K) (tVar 1) (tLst (tCons (tMkVK (cA K "Outside") 1 (sp_xinit (cA K "Outside")) (fun us ws => us ++ ws) (tCons (tVar 0) tNil)) (tCons (tMkVK (cA K "Unbounded") 1 (sp_xinit (cA K "Unbounded")) (fun us ws => us ++ ws) (tCons (tVar 0) tNil)) (tCons (tMkVK (cA K "Blocked") 1 (sp_xinit (cA K "Blocked")) (fun us ws => us ++ ws) (tCons (tVar 0) tNil)) (tCons (tMkVK (cA K "TooMany") 1 (sp_xinit (cA K "TooMany")) (fun us ws => us ++ ws) (tCons (tVar 0) tNil)) tNil)))))) (gName 1))
  (tRet (tOp (rAddX K) (tVar 1) (tLst (tCons (tMkVK (cA K "NoName") 1 (sp_xinit (cA K "NoName")) (fun us ws => us ++ ws) (tCons (tVar 0) tNil)) (tCons (tMkVK (cA K "NothingLeft") 0 (sp_xinit0 (cA K "NothingLeft")) (fun us ws => us ++ ws) tNil) tNil))))))))
theorem cert_l_some {c : Cn} {D : Ends} (a_one : EV) {R : (List (Str × Option EV)) → Prop} (hr : RtOk c D.rt R (eL (tEx K ev))) : NxS c (t_l_some K) D [.val (ev a_one), .un] (m_l_some a_one R) :=
  (nx_seq (nx_asg (i := 1) (e := (eL (tEx K ev))) (md_toL (e := (tEx K ev)) (k := fun (z : (Str × Option EV) × (Str × Option EV) × (Str × Option EV) × (Str × Option EV) × (Str × Option EV) × Unit) => [z.1, z.2.1, z.2.2.1, z.2.2.2.1, z.2.2.2.2.1]) (ma_cons (md_mkV (md_var (i := 0) (e := ev) (a := a_one) rfl)) (ma_cons (md_mkV (md_var (i := 0) (e := ev) (a := a_one) rfl)) (ma_cons (md_mkV (md_var (i := 0) (e := ev) (a := a_one) rfl)) (ma_cons (md_mkV (md_var (i := 0) (e := ev) (a := a_one) rfl)) (ma_cons (md_mkV (md_var (i := 0) (e := ev) (a := a_one) rfl)) ma_nil))))) (fun _ => rfl) (fun _ => by simp)) (fun v1 => (nx_go (nx_norm (Ψ := [.val (ev a_one), .val ((eL (tEx K ev)) v1)]) (nx_seq (nx_asg (i := 1) (e := (eL (tEx K ev))) (md_catL (md_var (i := 1) (e := (eL (tEx K ev))) (a := v1) rfl) (md_toL (e := (tEx K ev)) (k := fun (z : (Str × Option EV) × (Str × Option EV) × (Str × Option EV) × (Str × Option EV) × (Str × Option EV) × Unit) => [z.1, z.2.1, z.2.2.1, z.2.2.2.1, z.2.2.2.2.1]) (ma_cons (md_mkV (md_var (i := 0) (e := ev) (a := a_one) rfl)) (ma_cons (md_mkV (md_var (i := 0) (e := ev) (a := a_one) rfl)) (ma_cons (md_mkV (md_var (i := 0) (e := ev) (a := a_one) rfl)) (ma_cons (md_mkV (md_var (i := 0) (e := ev) (a := a_one) rfl)) (ma_cons (md_mkV (md_var (i := 0) (e := ev) (a := a_one) rfl)) ma_nil))))) (fun _ => rfl) (fun _ => by simp))) (fun v2 => (nx_go (nx_norm (Ψ := [.val (ev a_one), .val ((eL (tEx K ev)) v2)]) (nx_seq (nx_asg (i := 1) (e := (eL (tEx K ev))) (md_catL (md_var (i := 1) (e := (eL (tEx K ev))) (a := v2) rfl) (md_toL (e := (tEx K ev)) (k := fun (z : (Str × Option EV) × (Str × Option EV) × (Str × Option EV) × (Str × Option EV) × Unit) => [z.1, z.2.1, z.2.2.1, z.2.2.2.1]) (ma_cons (md_mkVK (md_var (i := 0) (e := ev) (a := a_one) rfl)) (ma_cons (md_mkVK (md_var (i := 0) (e := ev) (a := a_one) rfl)) (ma_cons (md_mkVK (md_var (i := 0) (e := ev) (a := a_one) rfl)) (ma_cons (md_mkVK (md_var (i := 0) (e := ev) (a := a_one) rfl)) ma_nil)))) (fun _ => rfl) (fun _ => by simp))) (fun v3 => (nx_go (nx_norm (Ψ := [.val (ev a_one), .val ((eL (tEx K ev)) v3)]) (nx_ret (md_catL (md_var (i := 1) (e := (eL (tEx K ev))) (a := v3) rfl) (md_toL (e := (tEx K ev)) (k := fun (z : (Str × Option EV) × (Str × Option EV) × Unit) => [z.1, z.2.1]) (ma_cons (md_mkVK (md_var (i := 0) (e := ev) (a := a_one) rfl)) (ma_cons md_mkV0 ma_nil)) (fun _ => rfl) (fun _ => by simp))) hr) rfl))))) rfl))))) rfl)))))
theorem pure_l_some : ∀ vs H (Q : VK) (E : XK), sp_l_some K vs H Q E → t_l_some K { nx := fun _ H' => Q .non H', rt := Q } (L2.start ["_law_one", "_law_found"] vs) H :=
  pure_of (n := 1) (fun _ => rfl) (fun _ => rfl) (fun c D z R hr => cert_l_some _ hr)
theorem len_l_some : ∀ vs H Q E, sp_l_some K vs H Q E → vs.length = (["_law_one"] : List Str).length := len_of fun _ => rfl
def m_l_kinds (a_e : (Str × Option EV)) (R : (List Bool) → Prop) : Prop :=
  (wRun (wBind (wCons (wBind (wPure a_e) fun x => wG (x.1 ∈ xl) (decide (x.1 = "InvalidBox"))) (wCons (wBind (wPure a_e) fun x => wG (x.1 ∈ xl) (decide (x.1 = "InvalidSquare"))) (wCons (wBind (wPure a_e) fun x => wG (x.1 ∈ xl) (decide (x.1 = "InvalidRegion"))) wNil))) fun z => wPure [z.1, z.2.1, z.2.2.1]) fun v1 => (wRun (wBind (wPure v1) fun a => wBind (wBind (wCons (wBind (wPure a_e) fun x => wG (x.1 ∈ xl) (decide (x.1 = "InvalidNumber"))) (wCons (wBind (wPure a_e) fun x => wG (x.1 ∈ xl) (decide (x.1 = "InvalidLoops"))) (wCons (wBind (wPure a_e) fun x => wG (x.1 ∈ xl) (decide (x.1 = "InvalidAxis"))) wNil))) fun z => wPure [z.1, z.2.1, z.2.2.1]) fun b => wG (a.length + b.length ≤ 100000) (a ++ b)) fun v2 => (wRun (wBind (wPure v2) fun a => wBind (wBind (wCons (wBind (wPure a_e) fun x => wG (x.1 ∈ xl) (decide (x.1 = "InvalidSpans"))) (wCons (wBind (wPure a_e) fun x => wG (x.1 ∈ xl) (decide (x.1 = "InvalidName"))) (wCons (wBind (wPure a_e) fun x => wG (x.1 ∈ xl) (decide (x.1 = "InvalidText"))) wNil))) fun z => wPure [z.1, z.2.1, z.2.2.1]) fun b => wG (a.length + b.length ≤ 100000) (a ++ b)) fun v3 => (wRun (wBind (wPure v3) fun a => wBind (wBind (wCons (wBind (wPure a_e) fun x => wG (x.1 ∈ xl) (decide (x.1 = "InvalidLine"))) (wCons (wBind (wPure a_e) fun x => wG (x.1 ∈ xl) (decide (x.1 = "Outside"))) (wCons (wBind (wPure a_e) fun x => wG (x.1 ∈ xl) (decide (x.1 = "Unbounded"))) wNil))) fun z => wPure [z.1, z.2.1, z.2.2.1]) fun b => wG (a.length + b.length ≤ 100000) (a ++ b)) fun v4 => (wRun (wBind (wPure v4) fun a => wBind (wBind (wCons (wBind (wPure a_e) fun x => wG (x.1 ∈ xl) (decide (x.1 = "Blocked"))) (wCons (wBind (wPure a_e) fun x => wG (x.1 ∈ xl) (decide (x.1 = "TooMany"))) (wCons (wBind (wPure a_e) fun x => wG (x.1 ∈ xl) (decide (x.1 = "NoName"))) wNil))) fun z => wPure [z.1, z.2.1, z.2.2.1]) fun b => wG (a.length + b.length ≤ 100000) (a ++ b)) fun v5 => (wRun (wBind (wPure v5) fun a => wBind (wBind (wCons (wBind (wPure a_e) fun x => wG (x.1 ∈ xl) (decide (x.1 = "NothingLeft"))) wNil) fun z => wPure [z.1]) fun b => wG (a.length + b.length ≤ 100000) (a ++ b)) R))))))
def sp_l_kinds (K : Fg) : Sp := spM (fun z : (Str × Option EV) × Unit => [(tEx K ev) z.1]) (eL tBo) (fun z => m_l_kinds z.1)
def t_l_kinds (K : Fg) : TS :=
  (tSeq (tAsg (tLst (tCons (tCB (rIsX K) (tCons (tVar 0) (tCons (tC (.ref (cA K "InvalidBox"))) tNil))) (tCons (tCB (rIsX K) (tCons (tVar 0) (tCons (tC (.ref (cA K "InvalidSquare"))) tNil))) (tCons (tCB (rIsX K) (tCons (tVar 0) (tCons (tC (.ref (cA K "InvalidRegion"))) tNil))) tNil)))) (gName 1))
  (tSeq (tAsg (tOp (rAddX K) (tVar 1) (tLst (tCons (tCB (rIsX K) (tCons (tVar 0) (tCons (tC (.ref (cA K "InvalidNumber"))) tNil))) (tCons (tCB (rIsX K) (tCons (tVar 0) (tCons (tC (.ref (cA K "InvalidLoops"))) tNil))) (tCons (tCB (rIsX K) (tCons (tVar 0) (tCons (tC (.ref (cA K "InvalidAxis"))) tNil))) tNil))))) (gName 1))
  (tSeq (tAsg (tOp (rAddX K) (tVar 1) (tLst (tCons (tCB (rIsX K) (tCons (tVar 0) (tCons (tC (.ref (cA K "InvalidSpans"))) tNil))) (tCons (tCB (rIsX K) (tCons (tVar 0) (tCons (tC (.ref (cA K "InvalidName"))) tNil))) (tCons (tCB (rIsX K) (tCons (tVar 0) (tCons (tC (.ref (cA K "InvalidText"))) tNil))) tNil))))) (gName 1))
  (tSeq (tAsg (tOp (rAddX K) (tVar 1) (tLst (tCons (tCB (rIsX K) (tCons (tVar 0) (tCons (tC (.ref (cA K "InvalidLine"))) tNil))) (tCons (tCB (rIsX K) (tCons (tVar 0) (tCons (tC (.ref (cA K "Outside"))) tNil))) (tCons (tCB (rIsX K) (tCons (tVar 0) (tCons (tC (.ref (cA K "Unbounded"))) tNil))) tNil))))) (gName 1))
  (tSeq (tAsg (tOp (rAddX K) (tVar 1) (tLst (tCons (tCB (rIsX K) (tCons (tVar 0) (tCons (tC (.ref (cA K "Blocked"))) tNil))) (tCons (tCB (rIsX K) (tCons (tVar 0) (tCons (tC (.ref (cA K "TooMany"))) tNil))) (tCons (tCB (rIsX K) (tCons (tVar 0) (tCons (tC (.ref (cA K "NoName"))) tNil))) tNil))))) (gName 1))
  (tRet (tOp (rAddX K) (tVar 1) (tLst (tCons (tCB (rIsX K) (tCons (tVar 0) (tCons (tC (.ref (cA K "NothingLeft"))) tNil))) tNil)))))))))
theorem cert_l_kinds (XF : XcF K xl) (XI : ∀ n ∈ xl, XfI K (cA K n)) (KO : ∀ m ∈ xl, ∀ n ∈ xl, PySem.W.kitOne K (.ref (cA K n)) (.ref (cA K m)) = some (decide (n = m))) {c : Cn} {D : Ends} (a_e : (Str × Option EV)) {R : (List Bool) → Prop} (hr : RtOk c D.rt R (eL tBo)) : NxS c (t_l_kinds K) D [.val ((tEx K ev) a_e), .un] (m_l_kinds a_e R) :=
  (nx_seq (nx_asg (i := 1) (e := (eL tBo)) (md_toL (e := tBo) (k := fun (z : Bool × Bool × Bool × Unit) => [z.1, z.2.1, z.2.2.1]) (ma_cons (md_isX (b := fun n => decide (n = "InvalidBox")) (cv := .ref (cA K "InvalidBox")) XF.xf XI (fun _ h => h) (KO "InvalidBox" (by decide)) (md_var (i := 0) (e := (tEx K ev)) (a := a_e) rfl)) (ma_cons (md_isX (b := fun n => decide (n = "InvalidSquare")) (cv := .ref (cA K "InvalidSquare")) XF.xf XI (fun _ h => h) (KO "InvalidSquare" (by decide)) (md_var (i := 0) (e := (tEx K ev)) (a := a_e) rfl)) (ma_cons (md_isX (b := fun n => decide (n = "InvalidRegion")) (cv := .ref (cA K "InvalidRegion")) XF.xf XI (fun _ h => h) (KO "InvalidRegion" (by decide)) (md_var (i := 0) (e := (tEx K ev)) (a := a_e) rfl)) ma_nil))) (fun _ => rfl) (fun _ => by simp)) (fun v1 => (nx_go (nx_norm (Ψ := [.val ((tEx K ev) a_e), .val ((eL tBo) v1)]) (nx_seq (nx_asg (i := 1) (e := (eL tBo)) (md_catL (md_var (i := 1) (e := (eL tBo)) (a := v1) rfl) (md_toL (e := tBo) (k := fun (z : Bool × Bool × Bool × Unit) => [z.1, z.2.1, z.2.2.1]) (ma_cons (md_isX (b := fun n => decide (n = "InvalidNumber")) (cv := .ref (cA K "InvalidNumber")) XF.xf XI (fun _ h => h) (KO "InvalidNumber" (by decide)) (md_var (i := 0) (e := (tEx K ev)) (a := a_e) rfl)) (ma_cons (md_isX (b := fun n => decide (n = "InvalidLoops")) (cv := .ref (cA K "InvalidLoops")) XF.xf XI (fun _ h => h) (KO "InvalidLoops" (by decide)) (md_var (i := 0) (e := (tEx K ev)) (a := a_e) rfl)) (ma_cons (md_isX (b := fun n => decide (n = "InvalidAxis")) (cv := .ref (cA K "InvalidAxis")) XF.xf XI (fun _ h => h) (KO "InvalidAxis" (by decide)) (md_var (i := 0) (e := (tEx K ev)) (a := a_e) rfl)) ma_nil))) (fun _ => rfl) (fun _ => by simp))) (fun v2 => (nx_go (nx_norm (Ψ := [.val ((tEx K ev) a_e), .val ((eL tBo) v2)]) (nx_seq (nx_asg (i := 1) (e := (eL tBo)) (md_catL (md_var (i := 1) (e := (eL tBo)) (a := v2) rfl) (md_toL (e := tBo) (k := fun (z : Bool × Bool × Bool × Unit) => [z.1, z.2.1, z.2.2.1]) (ma_cons (md_isX (b := fun n => decide (n = "InvalidSpans")) (cv := .ref (cA K "InvalidSpans")) XF.xf XI (fun _ h => h) (KO "InvalidSpans" (by decide)) (md_var (i := 0) (e := (tEx K ev)) (a := a_e) rfl)) (ma_cons (md_isX (b := fun n => decide (n = "InvalidName")) (cv := .ref (cA K "InvalidName")) XF.xf XI (fun _ h => h) (KO "InvalidName" (by decide)) (md_var (i := 0) (e := (tEx K ev)) (a := a_e) rfl)) (ma_cons (md_isX (b := fun n => decide (n = "InvalidText")) (cv := .ref (cA K "InvalidText")) XF.xf XI (fun _ h => h) (KO "InvalidText" (by decide)) (md_var (i := 0) (e := (tEx K ev)) (a := a_e) rfl)) ma_nil))) (fun _ => rfl) (fun _ => by simp))) (fun v3 => (nx_go (nx_norm (Ψ := [.val ((tEx K ev) a_e), .val ((eL tBo) v3)]) (nx_seq (nx_asg (i := 1) (e := (eL tBo)) (md_catL (md_var (i := 1) (e := (eL tBo)) (a := v3) rfl) (md_toL (e := tBo) (k := fun (z : Bool × Bool × Bool × Unit) => [z.1, z.2.1, z.2.2.1]) (ma_cons (md_isX (b := fun n => decide (n = "InvalidLine")) (cv := .ref (cA K "InvalidLine")) XF.xf XI (fun _ h => h) (KO "InvalidLine" (by decide)) (md_var (i := 0) (e := (tEx K ev)) (a := a_e) rfl)) (ma_cons (md_isX (b := fun n => decide (n = "Outside")) (cv := .ref (cA K "Outside")) XF.xf XI (fun _ h => h) (KO "Outside" (by decide)) (md_var (i := 0) (e := (tEx K ev)) (a := a_e) rfl)) (ma_cons (md_isX (b := fun n => decide (n = "Unbounded")) (cv := .ref (cA K "Unbounded")) XF.xf XI (fun _ h => h) (KO "Unbounded" (by decide)) (md_var (i := 0) (e := (tEx K ev)) (a := a_e) rfl)) ma_nil))) (fun _ => rfl) (fun _ => by simp))) (fun v4 => (nx_go (nx_norm (Ψ := [.val ((tEx K ev) a_e), .val ((eL tBo) v4)]) (nx_seq (nx_asg (i := 1) (e := (eL tBo)) (md_catL (md_var (i := 1) (e := (eL tBo)) (a := v4) rfl) (md_toL (e := tBo) (k := fun (z : Bool × Bool × Bool × Unit) => [z.1, z.2.1, z.2.2.1]) (ma_cons (md_isX (b := fun n => decide (n = "Blocked")) (cv := .ref (cA K "Blocked")) XF.xf XI (fun _ h => h) (KO "Blocked" (by decide)) (md_var (i := 0) (e := (tEx K ev)) (a := a_e) rfl)) (ma_cons (md_isX (b := fun n => decide (n = "TooMany")) (cv := .ref (cA K "TooMany")) XF.xf XI (fun _ h => h) (KO "TooMany" (by decide)) (md_var (i := 0) (e := (tEx K ev)) (a := a_e) rfl)) (ma_cons (md_isX (b := fun n => decide (n = "NoName")) (cv := .ref (cA K "NoName")) XF.xf XI (fun _ h => h) (KO "NoName" (by decide)) (md_var (i := 0) (e := (tEx K ev)) (a := a_e) rfl)) ma_nil))) (fun _ => rfl) (fun _ => by simp))) (fun v5 => (nx_go (nx_norm (Ψ := [.val ((tEx K ev) a_e), .val ((eL tBo) v5)]) (nx_ret (md_catL (md_var (i := 1) (e := (eL tBo)) (a := v5) rfl) (md_toL (e := tBo) (k := fun (z : Bool × Unit) => [z.1]) (ma_cons (md_isX (b := fun n => decide (n = "NothingLeft")) (cv := .ref (cA K "NothingLeft")) XF.xf XI (fun _ h => h) (KO "NothingLeft" (by decide)) (md_var (i := 0) (e := (tEx K ev)) (a := a_e) rfl)) ma_nil) (fun _ => rfl) (fun _ => by simp))) hr) rfl))))) rfl))))) rfl))))) rfl))))) rfl)))))
theorem pure_l_kinds (XF : XcF K xl) (XI : ∀ n ∈ xl, XfI K (cA K n)) (KO : ∀ m ∈ xl, ∀ n ∈ xl, PySem.W.kitOne K (.ref (cA K n)) (.ref (cA K m)) = some (decide (n = m))) : ∀ vs H (Q : VK) (E : XK), sp_l_kinds K vs H Q E → t_l_kinds K { nx := fun _ H' => Q .non H', rt := Q } (L2.start ["_law_e", "_law_found"] vs) H :=
  pure_of (n := 1) (fun _ => rfl) (fun _ => rfl) (fun c D z R hr => cert_l_kinds XF XI KO _ hr)
theorem len_l_kinds : ∀ vs H Q E, sp_l_kinds K vs H Q E → vs.length = (["_law_e"] : List Str).length := len_of fun _ => rfl
def m_l_roots (a_e : (Str × Option EV)) (R : (List Bool) → Prop) : Prop :=
  (wRun (wBind (wCons (wBind (wPure a_e) fun x => wG (x.1 ∈ xl) (xUnder "ValueError" x.1)) (wCons (wBind (wPure a_e) fun x => wG (x.1 ∈ xl) (xUnder "BoxError" x.1)) (wCons (wBind (wPure a_e) fun x => wG (x.1 ∈ xl) (xUnder "LookupError" x.1)) (wCons (wBind (wPure a_e) fun x => wG (x.1 ∈ xl) (xUnder "KeyError" x.1)) wNil)))) fun z => wPure [z.1, z.2.1, z.2.2.1, z.2.2.2.1]) fun v1 => (wRun (wBind (wPure v1) fun a => wBind (wBind (wCons (wBind (wPure a_e) fun x => wG (x.1 ∈ xl) (xUnder "IndexError" x.1)) (wCons (wBind (wPure a_e) fun x => wG (x.1 ∈ xl) (xUnder "RuntimeError" x.1)) (wCons (wBind (wPure a_e) fun x => wG (x.1 ∈ xl) (xUnder "OverflowError" x.1)) wNil))) fun z => wPure [z.1, z.2.1, z.2.2.1]) fun b => wG (a.length + b.length ≤ 100000) (a ++ b)) R))
def sp_l_roots (K : Fg) : Sp := spM (fun z : (Str × Option EV) × Unit => [(tEx K ev) z.1]) (eL tBo) (fun z => m_l_roots z.1)
def t_l_roots (K : Fg) : TS :=
  (tSeq (tAsg (tLst (tCons (tCB (rIsX K) (tCons (tVar 0) (tCons (tC (.ty "ValueError")) tNil))) (tCons (tCB (rIsX K) (tCons (tVar 0) (tCons (tC (.ref (cA K "BoxError"))) tNil))) (tCons (tCB (rIsX K) (tCons (tVar 0) (tCons (tC (.ty "LookupError")) tNil))) (tCons (tCB (rIsX K) (tCons (tVar 0) (tCons (tC (.ty "KeyError")) tNil))) tNil))))) (gName 1))
  (tRet (tOp (rAddX K) (tVar 1) (tLst (tCons (tCB (rIsX K) (tCons (tVar 0) (tCons (tC (.ty "IndexError")) tNil))) (tCons (tCB (rIsX K) (tCons (tVar 0) (tCons (tC (.ty "RuntimeError")) tNil))) (tCons (tCB (rIsX K) (tCons (tVar 0) (tCons (tC (.ty "OverflowError")) tNil))) tNil)))))))
theorem cert_l_roots (XF : XcF K xl) (XI : ∀ n ∈ xl, XfI K (cA K n)) (KR : ∀ T ∈ roots6, ∀ n ∈ xl, PySem.W.kitOne K (.ref (cA K n)) (.type T) = some (xUnder T n)) (KX : ∀ n ∈ xl, PySem.W.kitOne K (.ref (cA K n)) (.ref (cA K "BoxError")) = some (xUnder "BoxError" n)) {c : Cn} {D : Ends} (a_e : (Str × Option EV)) {R : (List Bool) → Prop} (hr : RtOk c D.rt R (eL tBo)) : NxS c (t_l_roots K) D [.val ((tEx K ev) a_e), .un] (m_l_roots a_e R) :=
  (nx_seq (nx_asg (i := 1) (e := (eL tBo)) (md_toL (e := tBo) (k := fun (z : Bool × Bool × Bool × Bool × Unit) => [z.1, z.2.1, z.2.2.1, z.2.2.2.1]) (ma_cons (md_isX (b := xUnder "ValueError") (cv := .type "ValueError") XF.xf XI (fun _ h => h) (KR "ValueError" (by decide)) (md_var (i := 0) (e := (tEx K ev)) (a := a_e) rfl)) (ma_cons (md_isX (b := xUnder "BoxError") (cv := .ref (cA K "BoxError")) XF.xf XI (fun _ h => h) KX (md_var (i := 0) (e := (tEx K ev)) (a := a_e) rfl)) (ma_cons (md_isX (b := xUnder "LookupError") (cv := .type "LookupError") XF.xf XI (fun _ h => h) (KR "LookupError" (by decide)) (md_var (i := 0) (e := (tEx K ev)) (a := a_e) rfl)) (ma_cons (md_isX (b := xUnder "KeyError") (cv := .type "KeyError") XF.xf XI (fun _ h => h) (KR "KeyError" (by decide)) (md_var (i := 0) (e := (tEx K ev)) (a := a_e) rfl)) ma_nil)))) (fun _ => rfl) (fun _ => by simp)) (fun v1 => (nx_go (nx_norm (Ψ := [.val ((tEx K ev) a_e), .val ((eL tBo) v1)]) (nx_ret (md_catL (md_var (i := 1) (e := (eL tBo)) (a := v1) rfl) (md_toL (e := tBo) (k := fun (z : Bool × Bool × Bool × Unit) => [z.1, z.2.1, z.2.2.1]) (ma_cons (md_isX (b := xUnder "IndexError") (cv := .type "IndexError") XF.xf XI (fun _ h => h) (KR "IndexError" (by decide)) (md_var (i := 0) (e := (tEx K ev)) (a := a_e) rfl)) (ma_cons (md_isX (b := xUnder "RuntimeError") (cv := .type "RuntimeError") XF.xf XI (fun _ h => h) (KR "RuntimeError" (by decide)) (md_var (i := 0) (e := (tEx K ev)) (a := a_e) rfl)) (ma_cons (md_isX (b := xUnder "OverflowError") (cv := .type "OverflowError") XF.xf XI (fun _ h => h) (KR "OverflowError" (by decide)) (md_var (i := 0) (e := (tEx K ev)) (a := a_e) rfl)) ma_nil))) (fun _ => rfl) (fun _ => by simp))) hr) rfl)))))
theorem pure_l_roots (XF : XcF K xl) (XI : ∀ n ∈ xl, XfI K (cA K n)) (KR : ∀ T ∈ roots6, ∀ n ∈ xl, PySem.W.kitOne K (.ref (cA K n)) (.type T) = some (xUnder T n)) (KX : ∀ n ∈ xl, PySem.W.kitOne K (.ref (cA K n)) (.ref (cA K "BoxError")) = some (xUnder "BoxError" n)) : ∀ vs H (Q : VK) (E : XK), sp_l_roots K vs H Q E → t_l_roots K { nx := fun _ H' => Q .non H', rt := Q } (L2.start ["_law_e", "_law_found"] vs) H :=
  pure_of (n := 1) (fun _ => rfl) (fun _ => rfl) (fun c D z R hr => cert_l_roots XF XI KR KX _ hr)
theorem len_l_roots : ∀ vs H Q E, sp_l_roots K vs H Q E → vs.length = (["_law_e"] : List Str).length := len_of fun _ => rfl
def m_l_due (a_at : Int) (R : (List Bool) → Prop) : Prop :=
  (wRun (wBind (wBind (wBind (wBind (wCons (wPure ("ValueError BoxError" : Str)) wNil) fun z => wPure [z.1]) fun a => wBind (wPure (11 : Int)) fun b => wG (a.length * b.toNat ≤ 100000 ∧ InR b) (List.replicate b.toNat a).flatten) fun a => wBind (wBind (wBind (wCons (wPure ("RuntimeError" : Str)) wNil) fun z => wPure [z.1]) fun a => wBind (wPure (2 : Int)) fun b => wG (a.length * b.toNat ≤ 100000 ∧ InR b) (List.replicate b.toNat a).flatten) fun b => wG (a.length + b.length ≤ 100000) (a ++ b)) fun a => wBind (wBind (wCons (wPure ("OverflowError" : Str)) (wCons (wPure ("LookupError KeyError" : Str)) wNil)) fun z => wPure [z.1, z.2.1]) fun b => wG (a.length + b.length ≤ 100000) (a ++ b)) fun v1 => (wRun (wPure ("LookupError IndexError" : Str)) fun v2 => (v1).length < 100000 ∧ (wRun (wBind (wCons (wPure ("ValueError" : Str)) (wCons (wPure ("BoxError" : Str)) (wCons (wPure ("LookupError" : Str)) (wCons (wPure ("KeyError" : Str)) (wCons (wPure ("IndexError" : Str)) (wCons (wPure ("RuntimeError" : Str)) (wCons (wPure ("OverflowError" : Str)) wNil))))))) fun z => wPure [z.1, z.2.1, z.2.2.1, z.2.2.2.1, z.2.2.2.2.1, z.2.2.2.2.2.1, z.2.2.2.2.2.2.1]) fun v3 => (wRun (wBind (wPure v3) fun xs => wLc xs (fun x4 => (wPure true)) (fun x4 => (wBind (wPure x4) fun a => wBind (wBind (wBind (wPure a_at) fun j => wIx (v1 ++ [v2]) j) fun x => wBind (wPure (" " : Str)) fun y => wG ((y.length == 0) = false ∧ x.length ≤ 90000 ∧ (Txt.split x y).length ≤ 100000) (Txt.split x y)) fun b => wPure (decide (a ∈ b))))) R))))
def sp_l_due (K : Fg) : Sp := spM (fun z : Int × Unit => [tI z.1]) (eL tBo) (fun z => m_l_due z.1)
def t_l_due (K : Fg) : TS :=
  (tSeq (tAsg (tOp (rAddX K) (tOp (rAddX K) (tOp rRep (tLst (tCons (tC (.str ("ValueError BoxError" : Str))) tNil)) (tC (.int 11))) (tOp rRep (tLst (tCons (tC (.str ("RuntimeError" : Str))) tNil)) (tC (.int 2)))) (tLst (tCons (tC (.str ("OverflowError" : Str))) (tCons (tC (.str ("LookupError KeyError" : Str))) tNil)))) (gName 1))
  (tSeq (tDrop (tBM K "list" rAppend (tVar 1) (tCons (tC (.str ("LookupError IndexError" : Str))) tNil)))
  (tSeq (tAsg (tLst (tCons (tC (.str ("ValueError" : Str))) (tCons (tC (.str ("BoxError" : Str))) (tCons (tC (.str ("LookupError" : Str))) (tCons (tC (.str ("KeyError" : Str))) (tCons (tC (.str ("IndexError" : Str))) (tCons (tC (.str ("RuntimeError" : Str))) (tCons (tC (.str ("OverflowError" : Str))) tNil)))))))) (gName 2))
  (tRet (tLc (iSeq K (tVar 2)) (gName 3) tYes (tOp (rIn K false) (tVar 3) (tM1 rSplitS (tOp (rIx K) (tVar 1) (tVar 0)) (tC (.str (" " : Str))))) [3])))))
theorem cert_l_due {c : Cn} {D : Ends} (a_at : Int) {R : (List Bool) → Prop} (hr : RtOk c D.rt R (eL tBo)) : NxS c (t_l_due K) D [.val (tI a_at), .un, .un, .un] (m_l_due a_at R) :=
  (nx_seq (nx_asgF (i := 1) (e := tSt) (mdf_cat (md_catL (md_rep (md_toL (e := tSt) (k := fun (z : Str × Unit) => [z.1]) (ma_cons md_str ma_nil) (fun _ => rfl) (fun _ => by simp)) md_int) (md_rep (md_toL (e := tSt) (k := fun (z : Str × Unit) => [z.1]) (ma_cons md_str ma_nil) (fun _ => rfl) (fun _ => by simp)) md_int)) (md_toL (e := tSt) (k := fun (z : Str × Str × Unit) => [z.1, z.2.1]) (ma_cons md_str (ma_cons md_str ma_nil)) (fun _ => rfl) (fun _ => by simp))) (fun v1 => (nx_go (nx_norm (Ψ := [.val (tI a_at), .own (cL ((v1).map tSt)), .un, .un]) (nx_seq (nx_app (i := 1) (l := v1) (e := tSt) rfl md_str (fun v2 => (nx_go (nx_norm (Ψ := [.val (tI a_at), .own (cL (((v1 ++ [v2])).map tSt)), .un, .un]) (nx_seq (nx_asg (i := 2) (e := (eL tSt)) (md_toL (e := tSt) (k := fun (z : Str × Str × Str × Str × Str × Str × Str × Unit) => [z.1, z.2.1, z.2.2.1, z.2.2.2.1, z.2.2.2.2.1, z.2.2.2.2.2.1, z.2.2.2.2.2.2.1]) (ma_cons md_str (ma_cons md_str (ma_cons md_str (ma_cons md_str (ma_cons md_str (ma_cons md_str (ma_cons md_str ma_nil))))))) (fun _ => rfl) (fun _ => by simp)) (fun v3 => (nx_go (nx_norm (Ψ := [.val (tI a_at), .own (cL (((v1 ++ [v2])).map tSt)), .val ((eL tSt) v3), .un]) (nx_ret (md_lc (mi_seq (MD.ofL (md_var (i := 2) (e := (eL tSt)) (a := v3) rfl))) rfl (fun x4 => (gm_name rfl)) (by decide) (fun x4 => mt_yes) (fun x4 => (md_inF (md_var (i := 3) (e := tSt) (a := x4) rfl) (MD.ofL (md_splitS (md_ownIx (i := 1) (l := (v1 ++ [v2])) (e := tSt) rfl (md_var (i := 0) (e := tI) (a := a_at) rfl)) md_str))))) hr) rfl))))) rfl))))) rfl)))))
theorem pure_l_due : ∀ vs H (Q : VK) (E : XK), sp_l_due K vs H Q E → t_l_due K { nx := fun _ H' => Q .non H', rt := Q } (L2.start ["_law_at", "_law_words", "_law_named", "_law_name"] vs) H :=
  pure_of (n := 3) (fun _ => rfl) (fun _ => rfl) (fun c D z R hr => cert_l_due _ hr)
theorem len_l_due : ∀ vs H Q E, sp_l_due K vs H Q E → vs.length = (["_law_at"] : List Str).length := len_of fun _ => rfl
def m_law (a_script : (List Int)) (R : Bool → Prop) : Prop :=
  (wRun (wBind (wBind (wPure (1 : Int)) fun a => wBind (wBind (wBind (wPure a_script) fun a => wPure (a.length : Int)) fun a => wBind (wPure (6 : Int)) fun b => wPure (min a b)) fun b => wPure (max a b)) fun n => wG (InR n) (rng 0 n)) fun xs => wFor xs () (fun x7 (s1 : Unit) n2 k6 => (wRun (wPure a_script) fun _ => (wPure x7) fun j => (0 ≤ j ∧ j ≤ 100) ∧ (wRun (wBind (wBind (wCons (wBind (wBind (wPure ()) fun a => wPure (DatE.d eU a)) fun d => wPure (EV.d d)) (wCons (wBind (wBind (wPure true) fun a => wPure (DatE.d tBo a)) fun d => wPure (EV.d d)) (wCons (wBind (wBind (wPure (0 : Int)) fun a => wPure (DatE.d tI a)) fun d => wPure (EV.d d)) (wCons (wBind (wBind (wBind (wPure (7 : Int)) fun a => wPure (-a)) fun a => wPure (DatE.d tI a)) fun d => wPure (EV.d d)) (wCons (wBind (wBind (wBind (wPure (10 : Int)) fun a => wBind (wPure (30 : Int)) fun b => wG (CPow a b) (a ^ b.toNat)) fun a => wPure (DatE.d tI a)) fun d => wPure (EV.d d)) (wCons (wBind (wBind (wPure ("" : Str)) fun a => wPure (PyData.str a)) fun d => wPure (EV.d d)) (wCons (wBind (wBind (wPure ("ab" : Str)) fun a => wPure (PyData.str a)) fun d => wPure (EV.d d)) (wCons (wBind (wBind (wPure []) fun a => wPure (DatE.d (eT tI) a)) fun d => wPure (EV.d d)) (wCons (wBind (wBind (wBind (wPure (1 : Int)) fun a0 => wBind (wPure (2 : Int)) fun a1 => wPure (a0, a1)) fun a => wPure (DatE.d (e2 tI tI) a)) fun d => wPure (EV.d d)) (wCons (wBind (wBind (wPure []) fun a => wPure (DatE.d (eL tI) a)) fun d => wPure (EV.d d)) (wCons (wBind (wBind (wBind (wCons (wPure (3 : Int)) wNil) fun z => wPure [z.1]) fun a => wPure (DatE.d (eL tI) a)) fun d => wPure (EV.d d)) (wCons (wPure (EV.k ("a" : Str) 1)) wNil)))))))))))) fun z => wPure [z.1, z.2.1, z.2.2.1, z.2.2.2.1, z.2.2.2.2.1, z.2.2.2.2.2.1, z.2.2.2.2.2.2.1, z.2.2.2.2.2.2.2.1, z.2.2.2.2.2.2.2.2.1, z.2.2.2.2.2.2.2.2.2.1, z.2.2.2.2.2.2.2.2.2.2.1, z.2.2.2.2.2.2.2.2.2.2.2.1]) fun a => wBind (wBind (wPure (12 : Int)) wTake) fun i => wIx a i) fun v10 => (wRun (wBind (wCons (wPure v10) wNil) fun z => m_l_some z.1) fun v11 => (wRun (wBind (wBind (wPure v11) fun a => wPure (a.length : Int)) fun n => wG (InR n) (rng 0 n)) fun xs => wFor xs () (fun x18 (s12 : Unit) n13 k17 => (wRun (wOr (wBind (wBind (wCons (wBind (wPure v11) fun a => wBind (wPure x18) fun i => wIx a i) wNil) fun z => m_l_kinds z.1) fun a => wBind (wBind (wBind (wPure (16 : Int)) fun n => wG (InR n) (rng 0 n)) fun xs => wLc xs (fun x21 => (wPure true)) (fun x21 => (wBind (wPure x21) fun a => wBind (wPure x18) fun b => wPure (decide (a = b))))) fun b => wPure (!decide (a = b))) (wBind (wBind (wCons (wBind (wPure v11) fun a => wBind (wPure x18) fun i => wIx a i) wNil) fun z => m_l_roots z.1) fun a => wBind (wBind (wCons (wPure x18) wNil) fun z => m_l_due z.1) fun b => wPure (!decide (a = b)))) fun b => if b = true then (wRun (wPure false) R) else (n13 ()))) (fun (s12 : Unit) => (wRun (wBind (wCons (wBind (wBind (wPure v10) fun d => wPure (("InvalidBox" : Str), some d)) fun x P => x.1 ∈ xl ∧ ∃ d, x.2 = some d ∧ P d) (wCons (wBind (wBind (wPure v10) fun d => wPure (("InvalidSquare" : Str), some d)) fun x P => x.1 ∈ xl ∧ ∃ d, x.2 = some d ∧ P d) (wCons (wBind (wBind (wPure v10) fun d => wPure (("InvalidRegion" : Str), some d)) fun x P => x.1 ∈ xl ∧ ∃ d, x.2 = some d ∧ P d) wNil))) fun z => wPure [z.1, z.2.1, z.2.2.1]) fun v22 => (wRun (wBind (wPure v22) fun a => wBind (wBind (wCons (wBind (wBind (wPure v10) fun d => wPure (("InvalidNumber" : Str), some d)) fun x P => x.1 ∈ xl ∧ ∃ d, x.2 = some d ∧ P d) (wCons (wBind (wBind (wPure v10) fun d => wPure (("InvalidLoops" : Str), some d)) fun x P => x.1 ∈ xl ∧ ∃ d, x.2 = some d ∧ P d) wNil)) fun z => wPure [z.1, z.2.1]) fun b => wG (a.length + b.length ≤ 100000) (a ++ b)) fun v23 => (wRun (wBind (wPure v23) fun a => wBind (wBind (wCons (wBind (wBind (wPure v10) fun d => wPure (("InvalidAxis" : Str), some d)) fun x P => x.1 ∈ xl ∧ ∃ d, x.2 = some d ∧ P d) (wCons (wBind (wBind (wPure v10) fun d => wPure (("InvalidSpans" : Str), some d)) fun x P => x.1 ∈ xl ∧ ∃ d, x.2 = some d ∧ P d) wNil)) fun z => wPure [z.1, z.2.1]) fun b => wG (a.length + b.length ≤ 100000) (a ++ b)) fun v24 => (wRun (wBind (wPure v24) fun a => wBind (wBind (wCons (wBind (wBind (wPure v10) fun d => wPure (("InvalidName" : Str), some d)) fun x P => x.1 ∈ xl ∧ ∃ d, x.2 = some d ∧ P d) (wCons (wBind (wBind (wPure v10) fun d => wPure (("InvalidText" : Str), some d)) fun x P => x.1 ∈ xl ∧ ∃ d, x.2 = some d ∧ P d) wNil)) fun z => wPure [z.1, z.2.1]) fun b => wG (a.length + b.length ≤ 100000) (a ++ b)) fun v25 => (wRun (wBind (wPure v25) fun a => wBind (wBind (wCons (wBind (wBind (wPure v10) fun d => wPure (("InvalidLine" : Str), some d)) fun x P => x.1 ∈ xl ∧ ∃ d, x.2 = some d ∧ P d) (wCons (wBind (wBind (wPure v10) fun d => wPure (("Outside" : Str), some d)) fun x P => x.1 ∈ xl ∧ ∃ d, x.2 = some d ∧ P d) (wCons (wBind (wBind (wPure v10) fun d => wPure (("Unbounded" : Str), some d)) fun x P => x.1 ∈ xl ∧ ∃ d, x.2 = some d ∧ P d) wNil))) fun z => wPure [z.1, z.2.1, z.2.2.1]) fun b => wG (a.length + b.length ≤ 100000) (a ++ b)) fun v26 => (wRun (wBind (wPure v26) fun a => wBind (wBind (wCons (wBind (wBind (wPure v10) fun d => wPure (("Blocked" : Str), some d)) fun x P => x.1 ∈ xl ∧ ∃ d, x.2 = some d ∧ P d) wNil) fun z => wPure [z.1]) fun b => wG (a.length + b.length ≤ 100000) (a ++ b)) fun v27 => (wRun (wBind (wPure v27) fun a => wBind (wBind (wCons (wBind (wBind (wPure v10) fun d => wPure (("TooMany" : Str), some d)) fun x P => x.1 ∈ xl ∧ ∃ d, x.2 = some d ∧ P d) (wCons (wBind (wBind (wPure v10) fun d => wPure (("NoName" : Str), some d)) fun x P => x.1 ∈ xl ∧ ∃ d, x.2 = some d ∧ P d) wNil)) fun z => wPure [z.1, z.2.1]) fun b => wG (a.length + b.length ≤ 100000) (a ++ b)) fun v28 => (wRun (wBind (wBind (wPure v28) fun xs => wLc xs (fun x29 => (wPure true)) (fun x29 => (wBind (wPure x29) fun a => wG a.Ok a.shown))) fun a => wBind (wBind (wBind (wCons (wBind (wPure v10) fun a => wG a.Ok a.shown) wNil) fun z => wPure [z.1]) fun a => wBind (wPure (15 : Int)) fun b => wG (a.length * b.toNat ≤ 100000 ∧ InR b) (List.replicate b.toNat a).flatten) fun b => wG (a.length = b.length) (!decide (a = b))) fun b => if b = true then (wRun (wPure false) R) else (n2 ()))))))))))))))) (fun (s1 : Unit) => (wRun (wPure true) R)))
def t_law (K : Fg) : TS :=
  (tSeq (tFor (iRng1 (tCons (tCB rMax2 (tCons (tC (.int 1)) (tCons (tCB rMin2 (tCons (tCB (rLenX K) (tCons (tVar 0) tNil)) (tCons (tC (.int 6)) tNil))) tNil))) tNil)) (gName 1)
  (tSeq (tAsg (tCall (sp_l_pool K) [] E0 (tCons (tVar 0) (tCons (tVar 1) tNil))) (gName 2))
  (tSeq (tAsg (tOp (rIx K) (tLst (tCons (tC .non) (tCons (tC (.bl true)) (tCons (tC (.int 0)) (tCons (tUn rNegI (tC (.int 7))) (tCons (tOp rPowI (tC (.int 10)) (tC (.int 30))) (tCons (tC (.str ("" : Str))) (tCons (tC (.str ("ab" : Str))) (tCons (tTup tNil) (tCons (tTup (tCons (tC (.int 1)) (tCons (tC (.int 2)) tNil))) (tCons (tLst tNil) (tCons (tLst (tCons (tC (.int 3)) tNil)) (tCons (tDisp [((tC (.str ("a" : Str))), (tC (.int 1)))]) tNil))))))))))))) (tCall sp_l_take [] E0 (tCons (tVar 2) (tCons (tC (.int 12)) tNil)))) (gName 3))
  (tSeq (tAsg (tCall (sp_l_some K) [] E0 (tCons (tVar 3) tNil)) (gName 4))
  (tSeq (tFor (iRng1 (tCons (tCB (rLenX K) (tCons (tVar 4) tNil)) tNil)) (gName 5)
  (tIfS (tOr (tTest (tOp (rNeX K) (tCall (sp_l_kinds K) [] E0 (tCons (tOp (rIx K) (tVar 4) (tVar 5)) tNil)) (tLc (iRng1 (tCons (tC (.int 16)) tNil)) (gName 7) tYes (tOp (rEqX K) (tVar 7) (tVar 5)) [7]))) (tTest (tOp (rNeX K) (tCall (sp_l_roots K) [] E0 (tCons (tOp (rIx K) (tVar 4) (tVar 5)) tNil)) (tCall (sp_l_due K) [] E0 (tCons (tVar 5) tNil)))))
  (tRet (tC (.bl false)))
  tNext))
  (tSeq (tAsg (tLst (tCons (tXv K "value" (tMkVK (cA K "InvalidBox") 1 (sp_xinit (cA K "InvalidBox")) (fun us ws => us ++ ws) (tCons (tVar 3) tNil))) (tCons (tXv K "value" (tMkVK (cA K "InvalidSquare") 1 (sp_xinit (cA K "InvalidSquare")) (fun us ws => us ++ ws) (tCons (tVar 3) tNil))) (tCons (tXv K "value" (tMkVK (cA K "InvalidRegion") 1 (sp_xinit (cA K "InvalidRegion")) (fun us ws => us ++ ws) (tCons (tVar 3) tNil))) tNil)))) (gName 6))
  (tSeq (tAsg (tOp (rAddX K) (tVar 6) (tLst (tCons (tXv K "value" (tMkVK (cA K "InvalidNumber") 1 (sp_xinit (cA K "InvalidNumber")) (fun us ws => us ++ ws) (tCons (tVar 3) tNil))) (tCons (tXv K "value" (tMkVK (cA K "InvalidLoops") 1 (sp_xinit (cA K "InvalidLoops")) (fun us ws => us ++ ws) (tCons (tVar 3) tNil))) tNil)))) (gName 6))
  (tSeq (tAsg (tOp (rAddX K) (tVar 6) (tLst (tCons (tXv K "value" (tMkVK (cA K "InvalidAxis") 1 (sp_xinit (cA K "InvalidAxis")) (fun us ws => us ++ ws) (tCons (tVar 3) tNil))) (tCons (tXv K "value" (tMkVK (cA K "InvalidSpans") 1 (sp_xinit (cA K "InvalidSpans")) (fun us ws => us ++ ws) (tCons (tVar 3) tNil))) tNil)))) (gName 6))
  (tSeq (tAsg (tOp (rAddX K) (tVar 6) (tLst (tCons (tXv K "value" (tMkVK (cA K "InvalidName") 1 (sp_xinit (cA K "InvalidName")) (fun us ws => us ++ ws) (tCons (tVar 3) tNil))) (tCons (tXv K "value" (tMkVK (cA K "InvalidText") 1 (sp_xinit (cA K "InvalidText")) (fun us ws => us ++ ws) (tCons (tVar 3) tNil))) tNil)))) (gName 6))
  (tSeq (tAsg (tOp (rAddX K) (tVar 6) (tLst (tCons (tXv K "value" (tMkVK (cA K "InvalidLine") 1 (sp_xinit (cA K "InvalidLine")) (fun us ws => us ++ ws) (tCons (tVar 3) tNil))) (tCons (tXv K "value" (tMkV (cA K "Outside") (sp_xinit (cA K "Outside")) (tCons (tVar 3) tNil))) (tCons (tXv K "value" (tMkV (cA K "Unbounded") (sp_xinit (cA K "Unbounded")) (tCons (tVar 3) tNil))) tNil))))) (gName 6))
  (tSeq (tAsg (tOp (rAddX K) (tVar 6) (tLst (tCons (tXv K "value" (tMkV (cA K "Blocked") (sp_xinit (cA K "Blocked")) (tCons (tVar 3) tNil))) tNil))) (gName 6))
  (tSeq (tAsg (tOp (rAddX K) (tVar 6) (tLst (tCons (tXv K "value" (tMkV (cA K "TooMany") (sp_xinit (cA K "TooMany")) (tCons (tVar 3) tNil))) (tCons (tXv K "value" (tMkV (cA K "NoName") (sp_xinit (cA K "NoName")) (tCons (tVar 3) tNil))) tNil)))) (gName 6))
  (tIfS (tTest (tOp (rNeLS K) (tLc (iSeq K (tVar 6)) (gName 8) tYes (tCB (rReprE K) (tCons (tVar 8) tNil)) [8]) (tOp rRep (tLst (tCons (tCB (rReprE K) (tCons (tVar 3) tNil)) tNil)) (tC (.int 15)))))
  (tRet (tC (.bl false)))
  tNext)))))))))))))
  (tRet (tC (.bl true))))
theorem cert_law (XF : XcF K xl) {c : Cn} {D : Ends} (a_script : (List Int)) {R : Bool → Prop} (hr : RtOk c D.rt R tBo) : NxS c (t_law K) D [.val ((tScr K) a_script), .un, .un, .un, .un, .un, .un, .un, .un] (m_law a_script R) :=
  (nx_seq (nx_for (Ψ := fun (s1 : Unit) => [.val ((tScr K) a_script), .un, .un, .un, .un, .un, .un, .un, .un]) (s0 := ()) (mi_rng1 (md_max2 md_int (md_min2 (md_lenScr (md_var (i := 0) (e := (tScr K)) (a := a_script) rfl)) md_int))) (.eq (.un (.un (.un (.un (.un (.un (.un (.un .nil))))))))) (fun x7 s1 => (gm_name rfl)) (fun s1 => (nx_go (nx_norm (Ψ := [.val ((tScr K) a_script), .un, .un, .un, .un, .un, .un, .un, .un]) (nx_ret md_bl hr) rfl))) (fun c8 hc9 hk5 x7 s1 n2 N3 hn4 => (nx_seq (nx_pool (i := 2) (md_var (i := 0) (e := (tScr K)) (a := a_script) rfl) (md_var (i := 1) (e := tI) (a := x7) rfl) (nx_go (nx_norm (Ψ := [.val ((tScr K) a_script), .val (tI x7), .pool, .un, .un, .un, .un, .un, .un]) (nx_seq (nx_asg (i := 3) (e := ev) (md_ixL (md_toL (e := ev) (k := fun (z : EV × EV × EV × EV × EV × EV × EV × EV × EV × EV × EV × EV × Unit) => [z.1, z.2.1, z.2.2.1, z.2.2.2.1, z.2.2.2.2.1, z.2.2.2.2.2.1, z.2.2.2.2.2.2.1, z.2.2.2.2.2.2.2.1, z.2.2.2.2.2.2.2.2.1, z.2.2.2.2.2.2.2.2.2.1, z.2.2.2.2.2.2.2.2.2.2.1, z.2.2.2.2.2.2.2.2.2.2.2.1]) (ma_cons (MD.evd (MD.dat (e := eU) md_nonU)) (ma_cons (MD.evd (MD.dat (e := tBo) md_bl)) (ma_cons (MD.evd (MD.dat (e := tI) md_int)) (ma_cons (MD.evd (MD.dat (e := tI) (md_neg md_int))) (ma_cons (MD.evd (MD.dat (e := tI) (md_pow md_int md_int))) (ma_cons (MD.evd (MD.datS md_str)) (ma_cons (MD.evd (MD.datS md_str)) (ma_cons (MD.evd (MD.dat (e := (eT tI)) (md_nilT (e := tI)))) (ma_cons (MD.evd (MD.dat (e := (e2 tI tI)) (md_t2 md_int md_int))) (ma_cons (MD.evd (MD.dat (e := (eL tI)) (md_nilL (e := tI)))) (ma_cons (MD.evd (MD.dat (e := (eL tI)) (md_toL (e := tI) (k := fun (z : Int × Unit) => [z.1]) (ma_cons md_int ma_nil) (fun _ => rfl) (fun _ => by simp)))) (ma_cons md_disp1 ma_nil)))))))))))) (fun _ => rfl) (fun _ => by simp)) (md_take (j := 2) rfl md_int)) (fun v10 => (nx_go (nx_norm (Ψ := [.val ((tScr K) a_script), .val (tI x7), .pool, .val (ev v10), .un, .un, .un, .un, .un]) (nx_seq (nx_asg (i := 4) (e := (eL (tEx K ev))) (md_call (ma_cons (md_var (i := 3) (e := ev) (a := v10) rfl) ma_nil) (fun _ => rfl)) (fun v11 => (nx_go (nx_norm (Ψ := [.val ((tScr K) a_script), .val (tI x7), .pool, .val (ev v10), .val ((eL (tEx K ev)) v11), .un, .un, .un, .un]) (nx_seq (nx_for (Ψ := fun (s12 : Unit) => [.val ((tScr K) a_script), .val (tI x7), .pool, .val (ev v10), .val ((eL (tEx K ev)) v11), .un, .un, .un, .un]) (s0 := ()) (mi_rng1 (md_lenL (md_var (i := 4) (e := (eL (tEx K ev))) (a := v11) rfl))) (.eq (.eq (.eq (.eq (.eq (.un (.un (.un (.un .nil))))))))) (fun x18 s12 => (gm_name rfl)) (fun s12 => (nx_go (nx_norm (Ψ := [.val ((tScr K) a_script), .val (tI x7), .pool, .val (ev v10), .val ((eL (tEx K ev)) v11), .un, .un, .un, .un]) (nx_seq (nx_asg (i := 6) (e := (eL ev)) (md_toL (e := ev) (k := fun (z : EV × EV × EV × Unit) => [z.1, z.2.1, z.2.2.1]) (ma_cons (md_xv XF.xf XF.nv (md_mkVK (md_var (i := 3) (e := ev) (a := v10) rfl))) (ma_cons (md_xv XF.xf XF.nv (md_mkVK (md_var (i := 3) (e := ev) (a := v10) rfl))) (ma_cons (md_xv XF.xf XF.nv (md_mkVK (md_var (i := 3) (e := ev) (a := v10) rfl))) ma_nil))) (fun _ => rfl) (fun _ => by simp)) (fun v22 => (nx_go (nx_norm (Ψ := [.val ((tScr K) a_script), .val (tI x7), .pool, .val (ev v10), .val ((eL (tEx K ev)) v11), .un, .val ((eL ev) v22), .un, .un]) (nx_seq (nx_asg (i := 6) (e := (eL ev)) (md_catL (md_var (i := 6) (e := (eL ev)) (a := v22) rfl) (md_toL (e := ev) (k := fun (z : EV × EV × Unit) => [z.1, z.2.1]) (ma_cons (md_xv XF.xf XF.nv (md_mkVK (md_var (i := 3) (e := ev) (a := v10) rfl))) (ma_cons (md_xv XF.xf XF.nv (md_mkVK (md_var (i := 3) (e := ev) (a := v10) rfl))) ma_nil)) (fun _ => rfl) (fun _ => by simp))) (fun v23 => (nx_go (nx_norm (Ψ := [.val ((tScr K) a_script), .val (tI x7), .pool, .val (ev v10), .val ((eL (tEx K ev)) v11), .un, .val ((eL ev) v23), .un, .un]) (nx_seq (nx_asg (i := 6) (e := (eL ev)) (md_catL (md_var (i := 6) (e := (eL ev)) (a := v23) rfl) (md_toL (e := ev) (k := fun (z : EV × EV × Unit) => [z.1, z.2.1]) (ma_cons (md_xv XF.xf XF.nv (md_mkVK (md_var (i := 3) (e := ev) (a := v10) rfl))) (ma_cons (md_xv XF.xf XF.nv (md_mkVK (md_var (i := 3) (e := ev) (a := v10) rfl))) ma_nil)) (fun _ => rfl) (fun _ => by simp))) (fun v24 => (nx_go (nx_norm (Ψ := [.val ((tScr K) a_script), .val (tI x7), .pool, .val (ev v10), .val ((eL (tEx K ev)) v11), .un, .val ((eL ev) v24), .un, .un]) (nx_seq (nx_asg (i := 6) (e := (eL ev)) (md_catL (md_var (i := 6) (e := (eL ev)) (a := v24) rfl) (md_toL (e := ev) (k := fun (z : EV × EV × Unit) => [z.1, z.2.1]) (ma_cons (md_xv XF.xf XF.nv (md_mkVK (md_var (i := 3) (e := ev) (a := v10) rfl))) (ma_cons (md_xv XF.xf XF.nv (md_mkVK (md_var (i := 3) (e := ev) (a := v10) rfl))) ma_nil)) (fun _ => rfl) (fun _ => by simp))) (fun v25 => (nx_go (nx_norm (Ψ := [.val ((tScr K) a_script), .val (tI x7), .pool, .val (ev v10), .val ((eL (tEx K ev)) v11), .un, .val ((eL ev) v25), .un, .un]) (nx_seq (nx_asg (i := 6) (e := (eL ev)) (md_catL (md_var (i := 6) (e := (eL ev)) (a := v25) rfl) (md_toL (e := ev) (k := fun (z : EV × EV × EV × Unit) => [z.1, z.2.1, z.2.2.1]) (ma_cons (md_xv XF.xf XF.nv (md_mkVK (md_var (i := 3) (e := ev) (a := v10) rfl))) (ma_cons (md_xv XF.xf XF.nv (md_mkV (md_var (i := 3) (e := ev) (a := v10) rfl))) (ma_cons (md_xv XF.xf XF.nv (md_mkV (md_var (i := 3) (e := ev) (a := v10) rfl))) ma_nil))) (fun _ => rfl) (fun _ => by simp))) (fun v26 => (nx_go (nx_norm (Ψ := [.val ((tScr K) a_script), .val (tI x7), .pool, .val (ev v10), .val ((eL (tEx K ev)) v11), .un, .val ((eL ev) v26), .un, .un]) (nx_seq (nx_asg (i := 6) (e := (eL ev)) (md_catL (md_var (i := 6) (e := (eL ev)) (a := v26) rfl) (md_toL (e := ev) (k := fun (z : EV × Unit) => [z.1]) (ma_cons (md_xv XF.xf XF.nv (md_mkV (md_var (i := 3) (e := ev) (a := v10) rfl))) ma_nil) (fun _ => rfl) (fun _ => by simp))) (fun v27 => (nx_go (nx_norm (Ψ := [.val ((tScr K) a_script), .val (tI x7), .pool, .val (ev v10), .val ((eL (tEx K ev)) v11), .un, .val ((eL ev) v27), .un, .un]) (nx_seq (nx_asg (i := 6) (e := (eL ev)) (md_catL (md_var (i := 6) (e := (eL ev)) (a := v27) rfl) (md_toL (e := ev) (k := fun (z : EV × EV × Unit) => [z.1, z.2.1]) (ma_cons (md_xv XF.xf XF.nv (md_mkV (md_var (i := 3) (e := ev) (a := v10) rfl))) (ma_cons (md_xv XF.xf XF.nv (md_mkV (md_var (i := 3) (e := ev) (a := v10) rfl))) ma_nil)) (fun _ => rfl) (fun _ => by simp))) (fun v28 => (nx_go (nx_norm (Ψ := [.val ((tScr K) a_script), .val (tI x7), .pool, .val (ev v10), .val ((eL (tEx K ev)) v11), .un, .val ((eL ev) v28), .un, .un]) (nx_if (mt_test (md_neLS (md_lc (mi_seq (MD.ofL (md_var (i := 6) (e := (eL ev)) (a := v28) rfl))) rfl (fun x29 => (gm_name rfl)) (by decide) (fun x29 => mt_yes) (fun x29 => (md_reprE (md_var (i := 8) (e := ev) (a := x29) rfl)))) (md_rep (md_toL (e := tSt) (k := fun (z : Str × Unit) => [z.1]) (ma_cons (md_reprE (md_var (i := 3) (e := ev) (a := v10) rfl)) ma_nil) (fun _ => rfl) (fun _ => by simp)) md_int))) (nx_ret md_bl (hr.le hc9)) (nx_next (nx_end (nx_less (.eq (.un (.un (.un (.un (.un (.un (.un (.un .nil))))))))) (hn4 ()))))) rfl))))) rfl))))) rfl))))) rfl))))) rfl))))) rfl))))) rfl))))) rfl))) (fun c19 hc20 hk16 x18 s12 n13 N14 hn15 => (nx_if (mt_or (mt_test (md_ne (md_call (ma_cons (md_ixL (md_var (i := 4) (e := (eL (tEx K ev))) (a := v11) rfl) (md_var (i := 5) (e := tI) (a := x18) rfl)) ma_nil) (fun _ => rfl)) (md_lc (mi_rng1 md_int) rfl (fun x21 => (gm_name rfl)) (by decide) (fun x21 => mt_yes) (fun x21 => (md_eq (md_var (i := 7) (e := tI) (a := x21) rfl) (md_var (i := 5) (e := tI) (a := x18) rfl)))))) (mt_test (md_ne (md_call (ma_cons (md_ixL (md_var (i := 4) (e := (eL (tEx K ev))) (a := v11) rfl) (md_var (i := 5) (e := tI) (a := x18) rfl)) ma_nil) (fun _ => rfl)) (md_call (ma_cons (md_var (i := 5) (e := tI) (a := x18) rfl) ma_nil) (fun _ => rfl))))) (nx_ret md_bl ((hr.le hc9).le hc20)) (nx_next (nx_end (nx_less (.eq (.eq (.eq (.eq (.eq (.un (.un (.un (.un .nil))))))))) (hn15 ())))))))) rfl))))) rfl))))) rfl)))))))
theorem pure_law (XF : XcF K xl) (hk : ∀ ns : List Int, ns.length ≤ 63 → m_law ns (· = true)) : ∀ vs H (Q : VK) (E : XK), sp_law K vs H Q E → t_law K { nx := fun _ H' => Q .non H', rt := Q } (L2.start ["_law_script", "_law_k", "_law_pool_here", "_law_one", "_law_some_here", "_law_at", "_law_stored", "_law_place", "_law_part"] vs) H :=
  pure_law_of (n := 8) rfl (fun c D ns R hr => cert_law XF ns hr) hk
theorem len_law : ∀ vs H Q E, sp_law K vs H Q E → vs.length = (["_law_script"] : List Str).length := by
  rintro vs H Q E ⟨a, ns, rfl, _⟩
  rfl
end
end K02
end BR
/-! k02: the plain law. -/
namespace BR
namespace K02
open PySem PySem.Spec PyProof.Rows L2
def some16 (d : EV) : List (Str × Option EV) := [("InvalidBox", some d), ("InvalidSquare", some d), ("InvalidRegion", some d), ("InvalidNumber", some d), ("InvalidLoops", some d), ("InvalidAxis", some d), ("InvalidSpans", some d), ("InvalidName", some d), ("InvalidText", some d), ("InvalidLine", some d),
  ("Outside", some d), ("Unbounded", some d), ("Blocked", some d), ("TooMany", some d), ("NoName", some d), ("NothingLeft", none)]
theorem some_ok {d : EV} {R : List (Str × Option EV) → Prop} (h : R (some16 d)) : m_l_some d R := by
  unfold m_l_some
  simp only [wRun, wBind, wPure, wCons, wNil, wG]
  refine ⟨?_, ?_, ?_, h⟩ <;> (simp only [List.length_cons, List.length_append, List.length_nil]; omega)
theorem kinds_ok {x : Str × Option EV} (hx : x.1 ∈ xl) {R : List Bool → Prop} (h : R (xl.map fun m => decide (x.1 = m))) : m_l_kinds x R := by
  unfold m_l_kinds
  simp only [wRun, wBind, wPure, wCons, wNil, wG]
  have z : ∀ {a b : List Bool}, a.length ≤ 50000 → b.length ≤ 50000 → a.length + b.length ≤ 100000 := fun {a b} p q => by omega
  refine ⟨hx, hx, hx, hx, hx, hx, ?_, hx, hx, hx, ?_, hx, hx, hx, ?_, hx, hx, hx, ?_, hx, ?_, h⟩ <;> (simp only [List.length_cons, List.length_append, List.length_nil]; omega)
def named : List Str := ["ValueError", "BoxError", "LookupError", "KeyError", "IndexError", "RuntimeError", "OverflowError"]
def rootsL (n : Str) : List Bool := [xUnder "ValueError" n, xUnder "BoxError" n, xUnder "LookupError" n, xUnder "KeyError" n, xUnder "IndexError" n, xUnder "RuntimeError" n, xUnder "OverflowError" n]
theorem roots_ok {x : Str × Option EV} (hx : x.1 ∈ xl) {R : List Bool → Prop} (h : R (rootsL x.1)) : m_l_roots x R := by
  unfold m_l_roots
  simp only [wRun, wBind, wPure, wCons, wNil, wG]
  refine ⟨hx, hx, hx, hx, hx, hx, hx, ?_, h⟩
  simp only [List.length_cons, List.length_append, List.length_nil]; omega
def words : List Str := (((List.replicate 11 [("ValueError BoxError" : Str)]).flatten ++ (List.replicate 2 [("RuntimeError" : Str)]).flatten) ++ [("OverflowError" : Str), ("LookupError KeyError" : Str)]) ++ [("LookupError IndexError" : Str)]
def dueL (w : Str) : List Bool := named.map fun z => decide (z ∈ Txt.split w " ")
theorem words_ok : ∀ w ∈ words, w.length ≤ 90000 ∧ (Txt.split w " ").length ≤ 100000 := by decide +kernel
theorem due_ok {i : Nat} (hi : i < 16) {R : List Bool → Prop} (h : ∀ w, words[i]? = some w → R (dueL w)) : m_l_due (i : Int) R := by
  unfold m_l_due
  simp only [wRun, wBind, wPure, wCons, wNil, wG]
  refine ⟨⟨by decide, by unfold InR; omega⟩, ⟨by decide, by unfold InR; omega⟩, by decide, by decide, by decide, ?_⟩
  have hw : ∃ w, words[i]? = some w := ⟨words[i]'(by simpa [words] using hi), List.getElem?_eq_getElem _⟩
  obtain ⟨w, hw⟩ := hw
  have hm : w ∈ words := List.mem_of_getElem? hw
  refine wLc_map (g := fun z => decide (z ∈ Txt.split w " ")) (fun z _ Q q => ?_) (h w hw)
  have ha : atI words (i : Int) = some w := L2.atI_nat hw
  refine ⟨w, ha, ?_⟩
  exact ⟨⟨by decide, (words_ok w hm).1, (words_ok w hm).2⟩, q⟩
theorem roots_due : ∀ i < 16, ∀ w n, words[i]? = some w → xl[i]? = some n → rootsL n = dueL w := by
  have key : ∀ i < 16, (words[i]?).bind (fun w => (xl[i]?).map fun n => decide (rootsL n = dueL w)) = some true := by decide +kernel
  intro i hi w n hw hn
  have := key i hi
  rw [hw, hn] at this
  simpa using this
def ones : List EV := [.d .none, .d (.bool true), .d (.int 0), .d (.int (-7)), .d (.int (10 ^ 30)), .d (.str ""), .d (.str "ab"), .d (.tuple []), .d (.tuple [.int 1, .int 2]), .d (.list []), .d (.list [.int 3]), .k "a" 1]
theorem ones_ok : ∀ d ∈ ones, d.Ok := by
  intro d hd
  simp only [ones, List.mem_cons, List.not_mem_nil, or_false] at hd
  rcases hd with rfl | rfl | rfl | rfl | rfl | rfl | rfl | rfl | rfl | rfl | rfl | rfl
  all_goals first
    | exact (show ShowOk _ by exact Shows.mk (by decide +kernel) (by decide +kernel) (by decide +kernel) (by decide +kernel) (by decide +kernel))
    | exact ⟨by decide +kernel, by decide +kernel⟩
theorem kinds_at {i : Nat} (hi : i < 16) {n : Str} (hn : xl[i]? = some n) : (xl.map fun m => decide (n = m)) = (List.range 16).map fun j => decide (j = i) := by
  have key : ∀ i < 16, (xl[i]?).map (fun n => decide ((xl.map fun m => decide (n = m)) = (List.range 16).map fun j => decide (j = i))) = some true := by decide +kernel
  have := key i hi
  rw [hn] at this
  simpa using this
theorem rng_map {n : Nat} {f : Int → Bool} : (rng 0 (n : Int)).map f = (List.range n).map fun (j : Nat) => f (j : Int) := by
  unfold rng
  simp [List.map_map, Function.comp_def]
theorem wFor_all {α : Type} {b : α → Unit → (Unit → Prop) → (Unit → Prop) → Prop} {k : Unit → Prop} (xs : List α) (hk : k ()) (hb : ∀ x ∈ xs, ∀ n : Unit → Prop, n () → b x () n k) : wFor xs () b k :=
  wFor_inv (fun ys _ => ∀ y ∈ ys, y ∈ xs) (fun _ _ => hk) (fun y ys s n hy hn => hb y (hy y List.mem_cons_self) n (hn () fun z hz => hy z (List.mem_cons_of_mem _ hz))) xs () fun _ h => h
theorem law_ok (ns : List Int) (hl : ns.length ≤ 63) : m_law ns (· = true) := by
  unfold m_law
  simp only [wRun, wBind, wPure, wCons, wNil, wG]
  refine ⟨by unfold InR; omega, wFor_all _ trivial fun x hx n hn => ?_⟩
  have hx2 : 0 ≤ x ∧ x ≤ 100 := by
    unfold rng at hx
    simp at hx
    omega
  refine ⟨hx2, ⟨by unfold CPow; decide, ?_⟩⟩
  refine wTake_ok (by decide) (by decide) fun r h0 h1 => ?_
  refine wIx_ok (l := ones) h0 h1 fun one h1 => ?_
  have ok := ones_ok one h1
  refine some_ok ?_
  refine ⟨by show InR (((some16 one).length : Nat) : Int); unfold InR some16; simp, wFor_all _ ?_ fun i hi n2 hn2 => ?_⟩
  · have e : ∀ {s : Str} {P : EV → Prop}, s ∈ xl → P one → s ∈ xl ∧ ∃ d, some one = some d ∧ P d := fun p q => ⟨p, _, rfl, q⟩
    refine e (by decide) (e (by decide) (e (by decide) ?_))
    refine e (by decide) (e (by decide) ⟨by simp, ?_⟩)
    refine e (by decide) (e (by decide) ⟨by simp, ?_⟩)
    refine e (by decide) (e (by decide) ⟨by simp, ?_⟩)
    refine e (by decide) (e (by decide) (e (by decide) ⟨by simp, ?_⟩))
    refine e (by decide) ⟨by simp, ?_⟩
    refine e (by decide) (e (by decide) ⟨by simp, ?_⟩)
    refine wLc_map (g := fun d : EV => d.shown) (fun x hx Q q => ⟨?_, q⟩) ?_
    · have : x = one := by simpa using hx
      rw [this]
      exact ok
    · refine ⟨ok, ⟨by simp, by unfold InR; omega⟩, by simp, ?_⟩
      rw [if_neg]
      · exact hn
      · simp
  · have hi2 : ∃ j : Nat, j < 16 ∧ i = (j : Int) := by
      have e : (((some16 one).length : Nat) : Int) = 16 := rfl
      rw [e] at hi
      unfold rng at hi
      obtain ⟨j, hj, rfl⟩ := List.mem_map.mp hi
      exact ⟨j, by simpa using hj, by omega⟩
    obtain ⟨j, hj, rfl⟩ := hi2
    obtain ⟨nm, hnm⟩ : ∃ nm, xl[j]? = some nm := ⟨_, List.getElem?_eq_getElem (by simpa [xl] using hj)⟩
    have hx : ∃ o, (some16 one)[j]? = some (nm, o) := by
      have z : (some16 one).map (·.1) = xl := rfl
      have : ((some16 one).map (·.1))[j]? = some nm := by rw [z]; exact hnm
      rw [List.getElem?_map] at this
      obtain ⟨p, h1, h2⟩ := Option.map_eq_some_iff.mp this
      obtain ⟨a, b⟩ := p
      exact ⟨b, by rw [h1]; cases h2; rfl⟩
    obtain ⟨o, ho⟩ := hx
    have hm : nm ∈ xl := List.mem_of_getElem? hnm
    refine ⟨(nm, o), L2.atI_nat ho, kinds_ok hm ?_⟩
    refine ⟨by unfold InR; omega, ?_⟩
    refine wLc_map (g := fun a : Int => decide (a = (j : Int))) (fun a _ Q q => q) ?_
    have ek : (xl.map fun m => decide (nm = m)) = (rng 0 16).map fun a => decide (a = (j : Int)) := by
      rw [kinds_at hj hnm, show (16 : Int) = ((16 : Nat) : Int) from rfl, rng_map]
      refine List.map_congr_left fun a _ => ?_
      rw [decide_eq_decide]
      omega
    rw [ek]
    simp only [decide_true, Bool.not_true, Bool.false_eq_true, if_false]
    refine ⟨(nm, o), L2.atI_nat ho, roots_ok hm ?_⟩
    refine due_ok hj fun w hw => ?_
    rw [roots_due j hj w nm hw hnm]
    simp only [decide_true, Bool.not_true, Bool.false_eq_true, if_false]
    exact hn2
end K02
end BR
namespace BR
namespace K02
open PySem PySem.Spec PyProof.Rows L2
structure Md (mg : Str → Option Value) : Prop where
  b_len : mg "len" = none
  b_isinstance : mg "isinstance" = none
  b_ValueError : mg "ValueError" = none
  b_LookupError : mg "LookupError" = none
  b_KeyError : mg "KeyError" = none
  b_IndexError : mg "IndexError" = none
  b_RuntimeError : mg "RuntimeError" = none
  b_OverflowError : mg "OverflowError" = none
  b_range : mg "range" = none
  b_max : mg "max" = none
  b_min : mg "min" = none
  b_repr : mg "repr" = none
structure RegR (K : Fg) (mg : Str → Option Value) : Prop where
section
variable {P : Program} {w : World} {K : Fg} {mg : Str → Option Value} {base : Heap} {f : Addr} {fd : FuncData}
theorem sc_InvalidBox_init : FnScope ["self", "value"] ["self", "value"] (defScope s_InvalidBox_init) := ⟨rfl, rfl, rfl, by decide +kernel, rfl, by decide +kernel, by decide +kernel⟩
theorem xi_InvalidBox (F : FnQ K "__init__" "InvalidBox.__init__" s_InvalidBox_init (mA K "InvalidBox" "__init__") fd) (g : mg "InvalidBox" = some (.ref (cA K "InvalidBox"))) (XF : XcF K xl) (B : BxE K mg) : XKn P w K mg base "InvalidBox" := by
  refine ⟨g, fd, F.ok sc_InvalidBox_init len_xinit (fun cdv A outer s H vs Q E hr h => ⟨t_xinit K (xBase "InvalidBox").2.1, PSs.nox ?_, pure_xinit (n := "InvalidBox") XF (by decide) vs H Q E h⟩), F.bindsN fun _ _ _ _ _ _ us hl => match us, hl with | [_, _], _ => rfl, kbn_of F fun _ _ _ _ _ _ us ws h1 h2 => match us, ws, h1, h2 with | [_], [_], _, _ => rfl⟩
  have nd := sc_InvalidBox_init.nd
  exact (pss_cons (ps_expr (pe_ginit (by rfl) B.g B.cr B.fi (by decide +kernel) (pa_cons (pv 0) (pa_cons (pv 1) pa_nil)))) (pss_one (ps_ostG (pv 0) (pv 1))))
theorem sc_InvalidSquare_init : FnScope ["self", "value"] ["self", "value"] (defScope s_InvalidSquare_init) := ⟨rfl, rfl, rfl, by decide +kernel, rfl, by decide +kernel, by decide +kernel⟩
theorem xi_InvalidSquare (F : FnQ K "__init__" "InvalidSquare.__init__" s_InvalidSquare_init (mA K "InvalidSquare" "__init__") fd) (g : mg "InvalidSquare" = some (.ref (cA K "InvalidSquare"))) (XF : XcF K xl) (B : BxE K mg) : XKn P w K mg base "InvalidSquare" := by
  refine ⟨g, fd, F.ok sc_InvalidSquare_init len_xinit (fun cdv A outer s H vs Q E hr h => ⟨t_xinit K (xBase "InvalidSquare").2.1, PSs.nox ?_, pure_xinit (n := "InvalidSquare") XF (by decide) vs H Q E h⟩), F.bindsN fun _ _ _ _ _ _ us hl => match us, hl with | [_, _], _ => rfl, kbn_of F fun _ _ _ _ _ _ us ws h1 h2 => match us, ws, h1, h2 with | [_], [_], _, _ => rfl⟩
  have nd := sc_InvalidSquare_init.nd
  exact (pss_cons (ps_expr (pe_ginit (by rfl) B.g B.cr B.fi (by decide +kernel) (pa_cons (pv 0) (pa_cons (pv 1) pa_nil)))) (pss_one (ps_ostG (pv 0) (pv 1))))
theorem sc_InvalidRegion_init : FnScope ["self", "value"] ["self", "value"] (defScope s_InvalidRegion_init) := ⟨rfl, rfl, rfl, by decide +kernel, rfl, by decide +kernel, by decide +kernel⟩
theorem xi_InvalidRegion (F : FnQ K "__init__" "InvalidRegion.__init__" s_InvalidRegion_init (mA K "InvalidRegion" "__init__") fd) (g : mg "InvalidRegion" = some (.ref (cA K "InvalidRegion"))) (XF : XcF K xl) (B : BxE K mg) : XKn P w K mg base "InvalidRegion" := by
  refine ⟨g, fd, F.ok sc_InvalidRegion_init len_xinit (fun cdv A outer s H vs Q E hr h => ⟨t_xinit K (xBase "InvalidRegion").2.1, PSs.nox ?_, pure_xinit (n := "InvalidRegion") XF (by decide) vs H Q E h⟩), F.bindsN fun _ _ _ _ _ _ us hl => match us, hl with | [_, _], _ => rfl, kbn_of F fun _ _ _ _ _ _ us ws h1 h2 => match us, ws, h1, h2 with | [_], [_], _, _ => rfl⟩
  have nd := sc_InvalidRegion_init.nd
  exact (pss_cons (ps_expr (pe_ginit (by rfl) B.g B.cr B.fi (by decide +kernel) (pa_cons (pv 0) (pa_cons (pv 1) pa_nil)))) (pss_one (ps_ostG (pv 0) (pv 1))))
theorem sc_InvalidNumber_init : FnScope ["self", "value"] ["self", "value"] (defScope s_InvalidNumber_init) := ⟨rfl, rfl, rfl, by decide +kernel, rfl, by decide +kernel, by decide +kernel⟩
theorem xi_InvalidNumber (F : FnQ K "__init__" "InvalidNumber.__init__" s_InvalidNumber_init (mA K "InvalidNumber" "__init__") fd) (g : mg "InvalidNumber" = some (.ref (cA K "InvalidNumber"))) (XF : XcF K xl) (B : BxE K mg) : XKn P w K mg base "InvalidNumber" := by
  refine ⟨g, fd, F.ok sc_InvalidNumber_init len_xinit (fun cdv A outer s H vs Q E hr h => ⟨t_xinit K (xBase "InvalidNumber").2.1, PSs.nox ?_, pure_xinit (n := "InvalidNumber") XF (by decide) vs H Q E h⟩), F.bindsN fun _ _ _ _ _ _ us hl => match us, hl with | [_, _], _ => rfl, kbn_of F fun _ _ _ _ _ _ us ws h1 h2 => match us, ws, h1, h2 with | [_], [_], _, _ => rfl⟩
  have nd := sc_InvalidNumber_init.nd
  exact (pss_cons (ps_expr (pe_ginit (by rfl) B.g B.cr B.fi (by decide +kernel) (pa_cons (pv 0) (pa_cons (pv 1) pa_nil)))) (pss_one (ps_ostG (pv 0) (pv 1))))
theorem sc_InvalidLoops_init : FnScope ["self", "value"] ["self", "value"] (defScope s_InvalidLoops_init) := ⟨rfl, rfl, rfl, by decide +kernel, rfl, by decide +kernel, by decide +kernel⟩
theorem xi_InvalidLoops (F : FnQ K "__init__" "InvalidLoops.__init__" s_InvalidLoops_init (mA K "InvalidLoops" "__init__") fd) (g : mg "InvalidLoops" = some (.ref (cA K "InvalidLoops"))) (XF : XcF K xl) (B : BxE K mg) : XKn P w K mg base "InvalidLoops" := by
  refine ⟨g, fd, F.ok sc_InvalidLoops_init len_xinit (fun cdv A outer s H vs Q E hr h => ⟨t_xinit K (xBase "InvalidLoops").2.1, PSs.nox ?_, pure_xinit (n := "InvalidLoops") XF (by decide) vs H Q E h⟩), F.bindsN fun _ _ _ _ _ _ us hl => match us, hl with | [_, _], _ => rfl, kbn_of F fun _ _ _ _ _ _ us ws h1 h2 => match us, ws, h1, h2 with | [_], [_], _, _ => rfl⟩
  have nd := sc_InvalidLoops_init.nd
  exact (pss_cons (ps_expr (pe_ginit (by rfl) B.g B.cr B.fi (by decide +kernel) (pa_cons (pv 0) (pa_cons (pv 1) pa_nil)))) (pss_one (ps_ostG (pv 0) (pv 1))))
theorem sc_InvalidAxis_init : FnScope ["self", "value"] ["self", "value"] (defScope s_InvalidAxis_init) := ⟨rfl, rfl, rfl, by decide +kernel, rfl, by decide +kernel, by decide +kernel⟩
theorem xi_InvalidAxis (F : FnQ K "__init__" "InvalidAxis.__init__" s_InvalidAxis_init (mA K "InvalidAxis" "__init__") fd) (g : mg "InvalidAxis" = some (.ref (cA K "InvalidAxis"))) (XF : XcF K xl) (B : BxE K mg) : XKn P w K mg base "InvalidAxis" := by
  refine ⟨g, fd, F.ok sc_InvalidAxis_init len_xinit (fun cdv A outer s H vs Q E hr h => ⟨t_xinit K (xBase "InvalidAxis").2.1, PSs.nox ?_, pure_xinit (n := "InvalidAxis") XF (by decide) vs H Q E h⟩), F.bindsN fun _ _ _ _ _ _ us hl => match us, hl with | [_, _], _ => rfl, kbn_of F fun _ _ _ _ _ _ us ws h1 h2 => match us, ws, h1, h2 with | [_], [_], _, _ => rfl⟩
  have nd := sc_InvalidAxis_init.nd
  exact (pss_cons (ps_expr (pe_ginit (by rfl) B.g B.cr B.fi (by decide +kernel) (pa_cons (pv 0) (pa_cons (pv 1) pa_nil)))) (pss_one (ps_ostG (pv 0) (pv 1))))
theorem sc_InvalidSpans_init : FnScope ["self", "value"] ["self", "value"] (defScope s_InvalidSpans_init) := ⟨rfl, rfl, rfl, by decide +kernel, rfl, by decide +kernel, by decide +kernel⟩
theorem xi_InvalidSpans (F : FnQ K "__init__" "InvalidSpans.__init__" s_InvalidSpans_init (mA K "InvalidSpans" "__init__") fd) (g : mg "InvalidSpans" = some (.ref (cA K "InvalidSpans"))) (XF : XcF K xl) (B : BxE K mg) : XKn P w K mg base "InvalidSpans" := by
  refine ⟨g, fd, F.ok sc_InvalidSpans_init len_xinit (fun cdv A outer s H vs Q E hr h => ⟨t_xinit K (xBase "InvalidSpans").2.1, PSs.nox ?_, pure_xinit (n := "InvalidSpans") XF (by decide) vs H Q E h⟩), F.bindsN fun _ _ _ _ _ _ us hl => match us, hl with | [_, _], _ => rfl, kbn_of F fun _ _ _ _ _ _ us ws h1 h2 => match us, ws, h1, h2 with | [_], [_], _, _ => rfl⟩
  have nd := sc_InvalidSpans_init.nd
  exact (pss_cons (ps_expr (pe_ginit (by rfl) B.g B.cr B.fi (by decide +kernel) (pa_cons (pv 0) (pa_cons (pv 1) pa_nil)))) (pss_one (ps_ostG (pv 0) (pv 1))))
theorem sc_InvalidName_init : FnScope ["self", "value"] ["self", "value"] (defScope s_InvalidName_init) := ⟨rfl, rfl, rfl, by decide +kernel, rfl, by decide +kernel, by decide +kernel⟩
theorem xi_InvalidName (F : FnQ K "__init__" "InvalidName.__init__" s_InvalidName_init (mA K "InvalidName" "__init__") fd) (g : mg "InvalidName" = some (.ref (cA K "InvalidName"))) (XF : XcF K xl) (B : BxE K mg) : XKn P w K mg base "InvalidName" := by
  refine ⟨g, fd, F.ok sc_InvalidName_init len_xinit (fun cdv A outer s H vs Q E hr h => ⟨t_xinit K (xBase "InvalidName").2.1, PSs.nox ?_, pure_xinit (n := "InvalidName") XF (by decide) vs H Q E h⟩), F.bindsN fun _ _ _ _ _ _ us hl => match us, hl with | [_, _], _ => rfl, kbn_of F fun _ _ _ _ _ _ us ws h1 h2 => match us, ws, h1, h2 with | [_], [_], _, _ => rfl⟩
  have nd := sc_InvalidName_init.nd
  exact (pss_cons (ps_expr (pe_ginit (by rfl) B.g B.cr B.fi (by decide +kernel) (pa_cons (pv 0) (pa_cons (pv 1) pa_nil)))) (pss_one (ps_ostG (pv 0) (pv 1))))
theorem sc_InvalidText_init : FnScope ["self", "value"] ["self", "value"] (defScope s_InvalidText_init) := ⟨rfl, rfl, rfl, by decide +kernel, rfl, by decide +kernel, by decide +kernel⟩
theorem xi_InvalidText (F : FnQ K "__init__" "InvalidText.__init__" s_InvalidText_init (mA K "InvalidText" "__init__") fd) (g : mg "InvalidText" = some (.ref (cA K "InvalidText"))) (XF : XcF K xl) (B : BxE K mg) : XKn P w K mg base "InvalidText" := by
  refine ⟨g, fd, F.ok sc_InvalidText_init len_xinit (fun cdv A outer s H vs Q E hr h => ⟨t_xinit K (xBase "InvalidText").2.1, PSs.nox ?_, pure_xinit (n := "InvalidText") XF (by decide) vs H Q E h⟩), F.bindsN fun _ _ _ _ _ _ us hl => match us, hl with | [_, _], _ => rfl, kbn_of F fun _ _ _ _ _ _ us ws h1 h2 => match us, ws, h1, h2 with | [_], [_], _, _ => rfl⟩
  have nd := sc_InvalidText_init.nd
  exact (pss_cons (ps_expr (pe_ginit (by rfl) B.g B.cr B.fi (by decide +kernel) (pa_cons (pv 0) (pa_cons (pv 1) pa_nil)))) (pss_one (ps_ostG (pv 0) (pv 1))))
theorem sc_InvalidLine_init : FnScope ["self", "value"] ["self", "value"] (defScope s_InvalidLine_init) := ⟨rfl, rfl, rfl, by decide +kernel, rfl, by decide +kernel, by decide +kernel⟩
theorem xi_InvalidLine (F : FnQ K "__init__" "InvalidLine.__init__" s_InvalidLine_init (mA K "InvalidLine" "__init__") fd) (g : mg "InvalidLine" = some (.ref (cA K "InvalidLine"))) (XF : XcF K xl) (B : BxE K mg) : XKn P w K mg base "InvalidLine" := by
  refine ⟨g, fd, F.ok sc_InvalidLine_init len_xinit (fun cdv A outer s H vs Q E hr h => ⟨t_xinit K (xBase "InvalidLine").2.1, PSs.nox ?_, pure_xinit (n := "InvalidLine") XF (by decide) vs H Q E h⟩), F.bindsN fun _ _ _ _ _ _ us hl => match us, hl with | [_, _], _ => rfl, kbn_of F fun _ _ _ _ _ _ us ws h1 h2 => match us, ws, h1, h2 with | [_], [_], _, _ => rfl⟩
  have nd := sc_InvalidLine_init.nd
  exact (pss_cons (ps_expr (pe_ginit (by rfl) B.g B.cr B.fi (by decide +kernel) (pa_cons (pv 0) (pa_cons (pv 1) pa_nil)))) (pss_one (ps_ostG (pv 0) (pv 1))))
theorem sc_Outside_init : FnScope ["self", "value"] ["self", "value"] (defScope s_Outside_init) := ⟨rfl, rfl, rfl, by decide +kernel, rfl, by decide +kernel, by decide +kernel⟩
theorem xi_Outside (F : FnQ K "__init__" "Outside.__init__" s_Outside_init (mA K "Outside" "__init__") fd) (g : mg "Outside" = some (.ref (cA K "Outside"))) (XF : XcF K xl) (B : BxE K mg) : XKn P w K mg base "Outside" := by
  refine ⟨g, fd, F.ok sc_Outside_init len_xinit (fun cdv A outer s H vs Q E hr h => ⟨t_xinit K (xBase "Outside").2.1, PSs.nox ?_, pure_xinit (n := "Outside") XF (by decide) vs H Q E h⟩), F.bindsN fun _ _ _ _ _ _ us hl => match us, hl with | [_, _], _ => rfl, kbn_of F fun _ _ _ _ _ _ us ws h1 h2 => match us, ws, h1, h2 with | [_], [_], _, _ => rfl⟩
  have nd := sc_Outside_init.nd
  exact (pss_cons (ps_expr (pe_ginit (by rfl) B.g B.cr B.fi (by decide +kernel) (pa_cons (pv 0) (pa_cons (pv 1) pa_nil)))) (pss_one (ps_ostG (pv 0) (pv 1))))
theorem sc_Unbounded_init : FnScope ["self", "value"] ["self", "value"] (defScope s_Unbounded_init) := ⟨rfl, rfl, rfl, by decide +kernel, rfl, by decide +kernel, by decide +kernel⟩
theorem xi_Unbounded (F : FnQ K "__init__" "Unbounded.__init__" s_Unbounded_init (mA K "Unbounded" "__init__") fd) (g : mg "Unbounded" = some (.ref (cA K "Unbounded"))) (XF : XcF K xl) (B : mg "RuntimeError" = none ∧ PySem.W.findCls K (.type "RuntimeError") (.type "type") "__init__" = some (.val (.builtin "RuntimeError.__init__"))) : XKn P w K mg base "Unbounded" := by
  refine ⟨g, fd, F.ok sc_Unbounded_init len_xinit (fun cdv A outer s H vs Q E hr h => ⟨t_xinit K (xBase "Unbounded").2.1, PSs.nox ?_, pure_xinit (n := "Unbounded") XF (by decide) vs H Q E h⟩), F.bindsN fun _ _ _ _ _ _ us hl => match us, hl with | [_, _], _ => rfl, kbn_of F fun _ _ _ _ _ _ us ws h1 h2 => match us, ws, h1, h2 with | [_], [_], _, _ => rfl⟩
  have nd := sc_Unbounded_init.nd
  exact (pss_cons (ps_expr (pe_rinit (by rfl) B.1 B.2 (pa_cons (pv 0) (pa_cons (pv 1) pa_nil)))) (pss_one (ps_ostG (pv 0) (pv 1))))
theorem sc_Blocked_init : FnScope ["self", "value"] ["self", "value"] (defScope s_Blocked_init) := ⟨rfl, rfl, rfl, by decide +kernel, rfl, by decide +kernel, by decide +kernel⟩
theorem xi_Blocked (F : FnQ K "__init__" "Blocked.__init__" s_Blocked_init (mA K "Blocked" "__init__") fd) (g : mg "Blocked" = some (.ref (cA K "Blocked"))) (XF : XcF K xl) (B : mg "RuntimeError" = none ∧ PySem.W.findCls K (.type "RuntimeError") (.type "type") "__init__" = some (.val (.builtin "RuntimeError.__init__"))) : XKn P w K mg base "Blocked" := by
  refine ⟨g, fd, F.ok sc_Blocked_init len_xinit (fun cdv A outer s H vs Q E hr h => ⟨t_xinit K (xBase "Blocked").2.1, PSs.nox ?_, pure_xinit (n := "Blocked") XF (by decide) vs H Q E h⟩), F.bindsN fun _ _ _ _ _ _ us hl => match us, hl with | [_, _], _ => rfl, kbn_of F fun _ _ _ _ _ _ us ws h1 h2 => match us, ws, h1, h2 with | [_], [_], _, _ => rfl⟩
  have nd := sc_Blocked_init.nd
  exact (pss_cons (ps_expr (pe_rinit (by rfl) B.1 B.2 (pa_cons (pv 0) (pa_cons (pv 1) pa_nil)))) (pss_one (ps_ostG (pv 0) (pv 1))))
theorem sc_TooMany_init : FnScope ["self", "value"] ["self", "value"] (defScope s_TooMany_init) := ⟨rfl, rfl, rfl, by decide +kernel, rfl, by decide +kernel, by decide +kernel⟩
theorem xi_TooMany (F : FnQ K "__init__" "TooMany.__init__" s_TooMany_init (mA K "TooMany" "__init__") fd) (g : mg "TooMany" = some (.ref (cA K "TooMany"))) (XF : XcF K xl) (B : mg "OverflowError" = none ∧ PySem.W.findCls K (.type "OverflowError") (.type "type") "__init__" = some (.val (.builtin "OverflowError.__init__"))) : XKn P w K mg base "TooMany" := by
  refine ⟨g, fd, F.ok sc_TooMany_init len_xinit (fun cdv A outer s H vs Q E hr h => ⟨t_xinit K (xBase "TooMany").2.1, PSs.nox ?_, pure_xinit (n := "TooMany") XF (by decide) vs H Q E h⟩), F.bindsN fun _ _ _ _ _ _ us hl => match us, hl with | [_, _], _ => rfl, kbn_of F fun _ _ _ _ _ _ us ws h1 h2 => match us, ws, h1, h2 with | [_], [_], _, _ => rfl⟩
  have nd := sc_TooMany_init.nd
  exact (pss_cons (ps_expr (pe_oinit (by rfl) B.1 B.2 (pa_cons (pv 0) (pa_cons (pv 1) pa_nil)))) (pss_one (ps_ostG (pv 0) (pv 1))))
theorem sc_NoName_init : FnScope ["self", "value"] ["self", "value"] (defScope s_NoName_init) := ⟨rfl, rfl, rfl, by decide +kernel, rfl, by decide +kernel, by decide +kernel⟩
theorem xi_NoName (F : FnQ K "__init__" "NoName.__init__" s_NoName_init (mA K "NoName" "__init__") fd) (g : mg "NoName" = some (.ref (cA K "NoName"))) (XF : XcF K xl) (B : mg "KeyError" = none ∧ PySem.W.findCls K (.type "KeyError") (.type "type") "__init__" = some (.val (.builtin "KeyError.__init__"))) : XKn P w K mg base "NoName" := by
  refine ⟨g, fd, F.ok sc_NoName_init len_xinit (fun cdv A outer s H vs Q E hr h => ⟨t_xinit K (xBase "NoName").2.1, PSs.nox ?_, pure_xinit (n := "NoName") XF (by decide) vs H Q E h⟩), F.bindsN fun _ _ _ _ _ _ us hl => match us, hl with | [_, _], _ => rfl, kbn_of F fun _ _ _ _ _ _ us ws h1 h2 => match us, ws, h1, h2 with | [_], [_], _, _ => rfl⟩
  have nd := sc_NoName_init.nd
  exact (pss_cons (ps_expr (pe_kinit (by rfl) B.1 B.2 (pa_cons (pv 0) (pa_cons (pv 1) pa_nil)))) (pss_one (ps_ostG (pv 0) (pv 1))))
theorem sc_NothingLeft_init : FnScope ["self"] ["self"] (defScope s_NothingLeft_init) := ⟨rfl, rfl, rfl, by decide +kernel, rfl, by decide +kernel, by decide +kernel⟩
theorem xi_NothingLeft (F : FnQ K "__init__" "NothingLeft.__init__" s_NothingLeft_init (mA K "NothingLeft" "__init__") fd) (g : mg "NothingLeft" = some (.ref (cA K "NothingLeft"))) (XF : XcF K xl) (B : mg "IndexError" = none ∧ PySem.W.findCls K (.type "IndexError") (.type "type") "__init__" = some (.val (.builtin "IndexError.__init__"))) : XK0 P w K mg base "NothingLeft" := by
  refine ⟨g, fd, F.ok sc_NothingLeft_init len_xinit0 (fun cdv A outer s H vs Q E hr h => ⟨t_xinit0 K (xBase "NothingLeft").2.1 "nothing left", PSs.nox ?_, pure_xinit0 (XF.oex "NothingLeft" (by decide)) vs H Q E h⟩), kbn_of F fun _ _ _ _ _ _ us ws h1 h2 => match us, ws, h1, h2 with | [_], [], _, _ => rfl⟩
  have nd := sc_NothingLeft_init.nd
  exact (pss_one (ps_expr (pe_iinit (by rfl) B.1 B.2 (pa_cons (pv 0) (pa_cons pe_str pa_nil)))))
abbrev N_l_pool : List Str := ["_law_script", "_law_k", "_law_cell", "_law_seed"]
theorem sc_l_pool : FnScope N_l_pool ["_law_script", "_law_k"] (defScope s_l_pool) := ⟨rfl, rfl, rfl, by decide +kernel, rfl, by decide +kernel, by decide +kernel⟩
theorem has_l_pool  (F : FnQ K "_law_pool" "_law_pool" s_l_pool f fd) (hm : mg "_law_pool" = some (.ref f)) (M : Md mg) (R : RegR K mg) : HasR P w K mg base CX0 1 "_law_pool" (sp_l_pool K) := by
  refine hasR_of F hm sc_l_pool (fun fd' F' => F'.bindsN fun _ _ _ _ _ _ us hl => match us, hl with | [_, _], _ => rfl) len_l_pool (fun cdv A outer s H vs Q E hr h => ⟨t_l_pool K, PSs.nox ?_, pure_l_pool vs H Q E h⟩)
  have nd := sc_l_pool.nd
  exact (pss_cons (ps_set (i := 2) nd rfl (Or.inl rfl) pe_int)
  (pss_cons (ps_if (pt_cmpR op_lt (pv 1) (pe_callB call_lenX (by rfl) M.b_len (by decide +kernel) (pa_cons (pv 0) pa_nil)) (nomark _))
  (pss_one (ps_set (i := 2) nd rfl (Or.inl rfl) (pe_ix ix_seq (pv 0) (pv 1) (fun _ _ => rfl))))
  pss_nil)
  (pss_cons (ps_set (i := 3) nd rfl (Or.inl rfl) (pe_op op_mod (pe_op op_mulW (pe_op op_addX (pe_op op_addX (pe_op op_mod (pv 2) pe_int) (pe_op op_mulW (pe_op op_mulW pe_int (pv 1)) (pv 1))) pe_int) pe_int) pe_int))
  (pss_cons (ps_if (pt_cmpR op_lt (pv 2) (pe_op op_pow pe_int pe_int) (nomark _))
  (pss_one (ps_set (i := 2) nd rfl (Or.inl rfl) pe_int))
  pss_nil)
  (pss_one (ps_ret (pe_lst (pa_cons (pv 2) (pa_cons (pe_op op_addX (pe_op op_mod (pe_op op_mulW (pv 3) (pv 3)) pe_int) pe_int) pa_nil)))))))))

abbrev N_l_take : List Str := ["_law_pool_here", "_law_sides", "_law_found"]
theorem sc_l_take : FnScope N_l_take ["_law_pool_here", "_law_sides"] (defScope s_l_take) := ⟨rfl, rfl, rfl, by decide +kernel, rfl, by decide +kernel, by decide +kernel⟩
theorem has_l_take  (F : FnQ K "_law_take" "_law_take" s_l_take f fd) (hm : mg "_law_take" = some (.ref f)) (M : Md mg) (R : RegR K mg) : HasR P w K mg base CX0 1 "_law_take" sp_l_take := by
  refine hasR_of F hm sc_l_take (fun fd' F' => F'.bindsN fun _ _ _ _ _ _ us hl => match us, hl with | [_, _], _ => rfl) len_l_take (fun cdv A outer s H vs Q E hr h => ⟨t_l_take K, PSs.nox ?_, pure_l_take vs H Q E h⟩)
  have nd := sc_l_take.nd
  exact (pss_cons (ps_if (pt_cmpR op_gt (pe_ix ix_seq (pv 0) pe_int (fun _ _ => rfl)) pe_int (nomark _))
  (pss_cons (ps_set (i := 2) nd rfl (Or.inl rfl) (pe_op op_mod (pe_ix ix_seq (pv 0) pe_int (fun _ _ => rfl)) (pv 1)))
  (pss_cons (ps_asg (pe_op op_fdivW (pe_ix ix_seq (pv 0) pe_int (fun _ _ => rfl)) (pv 1)) (pg_sub (pv 0) pe_int set_list))
  (pss_one (ps_ret (pv 2)))))
  pss_nil)
  (pss_cons (ps_asg (pe_op op_mod (pe_op op_addX (pe_op op_mulW (pe_ix ix_seq (pv 0) pe_int (fun _ _ => rfl)) pe_int) pe_int) pe_int) (pg_sub (pv 0) pe_int set_list))
  (pss_one (ps_ret (pe_op op_mod (pe_op op_fdivW (pe_op op_mod (pe_op op_mulW (pe_ix ix_seq (pv 0) pe_int (fun _ _ => rfl)) (pe_ix ix_seq (pv 0) pe_int (fun _ _ => rfl))) pe_int) pe_int) (pv 1))))))

abbrev N_l_some : List Str := ["_law_one", "_law_found"]
theorem sc_l_some : FnScope N_l_some ["_law_one"] (defScope s_l_some) := ⟨rfl, rfl, rfl, by decide +kernel, rfl, by decide +kernel, by decide +kernel⟩
theorem has_l_some  (F : FnQ K "_law_some" "_law_some" s_l_some f fd) (hm : mg "_law_some" = some (.ref f)) (i_InvalidLoops : XKn P w K mg base "InvalidLoops") (i_InvalidNumber : XKn P w K mg base "InvalidNumber") (i_InvalidRegion : XKn P w K mg base "InvalidRegion") (i_InvalidSquare : XKn P w K mg base "InvalidSquare") (i_InvalidBox : XKn P w K mg base "InvalidBox") (i_InvalidLine : XKn P w K mg base "InvalidLine") (i_InvalidText : XKn P w K mg base "InvalidText") (i_InvalidName : XKn P w K mg base "InvalidName") (i_InvalidSpans : XKn P w K mg base "InvalidSpans") (i_InvalidAxis : XKn P w K mg base "InvalidAxis") (i_TooMany : XKn P w K mg base "TooMany") (i_Blocked : XKn P w K mg base "Blocked") (i_Unbounded : XKn P w K mg base "Unbounded") (i_Outside : XKn P w K mg base "Outside") (i_NothingLeft : XK0 P w K mg base "NothingLeft") (i_NoName : XKn P w K mg base "NoName") (XF : XcF K xl) (XI : ∀ n ∈ xl, XfI K (cA K n)) (KR : ∀ T ∈ roots6, ∀ n ∈ xl, PySem.W.kitOne K (.ref (cA K n)) (.type T) = some (xUnder T n)) (KX : ∀ n ∈ xl, PySem.W.kitOne K (.ref (cA K n)) (.ref (cA K "BoxError")) = some (xUnder "BoxError" n)) (KO : ∀ m ∈ xl, ∀ n ∈ xl, PySem.W.kitOne K (.ref (cA K n)) (.ref (cA K m)) = some (decide (n = m))) (M : Md mg) (R : RegR K mg) : HasR P w K mg base CX0 3 "_law_some" (sp_l_some K) := by
  refine hasR_of F hm sc_l_some (fun fd' F' => F'.bindsN fun _ _ _ _ _ _ us hl => match us, hl with | [_], _ => rfl) len_l_some (fun cdv A outer s H vs Q E hr h => ⟨t_l_some K, PSs.nox ?_, pure_l_some vs H Q E h⟩)
  have nd := sc_l_some.nd
  exact (pss_cons (ps_set (i := 1) nd rfl (Or.inl rfl) (pe_lst (pa_cons (pe_excV XF i_InvalidBox (by decide) (hr.mono (by decide)) (by rfl) (pv 0)) (pa_cons (pe_excV XF i_InvalidSquare (by decide) (hr.mono (by decide)) (by rfl) (pv 0)) (pa_cons (pe_excV XF i_InvalidRegion (by decide) (hr.mono (by decide)) (by rfl) (pv 0)) (pa_cons (pe_excV XF i_InvalidNumber (by decide) (hr.mono (by decide)) (by rfl) (pv 0)) (pa_cons (pe_excV XF i_InvalidLoops (by decide) (hr.mono (by decide)) (by rfl) (pv 0)) pa_nil)))))))
  (pss_cons (ps_set (i := 1) nd rfl (Or.inl rfl) (pe_op op_addX (pv 1) (pe_lst (pa_cons (pe_excV XF i_InvalidAxis (by decide) (hr.mono (by decide)) (by rfl) (pv 0)) (pa_cons (pe_excV XF i_InvalidSpans (by decide) (hr.mono (by decide)) (by rfl) (pv 0)) (pa_cons (pe_excV XF i_InvalidName (by decide) (hr.mono (by decide)) (by rfl) (pv 0)) (pa_cons (pe_excV XF i_InvalidText (by decide) (hr.mono (by decide)) (by rfl) (pv 0)) (pa_cons (pe_excV XF i_InvalidLine (by decide) (hr.mono (by decide)) (by rfl) (pv 0)) pa_nil))))))))
  (pss_cons (ps_set (i := 1) nd rfl (Or.inl rfl) (pe_op op_addX (pv 1) (pe_lst (pa_cons (pe_excK XF i_Outside (by decide) (hr.mono (by decide)) (by rfl) (pk_cons (pv 0) pk_nil)) (pa_cons (pe_excK XF i_Unbounded (by decide) (hr.mono (by decide)) (by rfl) (pk_cons (pv 0) pk_nil)) (pa_cons (pe_excK XF i_Blocked (by decide) (hr.mono (by decide)) (by rfl) (pk_cons (pv 0) pk_nil)) (pa_cons (pe_excK XF i_TooMany (by decide) (hr.mono (by decide)) (by rfl) (pk_cons (pv 0) pk_nil)) pa_nil)))))))
  (pss_one (ps_ret (pe_op op_addX (pv 1) (pe_lst (pa_cons (pe_excK XF i_NoName (by decide) (hr.mono (by decide)) (by rfl) (pk_cons (pv 0) pk_nil)) (pa_cons (pe_exc0 XF i_NothingLeft (by decide) (hr.mono (by decide)) (by rfl)) pa_nil)))))))))

abbrev N_l_kinds : List Str := ["_law_e", "_law_found"]
theorem sc_l_kinds : FnScope N_l_kinds ["_law_e"] (defScope s_l_kinds) := ⟨rfl, rfl, rfl, by decide +kernel, rfl, by decide +kernel, by decide +kernel⟩
theorem has_l_kinds  (F : FnQ K "_law_kinds" "_law_kinds" s_l_kinds f fd) (hm : mg "_law_kinds" = some (.ref f)) (i_InvalidRegion : XKn P w K mg base "InvalidRegion") (i_InvalidSquare : XKn P w K mg base "InvalidSquare") (i_InvalidBox : XKn P w K mg base "InvalidBox") (i_InvalidAxis : XKn P w K mg base "InvalidAxis") (i_InvalidLoops : XKn P w K mg base "InvalidLoops") (i_InvalidNumber : XKn P w K mg base "InvalidNumber") (i_InvalidText : XKn P w K mg base "InvalidText") (i_InvalidName : XKn P w K mg base "InvalidName") (i_InvalidSpans : XKn P w K mg base "InvalidSpans") (i_Unbounded : XKn P w K mg base "Unbounded") (i_Outside : XKn P w K mg base "Outside") (i_InvalidLine : XKn P w K mg base "InvalidLine") (i_NoName : XKn P w K mg base "NoName") (i_TooMany : XKn P w K mg base "TooMany") (i_Blocked : XKn P w K mg base "Blocked") (i_NothingLeft : XK0 P w K mg base "NothingLeft") (XF : XcF K xl) (XI : ∀ n ∈ xl, XfI K (cA K n)) (KR : ∀ T ∈ roots6, ∀ n ∈ xl, PySem.W.kitOne K (.ref (cA K n)) (.type T) = some (xUnder T n)) (KX : ∀ n ∈ xl, PySem.W.kitOne K (.ref (cA K n)) (.ref (cA K "BoxError")) = some (xUnder "BoxError" n)) (KO : ∀ m ∈ xl, ∀ n ∈ xl, PySem.W.kitOne K (.ref (cA K n)) (.ref (cA K m)) = some (decide (n = m))) (M : Md mg) (R : RegR K mg) : HasR P w K mg base CX0 3 "_law_kinds" (sp_l_kinds K) := by
  refine hasR_of F hm sc_l_kinds (fun fd' F' => F'.bindsN fun _ _ _ _ _ _ us hl => match us, hl with | [_], _ => rfl) len_l_kinds (fun cdv A outer s H vs Q E hr h => ⟨t_l_kinds K, PSs.nox ?_, pure_l_kinds XF XI KO vs H Q E h⟩)
  have nd := sc_l_kinds.nd
  exact (pss_cons (ps_set (i := 1) nd rfl (Or.inl rfl) (pe_lst (pa_cons (pe_callB call_isX (by rfl) M.b_isinstance (by decide +kernel) (pa_cons (pv 0) (pa_cons (pe_gref (by rfl) i_InvalidBox.g) pa_nil))) (pa_cons (pe_callB call_isX (by rfl) M.b_isinstance (by decide +kernel) (pa_cons (pv 0) (pa_cons (pe_gref (by rfl) i_InvalidSquare.g) pa_nil))) (pa_cons (pe_callB call_isX (by rfl) M.b_isinstance (by decide +kernel) (pa_cons (pv 0) (pa_cons (pe_gref (by rfl) i_InvalidRegion.g) pa_nil))) pa_nil)))))
  (pss_cons (ps_set (i := 1) nd rfl (Or.inl rfl) (pe_op op_addX (pv 1) (pe_lst (pa_cons (pe_callB call_isX (by rfl) M.b_isinstance (by decide +kernel) (pa_cons (pv 0) (pa_cons (pe_gref (by rfl) i_InvalidNumber.g) pa_nil))) (pa_cons (pe_callB call_isX (by rfl) M.b_isinstance (by decide +kernel) (pa_cons (pv 0) (pa_cons (pe_gref (by rfl) i_InvalidLoops.g) pa_nil))) (pa_cons (pe_callB call_isX (by rfl) M.b_isinstance (by decide +kernel) (pa_cons (pv 0) (pa_cons (pe_gref (by rfl) i_InvalidAxis.g) pa_nil))) pa_nil))))))
  (pss_cons (ps_set (i := 1) nd rfl (Or.inl rfl) (pe_op op_addX (pv 1) (pe_lst (pa_cons (pe_callB call_isX (by rfl) M.b_isinstance (by decide +kernel) (pa_cons (pv 0) (pa_cons (pe_gref (by rfl) i_InvalidSpans.g) pa_nil))) (pa_cons (pe_callB call_isX (by rfl) M.b_isinstance (by decide +kernel) (pa_cons (pv 0) (pa_cons (pe_gref (by rfl) i_InvalidName.g) pa_nil))) (pa_cons (pe_callB call_isX (by rfl) M.b_isinstance (by decide +kernel) (pa_cons (pv 0) (pa_cons (pe_gref (by rfl) i_InvalidText.g) pa_nil))) pa_nil))))))
  (pss_cons (ps_set (i := 1) nd rfl (Or.inl rfl) (pe_op op_addX (pv 1) (pe_lst (pa_cons (pe_callB call_isX (by rfl) M.b_isinstance (by decide +kernel) (pa_cons (pv 0) (pa_cons (pe_gref (by rfl) i_InvalidLine.g) pa_nil))) (pa_cons (pe_callB call_isX (by rfl) M.b_isinstance (by decide +kernel) (pa_cons (pv 0) (pa_cons (pe_gref (by rfl) i_Outside.g) pa_nil))) (pa_cons (pe_callB call_isX (by rfl) M.b_isinstance (by decide +kernel) (pa_cons (pv 0) (pa_cons (pe_gref (by rfl) i_Unbounded.g) pa_nil))) pa_nil))))))
  (pss_cons (ps_set (i := 1) nd rfl (Or.inl rfl) (pe_op op_addX (pv 1) (pe_lst (pa_cons (pe_callB call_isX (by rfl) M.b_isinstance (by decide +kernel) (pa_cons (pv 0) (pa_cons (pe_gref (by rfl) i_Blocked.g) pa_nil))) (pa_cons (pe_callB call_isX (by rfl) M.b_isinstance (by decide +kernel) (pa_cons (pv 0) (pa_cons (pe_gref (by rfl) i_TooMany.g) pa_nil))) (pa_cons (pe_callB call_isX (by rfl) M.b_isinstance (by decide +kernel) (pa_cons (pv 0) (pa_cons (pe_gref (by rfl) i_NoName.g) pa_nil))) pa_nil))))))
  (pss_one (ps_ret (pe_op op_addX (pv 1) (pe_lst (pa_cons (pe_callB call_isX (by rfl) M.b_isinstance (by decide +kernel) (pa_cons (pv 0) (pa_cons (pe_gref (by rfl) i_NothingLeft.g) pa_nil))) pa_nil))))))))))

abbrev N_l_roots : List Str := ["_law_e", "_law_found"]
theorem sc_l_roots : FnScope N_l_roots ["_law_e"] (defScope s_l_roots) := ⟨rfl, rfl, rfl, by decide +kernel, rfl, by decide +kernel, by decide +kernel⟩
theorem has_l_roots  (F : FnQ K "_law_roots" "_law_roots" s_l_roots f fd) (hm : mg "_law_roots" = some (.ref f)) (gB : mg "BoxError" = some (.ref (cA K "BoxError"))) (XF : XcF K xl) (XI : ∀ n ∈ xl, XfI K (cA K n)) (KR : ∀ T ∈ roots6, ∀ n ∈ xl, PySem.W.kitOne K (.ref (cA K n)) (.type T) = some (xUnder T n)) (KX : ∀ n ∈ xl, PySem.W.kitOne K (.ref (cA K n)) (.ref (cA K "BoxError")) = some (xUnder "BoxError" n)) (KO : ∀ m ∈ xl, ∀ n ∈ xl, PySem.W.kitOne K (.ref (cA K n)) (.ref (cA K m)) = some (decide (n = m))) (M : Md mg) (R : RegR K mg) : HasR P w K mg base CX0 1 "_law_roots" (sp_l_roots K) := by
  refine hasR_of F hm sc_l_roots (fun fd' F' => F'.bindsN fun _ _ _ _ _ _ us hl => match us, hl with | [_], _ => rfl) len_l_roots (fun cdv A outer s H vs Q E hr h => ⟨t_l_roots K, PSs.nox ?_, pure_l_roots XF XI KR KX vs H Q E h⟩)
  have nd := sc_l_roots.nd
  exact (pss_cons (ps_set (i := 1) nd rfl (Or.inl rfl) (pe_lst (pa_cons (pe_callB call_isX (by rfl) M.b_isinstance (by decide +kernel) (pa_cons (pv 0) (pa_cons (pe_bltn (v := .ty "ValueError") (by rfl) M.b_ValueError (by decide +kernel) rfl) pa_nil))) (pa_cons (pe_callB call_isX (by rfl) M.b_isinstance (by decide +kernel) (pa_cons (pv 0) (pa_cons (pe_gref (by rfl) gB) pa_nil))) (pa_cons (pe_callB call_isX (by rfl) M.b_isinstance (by decide +kernel) (pa_cons (pv 0) (pa_cons (pe_bltn (v := .ty "LookupError") (by rfl) M.b_LookupError (by decide +kernel) rfl) pa_nil))) (pa_cons (pe_callB call_isX (by rfl) M.b_isinstance (by decide +kernel) (pa_cons (pv 0) (pa_cons (pe_bltn (v := .ty "KeyError") (by rfl) M.b_KeyError (by decide +kernel) rfl) pa_nil))) pa_nil))))))
  (pss_one (ps_ret (pe_op op_addX (pv 1) (pe_lst (pa_cons (pe_callB call_isX (by rfl) M.b_isinstance (by decide +kernel) (pa_cons (pv 0) (pa_cons (pe_bltn (v := .ty "IndexError") (by rfl) M.b_IndexError (by decide +kernel) rfl) pa_nil))) (pa_cons (pe_callB call_isX (by rfl) M.b_isinstance (by decide +kernel) (pa_cons (pv 0) (pa_cons (pe_bltn (v := .ty "RuntimeError") (by rfl) M.b_RuntimeError (by decide +kernel) rfl) pa_nil))) (pa_cons (pe_callB call_isX (by rfl) M.b_isinstance (by decide +kernel) (pa_cons (pv 0) (pa_cons (pe_bltn (v := .ty "OverflowError") (by rfl) M.b_OverflowError (by decide +kernel) rfl) pa_nil))) pa_nil))))))))

abbrev N_l_due : List Str := ["_law_at", "_law_words", "_law_named", "_law_name"]
theorem sc_l_due : FnScope N_l_due ["_law_at"] (defScope s_l_due) := ⟨rfl, rfl, rfl, by decide +kernel, rfl, by decide +kernel, by decide +kernel⟩
theorem has_l_due  (F : FnQ K "_law_due" "_law_due" s_l_due f fd) (hm : mg "_law_due" = some (.ref f)) (M : Md mg) (R : RegR K mg) : HasR P w K mg base CX0 1 "_law_due" (sp_l_due K) := by
  refine hasR_of F hm sc_l_due (fun fd' F' => F'.bindsN fun _ _ _ _ _ _ us hl => match us, hl with | [_], _ => rfl) len_l_due (fun cdv A outer s H vs Q E hr h => ⟨t_l_due K, PSs.nox ?_, pure_l_due vs H Q E h⟩)
  have nd := sc_l_due.nd
  exact (pss_cons (ps_set (i := 1) nd rfl (Or.inr rfl) (pe_op op_addX (pe_op op_addX (pe_op op_rep (pe_lst (pa_cons pe_str pa_nil)) pe_int) (pe_op op_rep (pe_lst (pa_cons pe_str pa_nil)) pe_int)) (pe_lst (pa_cons pe_str (pa_cons pe_str pa_nil)))))
  (pss_cons (ps_expr (pe_bm PySem.F.plainAttrs_list PySem.F.slot_list_append PySem.F.type_list_append mt_append (pv 1) (pa_cons pe_str pa_nil)))
  (pss_cons (ps_set (i := 2) nd rfl (Or.inl rfl) (pe_lst (pa_cons pe_str (pa_cons pe_str (pa_cons pe_str (pa_cons pe_str (pa_cons pe_str (pa_cons pe_str (pa_cons pe_str pa_nil)))))))))
  (pss_one (ps_ret (pe_lc (own := [("_law_name", 3)]) (g := (gName 3)) (tt := tYes) rfl nd (pi_seq (pv 2)) (blkOk_by (own := [("_law_name", 3)]) (N := N_l_due) (sc := defScope s_l_due) (by decide +kernel)) (fun _ _ _ _ _ => (pg_name (i := 3) nd rfl (Or.inl rfl))) (fun _ _ _ _ _ => pts_nil) (fun _ _ _ _ _ => (pe_cmpR op_in_seq (pv 3) (pe_splitS (pe_ix ix_seq (pv 1) (pv 0) (fun _ _ => rfl)) pe_str) (by rfl)))))))))

abbrev N_law : List Str := ["_law_script", "_law_k", "_law_pool_here", "_law_one", "_law_some_here", "_law_at", "_law_stored", "_law_place", "_law_part"]
theorem sc_law : FnScope N_law ["_law_script"] (defScope s_law) := ⟨rfl, rfl, rfl, by decide +kernel, rfl, by decide +kernel, by decide +kernel⟩
theorem has_law (h_l_pool : HasR P w K mg base CX0 1 "_law_pool" (sp_l_pool K)) (h_l_take : HasR P w K mg base CX0 1 "_law_take" sp_l_take) (h_l_some : HasR P w K mg base CX0 3 "_law_some" (sp_l_some K)) (h_l_kinds : HasR P w K mg base CX0 3 "_law_kinds" (sp_l_kinds K)) (h_l_roots : HasR P w K mg base CX0 1 "_law_roots" (sp_l_roots K)) (h_l_due : HasR P w K mg base CX0 1 "_law_due" (sp_l_due K)) (F : FnQ K "law" "law" s_law f fd) (hm : mg "law" = some (.ref f)) (i_InvalidRegion : XKn P w K mg base "InvalidRegion") (i_InvalidSquare : XKn P w K mg base "InvalidSquare") (i_InvalidBox : XKn P w K mg base "InvalidBox") (i_InvalidLoops : XKn P w K mg base "InvalidLoops") (i_InvalidNumber : XKn P w K mg base "InvalidNumber") (i_InvalidSpans : XKn P w K mg base "InvalidSpans") (i_InvalidAxis : XKn P w K mg base "InvalidAxis") (i_InvalidText : XKn P w K mg base "InvalidText") (i_InvalidName : XKn P w K mg base "InvalidName") (i_Unbounded : XKn P w K mg base "Unbounded") (i_Outside : XKn P w K mg base "Outside") (i_InvalidLine : XKn P w K mg base "InvalidLine") (i_Blocked : XKn P w K mg base "Blocked") (i_NoName : XKn P w K mg base "NoName") (i_TooMany : XKn P w K mg base "TooMany") (XF : XcF K xl) (XI : ∀ n ∈ xl, XfI K (cA K n)) (KR : ∀ T ∈ roots6, ∀ n ∈ xl, PySem.W.kitOne K (.ref (cA K n)) (.type T) = some (xUnder T n)) (KX : ∀ n ∈ xl, PySem.W.kitOne K (.ref (cA K n)) (.ref (cA K "BoxError")) = some (xUnder "BoxError" n)) (KO : ∀ m ∈ xl, ∀ n ∈ xl, PySem.W.kitOne K (.ref (cA K n)) (.ref (cA K m)) = some (decide (n = m))) (M : Md mg) (R : RegR K mg) : Has P w K mg base CX0 4 "law" ["_law_script"] (sp_law K) := by
  refine has_of F hm sc_law (fun fd' F' => F'.bindsN fun _ _ _ _ _ _ us hl => match us, hl with | [_], _ => rfl) len_law (fun cdv A outer s H vs Q E hr hg0 h => ⟨t_law K, PSs.nox ?_, pure_law XF law_ok vs H Q E h⟩)
  have nd := sc_law.nd
  exact (pss_cons (ps_for PassesOwn.never rfl (pi_range1 (by rfl) M.b_range (pa_cons (pe_callB (call_max2' rfl) (by rfl) M.b_max (by decide +kernel) (pa_cons pe_int (pa_cons (pe_callB (call_min2' rfl) (by rfl) M.b_min (by decide +kernel) (pa_cons (pe_callB call_lenX (by rfl) M.b_len (by decide +kernel) (pa_cons (pv 0) pa_nil)) (pa_cons pe_int pa_nil))) pa_nil))) pa_nil)) (pg_name (i := 1) nd rfl (Or.inl rfl))
  (pss_cons (ps_set (i := 2) nd rfl (Or.inl rfl) (pe_callR h_l_pool (hr.mono (by decide)) pass0 (by rfl) (pa_cons (pv 0) (pa_cons (pv 1) pa_nil))))
  (pss_cons (ps_set (i := 3) nd rfl (Or.inl rfl) (pe_ix ix_seq (pe_lst (pa_cons pe_non (pa_cons pe_bl (pa_cons pe_int (pa_cons (pe_un un_neg pe_int) (pa_cons (pe_op op_pow pe_int pe_int) (pa_cons pe_str (pa_cons pe_str (pa_cons (pe_tup pa_nil) (pa_cons (pe_tup (pa_cons pe_int (pa_cons pe_int pa_nil))) (pa_cons (pe_lst pa_nil) (pa_cons (pe_lst (pa_cons pe_int pa_nil)) (pa_cons (pe_disp (pps_cons pe_str pe_int pps_nil) (by rfl) (by rfl) (by simp) (by decide)) pa_nil))))))))))))) (pe_callR h_l_take (hr.mono (by decide)) pass0 (by rfl) (pa_cons (pv 2) (pa_cons pe_int pa_nil))) (fun _ _ => rfl)))
  (pss_cons (ps_set (i := 4) nd rfl (Or.inl rfl) (pe_callR h_l_some (hr.mono (by decide)) pass0 (by rfl) (pa_cons (pv 3) pa_nil)))
  (pss_cons (ps_for PassesOwn.never rfl (pi_range1 (by rfl) M.b_range (pa_cons (pe_callB call_lenX (by rfl) M.b_len (by decide +kernel) (pa_cons (pv 4) pa_nil)) pa_nil)) (pg_name (i := 5) nd rfl (Or.inr rfl))
  (pss_one (ps_if (PW.pt (pw_or (pt_cmpR (op_neX hr.units) (pe_callR h_l_kinds (hr.mono (by decide)) pass0 (by rfl) (pa_cons (pe_ix ix_seq (pv 4) (pv 5) (fun _ _ => rfl)) pa_nil)) (pe_lc (own := [("_law_place", 7)]) (g := (gName 7)) (tt := tYes) rfl nd (pi_range1 (by rfl) M.b_range (pa_cons pe_int pa_nil)) (blkOk_by (own := [("_law_place", 7)]) (N := N_law) (sc := defScope s_law) (by decide +kernel)) (fun _ _ _ _ _ => (pg_name (i := 7) nd rfl (Or.inl rfl))) (fun _ _ _ _ _ => pts_nil) (fun _ _ _ _ _ => (pe_cmpR (op_eqX hr.units) (pv 7) (pv 5) (nomark _)))) (nomark _)) (pw_or1 (pt_cmpR (op_neX hr.units) (pe_callR h_l_roots (hr.mono (by decide)) pass0 (by rfl) (pa_cons (pe_ix ix_seq (pv 4) (pv 5) (fun _ _ => rfl)) pa_nil)) (pe_callR h_l_due (hr.mono (by decide)) pass0 (by rfl) (pa_cons (pv 5) pa_nil)) (nomark _)))))
  (pss_one (ps_ret pe_bl))
  pss_nil)))
  (pss_cons (ps_set (i := 6) nd rfl (Or.inl rfl) (pe_lst (pa_cons (pe_xv (pe_excK XF i_InvalidBox (by decide) (hr.mono (by decide)) (by rfl) (pk_cons (pv 3) pk_nil))) (pa_cons (pe_xv (pe_excK XF i_InvalidSquare (by decide) (hr.mono (by decide)) (by rfl) (pk_cons (pv 3) pk_nil))) (pa_cons (pe_xv (pe_excK XF i_InvalidRegion (by decide) (hr.mono (by decide)) (by rfl) (pk_cons (pv 3) pk_nil))) pa_nil)))))
  (pss_cons (ps_set (i := 6) nd rfl (Or.inl rfl) (pe_op op_addX (pv 6) (pe_lst (pa_cons (pe_xv (pe_excK XF i_InvalidNumber (by decide) (hr.mono (by decide)) (by rfl) (pk_cons (pv 3) pk_nil))) (pa_cons (pe_xv (pe_excK XF i_InvalidLoops (by decide) (hr.mono (by decide)) (by rfl) (pk_cons (pv 3) pk_nil))) pa_nil)))))
  (pss_cons (ps_set (i := 6) nd rfl (Or.inl rfl) (pe_op op_addX (pv 6) (pe_lst (pa_cons (pe_xv (pe_excK XF i_InvalidAxis (by decide) (hr.mono (by decide)) (by rfl) (pk_cons (pv 3) pk_nil))) (pa_cons (pe_xv (pe_excK XF i_InvalidSpans (by decide) (hr.mono (by decide)) (by rfl) (pk_cons (pv 3) pk_nil))) pa_nil)))))
  (pss_cons (ps_set (i := 6) nd rfl (Or.inl rfl) (pe_op op_addX (pv 6) (pe_lst (pa_cons (pe_xv (pe_excK XF i_InvalidName (by decide) (hr.mono (by decide)) (by rfl) (pk_cons (pv 3) pk_nil))) (pa_cons (pe_xv (pe_excK XF i_InvalidText (by decide) (hr.mono (by decide)) (by rfl) (pk_cons (pv 3) pk_nil))) pa_nil)))))
  (pss_cons (ps_set (i := 6) nd rfl (Or.inl rfl) (pe_op op_addX (pv 6) (pe_lst (pa_cons (pe_xv (pe_excK XF i_InvalidLine (by decide) (hr.mono (by decide)) (by rfl) (pk_cons (pv 3) pk_nil))) (pa_cons (pe_xv (pe_excV XF i_Outside (by decide) (hr.mono (by decide)) (by rfl) (pv 3))) (pa_cons (pe_xv (pe_excV XF i_Unbounded (by decide) (hr.mono (by decide)) (by rfl) (pv 3))) pa_nil))))))
  (pss_cons (ps_set (i := 6) nd rfl (Or.inl rfl) (pe_op op_addX (pv 6) (pe_lst (pa_cons (pe_xv (pe_excV XF i_Blocked (by decide) (hr.mono (by decide)) (by rfl) (pv 3))) pa_nil))))
  (pss_cons (ps_set (i := 6) nd rfl (Or.inl rfl) (pe_op op_addX (pv 6) (pe_lst (pa_cons (pe_xv (pe_excV XF i_TooMany (by decide) (hr.mono (by decide)) (by rfl) (pv 3))) (pa_cons (pe_xv (pe_excV XF i_NoName (by decide) (hr.mono (by decide)) (by rfl) (pv 3))) pa_nil)))))
  (pss_one (ps_if (pt_cmpR (op_neLS hr.units) (pe_lc (own := [("_law_part", 8)]) (g := (gName 8)) (tt := tYes) rfl nd (pi_seq (pv 6)) (blkOk_by (own := [("_law_part", 8)]) (N := N_law) (sc := defScope s_law) (by decide +kernel)) (fun _ _ _ _ _ => (pg_name (i := 8) nd rfl (Or.inl rfl))) (fun _ _ _ _ _ => pts_nil) (fun _ _ _ _ _ => (pe_callB (call_reprE hr hr.u200 hg0) (by rfl) M.b_repr (by decide +kernel) (pa_cons (pv 8) pa_nil)))) (pe_op op_rep (pe_lst (pa_cons (pe_callB (call_reprE hr hr.u200 hg0) (by rfl) M.b_repr (by decide +kernel) (pa_cons (pv 3) pa_nil)) pa_nil)) pe_int) (nomark _))
  (pss_one (ps_ret pe_bl))
  pss_nil))))))))))))))
  (pss_one (ps_ret pe_bl)))

end
theorem facts {P : Program} {w : World} {K : Fg} {h : Heap} {mg : Str → Option Value} (X : K.In h) (G : h.Ns mainGlobals mg) (c : SaysP fbD fnD K) (base : Heap) : Has P w K mg base CX0 4 "law" ["_law_script"] (sp_law K) := by
  obtain ⟨fd_l_pool, F_l_pool⟩ := c.def_ 0 (d := d_l_pool) rfl
  have g_l_pool := He.glo_ok X G (c.fa 0 (f := .glo "_law_pool") rfl)
  obtain ⟨fd_l_take, F_l_take⟩ := c.def_ 1 (d := d_l_take) rfl
  have g_l_take := He.glo_ok X G (c.fa 1 (f := .glo "_law_take") rfl)
  obtain ⟨fd_l_some, F_l_some⟩ := c.def_ 2 (d := d_l_some) rfl
  have g_l_some := He.glo_ok X G (c.fa 2 (f := .glo "_law_some") rfl)
  obtain ⟨fd_l_kinds, F_l_kinds⟩ := c.def_ 3 (d := d_l_kinds) rfl
  have g_l_kinds := He.glo_ok X G (c.fa 3 (f := .glo "_law_kinds") rfl)
  obtain ⟨fd_l_roots, F_l_roots⟩ := c.def_ 4 (d := d_l_roots) rfl
  have g_l_roots := He.glo_ok X G (c.fa 4 (f := .glo "_law_roots") rfl)
  obtain ⟨fd_l_due, F_l_due⟩ := c.def_ 5 (d := d_l_due) rfl
  have g_l_due := He.glo_ok X G (c.fa 5 (f := .glo "_law_due") rfl)
  obtain ⟨fd_law, F_law⟩ := c.def_ 6 (d := d_law) rfl
  have g_law := He.glo_ok X G (c.fa 6 (f := .glo "law") rfl)
  have M : Md mg := ⟨He.free_ok X G (c.fa 7 (f := .free "len") rfl), He.free_ok X G (c.fa 8 (f := .free "isinstance") rfl), He.free_ok X G (c.fa 9 (f := .free "ValueError") rfl), He.free_ok X G (c.fa 10 (f := .free "LookupError") rfl), He.free_ok X G (c.fa 11 (f := .free "KeyError") rfl), He.free_ok X G (c.fa 12 (f := .free "IndexError") rfl), He.free_ok X G (c.fa 13 (f := .free "RuntimeError") rfl), He.free_ok X G (c.fa 14 (f := .free "OverflowError") rfl), He.free_ok X G (c.fa 15 (f := .free "range") rfl), He.free_ok X G (c.fa 16 (f := .free "max") rfl), He.free_ok X G (c.fa 17 (f := .free "min") rfl), He.free_ok X G (c.fa 18 (f := .free "repr") rfl)⟩
  have R : RegR K mg := ⟨⟩
  have XF : XcF K xl := xcB_ok (c.fact 19 (f := .b (xcB xl)) rfl)
  have gB := He.glo_ok X G (c.fa 22 (f := .glo "BoxError") rfl)
  have BE : BxE K mg := ⟨gB, cread_ok (c.fact 21 (f := .cread "BoxError") rfl), bxB_ok (c.fact 20 (f := .b bxB) rfl)⟩
  have B_RuntimeError := And.intro (He.free_ok X G (c.fa 13 (f := .free "RuntimeError") rfl)) (tyInB_ok (c.fact 39 (f := .b (tyInB "RuntimeError" "RuntimeError.__init__")) rfl))
  have B_OverflowError := And.intro (He.free_ok X G (c.fa 14 (f := .free "OverflowError") rfl)) (tyInB_ok (c.fact 40 (f := .b (tyInB "OverflowError" "OverflowError.__init__")) rfl))
  have B_KeyError := And.intro (He.free_ok X G (c.fa 11 (f := .free "KeyError") rfl)) (tyInB_ok (c.fact 41 (f := .b (tyInB "KeyError" "KeyError.__init__")) rfl))
  have B_IndexError := And.intro (He.free_ok X G (c.fa 12 (f := .free "IndexError") rfl)) (tyInB_ok (c.fact 42 (f := .b (tyInB "IndexError" "IndexError.__init__")) rfl))
  have XI := xfiB_ok (c.fact 47 (f := .b (xfiB xl)) rfl)
  have KR := kRtB_ok (c.fact 48 (f := .b (kRtB xl)) rfl)
  have KX := kBxB_ok (c.fact 49 (f := .b (kBxB xl)) rfl)
  have KO := kOwB_ok (c.fact 50 (f := .b (kOwB xl)) rfl)
  obtain ⟨fd_Blocked_init, F_Blocked_init⟩ := c.def_ 7 (d := d_Blocked_init) rfl
  have i_Blocked : XKn P w K mg base "Blocked" := xi_Blocked F_Blocked_init (He.glo_ok X G (c.fa 35 (f := .glo "Blocked") rfl)) XF B_RuntimeError
  obtain ⟨fd_InvalidAxis_init, F_InvalidAxis_init⟩ := c.def_ 8 (d := d_InvalidAxis_init) rfl
  have i_InvalidAxis : XKn P w K mg base "InvalidAxis" := xi_InvalidAxis F_InvalidAxis_init (He.glo_ok X G (c.fa 28 (f := .glo "InvalidAxis") rfl)) XF BE
  obtain ⟨fd_InvalidBox_init, F_InvalidBox_init⟩ := c.def_ 9 (d := d_InvalidBox_init) rfl
  have i_InvalidBox : XKn P w K mg base "InvalidBox" := xi_InvalidBox F_InvalidBox_init (He.glo_ok X G (c.fa 23 (f := .glo "InvalidBox") rfl)) XF BE
  obtain ⟨fd_InvalidLine_init, F_InvalidLine_init⟩ := c.def_ 10 (d := d_InvalidLine_init) rfl
  have i_InvalidLine : XKn P w K mg base "InvalidLine" := xi_InvalidLine F_InvalidLine_init (He.glo_ok X G (c.fa 32 (f := .glo "InvalidLine") rfl)) XF BE
  obtain ⟨fd_InvalidLoops_init, F_InvalidLoops_init⟩ := c.def_ 11 (d := d_InvalidLoops_init) rfl
  have i_InvalidLoops : XKn P w K mg base "InvalidLoops" := xi_InvalidLoops F_InvalidLoops_init (He.glo_ok X G (c.fa 27 (f := .glo "InvalidLoops") rfl)) XF BE
  obtain ⟨fd_InvalidName_init, F_InvalidName_init⟩ := c.def_ 12 (d := d_InvalidName_init) rfl
  have i_InvalidName : XKn P w K mg base "InvalidName" := xi_InvalidName F_InvalidName_init (He.glo_ok X G (c.fa 30 (f := .glo "InvalidName") rfl)) XF BE
  obtain ⟨fd_InvalidNumber_init, F_InvalidNumber_init⟩ := c.def_ 13 (d := d_InvalidNumber_init) rfl
  have i_InvalidNumber : XKn P w K mg base "InvalidNumber" := xi_InvalidNumber F_InvalidNumber_init (He.glo_ok X G (c.fa 26 (f := .glo "InvalidNumber") rfl)) XF BE
  obtain ⟨fd_InvalidRegion_init, F_InvalidRegion_init⟩ := c.def_ 14 (d := d_InvalidRegion_init) rfl
  have i_InvalidRegion : XKn P w K mg base "InvalidRegion" := xi_InvalidRegion F_InvalidRegion_init (He.glo_ok X G (c.fa 25 (f := .glo "InvalidRegion") rfl)) XF BE
  obtain ⟨fd_InvalidSpans_init, F_InvalidSpans_init⟩ := c.def_ 15 (d := d_InvalidSpans_init) rfl
  have i_InvalidSpans : XKn P w K mg base "InvalidSpans" := xi_InvalidSpans F_InvalidSpans_init (He.glo_ok X G (c.fa 29 (f := .glo "InvalidSpans") rfl)) XF BE
  obtain ⟨fd_InvalidSquare_init, F_InvalidSquare_init⟩ := c.def_ 16 (d := d_InvalidSquare_init) rfl
  have i_InvalidSquare : XKn P w K mg base "InvalidSquare" := xi_InvalidSquare F_InvalidSquare_init (He.glo_ok X G (c.fa 24 (f := .glo "InvalidSquare") rfl)) XF BE
  obtain ⟨fd_InvalidText_init, F_InvalidText_init⟩ := c.def_ 17 (d := d_InvalidText_init) rfl
  have i_InvalidText : XKn P w K mg base "InvalidText" := xi_InvalidText F_InvalidText_init (He.glo_ok X G (c.fa 31 (f := .glo "InvalidText") rfl)) XF BE
  obtain ⟨fd_NoName_init, F_NoName_init⟩ := c.def_ 18 (d := d_NoName_init) rfl
  have i_NoName : XKn P w K mg base "NoName" := xi_NoName F_NoName_init (He.glo_ok X G (c.fa 37 (f := .glo "NoName") rfl)) XF B_KeyError
  obtain ⟨fd_NothingLeft_init, F_NothingLeft_init⟩ := c.def_ 19 (d := d_NothingLeft_init) rfl
  have i_NothingLeft : XK0 P w K mg base "NothingLeft" := xi_NothingLeft F_NothingLeft_init (He.glo_ok X G (c.fa 38 (f := .glo "NothingLeft") rfl)) XF B_IndexError
  obtain ⟨fd_Outside_init, F_Outside_init⟩ := c.def_ 20 (d := d_Outside_init) rfl
  have i_Outside : XKn P w K mg base "Outside" := xi_Outside F_Outside_init (He.glo_ok X G (c.fa 33 (f := .glo "Outside") rfl)) XF BE
  obtain ⟨fd_TooMany_init, F_TooMany_init⟩ := c.def_ 21 (d := d_TooMany_init) rfl
  have i_TooMany : XKn P w K mg base "TooMany" := xi_TooMany F_TooMany_init (He.glo_ok X G (c.fa 36 (f := .glo "TooMany") rfl)) XF B_OverflowError
  obtain ⟨fd_Unbounded_init, F_Unbounded_init⟩ := c.def_ 22 (d := d_Unbounded_init) rfl
  have i_Unbounded : XKn P w K mg base "Unbounded" := xi_Unbounded F_Unbounded_init (He.glo_ok X G (c.fa 34 (f := .glo "Unbounded") rfl)) XF B_RuntimeError
  have h_l_pool : HasR P w K mg base CX0 1 "_law_pool" (sp_l_pool K) := has_l_pool  F_l_pool g_l_pool M R
  have h_l_take : HasR P w K mg base CX0 1 "_law_take" sp_l_take := has_l_take  F_l_take g_l_take M R
  have h_l_some : HasR P w K mg base CX0 3 "_law_some" (sp_l_some K) := has_l_some  F_l_some g_l_some i_InvalidLoops i_InvalidNumber i_InvalidRegion i_InvalidSquare i_InvalidBox i_InvalidLine i_InvalidText i_InvalidName i_InvalidSpans i_InvalidAxis i_TooMany i_Blocked i_Unbounded i_Outside i_NothingLeft i_NoName XF XI KR KX KO M R
  have h_l_kinds : HasR P w K mg base CX0 3 "_law_kinds" (sp_l_kinds K) := has_l_kinds  F_l_kinds g_l_kinds i_InvalidRegion i_InvalidSquare i_InvalidBox i_InvalidAxis i_InvalidLoops i_InvalidNumber i_InvalidText i_InvalidName i_InvalidSpans i_Unbounded i_Outside i_InvalidLine i_NoName i_TooMany i_Blocked i_NothingLeft XF XI KR KX KO M R
  have h_l_roots : HasR P w K mg base CX0 1 "_law_roots" (sp_l_roots K) := has_l_roots  F_l_roots g_l_roots gB XF XI KR KX KO M R
  have h_l_due : HasR P w K mg base CX0 1 "_law_due" (sp_l_due K) := has_l_due  F_l_due g_l_due M R
  have h_law : Has P w K mg base CX0 4 "law" ["_law_script"] (sp_law K) := has_law h_l_pool h_l_take h_l_some h_l_kinds h_l_roots h_l_due F_law g_law i_InvalidRegion i_InvalidSquare i_InvalidBox i_InvalidLoops i_InvalidNumber i_InvalidSpans i_InvalidAxis i_InvalidText i_InvalidName i_Unbounded i_Outside i_InvalidLine i_Blocked i_NoName i_TooMany XF XI KR KX KO M R
  exact h_law
end K02
end BR
open PySem PySem.W PySem.Calls PyProof.Rows
theorem PySem.Challenge.cw_boxregions_k02_exceptions_apart_holds : PySem.Challenge.rw_boxregions_k02_exceptions_apart.Holds := by
  w_on; o_law
  refine HandSHeadRun.head_any (r := OpenLaw.row PySem.Challenge.rw_boxregions_k02_exceptions_apart) (q := view (OpenLaw.row PySem.Challenge.rw_boxregions_k02_exceptions_apart).prog [25]) (H := BR.K02.hk) (ob := BR.K02.ob) (M := 20000) (loose := BR.K02.loose)
    (d := HandSHeadRun.topDef (OpenLaw.row PySem.Challenge.rw_boxregions_k02_exceptions_apart).prog 25) (kwd := []) BR.K02.ob_eq
    (by kernel_rfl) (fun s => by kernel_rfl) BR.K02.run (by kernel_rfl) (by kernel_rfl) (by kernel_rfl) (by rfl) (by first | assumption | decide +kernel) (by decide +kernel) ⟨rfl, rfl, rfl, rfl, rfl, by decide +kernel⟩ ?hw ?hc
  case hw => w_witness2
  case hc =>
    refine BR.walk_ofG (l := PySem.Challenge.rw_boxregions_k02_exceptions_apart) (n := 63) (k := 4) (x := "_law_script") (CX := L2.CX0) rfl (by decide) (by kernel_rfl) ⟨rfl, by decide, by decide⟩ ?F (fun _ _ _ _ z => z)
    intro w mg fa h Y G hmg0
    obtain ⟨K, KX, c⟩ := Y
    have e : (HandSHeadRun.topDef (OpenLaw.row PySem.Challenge.rw_boxregions_k02_exceptions_apart).prog 25).name = ("law" : PySem.Str) := by kernel_rfl
    refine ⟨K, BR.sp_law K, KX, fun H a ns hl _ _ hS => ⟨a, ns, rfl, hS, hl, fun _ => rfl⟩, fun base _ _ => ?_⟩
    rw [e]
    exact BR.K02.facts (P := (PySem.Challenge.rw_boxregions_k02_exceptions_apart).prog) (w := w) KX G c base

