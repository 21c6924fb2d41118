import PyProof.Rows.All
import Wide.All
import OpenK.AllK
import Wide.FinOn
import HandS.ForMost
import HandS.Defaults
import HandS.Star
import HandS.IsInst
import HandS.Property
import HandS.More
import HandS.Deep
import HandS.TupAny
import HandS.SortInts
import KE.DataMinMax
import PySem.Challenge.RW_ownmarks_k22_whole_lifts_by_scores
import HandS.MakeKwOnly
import HandS.TupLen
import HandS.WordsDict
import HandS.Conv
import HandS.IterNext
import PyProof.DictWalks
import KE.KOwnIter
import HandS.DictComp
import KE.KStateDown
import HandS.Ends
import HandS.Words
import HandS.WordsExc
import HandS.Head0
import HandS.Head1
import HandS.Head2
import HandS.HeadEnd
import HandS.HeadHook1
import HandS.HeadHook2
import KE.KeyNested
import KE.KDictKeyed
import KE.KDictZip
import HandS.Small
set_option Elab.async false
set_option linter.all false
set_option maxRecDepth 100000
set_option maxHeartbeats 4000000
/-! Om, part A: visible, owned and actual heaps; typed relations; the judgements; names, constants, operators, tests. -/
namespace Om
open PySem PySem.Spec PyProof.Rows L2
abbrev Vl := L2.V

/-! ### heaps -/
/-- what may be locked while it is walked -/
def isDk : HO → Bool
  | .dK _ => true
  | .dT _ => true
  | _ => false
/-- A holds what V shows; a dict may be locked there -/
def Le (V A : Hp) : Prop := ∀ a o, V a = some o → A a = some o ∨ (isDk o = true ∧ ∃ ob, A a = some (.frz ob o))
section
variable {V V1 V2 V3 M M1 M2 A A1 A2 A3 : Hp} {p a : Addr} {o u : HO}
theorem Le.of_same (h : Same V A) : Le V A := fun a o e => .inl (h a o e)
theorem Le.pre (s : Same V V1) (l : Le V1 A) : Le V A := fun a o e => l a o (s a o e)
theorem Le.post (l : Le V A) (s : Same A A1) : Le V A1 := fun a o e => by
  rcases l a o e with h | ⟨d, ob, h⟩
  · exact .inl (s a _ h)
  · exact .inr ⟨d, ob, s a _ h⟩
theorem Le.at (l : Le V A) (h : V a = some o) (d : isDk o = false := by rfl) : A a = some o := by
  rcases l a o h with h | ⟨d', _⟩
  · exact h
  · rw [d] at d'
    cases d'
theorem Le.rd (l : Le V A) (h : V a = some o) : Rd A a o := by
  rcases l a o h with h | ⟨_, ob, h⟩
  · exact .inl h
  · exact .inr ⟨ob, h⟩
theorem Le.free (l : Le V A) (h : A a = none) : V a = none := by
  cases q : V a with
  | none => rfl
  | some o =>
    rcases l a o q with e | ⟨_, ob, e⟩ <;> rw [h] at e <;> cases e
theorem same_new {o : HO} (h : A p = none) : Same A (upd A p o) := fun b u e => by
  rw [upd_ne (ne_of_none e h)]
  exact e
theorem Le.new (l : Le V A) (h : A p = none) : Le (upd V p o) (upd A p o) := fun b u e => by
  by_cases hb : b = p
  · subst hb
    rw [upd_same] at e
    cases e
    exact .inl upd_same
  · rw [upd_ne hb] at e
    rcases l b u e with e | ⟨d, ob, e⟩
    · exact .inl (by rw [upd_ne hb]; exact e)
    · exact .inr ⟨d, ob, by rw [upd_ne hb]; exact e⟩

/-- no tuple stands there -/
def NoTup (A : Hp) (b : Addr) : Prop := ∀ xs, A b ≠ some (.tup xs)
/-- pure evaluation: from visible V in A to visible V' in A'; the rest of A stands and stays unseen (but tuples, which nobody changes) -/
structure Grow (V A V' A' : Hp) : Prop where
  vv : Same V V'
  aa : Same A A'
  va : Le V' A'
  fr : ∀ b, V b = none → A b ≠ none → NoTup A b → V' b = none
theorem Grow.refl (l : Le V A) : Grow V A V A := ⟨Same.refl _, Same.refl _, l, fun _ h _ _ => h⟩
theorem Same.ne (s : Same A A1) {b : Addr} (h : A b ≠ none) : A1 b ≠ none := by
  cases q : A b with
  | none => exact absurd q h
  | some o =>
    rw [s b o q]
    exact fun z => nomatch z
theorem NoTup.same (s : Same A A1) {b : Addr} (h : A b ≠ none) (t : NoTup A b) : NoTup A1 b := fun xs z => by
  cases q : A b with
  | none => exact h q
  | some o =>
    rw [s b o q] at z
    cases z
    exact t xs q
theorem Grow.trans (g : Grow V A V1 A1) (h : Grow V1 A1 V2 A2) : Grow V A V2 A2 :=
  ⟨g.vv.trans h.vv, g.aa.trans h.aa, h.va, fun b h1 h2 h3 => h.fr b (g.fr b h1 h2 h3) (Same.ne g.aa h2) (h3.same g.aa h2)⟩
theorem Grow.new (l : Le V A) (h : A p = none) : Grow V A (upd V p o) (upd A p o) := by
  refine ⟨same_new (l.free h), same_new h, l.new h, fun b h1 h2 _ => ?_⟩
  rw [upd_ne (fun z => h2 (by rw [z]; exact h))]
  exact h1
/-- a tuple of the rest is seen -/
theorem Grow.see {xs : List Vl} (l : Le V A) (h : A p = some (.tup xs)) : Grow V A (upd V p (.tup xs)) A := by
  refine ⟨fun b o e => ?_, Same.refl _, fun b o e => ?_, fun b h1 h2 h3 => ?_⟩
  · by_cases hb : b = p
    · subst hb
      rw [upd_same]
      rcases l b o e with z | ⟨_, ob, z⟩ <;> rw [h] at z <;> cases z
      rfl
    · rw [upd_ne hb]
      exact e
  · by_cases hb : b = p
    · subst hb
      rw [upd_same] at e
      cases e
      exact .inl h
    · rw [upd_ne hb] at e
      exact l b o e
  · rw [upd_ne (fun z => by rw [z] at h3; exact h3 xs h)]
    exact h1
/-- what was made on the way is let go -/
theorem Grow.drop (g : Grow V A V1 A1) : Grow V A V A1 := ⟨Same.refl _, g.aa, g.va.pre g.vv, fun _ h _ _ => h⟩

/-- V visible, M owned, A actual -/
structure Ow (V M A : Hp) : Prop where
  va : Le V A
  ma : Same M A
  di : ∀ b, M b ≠ none → V b = none
  mt : ∀ b, NoTup M b
structure Stp (V M A V' M' A' : Hp) : Prop where
  vv : Same V V'
  ow : Ow V' M' A'
  fr : ∀ b, V b = none → M b = none → A b ≠ none → M' b = none ∧ (NoTup A b → V' b = none)
  aa : ∀ b o, M b = none → A b = some o → A' b = some o
theorem Stp.refl (w : Ow V M A) : Stp V M A V M A := ⟨Same.refl _, w, fun _ h1 h2 _ => ⟨h2, fun _ => h1⟩, fun _ _ _ h => h⟩
/-- what is owned has come from the owned, or is new -/
theorem Stp.mm (g : Stp V M A V1 M1 A1) {b : Addr} (h1 : M b = none) (h2 : A b ≠ none) : M1 b = none := by
  cases q : V b with
  | none => exact (g.fr b q h1 h2).1
  | some u =>
    cases r : M1 b with
    | none => rfl
    | some w =>
      have e := g.ow.di b (by rw [r]; exact fun z => nomatch z)
      rw [g.vv b u q] at e
      cases e
theorem Stp.trans (g : Stp V M A V1 M1 A1) (h : Stp V1 M1 A1 V2 M2 A2) : Stp V M A V2 M2 A2 := by
  have ne : ∀ b, M b = none → A b ≠ none → A1 b = A b := fun b h1 h2 => by
    cases q : A b with
    | none => exact absurd q h2
    | some o => exact g.aa b o h1 q
  refine ⟨g.vv.trans h.vv, h.ow, fun b h1 h2 h3 => ?_, fun b o h1 h2 => ?_⟩
  · have m1 := g.mm h2 h3
    have a1 := ne b h2 h3
    refine ⟨h.mm m1 (by rw [a1]; exact h3), fun t => ?_⟩
    have v1 := (g.fr b h1 h2 h3).2 t
    exact (h.fr b v1 m1 (by rw [a1]; exact h3)).2 (fun xs z => t xs (by rw [← a1]; exact z))
  · exact h.aa b o (g.mm h1 (by rw [h2]; exact fun z => nomatch z)) (g.aa b o h1 h2)
theorem Grow.stp (w : Ow V M A) (g : Grow V A V1 A1) : Stp V M A V1 M A1 := by
  refine ⟨g.vv, ⟨g.va, w.ma.trans g.aa, fun b h => ?_, w.mt⟩, fun b h1 h2 h3 => ⟨h2, fun t => g.fr b h1 h3 t⟩, fun b o _ h => g.aa b o h⟩
  refine g.fr b (w.di b h) (Same.ne w.ma h) (NoTup.same w.ma h (w.mt b))
/-- from a call's entry: nothing owned -/
abbrev H0 : Hp := fun _ => none
theorem Ow.start (l : Le V A) : Ow V H0 A := ⟨l, fun _ _ h => (nomatch h), fun _ h => absurd rfl h, fun _ _ h => (nomatch h)⟩
theorem Stp.grow (s : Stp V H0 A V1 M1 A1) : Grow V A V1 A1 := ⟨s.vv, fun b o h => s.aa b o rfl h, s.ow.va, fun b h1 h2 h3 => (s.fr b h1 rfl h2).2 h3⟩
end

/-! ### relations: Lean data and Python values -/
abbrev Rf (α : Type) := α → Vl → Hp → Prop
class Mo {α : Type} (R : Rf α) : Prop where
  mo : ∀ {a : α} {v : Vl} {H H' : Hp}, Same H H' → R a v H → R a v H'
abbrev qI : Rf Int := fun i v _ => v = .int i
abbrev qB : Rf Bool := fun b v _ => v = .bl b
abbrev qN : Rf Unit := fun _ v _ => v = .non
abbrev qS : Rf Str := fun x v _ => v = .str x
instance : Mo qI := ⟨fun _ h => h⟩
instance : Mo qB := ⟨fun _ h => h⟩
instance : Mo qN := ⟨fun _ h => h⟩
instance : Mo qS := ⟨fun _ h => h⟩

/-- a tuple of two, tracked -/
def q2 {α β : Type} (R1 : Rf α) (R2 : Rf β) : Rf (α × β) := fun x v H => ∃ p a b, v = .ref p ∧ H p = some (.tup [a, b]) ∧ R1 x.1 a H ∧ R2 x.2 b H
instance {α β : Type} {R1 : Rf α} {R2 : Rf β} [Mo R1] [Mo R2] : Mo (q2 R1 R2) := ⟨fun s ⟨p, a, b, e, h, r1, r2⟩ => ⟨p, a, b, e, s _ _ h, Mo.mo s r1, Mo.mo s r2⟩⟩
abbrev Al {α : Type} (R : Rf α) (xs : List α) (vs : List Vl) (H : Hp) : Prop := Paired (fun x v => R x v H) xs vs
section
variable {α β : Type} {R : Rf α} {xs ys : List α} {vs us : List Vl} {H H' : Hp}
theorem Al.mo [Mo R] (s : Same H H') (h : Al R xs vs H) : Al R xs vs H' := Paired.mapP h fun _ _ r => Mo.mo s r
theorem Al.len (h : Al R xs vs H) : xs.length = vs.length := Paired.length h
theorem Al.app : ∀ {xs ys : List α} {vs us : List Vl}, Al R xs vs H → Al R ys us H → Al R (xs ++ ys) (vs ++ us) H
  | _, _, _, _, .nil, h => h
  | _, _, _, _, .cons r t, h => .cons r (Al.app t h)
theorem Al.get : ∀ {xs : List α} {vs : List Vl} {i : Nat} {x : α}, Al R xs vs H → xs[i]? = some x → ∃ v, vs[i]? = some v ∧ R x v H
  | _, _, _, _, .nil, e => by simp at e
  | _, _, 0, _, .cons r _, e => by
    simp at e
    subst e
    exact ⟨_, rfl, r⟩
  | _, _, i + 1, x, .cons _ t, e => by
    obtain ⟨v, h1, h2⟩ := Al.get (i := i) (x := x) t (by simpa using e)
    exact ⟨v, by simpa using h1, h2⟩
theorem Al.of : ∀ {xs : List α} {vs : List Vl} {i : Nat} {v : Vl}, Al R xs vs H → vs[i]? = some v → ∃ x, xs[i]? = some x ∧ R x v H
  | _, _, _, _, .nil, e => by simp at e
  | _, _, 0, _, .cons r _, e => by
    simp at e
    subst e
    exact ⟨_, rfl, r⟩
  | _, _, i + 1, v, .cons _ t, e => by
    obtain ⟨x, h1, h2⟩ := Al.of (i := i) (v := v) t (by simpa using e)
    exact ⟨x, by simpa using h1, h2⟩
theorem Al.ints {ns : List Int} : ∀ {vs : List Vl}, Al qI ns vs H → vs = ns.map L2.V.int := by
  induction ns with
  | nil =>
    intro vs h
    cases h
    rfl
  | cons n ns ih =>
    intro vs h
    cases h with
    | cons r t => rw [ih t, List.map_cons, ← show _ = L2.V.int n from r]
theorem al_ints {ns : List Int} : Al qI ns (ns.map L2.V.int) H := by
  induction ns with
  | nil => exact .nil
  | cons n ns ih => exact .cons rfl ih
theorem Al.bls {bs : List Bool} : ∀ {vs : List Vl}, Al qB bs vs H → vs = bs.map L2.V.bl := by
  induction bs with
  | nil =>
    intro vs h
    cases h
    rfl
  | cons n ns ih =>
    intro vs h
    cases h with
    | cons r t => rw [ih t, List.map_cons, ← show _ = L2.V.bl n from r]
end
/-- a list, a tuple of so many -/
def qL {α : Type} (R : Rf α) : Rf (List α) := fun xs v H => ∃ p vs, v = .ref p ∧ H p = some (.lst vs) ∧ Al R xs vs H ∧ xs.length ≤ sizeLine
def qU {α : Type} (R : Rf α) : Rf (List α) := fun xs v H => ∃ p vs, v = .ref p ∧ H p = some (.tup vs) ∧ Al R xs vs H ∧ xs.length ≤ sizeLine
instance {α : Type} {R : Rf α} [Mo R] : Mo (qL R) := ⟨fun s ⟨p, vs, e, h, r, l⟩ => ⟨p, vs, e, s _ _ h, r.mo s, l⟩⟩
instance {α : Type} {R : Rf α} [Mo R] : Mo (qU R) := ⟨fun s ⟨p, vs, e, h, r, l⟩ => ⟨p, vs, e, s _ _ h, r.mo s, l⟩⟩
/-- None or one -/
def qO {α : Type} (R : Rf α) : Rf (Option α)
  | none, v, _ => v = .non
  | some a, v, H => R a v H
instance {α : Type} {R : Rf α} [m : Mo R] : Mo (qO R) := ⟨fun {a v H H'} s h => by
  cases a with
  | none => exact h
  | some a => exact m.mo s h⟩

/-! ### what the machine does with a piece of syntax -/
def RE (X : Cx) (e : Expr) : TE := fun σ H Q => ∀ pins s, Inv X pins σ H s → wpAny (model X.prog X.w) X.A (eval e X.env) (EP X pins σ Q) X.xe s
def RT (X : Cx) (e : Expr) : TT := fun σ H Q => ∀ pins s, Inv X pins σ H s → wpAny (model X.prog X.w) X.A (isTrue e X.env (eval e X.env)) (TP X pins σ Q) X.xe s
def RA (X : Cx) (es : List Expr) : TA := fun σ H Q => ∀ (pos : Pos) pins s, Inv X pins σ H s → wpAny (model X.prog X.w) X.A (spliced (backTo pos (starEach es X.env))) (AP X pins σ Q) X.xe s
def RS (X : Cx) (st : Stmt) : TS := fun D σ H => ∀ pins s, Inv X pins σ H s → wpAny (model X.prog X.w) X.A (exec st X.env) (SP X pins D) X.xe s
def RSs (X : Cx) (b : List Stmt) : TS := fun D σ H => ∀ pins s, Inv X pins σ H s → wpAny (model X.prog X.w) X.A (execs b X.env) (SP X pins D) X.xe s
section
variable {X : Cx} {e : Expr} {es : List Expr} {st : Stmt} {b : List Stmt} {σ : L2.St} {H : Hp}
theorem pe_re : PE X e (RE X e) := ⟨fun pins s _ _ _ I h => h pins s I⟩
theorem pt_rt : PT X e (RT X e) := ⟨fun pins s _ _ _ I h => h pins s I⟩
theorem pa_ra : PA X es (RA X es) := ⟨fun pos pins s _ _ _ I h => h pos pins s I⟩
theorem ps_rs : PS X st (RS X st) := ⟨fun pins s _ _ _ I h => h pins s I⟩
theorem pss_rs : PSs X b (RSs X b) := ⟨fun pins s _ _ _ I h => h pins s I⟩
theorem re_of {t : TE} {Q : VK} (h : PE X e t) (q : t σ H Q) : RE X e σ H Q := fun pins s I => h.run pins s σ H Q I q
theorem rt_of {t : TT} {Q : Bool → Hp → Prop} (h : PT X e t) (q : t σ H Q) : RT X e σ H Q := fun pins s I => h.run pins s σ H Q I q
theorem ra_of {t : TA} {Q : List Vl → Hp → Prop} (h : PA X es t) (q : t σ H Q) : RA X es σ H Q := fun pos pins s I => h.run pos pins s σ H Q I q
theorem rs_of {t : TS} {D : Ends} (h : PS X st t) (q : t D σ H) : RS X st D σ H := fun pins s I => h.run pins s σ H D I q
theorem rss_of {t : TS} {D : Ends} (h : PSs X b t) (q : t D σ H) : RSs X b D σ H := fun pins s I => h.run pins s σ H D I q
end

/-! ### expressions -/
def EvR {α : Type} (X : Cx) (e : Expr) (σ : L2.St) (V : Hp) (R : Rf α) (a : α) : Prop :=
  ∀ V1 A (Q : VK), Same V V1 → Le V1 A → (∀ V2 A2 v, Grow V1 A V2 A2 → R a v V2 → Q v A2) → RE X e σ A Q
def EvT (X : Cx) (e : Expr) (σ : L2.St) (V : Hp) (b : Bool) : Prop :=
  ∀ V1 A (Q : Bool → Hp → Prop), Same V V1 → Le V1 A → (∀ A2, Grow V1 A V1 A2 → Q b A2) → RT X e σ A Q
def EvA (X : Cx) (es : List Expr) (σ : L2.St) (V : Hp) (P : List Vl → Hp → Prop) : Prop :=
  ∀ V1 A (Q : List Vl → Hp → Prop), Same V V1 → Le V1 A → (∀ V2 A2 vs, Grow V1 A V2 A2 → P vs V2 → Q vs A2) → RA X es σ A Q
section
variable {X : Cx} {σ : L2.St} {V V' : Hp} {α β γ : Type} {R : Rf α} {S : Rf β} {T : Rf γ} {a : α} {b : β} {c : γ} {e e1 e2 e3 : Expr} {pos : Pos}
theorem EvR.mono (s : Same V V') (h : EvR X e σ V R a) : EvR X e σ V' R a := fun V1 A Q s1 l q => h V1 A Q (s.trans s1) l q
theorem EvT.mono {b : Bool} (s : Same V V') (h : EvT X e σ V b) : EvT X e σ V' b := fun V1 A Q s1 l q => h V1 A Q (s.trans s1) l q
theorem EvR.conv (h : EvR X e σ V R a) (f : ∀ v V', Same V V' → R a v V' → S b v V') : EvR X e σ V S b := fun V1 A Q s l q => h V1 A Q s l fun V2 A2 v g r => q V2 A2 v g (f v V2 (s.trans g.vv) r)
theorem EvR.eq {a' : α} (h : EvR X e σ V R a) (z : a = a') : EvR X e σ V R a' := z ▸ h
theorem EvT.eq {b b' : Bool} (h : EvT X e σ V b) (z : b = b') : EvT X e σ V b' := z ▸ h
/-- a pure value, from its reading -/
theorem ev_of {t : TE} (h : PE X e t) (q : ∀ V1 A (Q : VK), Same V V1 → Le V1 A → (∀ V2 A2 v, Grow V1 A V2 A2 → R a v V2 → Q v A2) → t σ A Q) : EvR X e σ V R a := fun V1 A Q s l k => re_of h (q V1 A Q s l k)
theorem et_of {b : Bool} {t : TT} (h : PT X e t) (q : ∀ V1 A (Q : Bool → Hp → Prop), Same V V1 → Le V1 A → (∀ A2, Grow V1 A V1 A2 → Q b A2) → t σ A Q) : EvT X e σ V b := fun V1 A Q s l k => rt_of h (q V1 A Q s l k)

theorem ev_var [Mo R] {i : Nat} {x : Str} {v : Vl} (hN : X.N[i]? = some x) (hv : Vis X.env.scope x) (hs : σ[i]? = some (some v)) (r : R a v V) (hd : (x == ("__debug__" : Str)) = false := by decide) (hcd : (x == ("__classdict__" : Str)) = false := by decide) :
    EvR X (.Name x pos) σ V R a := ev_of (pe_var (i := i) hN hv hd hcd) fun V1 A Q s l q => ⟨v, hs, q V1 A v (.refl l) (Mo.mo s r)⟩
theorem ev_int {i : Int} {j} : EvR X (.Constant (.int i) j pos) σ V qI i := ev_of pe_int fun V1 A Q s l q => q V1 A _ (.refl l) rfl
theorem ev_bl {i : Bool} {j} : EvR X (.Constant (.bool i) j pos) σ V qB i := ev_of pe_bl fun V1 A Q s l q => q V1 A _ (.refl l) rfl
theorem ev_non {j} : EvR X (.Constant .none j pos) σ V qN () := ev_of pe_non fun V1 A Q s l q => q V1 A _ (.refl l) rfl
theorem ev_str {x : Str} {j} : EvR X (.Constant (.str x) j pos) σ V qS x := ev_of pe_str fun V1 A Q s l q => q V1 A _ (.refl l) rfl

/-- a two-place operation, by values -/
def Op2 (X : Cx) (f : Value → Value → Sem Value) {α β γ : Type} (R : Rf α) (a : α) (S : Rf β) (b : β) (T : Rf γ) (c : γ) : Prop :=
  ∃ r : R2, OpR X f r ∧ ∀ V1 A x y (Q : VK), Le V1 A → R a x V1 → S b y V1 → (∀ V2 A2 z, Grow V1 A V2 A2 → T c z V2 → Q z A2) → r x y A Q
theorem Op2.conv {γ' : Type} {T' : Rf γ'} {c' : γ'} {f : Value → Value → Sem Value} (h : Op2 X f R a S b T c) (k : ∀ v V', T c v V' → T' c' v V') : Op2 X f R a S b T' c' := by
  obtain ⟨r, hr, h⟩ := h
  exact ⟨r, hr, fun V1 A x y Q l rx ry q => h V1 A x y Q l rx ry fun V2 A2 z g t => q V2 A2 z g (k z V2 t)⟩
theorem ev_bin [Mo R] {op : Operator} (o : Op2 X (binaryOp op) R a S b T c) (h1 : EvR X e1 σ V R a) (h2 : EvR X e2 σ V S b) : EvR X (.BinOp e1 op e2 pos) σ V T c := by
  obtain ⟨r, hr, h⟩ := o
  refine ev_of (pe_op hr pe_re pe_re) fun V1 A Q s l q => ?_
  refine h1 V1 A _ s l fun V2 A2 x g2 r1 => ?_
  refine h2 V2 A2 _ (s.trans g2.vv) g2.va fun V3 A3 y g3 r2 => ?_
  exact h V3 A3 x y Q g3.va (Mo.mo g3.vv r1) r2 fun V4 A4 z g4 r4 => q V4 A4 z ((g2.trans g3).trans g4) r4
theorem ev_cmp [Mo R] {op : CmpOp} (o : Op2 X (compareOp op) R a S b T c) (h1 : EvR X e1 σ V R a) (h2 : EvR X e2 σ V S b) (hm : behindInMarks op e2 = false := by first | exact nomark _ | rfl) : EvR X (.Compare e1 [op] [e2] pos) σ V T c := by
  obtain ⟨r, hr, h⟩ := o
  refine ev_of (pe_cmpR hr pe_re pe_re hm) fun V1 A Q s l q => ?_
  refine h1 V1 A _ s l fun V2 A2 x g2 r1 => ?_
  refine h2 V2 A2 _ (s.trans g2.vv) g2.va fun V3 A3 y g3 r2 => ?_
  exact h V3 A3 x y Q g3.va (Mo.mo g3.vv r1) r2 fun V4 A4 z g4 r4 => q V4 A4 z ((g2.trans g3).trans g4) r4
theorem et_cmp [Mo R] {c : Bool} {op : CmpOp} (o : Op2 X (compareOp op) R a S b qB c) (h1 : EvR X e1 σ V R a) (h2 : EvR X e2 σ V S b) (hm : behindInMarks op e2 = false := by first | exact nomark _ | rfl) : EvT X (.Compare e1 [op] [e2] pos) σ V c := by
  obtain ⟨r, hr, h⟩ := o
  refine et_of (pt_cmpR hr pe_re pe_re hm) fun V1 A Q s l q => ?_
  refine h1 V1 A _ s l fun V2 A2 x g2 r1 => ?_
  refine h2 V2 A2 _ (s.trans g2.vv) g2.va fun V3 A3 y g3 r2 => ?_
  exact h V3 A3 x y _ g3.va (Mo.mo g3.vv r1) r2 fun V4 A4 z g4 r4 => ⟨c, r4, q A4 ((g2.trans g3).trans g4).drop⟩
theorem ev_chain [Mo R] [Mo S] {γ' : Type} {T' : Rf γ'} {d : γ'} {k1 k2 : Bool} {op op' : CmpOp} (o : Op2 X (compareOp op) R a S b qB k1) (o' : Op2 X (compareOp op') S b T' d qB k2) (h1 : EvR X e1 σ V R a) (h2 : EvR X e2 σ V S b) (h3 : EvR X e3 σ V T' d)
    (hm : lastMarks [op, op'] [e2, e3] = false := by with_unfolding_all rfl) : EvR X (.Compare e1 [op, op'] [e2, e3] pos) σ V qB (k1 && k2) := by
  obtain ⟨r, hr, h⟩ := o
  obtain ⟨r', hr', h'⟩ := o'
  refine ev_of (pe_chain hr hr' pe_re pe_re pe_re hm) fun V1 A Q s l q => ?_
  refine h1 V1 A _ s l fun V2 A2 x g2 r1 => ?_
  refine h2 V2 A2 _ (s.trans g2.vv) g2.va fun V3 A3 y g3 r2 => ?_
  refine h V3 A3 x y _ g3.va (Mo.mo g3.vv r1) r2 fun V4 A4 z g4 r4 => ⟨k1, r4, ?_⟩
  cases k1 with
  | false => exact iteF (q V4 A4 _ ((g2.trans g3).trans g4) rfl)
  | true =>
    refine iteT (h3 V4 A4 _ (((s.trans g2.vv).trans g3.vv).trans g4.vv) g4.va fun V5 A5 w g5 r5 => ?_)
    exact h' V5 A5 y w Q g5.va (Mo.mo (g4.vv.trans g5.vv) r2) r5 fun V6 A6 z6 g6 r6 => q V6 A6 z6 ((((g2.trans g3).trans g4).trans g5).trans g6) r6
theorem et_chain [Mo R] [Mo S] {γ' : Type} {T' : Rf γ'} {d : γ'} {k1 k2 : Bool} {op op' : CmpOp} (o : Op2 X (compareOp op) R a S b qB k1) (o' : Op2 X (compareOp op') S b T' d qB k2) (h1 : EvR X e1 σ V R a) (h2 : EvR X e2 σ V S b) (h3 : EvR X e3 σ V T' d)
    (hm : lastMarks [op, op'] [e2, e3] = false := by with_unfolding_all rfl) : EvT X (.Compare e1 [op, op'] [e2, e3] pos) σ V (k1 && k2) := by
  obtain ⟨r, hr, h⟩ := o
  obtain ⟨r', hr', h'⟩ := o'
  refine et_of (pt_chain hr hr' pe_re pe_re pe_re hm) fun V1 A Q s l q => ?_
  refine h1 V1 A _ s l fun V2 A2 x g2 r1 => ?_
  refine h2 V2 A2 _ (s.trans g2.vv) g2.va fun V3 A3 y g3 r2 => ?_
  refine h V3 A3 x y _ g3.va (Mo.mo g3.vv r1) r2 fun V4 A4 z g4 r4 => ⟨k1, r4, ?_⟩
  cases k1 with
  | false => exact iteF ⟨_, rfl, q A4 ((g2.trans g3).trans g4).drop⟩
  | true =>
    refine iteT (h3 V4 A4 _ (((s.trans g2.vv).trans g3.vv).trans g4.vv) g4.va fun V5 A5 w g5 r5 => ?_)
    exact h' V5 A5 y w _ g5.va (Mo.mo (g4.vv.trans g5.vv) r2) r5 fun V6 A6 z6 g6 r6 => ⟨_, r6, q A6 ((((g2.trans g3).trans g4).trans g5).trans g6).drop⟩

/-! operations on ints -/
theorem o2_I0 {f : Value → Value → Sem Value} {g : Int → Int → Int} (h : OpR X f (rI0 fun i j => .int (g i j))) {i j : Int} : Op2 X f qI i qI j qI (g i j) :=
  ⟨_, h, fun V1 A x y Q l rx ry q => ⟨i, j, rx, ry, q V1 A _ (.refl l) rfl⟩⟩
theorem o2_I {f : Value → Value → Sem Value} {C : Int → Int → Prop} {g : Int → Int → Int} (h : OpR X f (rI C fun i j => .int (g i j))) {i j : Int} (c : C i j) : Op2 X f qI i qI j qI (g i j) :=
  ⟨_, h, fun V1 A x y Q l rx ry q => ⟨i, j, rx, ry, c, q V1 A _ (.refl l) rfl⟩⟩
theorem o2_C {f : Value → Value → Sem Value} {g : Int → Int → Bool} (h : OpR X f (rI0 fun i j => .bl (g i j))) {i j : Int} : Op2 X f qI i qI j qB (g i j) :=
  ⟨_, h, fun V1 A x y Q l rx ry q => ⟨i, j, rx, ry, q V1 A _ (.refl l) rfl⟩⟩
theorem o_add {i j : Int} : Op2 X (binaryOp .Add) qI i qI j qI (i + j) := o2_I0 (g := fun i j => i + j) op_add
theorem o_sub {i j : Int} : Op2 X (binaryOp .Sub) qI i qI j qI (i - j) := o2_I0 (g := fun i j => i - j) op_sub
theorem o_mul {i j : Int} (c : CMul i j) : Op2 X (binaryOp .Mult) qI i qI j qI (i * j) := o2_I (g := fun i j => i * j) op_mul c
theorem o_fdiv {i j : Int} (c : CDiv i j) : Op2 X (binaryOp .FloorDiv) qI i qI j qI (i / j) := o2_I (g := fun i j => i / j) op_fdiv c
theorem o_mod {i j : Int} (c : 0 < j) : Op2 X (binaryOp .Mod) qI i qI j qI (i % j) := o2_I (C := fun _ j => 0 < j) (g := fun i j => i % j) op_mod c
theorem o_pow {i j : Int} (c : CPow i j) : Op2 X (binaryOp .Pow) qI i qI j qI (i ^ j.toNat) := o2_I (g := fun i j => i ^ j.toNat) op_pow c
theorem o_lt {i j : Int} : Op2 X (compareOp .Lt) qI i qI j qB (decide (i < j)) := o2_C (g := fun i j => decide (i < j)) op_lt
theorem o_le {i j : Int} : Op2 X (compareOp .LtE) qI i qI j qB (decide (i ≤ j)) := o2_C (g := fun i j => decide (i ≤ j)) op_le
theorem o_gt {i j : Int} : Op2 X (compareOp .Gt) qI i qI j qB (decide (j < i)) := o2_C (g := fun i j => decide (j < i)) op_gt
theorem o_ge {i j : Int} : Op2 X (compareOp .GtE) qI i qI j qB (decide (j ≤ i)) := o2_C (g := fun i j => decide (j ≤ i)) op_ge
theorem o_eqI {i j : Int} : Op2 X (compareOp .Eq) qI i qI j qB (decide (i = j)) :=
  ⟨_, op_eq, fun V1 A x y Q l rx ry q => by
    cases rx
    cases ry
    refine ⟨rfl, q V1 A _ (.refl l) ?_⟩
    show L2.V.bl _ = L2.V.bl _
    congr 1
    simp⟩
theorem o_neI {i j : Int} : Op2 X (compareOp .NotEq) qI i qI j qB (!decide (i = j)) :=
  ⟨_, op_ne, fun V1 A x y Q l rx ry q => by
    cases rx
    cases ry
    refine ⟨rfl, q V1 A _ (.refl l) ?_⟩
    show L2.V.bl _ = L2.V.bl _
    congr 1
    simp⟩
theorem o_eqS {i j : Str} : Op2 X (compareOp .Eq) qS i qS j qB (decide (i = j)) :=
  ⟨_, op_eq, fun V1 A x y Q l rx ry q => by
    cases rx
    cases ry
    refine ⟨rfl, q V1 A _ (.refl l) ?_⟩
    show L2.V.bl _ = L2.V.bl _
    congr 1
    simp⟩
theorem o_neS {i j : Str} : Op2 X (compareOp .NotEq) qS i qS j qB (!decide (i = j)) :=
  ⟨_, op_ne, fun V1 A x y Q l rx ry q => by
    cases rx
    cases ry
    refine ⟨rfl, q V1 A _ (.refl l) ?_⟩
    show L2.V.bl _ = L2.V.bl _
    congr 1
    simp⟩

/-! ### tests, and, or, not -/
theorem et_val {b : Bool} (h : EvR X e σ V qB b) (he : ∀ whole, isTrue e X.env whole = (do let v ← whole; standAt e.pos; holding [v] (truthy v)) := by intro _; rfl) : EvT X e σ V b :=
  et_of (pt_val pe_re he) fun V1 A Q s l q => h V1 A _ s l fun V2 A2 v g r => ⟨b, r, q A2 g.drop⟩
theorem et_not {b : Bool} (h : EvT X e σ V b) : EvT X (.UnaryOp .Not e pos) σ V (!b) :=
  et_of (pt_not pt_rt) fun V1 A Q s l q => h V1 A _ s l q
/-- a chain of and, of or: as a test -/
def EvW (X : Cx) (e : Expr) (σ : L2.St) (V : Hp) (b : Bool) : Prop := ∃ t, PW X e t ∧ ∀ V1 A (Q : Bool → Hp → Prop), Same V V1 → Le V1 A → (∀ A2, Grow V1 A V1 A2 → Q b A2) → t σ A Q
theorem et_w {b : Bool} (h : EvW X e σ V b) : EvT X e σ V b := by
  obtain ⟨t, h, q⟩ := h
  exact et_of h.pt q
theorem ew_and1 {b : Bool} (h : EvT X e σ V b) : EvW X (.BoolOp .And [e] pos) σ V b := ⟨_, pw_and1 pt_rt, h⟩
theorem ew_or1 {b : Bool} (h : EvT X e σ V b) : EvW X (.BoolOp .Or [e] pos) σ V b := ⟨_, pw_or1 pt_rt, h⟩
theorem ew_and {b c : Bool} {rest : List Expr} (h : EvT X e σ V b) (k : b = true → EvW X (.BoolOp .And (e2 :: rest) pos) σ V c) : EvW X (.BoolOp .And (e :: e2 :: rest) pos) σ V (b && c) := by
  cases b with
  | false =>
    have hb : ∃ t, PW X (.BoolOp .And (e2 :: rest) pos) t := ⟨fun _ _ _ => False, ⟨fun _ _ _ _ _ _ _ h => h.elim⟩⟩
    obtain ⟨t, hb⟩ := hb
    exact ⟨_, pw_and pt_rt hb, fun V1 A Q s l q => h V1 A _ s l fun A2 g => iteF (q A2 g)⟩
  | true =>
    obtain ⟨t, hb, k⟩ := k rfl
    exact ⟨_, pw_and pt_rt hb, fun V1 A Q s l q => h V1 A _ s l fun A2 g => iteT (k V1 A2 Q s g.va fun A3 g3 => q A3 (g.trans g3))⟩
theorem ew_or {b c : Bool} {rest : List Expr} (h : EvT X e σ V b) (k : b = false → EvW X (.BoolOp .Or (e2 :: rest) pos) σ V c) : EvW X (.BoolOp .Or (e :: e2 :: rest) pos) σ V (b || c) := by
  cases b with
  | true =>
    have hb : ∃ t, PW X (.BoolOp .Or (e2 :: rest) pos) t := ⟨fun _ _ _ => False, ⟨fun _ _ _ _ _ _ _ h => h.elim⟩⟩
    obtain ⟨t, hb⟩ := hb
    exact ⟨_, pw_or pt_rt hb, fun V1 A Q s l q => h V1 A _ s l fun A2 g => iteT (q A2 g)⟩
  | false =>
    obtain ⟨t, hb, k⟩ := k rfl
    exact ⟨_, pw_or pt_rt hb, fun V1 A Q s l q => h V1 A _ s l fun A2 g => iteF (k V1 A2 Q s g.va fun A3 g3 => q A3 (g.trans g3))⟩
/-- .. as values (True, False) -/
theorem ev_one {op} (h : EvR X e σ V R a) : EvR X (.BoolOp op [e] pos) σ V R a := ev_of (pe_one pe_re) h
theorem pe_any : PE X e (fun _ _ _ => False) := ⟨fun _ _ _ _ _ _ h => h.elim⟩
theorem ev_and {b c : Bool} {rest : List Expr} (h : EvR X e σ V qB b) (k : b = true → EvR X (.BoolOp .And (e2 :: rest) pos) σ V qB c) : EvR X (.BoolOp .And (e :: e2 :: rest) pos) σ V qB (b && c) := by
  refine ev_of (pe_and pe_re pe_re) fun V1 A Q s l q => h V1 A _ s l fun V2 A2 v g r => ⟨b, r, ?_⟩
  cases b with
  | false => exact iteF (q V2 A2 _ g rfl)
  | true => exact iteT (k rfl V2 A2 Q (s.trans g.vv) g.va fun V3 A3 v3 g3 r3 => q V3 A3 v3 (g.trans g3) r3)
theorem ev_or {b c : Bool} {rest : List Expr} (h : EvR X e σ V qB b) (k : b = false → EvR X (.BoolOp .Or (e2 :: rest) pos) σ V qB c) : EvR X (.BoolOp .Or (e :: e2 :: rest) pos) σ V qB (b || c) := by
  refine ev_of (pe_or pe_re pe_re) fun V1 A Q s l q => h V1 A _ s l fun V2 A2 v g r => ⟨b, r, ?_⟩
  cases b with
  | true => exact iteT (q V2 A2 _ g rfl)
  | false => exact iteF (k rfl V2 A2 Q (s.trans g.vv) g.va fun V3 A3 v3 g3 r3 => q V3 A3 v3 (g.trans g3) r3)
theorem ev_not {b : Bool} (h : EvR X e σ V qB b) : EvR X (.UnaryOp .Not e pos) σ V qB (!b) :=
  ev_of (pe_not pe_re) fun V1 A Q s l q => h V1 A _ s l fun V2 A2 v g r => ⟨b, r, q V2 A2 _ g rfl⟩
theorem ev_if {b : Bool} {t : Expr} (h : EvT X t σ V b) (h1 : b = true → EvR X e1 σ V R a) (h2 : b = false → EvR X e2 σ V R a) : EvR X (.IfExp t e1 e2 pos) σ V R a := by
  refine ev_of (pe_ifExp pt_rt pe_re pe_re) fun V1 A Q s l q => h V1 A _ s l fun A2 g => ?_
  cases b with
  | true => exact iteT (h1 rfl V1 A2 Q s g.va fun V3 A3 v3 g3 r3 => q V3 A3 v3 (g.trans g3) r3)
  | false => exact iteF (h2 rfl V1 A2 Q s g.va fun V3 A3 v3 g3 r3 => q V3 A3 v3 (g.trans g3) r3)
end
end Om
set_option maxHeartbeats 4000000
/-! Om, part B: argument lists, displays, subscripts, built-ins, calls of defs, promises. -/
namespace Om
open PySem PySem.Spec PyProof.Rows L2

section
variable {X : Cx} {σ : L2.St} {V V' : Hp} {α β γ : Type} {R : Rf α} {S : Rf β} {T : Rf γ} {a : α} {b : β} {c : γ} {e e1 e2 e3 : Expr} {es : List Expr} {pos sp : Pos}
/-! ### argument lists -/
theorem ea_of {P : List Vl → Hp → Prop} {t : TA} (h : PA X es t) (q : ∀ V1 A (Q : List Vl → Hp → Prop), Same V V1 → Le V1 A → (∀ V2 A2 vs, Grow V1 A V2 A2 → P vs V2 → Q vs A2) → t σ A Q) : EvA X es σ V P := fun V1 A Q s l k => ra_of h (q V1 A Q s l k)
theorem ea_nil : EvA X [] σ V (fun vs _ => vs = []) := ea_of pa_nil fun V1 A Q s l q => q V1 A [] (.refl l) rfl
theorem ea_cons [Mo R] {P : List Vl → Hp → Prop} (h : EvR X e σ V R a) (t : EvA X es σ V P) (hs : starEach (e :: es) X.env = (false, eval e X.env) :: starEach es X.env := by rfl) : EvA X (e :: es) σ V (fun vs V' => ∃ v r, vs = v :: r ∧ R a v V' ∧ P r V') :=
  ea_of (pa_cons pe_re pa_ra hs) fun V1 A Q s l q => h V1 A _ s l fun V2 A2 v g r => t V2 A2 _ (s.trans g.vv) g.va fun V3 A3 vs g3 p => q V3 A3 _ (g.trans g3) ⟨v, vs, rfl, Mo.mo g3.vv r, p⟩
/-- all of one kind -/
def EvL (X : Cx) (es : List Expr) (σ : L2.St) (V : Hp) (R : Rf α) (xs : List α) : Prop := EvA X es σ V (fun vs V' => Al R xs vs V')
theorem el_nil : EvL X [] σ V R [] := fun V1 A Q s l q => ea_nil V1 A Q s l fun V2 A2 vs g e => q V2 A2 vs g (by rw [e]; exact .nil)
theorem el_cons [Mo R] {xs : List α} (h : EvR X e σ V R a) (t : EvL X es σ V R xs) (hs : starEach (e :: es) X.env = (false, eval e X.env) :: starEach es X.env := by rfl) : EvL X (e :: es) σ V R (a :: xs) :=
  ea_of (pa_cons pe_re pa_ra hs) fun V1 A Q s l q => h V1 A _ s l fun V2 A2 v g r => t V2 A2 _ (s.trans g.vv) g.va fun V3 A3 vs g3 p => q V3 A3 _ (g.trans g3) (.cons (Mo.mo g3.vv r) p)
theorem el_star [Mo R] {xs ys : List α} (h : EvR X e σ V (qU R) xs) (t : EvL X es σ V R ys) (hs : starEach (.Starred e sp :: es) X.env = (true, eval e X.env) :: starEach es X.env := by rfl) : EvL X (.Starred e sp :: es) σ V R (xs ++ ys) :=
  ea_of (StX.pa_star pe_re pa_ra hs) fun V1 A Q s l q => h V1 A _ s l fun V2 A2 v g ⟨p, vs, ev, hp, al, _⟩ => ⟨p, vs, ev, .inl (SqT.of (g.va.at hp)),
    t V2 A2 _ (s.trans g.vv) g.va fun V3 A3 us g3 p => q V3 A3 _ (g.trans g3) ((al.mo g3.vv).app p)⟩
/-! ### displays -/
theorem ev_tup2 [Mo R] [Mo S] {k} (h1 : EvR X e1 σ V R a) (h2 : EvR X e2 σ V S b) (hs : starEach [e1, e2] X.env = (false, eval e1 X.env) :: starEach [e2] X.env := by rfl) (hs2 : starEach [e2] X.env = (false, eval e2 X.env) :: starEach [] X.env := by rfl) :
    EvR X (.Tuple [e1, e2] k pos) σ V (q2 R S) (a, b) := by
  refine ev_of (pe_tup (pa_cons pe_re (pa_cons pe_re pa_nil hs2) hs)) fun V1 A Q s l q => ?_
  refine h1 V1 A _ s l fun V2 A2 v g r1 => h2 V2 A2 _ (s.trans g.vv) g.va fun V3 A3 u g3 r2 => ⟨by show 2 ≤ sizeLine; decide, fun p hp => ?_⟩
  have gn : Grow V3 A3 _ _ := Grow.new (o := .tup [v, u]) g3.va hp
  exact q _ _ _ ((g.trans g3).trans gn) ⟨p, v, u, rfl, upd_same, Mo.mo (g3.vv.trans gn.vv) r1, Mo.mo gn.vv r2⟩
theorem ev_lst [Mo R] {xs : List α} (h : EvL X es σ V R xs) (hl : xs.length ≤ sizeLine) : EvR X (.List es pos) σ V (qL R) xs := by
  refine ev_of (pe_lst pa_ra) fun V1 A Q s l q => h V1 A _ s l fun V2 A2 vs g al => ⟨by rw [← al.len]; exact hl, fun p hp => ?_⟩
  have gn : Grow V2 A2 _ _ := Grow.new (o := .lst vs) g.va hp
  exact q _ _ _ (g.trans gn) ⟨p, vs, rfl, upd_same, al.mo gn.vv, hl⟩
theorem ev_tupU [Mo R] {xs : List α} {k} (h : EvL X es σ V R xs) (hl : xs.length ≤ sizeLine) : EvR X (.Tuple es k pos) σ V (qU R) xs := by
  refine ev_of (pe_tup pa_ra) fun V1 A Q s l q => h V1 A _ s l fun V2 A2 vs g al => ⟨by rw [← al.len]; exact hl, fun p hp => ?_⟩
  have gn : Grow V2 A2 _ _ := Grow.new (o := .tup vs) g.va hp
  exact q _ _ _ (g.trans gn) ⟨p, vs, rfl, upd_same, al.mo gn.vv, hl⟩
/-! ### subscripts -/
theorem ev_ix0 {j p} (h : EvR X e σ V (q2 R S) (a, b)) : EvR X (.Subscript e (.Constant (.int 0) j p) pos) σ V R a :=
  ev_of (pe_ix ix_tup pe_re pe_int (fun _ _ => rfl)) fun V1 A Q s l q => h V1 A _ s l fun V2 A2 v g ⟨p, x, y, ev, hp, r1, r2⟩ => ⟨p, [x, y], 0, x, ev, rfl, SqT.of (g.va.at hp), rfl, q V2 A2 x g r1⟩
theorem ev_ix1 {j p} (h : EvR X e σ V (q2 R S) (a, b)) : EvR X (.Subscript e (.Constant (.int 1) j p) pos) σ V S b :=
  ev_of (pe_ix ix_tup pe_re pe_int (fun _ _ => rfl)) fun V1 A Q s l q => h V1 A _ s l fun V2 A2 v g ⟨p, x, y, ev, hp, r1, r2⟩ => ⟨p, [x, y], 1, y, ev, rfl, SqT.of (g.va.at hp), rfl, q V2 A2 y g r2⟩
/-- xs[i], i from 0 -/
theorem ev_ixL [Mo R] {xs : List α} {i : Nat} (h1 : EvR X e1 σ V (qL R) xs) (h2 : EvR X e2 σ V qI (i : Int)) (hx : xs[i]? = some a) (hs : PlainIx e2 := by exact fun _ _ => rfl) : EvR X (.Subscript e1 e2 pos) σ V R a :=
  ev_of (pe_ix ix_list pe_re pe_re hs) fun V1 A Q s l q => h1 V1 A _ s l fun V2 A2 v g ⟨p, vs, ev, hp, al, _⟩ => h2 V2 A2 _ (s.trans g.vv) g.va fun V3 A3 u g3 r2 => by
    obtain ⟨w, hw, rw'⟩ := al.get hx
    exact ⟨p, vs, i, w, ev, r2, SqL.of (g3.aa _ _ (g.va.at hp)), atI_nat hw, q V3 A3 w (g.trans g3) (Mo.mo g3.vv rw')⟩
theorem ev_ixU [Mo R] {xs : List α} {i : Nat} (h1 : EvR X e1 σ V (qU R) xs) (h2 : EvR X e2 σ V qI (i : Int)) (hx : xs[i]? = some a) (hs : PlainIx e2 := by exact fun _ _ => rfl) : EvR X (.Subscript e1 e2 pos) σ V R a :=
  ev_of (pe_ix ix_tup pe_re pe_re hs) fun V1 A Q s l q => h1 V1 A _ s l fun V2 A2 v g ⟨p, vs, ev, hp, al, _⟩ => h2 V2 A2 _ (s.trans g.vv) g.va fun V3 A3 u g3 r2 => by
    obtain ⟨w, hw, rw'⟩ := al.get hx
    exact ⟨p, vs, i, w, ev, r2, SqT.of (g3.aa _ _ (g.va.at hp)), atI_nat hw, q V3 A3 w (g.trans g3) (Mo.mo g3.vv rw')⟩
/-- xs[-1] -/
theorem ev_last [Mo R] {xs : List α} {j p p'} (h1 : EvR X e1 σ V (qU R) xs) (hx : xs.getLast? = some a) : EvR X (.Subscript e1 (.UnaryOp .USub (.Constant (.int 1) j p) p') pos) σ V R a :=
  ev_of (pe_ix ix_tup pe_re (pe_un un_neg pe_int) (fun _ _ => rfl)) fun V1 A Q s l q => h1 V1 A _ s l fun V2 A2 v g ⟨p, vs, ev, hp, al, _⟩ => by
    have hx2 : xs[xs.length - 1]? = some a := by
      rw [← List.getLast?_eq_getElem?]
      exact hx
    obtain ⟨w, hw, rw'⟩ := al.get hx2
    have hlen := al.len
    have e1 : atI vs (-1) = some w := by
      rw [hlen] at hw
      have hw2 : vs.getLast? = some w := by
        rw [List.getLast?_eq_getElem?]
        exact hw
      obtain ⟨ys, hy⟩ := List.getLast?_eq_some_iff.mp hw2
      rw [hy]
      exact atI_last ys w
    exact ⟨1, rfl, p, vs, -1, w, ev, rfl, SqT.of (g.va.at hp), e1, q V2 A2 w g rw'⟩

/-! ### built-ins, by values -/
def Fn1 (X : Cx) (f : Value) (R : Rf α) (a : α) (S : Rf β) (b : β) : Prop :=
  ∃ r : List Vl → Hp → VK → Prop, CallR X f r ∧ ∀ V1 A x (Q : VK), Le V1 A → R a x V1 → (∀ V2 A2 z, Grow V1 A V2 A2 → S b z V2 → Q z A2) → r [x] A Q
def Fn2 (X : Cx) (f : Value) (R : Rf α) (a : α) (S : Rf β) (b : β) (T : Rf γ) (c : γ) : Prop :=
  ∃ r : List Vl → Hp → VK → Prop, CallR X f r ∧ ∀ V1 A x y (Q : VK), Le V1 A → R a x V1 → S b y V1 → (∀ V2 A2 z, Grow V1 A V2 A2 → T c z V2 → Q z A2) → r [x, y] A Q
/-- f(e), f a built-in function; a built-in class -/
theorem ev_b1 {x : Str} {id : String} {p : Pos} (f : Fn1 X (.builtin id) R a S b) (hg : Gl X x) (hm : X.mg x = none) (hv : bootBuiltins x = some (.builtin id)) (h : EvR X e σ V R a) (hn : x ≠ "__name__" := by decide) (hdb : (x == ("__debug__" : Str)) = false := by decide)
    (he : starEach [e] X.env = (false, eval e X.env) :: starEach [] X.env := by rfl) : EvR X (.Call (.Name x p) [e] [] pos) σ V S b := by
  obtain ⟨r, hr, k⟩ := f
  exact ev_of (pe_callB hr hg hm hv (pa_cons pe_re pa_nil he) hn hdb he rfl) fun V1 A Q s l q => h V1 A _ s l fun V2 A2 v g r1 => k V2 A2 v Q g.va r1 fun V3 A3 z g3 rz => q V3 A3 z (g.trans g3) rz
theorem ev_t1 {x : Str} {id : String} {p : Pos} (f : Fn1 X (.type id) R a S b) (hg : Gl X x) (hm : X.mg x = none) (hv : bootBuiltins x = some (.type id)) (h : EvR X e σ V R a) (hn : x ≠ "__name__" := by decide) (hdb : (x == ("__debug__" : Str)) = false := by decide)
    (he : starEach [e] X.env = (false, eval e X.env) :: starEach [] X.env := by rfl) : EvR X (.Call (.Name x p) [e] [] pos) σ V S b := by
  obtain ⟨r, hr, k⟩ := f
  exact ev_of (pe_callTy hr hg hm hv (pa_cons pe_re pa_nil he) hn hdb he rfl) fun V1 A Q s l q => h V1 A _ s l fun V2 A2 v g r1 => k V2 A2 v Q g.va r1 fun V3 A3 z g3 rz => q V3 A3 z (g.trans g3) rz
theorem ev_b2 [Mo R] {x : Str} {id : String} {p : Pos} (f : Fn2 X (.builtin id) R a S b T c) (hg : Gl X x) (hm : X.mg x = none) (hv : bootBuiltins x = some (.builtin id)) (h1 : EvR X e1 σ V R a) (h2 : EvR X e2 σ V S b) (hn : x ≠ "__name__" := by decide)
    (hdb : (x == ("__debug__" : Str)) = false := by decide) (he : starEach [e1, e2] X.env = (false, eval e1 X.env) :: starEach [e2] X.env := by rfl) (he2 : starEach [e2] X.env = (false, eval e2 X.env) :: starEach [] X.env := by rfl)
    (hpl : (backTo pos (starEach [e2] X.env)).any (·.1) = false := by rfl) : EvR X (.Call (.Name x p) [e1, e2] [] pos) σ V T c := by
  obtain ⟨r, hr, k⟩ := f
  exact ev_of (pe_callB hr hg hm hv (pa_cons pe_re (pa_cons pe_re pa_nil he2) he) hn hdb he hpl) fun V1 A Q s l q => h1 V1 A _ s l fun V2 A2 v g r1 => h2 V2 A2 _ (s.trans g.vv) g.va fun V3 A3 u g3 r2 =>
    k V3 A3 v u Q g3.va (Mo.mo g3.vv r1) r2 fun V4 A4 z g4 rz => q V4 A4 z ((g.trans g3).trans g4) rz

theorem f_lenL [Mo R] {xs : List α} : Fn1 X (.builtin "len") (qL R) xs qI (xs.length : Int) :=
  ⟨_, call_len_seq, fun V1 A x Q l ⟨p, vs, ev, hp, al, _⟩ q => ⟨p, vs, by rw [ev], .inl (SqL.of (l.at hp)), q V1 A _ (.refl l) (by rw [al.len])⟩⟩
theorem f_lenU [Mo R] {xs : List α} : Fn1 X (.builtin "len") (qU R) xs qI (xs.length : Int) :=
  ⟨_, call_len_seq, fun V1 A x Q l ⟨p, vs, ev, hp, al, _⟩ q => ⟨p, vs, by rw [ev], .inr (SqT.of (l.at hp)), q V1 A _ (.refl l) (by rw [al.len])⟩⟩
theorem f_len2 {x : α × β} : Fn1 X (.builtin "len") (q2 R S) x qI 2 :=
  ⟨_, call_len_seq, fun V1 A x Q l ⟨p, u, v, ev, hp, _⟩ q => ⟨p, [u, v], by rw [ev], .inr (SqT.of (l.at hp)), q V1 A _ (.refl l) rfl⟩⟩
theorem f_lenS {x : Str} (h : x.length ≤ sizeLine) : Fn1 X (.builtin "len") qS x qI (x.length : Int) :=
  ⟨_, call_len_str, fun V1 A v Q l r q => ⟨x, by rw [show v = _ from r], h, q V1 A _ (.refl l) rfl⟩⟩
theorem f_intI {i : Int} : Fn1 X (.type "int") qI i qI i :=
  ⟨_, call_int1, fun V1 A v Q l r q => .inl ⟨i, by rw [show v = _ from r], q V1 A _ (.refl l) rfl⟩⟩
theorem f_max2 (hc : X.calm = true) {i j : Int} : Fn2 X (.builtin "max") qI i qI j qI (if j > i then j else i) :=
  ⟨_, call_max2 hc, fun V1 A v u Q l r1 r2 q => ⟨i, j, by rw [show v = _ from r1, show u = _ from r2], q V1 A _ (.refl l) rfl⟩⟩
theorem f_min2 (hc : X.calm = true) {i j : Int} : Fn2 X (.builtin "min") qI i qI j qI (if j < i then j else i) :=
  ⟨_, call_min2 hc, fun V1 A v u Q l r1 r2 q => ⟨i, j, by rw [show v = _ from r1, show u = _ from r2], q V1 A _ (.refl l) rfl⟩⟩
theorem f_sum (hc : X.calm = true) {ns : List Int} : Fn1 X (.builtin "sum") (qL qI) ns qI ns.sum :=
  ⟨_, cr_sum hc, fun V1 A x Q l ⟨p, vs, ev, hp, al, _⟩ q => ⟨p, ns, by rw [ev], SqL.of (by rw [← al.ints]; exact l.at hp), q V1 A _ (.refl l) rfl⟩⟩
theorem f_max (hc : X.calm = true) {ns : List Int} {m : Int} (hm : m ∈ ns) (hx : ∀ y, y ∈ ns → y ≤ m) : Fn1 X (.builtin "max") (qL qI) ns qI m :=
  ⟨_, cr_max hc, fun V1 A x Q l ⟨p, vs, ev, hp, al, _⟩ q => ⟨p, ns, by rw [ev], SqL.of (by rw [← al.ints]; exact l.at hp), List.length_pos_of_mem hm, fun k hk hle => by
    have e : k = m := Int.le_antisymm (hx k hk) (hle m hm)
    rw [e]
    exact q V1 A _ (.refl l) rfl⟩⟩
theorem f_min (hc : X.calm = true) {ns : List Int} {m : Int} (hm : m ∈ ns) (hx : ∀ y, y ∈ ns → m ≤ y) : Fn1 X (.builtin "min") (qL qI) ns qI m :=
  ⟨_, cr_min hc, fun V1 A x Q l ⟨p, vs, ev, hp, al, _⟩ q => ⟨p, ns, by rw [ev], SqL.of (by rw [← al.ints]; exact l.at hp), List.length_pos_of_mem hm, fun k hk hle => by
    have e : k = m := Int.le_antisymm (hle m hm) (hx k hk)
    rw [e]
    exact q V1 A _ (.refl l) rfl⟩⟩
theorem f_all (hc : X.calm = true) {bs : List Bool} : Fn1 X (.builtin "all") (qL qB) bs qB (bs.all id) :=
  ⟨_, cr_all hc, fun V1 A x Q l ⟨p, vs, ev, hp, al, _⟩ q => ⟨p, bs, by rw [ev], SqL.of (by rw [← al.bls]; exact l.at hp), q V1 A _ (.refl l) rfl⟩⟩
/-- list(..), tuple(..) of lists and tuples -/
theorem f_listL [Mo R] {xs : List α} : Fn1 X (.type "list") (qL R) xs (qL R) xs :=
  ⟨_, call_list_of, fun V1 A x Q l ⟨p, vs, ev, hp, al, hl⟩ q => ⟨p, vs, by rw [ev], .inl (SqL.of (l.at hp)), fun t ht => by
    have gn : Grow V1 A _ _ := Grow.new (o := .lst vs) l ht
    exact q _ _ _ gn ⟨t, vs, rfl, upd_same, al.mo gn.vv, hl⟩⟩⟩
theorem f_listU [Mo R] {xs : List α} : Fn1 X (.type "list") (qU R) xs (qL R) xs :=
  ⟨_, call_list_of, fun V1 A x Q l ⟨p, vs, ev, hp, al, hl⟩ q => ⟨p, vs, by rw [ev], .inr (SqT.of (l.at hp)), fun t ht => by
    have gn : Grow V1 A _ _ := Grow.new (o := .lst vs) l ht
    exact q _ _ _ gn ⟨t, vs, rfl, upd_same, al.mo gn.vv, hl⟩⟩⟩
theorem f_tupL [Mo R] {xs : List α} : Fn1 X (.type "tuple") (qL R) xs (qU R) xs :=
  ⟨_, call_tuple_of, fun V1 A x Q l ⟨p, vs, ev, hp, al, hl⟩ q => ⟨p, vs, by rw [ev], .inl ⟨SqL.of (l.at hp), fun t ht => by
    have gn : Grow V1 A _ _ := Grow.new (o := .tup vs) l ht
    exact q _ _ _ gn ⟨t, vs, rfl, upd_same, al.mo gn.vv, hl⟩⟩⟩⟩
end

/-! ### promises of pure defs -/
section
variable {α β γ δ ε ρ : Type}
def sp1 (R1 : Rf α) (pre : α → Prop) (S : Rf ρ) (g : α → ρ) : Sp := fun vs H Q _ => ∃ v1 a V, vs = [v1] ∧ Le V H ∧ R1 a v1 V ∧ pre a ∧ ∀ V' H' v, Grow V H V' H' → S (g a) v V' → Q v H'
def sp2 (R1 : Rf α) (R2 : Rf β) (pre : α → β → Prop) (S : Rf ρ) (g : α → β → ρ) : Sp := fun vs H Q _ => ∃ v1 v2 a b V, vs = [v1, v2] ∧ Le V H ∧ R1 a v1 V ∧ R2 b v2 V ∧ pre a b ∧ ∀ V' H' v, Grow V H V' H' → S (g a b) v V' → Q v H'
def sp3 (R1 : Rf α) (R2 : Rf β) (R3 : Rf γ) (pre : α → β → γ → Prop) (S : Rf ρ) (g : α → β → γ → ρ) : Sp := fun vs H Q _ => ∃ v1 v2 v3 a b c V, vs = [v1, v2, v3] ∧ Le V H ∧ R1 a v1 V ∧ R2 b v2 V ∧ R3 c v3 V ∧ pre a b c ∧
  ∀ V' H' v, Grow V H V' H' → S (g a b c) v V' → Q v H'
def sp4 (R1 : Rf α) (R2 : Rf β) (R3 : Rf γ) (R4 : Rf δ) (pre : α → β → γ → δ → Prop) (S : Rf ρ) (g : α → β → γ → δ → ρ) : Sp := fun vs H Q _ => ∃ v1 v2 v3 v4 a b c d V, vs = [v1, v2, v3, v4] ∧ Le V H ∧ R1 a v1 V ∧ R2 b v2 V ∧ R3 c v3 V ∧ R4 d v4 V ∧ pre a b c d ∧
  ∀ V' H' v, Grow V H V' H' → S (g a b c d) v V' → Q v H'
end
/-- a def of the module that keeps a promise, callable at depth k -/
structure Gfn (P : Program) (w : World) (K : PySem.W.Frag) (mg : Str → Option Value) (base : Heap) (x : Str) (k : Nat) (sp : Sp) : Prop where
  ex : ∃ (f : Addr) (fd : FuncData) (ps : List Str), FnOk P w K mg base CX0 k f fd ps sp ∧ mg x = some (.ref f) ∧ PySem.W.keepIn K (.ref f) = true ∧ Binds K fd ps []
/-- from within X -/
structure Cal (X : Cx) (x : Str) (sp : Sp) : Prop where
  ex : ∃ (k : Nat) (f : Addr) (fd : FuncData) (ps : List Str), FnOk X.prog X.w X.K X.mg X.base CX0 k f fd ps sp ∧ Room k X.A ∧ Gl X x ∧ X.mg x = some (.ref f) ∧ PySem.W.keepIn X.K (.ref f) = true ∧ Binds X.K fd ps []
theorem Gfn.cal {X : Cx} {x : Str} {j k : Nat} {sp : Sp} (g : Gfn X.prog X.w X.K X.mg X.base x k sp) (hr : Room j X.A) (hg : Gl X x) (hk : k ≤ j := by decide) : Cal X x sp := by
  obtain ⟨f, fd, ps, F, hm, kp, b⟩ := g.ex
  exact ⟨k, f, fd, ps, F, hr.mono hk, hg, hm, kp, b⟩
section
variable {X : Cx} {σ : L2.St} {V V' : Hp} {α β γ δ ρ : Type} {R1 : Rf α} {R2 : Rf β} {R3 : Rf γ} {R4 : Rf δ} {S : Rf ρ} {a : α} {b : β} {c : γ} {d : δ} {e1 e2 e3 e4 : Expr} {pos p : Pos} {x : Str}
theorem ev_c1 {pre : α → Prop} {g : α → ρ} (C : Cal X x (sp1 R1 pre S g)) (h1 : EvR X e1 σ V R1 a) (hp : pre a) (hdb : (x == ("__debug__" : Str)) = false := by decide) (he : starEach [e1] X.env = (false, eval e1 X.env) :: starEach [] X.env := by rfl) :
    EvR X (.Call (.Name x p) [e1] [] pos) σ V S (g a) := by
  obtain ⟨k, f, fd, ps, F, hr, hg, hm, kp, b⟩ := C.ex
  exact ev_of (pe_call (E := E0) F hr hg hm kp b .nil pass0 (pa_cons pe_re pa_nil he) hdb he rfl) fun V1 A Q s l q => h1 V1 A _ s l fun V2 A2 v g2 r1 => ⟨v, a, V2, rfl, g2.va, r1, hp, fun V3 A3 z g3 rz => q V3 A3 z (g2.trans g3) rz⟩
theorem ev_c2 [Mo R1] {pre : α → β → Prop} {g : α → β → ρ} (C : Cal X x (sp2 R1 R2 pre S g)) (h1 : EvR X e1 σ V R1 a) (h2 : EvR X e2 σ V R2 b) (hp : pre a b) (hdb : (x == ("__debug__" : Str)) = false := by decide)
    (he : starEach [e1, e2] X.env = (false, eval e1 X.env) :: starEach [e2] X.env := by rfl) (he2 : starEach [e2] X.env = (false, eval e2 X.env) :: starEach [] X.env := by rfl) (hpl : (backTo pos (starEach [e2] X.env)).any (·.1) = false := by rfl) :
    EvR X (.Call (.Name x p) [e1, e2] [] pos) σ V S (g a b) := by
  obtain ⟨k, f, fd, ps, F, hr, hg, hm, kp, bn⟩ := C.ex
  exact ev_of (pe_call (E := E0) F hr hg hm kp bn .nil pass0 (pa_cons pe_re (pa_cons pe_re pa_nil he2) he) hdb he hpl) fun V1 A Q s l q => h1 V1 A _ s l fun V2 A2 v g2 r1 => h2 V2 A2 _ (s.trans g2.vv) g2.va fun V3 A3 u g3 r2 =>
    ⟨v, u, a, b, V3, rfl, g3.va, Mo.mo g3.vv r1, r2, hp, fun V4 A4 z g4 rz => q V4 A4 z ((g2.trans g3).trans g4) rz⟩
theorem ev_c3 [Mo R1] [Mo R2] {pre : α → β → γ → Prop} {g : α → β → γ → ρ} (C : Cal X x (sp3 R1 R2 R3 pre S g)) (h1 : EvR X e1 σ V R1 a) (h2 : EvR X e2 σ V R2 b) (h3 : EvR X e3 σ V R3 c) (hp : pre a b c) (hdb : (x == ("__debug__" : Str)) = false := by decide)
    (he : starEach [e1, e2, e3] X.env = (false, eval e1 X.env) :: starEach [e2, e3] X.env := by rfl) (he2 : starEach [e2, e3] X.env = (false, eval e2 X.env) :: starEach [e3] X.env := by rfl) (he3 : starEach [e3] X.env = (false, eval e3 X.env) :: starEach [] X.env := by rfl)
    (hpl : (backTo pos (starEach [e2, e3] X.env)).any (·.1) = false := by rfl) : EvR X (.Call (.Name x p) [e1, e2, e3] [] pos) σ V S (g a b c) := by
  obtain ⟨k, f, fd, ps, F, hr, hg, hm, kp, bn⟩ := C.ex
  exact ev_of (pe_call (E := E0) F hr hg hm kp bn .nil pass0 (pa_cons pe_re (pa_cons pe_re (pa_cons pe_re pa_nil he3) he2) he) hdb he hpl) fun V1 A Q s l q => h1 V1 A _ s l fun V2 A2 v g2 r1 => h2 V2 A2 _ (s.trans g2.vv) g2.va fun V3 A3 u g3 r2 =>
    h3 V3 A3 _ ((s.trans g2.vv).trans g3.vv) g3.va fun V4 A4 t g4 r3 => ⟨v, u, t, a, b, c, V4, rfl, g4.va, Mo.mo (g3.vv.trans g4.vv) r1, Mo.mo g4.vv r2, r3, hp, fun V5 A5 z g5 rz => q V5 A5 z (((g2.trans g3).trans g4).trans g5) rz⟩
theorem ev_c4 [Mo R1] [Mo R2] [Mo R3] {pre : α → β → γ → δ → Prop} {g : α → β → γ → δ → ρ} (C : Cal X x (sp4 R1 R2 R3 R4 pre S g)) (h1 : EvR X e1 σ V R1 a) (h2 : EvR X e2 σ V R2 b) (h3 : EvR X e3 σ V R3 c) (h4 : EvR X e4 σ V R4 d) (hp : pre a b c d)
    (hdb : (x == ("__debug__" : Str)) = false := by decide) (he : starEach [e1, e2, e3, e4] X.env = (false, eval e1 X.env) :: starEach [e2, e3, e4] X.env := by rfl) (he2 : starEach [e2, e3, e4] X.env = (false, eval e2 X.env) :: starEach [e3, e4] X.env := by rfl)
    (he3 : starEach [e3, e4] X.env = (false, eval e3 X.env) :: starEach [e4] X.env := by rfl) (he4 : starEach [e4] X.env = (false, eval e4 X.env) :: starEach [] X.env := by rfl) (hpl : (backTo pos (starEach [e2, e3, e4] X.env)).any (·.1) = false := by rfl) :
    EvR X (.Call (.Name x p) [e1, e2, e3, e4] [] pos) σ V S (g a b c d) := by
  obtain ⟨k, f, fd, ps, F, hr, hg, hm, kp, bn⟩ := C.ex
  exact ev_of (pe_call (E := E0) F hr hg hm kp bn .nil pass0 (pa_cons pe_re (pa_cons pe_re (pa_cons pe_re (pa_cons pe_re pa_nil he4) he3) he2) he) hdb he hpl) fun V1 A Q s l q => h1 V1 A _ s l fun V2 A2 v g2 r1 => h2 V2 A2 _ (s.trans g2.vv) g2.va fun V3 A3 u g3 r2 =>
    h3 V3 A3 _ ((s.trans g2.vv).trans g3.vv) g3.va fun V4 A4 t g4 r3 => h4 V4 A4 _ (((s.trans g2.vv).trans g3.vv).trans g4.vv) g4.va fun V5 A5 y g5 r4 =>
    ⟨v, u, t, y, a, b, c, d, V5, rfl, g5.va, Mo.mo ((g3.vv.trans g4.vv).trans g5.vv) r1, Mo.mo (g4.vv.trans g5.vv) r2, Mo.mo g5.vv r3, r4, hp, fun V6 A6 z g6 rz => q V6 A6 z ((((g2.trans g3).trans g4).trans g5).trans g6) rz⟩
end
end Om
set_option maxHeartbeats 4000000
/-! Om, part C: statements; a def's body. -/
namespace Om
open PySem PySem.Spec PyProof.Rows L2

/-- what is wanted behind a block: slots, visible, owned; of a return the value -/
structure Post where
  nx : L2.St → Hp → Hp → Prop
  rt : Vl → Hp → Hp → Prop
  bk : L2.St → Hp → Hp → Prop := fun _ _ _ => False
  ct : L2.St → Hp → Hp → Prop := fun _ _ _ => False
structure Fits (V M A : Hp) (P : Post) (D : Ends) : Prop where
  nx : ∀ σ' V' M' A', Stp V M A V' M' A' → P.nx σ' V' M' → D.nx σ' A'
  rt : ∀ v V' M' A', Stp V M A V' M' A' → P.rt v V' M' → D.rt v A'
  bk : ∀ σ' V' M' A', Stp V M A V' M' A' → P.bk σ' V' M' → D.bk σ' A'
  ct : ∀ σ' V' M' A', Stp V M A V' M' A' → P.ct σ' V' M' → D.ct σ' A'
theorem Fits.step {V M A V1 M1 A1 : Hp} {P : Post} {D : Ends} (f : Fits V M A P D) (s : Stp V M A V1 M1 A1) : Fits V1 M1 A1 P D :=
  ⟨fun σ' V' M' A' t h => f.nx σ' V' M' A' (s.trans t) h, fun v V' M' A' t h => f.rt v V' M' A' (s.trans t) h, fun σ' V' M' A' t h => f.bk σ' V' M' A' (s.trans t) h, fun σ' V' M' A' t h => f.ct σ' V' M' A' (s.trans t) h⟩
def Go (X : Cx) (b : List Stmt) (σ : L2.St) (V M : Hp) (P : Post) : Prop := ∀ A D, Ow V M A → Fits V M A P D → RSs X b D σ A
/-- what reads may see: V, or owned things too -/
def Sees (W V M : Hp) : Prop := ∀ a o, W a = some o → V a = some o ∨ M a = some o
theorem Sees.self {V M : Hp} : Sees V V M := fun _ _ h => .inl h
theorem Sees.le {W V M A : Hp} (s : Sees W V M) (w : Ow V M A) : Le W A := fun a o e => by
  rcases s a o e with h | h
  · exact w.va a o h
  · exact .inl (w.ma a o h)
/-- V and M together -/
def jn (V M : Hp) : Hp := fun a => match V a with
  | some o => some o
  | none => M a
theorem jn_sees {V M : Hp} : Sees (jn V M) V M := fun a o h => by
  unfold jn at h
  cases q : V a with
  | none =>
    rw [q] at h
    exact .inr h
  | some u =>
    rw [q] at h
    exact .inl h
theorem jn_v {V M : Hp} : Same V (jn V M) := fun a o h => by
  show (match V a with | some o => some o | none => M a) = some o
  rw [h]
/-- garbage -/
theorem Stp.gar {V M A A1 W W' : Hp} (w : Ow V M A) (g : Grow W A W' A1) : Stp V M A V M A1 :=
  ⟨Same.refl _, ⟨w.va.post g.aa, w.ma.trans g.aa, w.di, w.mt⟩, fun _ h1 h2 _ => ⟨h2, fun _ => h1⟩, fun b o _ h => g.aa b o h⟩

section
variable {X : Cx} {σ : L2.St} {V M W : Hp} {P : Post} {α β : Type} {R : Rf α} {S : Rf β} {a : α} {b : β} {e c iter : Expr} {st : Stmt} {rest body els thn : List Stmt} {pos px pt : Pos} {x y : Str}
theorem go_of {t : TS} (h : PS X st t) (q : ∀ A D, Ow V M A → Fits V M A P D → t { D with nx := RSs X rest D } σ A) : Go X (st :: rest) σ V M P := fun A D w f => rss_of (pss_cons h pss_rs) (q A D w f)
theorem go_nil (h : P.nx σ V M) : Go X [] σ V M P := fun A D w f => rss_of pss_nil (f.nx σ V M A (.refl w) h)
theorem go_next {A : Hp} {D : Ends} {σ' : L2.St} {V' M' A' : Hp} (f : Fits V M A P D) (s : Stp V M A V' M' A') (h : Go X rest σ' V' M' P) : RSs X rest D σ' A' := h A' D s.ow (f.step s)
/-- x = e -/
theorem go_set {i : Nat} (hN : X.N.Nodup) (hi : X.N[i]? = some x) (hx : Loc X.env.scope x) (h : EvR X e σ V R a) (k : ∀ V' v, Same V V' → R a v V' → Go X rest (σ.set i (some v)) V' M P)
    (hs : swapsWith e (some (.Name x px)) pos.line X.env = pure false := by rfl) (hf : X.fn x = true ∨ X.env.scope.names.lookup x = some .local := by first | exact .inl rfl | exact .inr rfl) : Go X (.Assign [.Name x px] e pos :: rest) σ V M P :=
  go_of (ps_set hN hi hx pe_re hs hf) fun A D w f => h V A _ (Same.refl _) w.va fun V2 A2 v g r => go_next f (g.stp w) (k V2 v g.vv r)
/-- .. of a flat value, by reads of owned things -/
theorem go_setF {i : Nat} {u : Vl} (hN : X.N.Nodup) (hi : X.N[i]? = some x) (hx : Loc X.env.scope x) (hW : Sees W V M) (h : EvR X e σ W R a) (hu : ∀ v H, R a v H → v = u) (k : Go X rest (σ.set i (some u)) V M P)
    (hs : swapsWith e (some (.Name x px)) pos.line X.env = pure false := by rfl) (hf : X.fn x = true ∨ X.env.scope.names.lookup x = some .local := by first | exact .inl rfl | exact .inr rfl) : Go X (.Assign [.Name x px] e pos :: rest) σ V M P :=
  go_of (ps_set hN hi hx pe_re hs hf) fun A D w f => h W A _ (Same.refl _) (hW.le w) fun V2 A2 v g r => by
    cases hu v V2 r
    exact go_next f (Stp.gar w g) k
/-- x, y = e1, e2 -/
theorem go_par [Mo R] {i j : Nat} {e1 e2 : Expr} {px py p1 p2 : Pos} {k1 k2} (hc : X.calm = true) (hN : X.N.Nodup) (hi : X.N[i]? = some x) (hj : X.N[j]? = some y) (hij : i ≠ j) (hx : X.env.scope.names.lookup x = some .local) (hy : X.env.scope.names.lookup y = some .local)
    (h1 : EvR X e1 σ V R a) (h2 : EvR X e2 σ V S b) (k : ∀ V' v u, Same V V' → R a v V' → S b u V' → Go X rest ((σ.set i (some v)).set j (some u)) V' M P)
    (hw : swappedStores [.Tuple [.Name x px, .Name y py] k1 p1] (.Tuple [e1, e2] k2 p2) X.env = pure (some [x, y])) (hs : swapsWithSole [.Tuple [.Name x px, .Name y py] k1 p1] (.Tuple [e1, e2] k2 p2) pos.line X.env = pure false := by rfl)
    (he : starEach [e1, e2] X.env = (false, eval e1 X.env) :: starEach [e2] X.env := by rfl) (he2 : starEach [e2] X.env = (false, eval e2 X.env) :: starEach [] X.env := by rfl) :
    Go X (.Assign [.Tuple [.Name x px, .Name y py] k1 p1] (.Tuple [e1, e2] k2 p2) pos :: rest) σ V M P :=
  go_of (ps_par hc hN hi hj hij hx hy (pa_cons pe_re (pa_cons pe_re pa_nil he2) he) hw hs) fun A D w f => h1 V A _ (Same.refl _) w.va fun V2 A2 v g r => h2 V2 A2 _ g.vv g.va fun V3 A3 u g3 r3 =>
    ⟨v, u, rfl, go_next f ((g.trans g3).stp w) (k V3 v u (g.trans g3).vv (Mo.mo g3.vv r) r3)⟩
theorem go_ret (h : EvR X e σ V R a) (k : ∀ V' v, Same V V' → R a v V' → P.rt v V' M) : Go X (.Return (some e) pos :: rest) σ V M P :=
  go_of (ps_ret pe_re) fun A D w f => h V A _ (Same.refl _) w.va fun V2 A2 v g r => f.rt v V2 M A2 (g.stp w) (k V2 v g.vv r)
/-- .. of a flat value -/
theorem go_retF {u : Vl} (hW : Sees W V M) (h : EvR X e σ W R a) (hu : ∀ v H, R a v H → v = u) (k : P.rt u V M) : Go X (.Return (some e) pos :: rest) σ V M P :=
  go_of (ps_ret pe_re) fun A D w f => h W A _ (Same.refl _) (hW.le w) fun V2 A2 v g r => by
    cases hu v V2 r
    exact f.rt _ V M A2 (Stp.gar w g) k
/-- an expression alone, its value dropped -/
theorem go_expr (hW : Sees W V M) (h : EvR X e σ W R a) (k : Go X rest σ V M P) (hs : swapsWith e none pos.line X.env = pure false := by rfl) : Go X (.Expr e pos :: rest) σ V M P :=
  go_of (ps_expr pe_re hs) fun A D w f => h W A _ (Same.refl _) (hW.le w) fun V2 A2 v g r => go_next f (Stp.gar w g) k
theorem go_if {q : Bool} (h : EvT X c σ W q) (h1 : q = true → Go X thn σ V M { P with nx := fun σ' V' M' => Go X rest σ' V' M' P }) (h2 : q = false → Go X els σ V M { P with nx := fun σ' V' M' => Go X rest σ' V' M' P }) (hW : Sees W V M := by exact Sees.self) :
    Go X (.If c thn els pos :: rest) σ V M P :=
  go_of (ps_if pt_rt pss_rs pss_rs) fun A D w f => h W A _ (Same.refl _) (hW.le w) fun A2 g => by
    have s := Stp.gar w g
    have f2 : Fits V M A2 { P with nx := fun σ' V' M' => Go X rest σ' V' M' P } { D with nx := RSs X rest D } :=
      ⟨fun σ' V' M' A' t h => h A' D t.ow (f.step (s.trans t)), (f.step s).rt, (f.step s).bk, (f.step s).ct⟩
    cases q with
    | true => exact iteT (h1 rfl A2 _ s.ow f2)
    | false => exact iteF (h2 rfl A2 _ s.ow f2)
theorem go_break (h : P.bk σ V M) : Go X (.Break pos :: rest) σ V M P := go_of ps_break fun A D w f => f.bk σ V M A (.refl w) h
theorem go_cont (h : P.ct σ V M) : Go X (.Continue pos :: rest) σ V M P := go_of ps_continue fun A D w f => f.ct σ V M A (.refl w) h
/-- while -/
theorem go_while (hp : PassesOwn (model X.prog X.w) X.A X.env X.xe) (I : Nat → L2.St → Hp → Hp → Prop) (m : Nat) (h0 : I m σ V M)
    (hs : ∀ m σ' V' M', I m σ' V' M' → ∃ q : Bool, EvT X c σ' V' q ∧
      (q = true → Go X body σ' V' M' { nx := fun σ2 V2 M2 => ∃ m2, m2 < m ∧ I m2 σ2 V2 M2, rt := P.rt, ct := fun σ2 V2 M2 => ∃ m2, m2 < m ∧ I m2 σ2 V2 M2, bk := fun σ2 V2 M2 => Go X rest σ2 V2 M2 P }) ∧
      (q = false → Go X rest σ' V' M' P)) : Go X (.While c body [] pos :: rest) σ V M P :=
  go_of (ps_while hp pt_rt pss_rs) fun A D w f => by
    refine ⟨fun m σ' A' => ∃ V' M', Stp V M A V' M' A' ∧ I m σ' V' M', ⟨m, V, M, .refl w, h0⟩, ?_⟩
    rintro m σ' A' ⟨V', M', s, i⟩
    obtain ⟨q, t, k1, k2⟩ := hs m σ' V' M' i
    refine t V' A' _ (Same.refl _) s.ow.va fun A2 g => ?_
    have s2 := s.trans (Stp.gar s.ow g)
    cases q with
    | false => exact iteF (go_next f s2 (k2 rfl))
    | true =>
      refine iteT ⟨fun σ2 A3 => ∃ V2 M2, Stp V M A V2 M2 A3 ∧ ∃ m2, m2 < m ∧ I m2 σ2 V2 M2, fun σ2 A3 ⟨V2, M2, s3, m2, hm, i2⟩ => ⟨m2, hm, V2, M2, s3, i2⟩, ?_⟩
      refine k1 rfl A2 _ s2.ow ⟨fun σ3 V3 M3 A3 t3 h3 => ⟨V3, M3, s2.trans t3, h3⟩, fun v V3 M3 A3 t3 h3 => f.rt v V3 M3 A3 (s2.trans t3) h3, fun σ3 V3 M3 A3 t3 h3 => go_next f (s2.trans t3) h3, fun σ3 V3 M3 A3 t3 h3 => ⟨V3, M3, s2.trans t3, h3⟩⟩
/-- what a walk yields: xs, item by item, as long as what is visible stands -/
def Walks (J : It) (V A : Hp) (R : Rf α) (xs : List α) : Prop := ∀ i V' A', Same V V' → Le V' A' → (∀ b o, V b ≠ none → A b = some o → A' b = some o) →
  (xs.length ≤ i → J.stop i A') ∧ ∀ a, xs[i]? = some a → J.go i A' ∧ ∀ v A'', J.yld i A' v A'' → ∃ V'', Grow V' A' V'' A'' ∧ R a v V''
/-- what stands behind in is walked; ld: a dict that must be locked -/
def Src (X : Cx) (tg iter : Expr) (σ : L2.St) (V : Hp) (ld : Option Addr) (R : Rf α) (xs : List α) : Prop :=
  (∀ d, ld = some d → ∃ o, V d = some o ∧ isDk o = true) ∧ ∃ wi, PI X tg iter wi ∧ ∀ V1 A (Q : It → Hp → Prop), Same V V1 → Le V1 A → (∀ d, ld = some d → ∃ ob o, V d = some o ∧ A d = some (.frz ob o)) →
    (∀ J V2 A2, Grow V1 A V2 A2 → Walks J V2 A2 R xs → Q J A2) → wi σ A Q
theorem src_list [Mo R] {tg : Expr} {xs : List α} (h : EvR X iter σ V (qL R) xs) : Src X tg iter σ V none R xs :=
  ⟨fun _ z => (nomatch z), _, pi_list pe_re, fun V1 A Q s l _ q => h V1 A _ s l fun V2 A2 v g ⟨p, vs, ev, hp, al, _⟩ => ⟨p, ev, ⟨vs, SqL.of (g.va.at hp)⟩, q _ V2 A2 g fun i V' A' sv lv k => by
    have hA : A' p = some (.lst vs) := lv.at (sv _ _ hp)
    refine ⟨fun hi => ⟨vs, SqL.of hA, by rw [← al.len]; exact hi⟩, fun a ha => ?_⟩
    obtain ⟨w, hw, r⟩ := al.get ha
    refine ⟨⟨vs, w, SqL.of hA, hw⟩, fun v A'' y => ?_⟩
    obtain ⟨e1, e2⟩ := y
    have e3 := e2 vs (SqL.of hA)
    rw [hw] at e3
    cases e3
    rw [e1]
    exact ⟨V', .refl lv, Mo.mo sv r⟩⟩⟩
theorem src_tup [Mo R] {tg : Expr} {xs : List α} (h : EvR X iter σ V (qU R) xs) : Src X tg iter σ V none R xs :=
  ⟨fun _ z => (nomatch z), _, pi_tup pe_re, fun V1 A Q s l _ q => h V1 A _ s l fun V2 A2 v g ⟨p, vs, ev, hp, al, _⟩ => ⟨p, ev, ⟨vs, SqT.of (g.va.at hp)⟩, q _ V2 A2 g fun i V' A' sv lv k => by
    have hA : A' p = some (.tup vs) := lv.at (sv _ _ hp)
    refine ⟨fun hi => ⟨vs, SqT.of hA, by rw [← al.len]; exact hi⟩, fun a ha => ?_⟩
    obtain ⟨w, hw, r⟩ := al.get ha
    refine ⟨⟨vs, w, SqT.of hA, hw⟩, fun v A'' y => ?_⟩
    obtain ⟨e1, e2⟩ := y
    have e3 := e2 vs (SqT.of hA)
    rw [hw] at e3
    cases e3
    rw [e1]
    exact ⟨V', .refl lv, Mo.mo sv r⟩⟩⟩
/-- lo, lo + 1, .. -/
def rgl (lo : Int) (n : Nat) : List Int := (List.range n).map fun (k : Nat) => lo + (k : Int)
theorem rgl_len {lo : Int} {n : Nat} : (rgl lo n).length = n := by simp [rgl]
theorem rgl_get {lo : Int} {n i : Nat} {a : Int} (h : (rgl lo n)[i]? = some a) : i < n ∧ a = lo + (i : Int) := by
  unfold rgl at h
  rw [List.getElem?_map] at h
  obtain ⟨j, h1, h2⟩ := Option.map_eq_some_iff.mp h
  obtain ⟨h3, h4⟩ := List.getElem?_eq_some_iff.mp h1
  rw [List.getElem_range] at h4
  rw [List.length_range] at h3
  subst h4
  exact ⟨h3, h2.symm⟩
theorem walks_range {lo : Int} {n : Nat} {V A : Hp} : Walks (Itr lo n) V A qI (rgl lo n) := fun i V' A' sv lv k => by
  rw [rgl_len]
  refine ⟨fun h => h, fun a ha => ?_⟩
  obtain ⟨h1, h2⟩ := rgl_get ha
  refine ⟨h1, fun v A'' ⟨e1, e2⟩ => ?_⟩
  rw [e1]
  exact ⟨V', .refl lv, by rw [e2, h2]⟩
theorem src_range1 {tg e1 : Expr} {j : Int} {p : Pos} (hg : Gl X "range") (hm : X.mg "range" = none) (h : EvR X e1 σ V qI j) (l1 : -(2 ^ 62) ≤ j) (l2 : j < 2 ^ 62) (hs : starEach [e1] X.env = [(false, eval e1 X.env)] := by rfl) :
    Src X tg (.Call (.Name "range" p) [e1] [] pos) σ V none qI (rgl 0 j.toNat) :=
  ⟨fun _ z => (nomatch z), _, pi_range1 hg hm (pa_cons pe_re pa_nil hs) hs, fun V1 A Q s l _ q => h V1 A _ s l fun V2 A2 v g r => ⟨j, by rw [show v = _ from r], l1, l2, q _ V2 A2 g walks_range⟩⟩
theorem src_range2 {tg e1 e2 : Expr} {i j : Int} {p : Pos} (hg : Gl X "range") (hm : X.mg "range" = none) (h1 : EvR X e1 σ V qI i) (h2 : EvR X e2 σ V qI j) (l1 : -(2 ^ 62) ≤ i) (l2 : i < 2 ^ 62) (l3 : -(2 ^ 62) ≤ j) (l4 : j < 2 ^ 62)
    (hs : starEach [e1, e2] X.env = [(false, eval e1 X.env), (false, eval e2 X.env)] := by rfl) (hs2 : starEach [e2] X.env = [(false, eval e2 X.env)] := by rfl) : Src X tg (.Call (.Name "range" p) [e1, e2] [] pos) σ V none qI (rgl i (j - i).toNat) :=
  ⟨fun _ z => (nomatch z), _, pi_range2 hg hm (pa_cons pe_re (pa_cons pe_re pa_nil hs2) (by rw [hs, hs2])) hs hs2, fun V1 A Q s l _ q => h1 V1 A _ s l fun V2 A2 v g r => h2 V2 A2 _ (s.trans g.vv) g.va fun V3 A3 u g3 r3 =>
    ⟨i, j, by rw [show v = _ from r, show u = _ from r3], ⟨l1, l2, l3, l4⟩, q _ V3 A3 (g.trans g3) walks_range⟩⟩
/-- a target: what it does to the slots at a value of R -/
def Tgt (X : Cx) (tg : Expr) (R : Rf α) (up : L2.St → Vl → Hp → L2.St → Prop) : Prop := ∃ g : TG, PG X tg g ∧ ∀ (a : α) (v : Vl) (σ : L2.St) (V A : Hp) (Q : L2.St → Hp → Prop), Le V A → R a v V → (∀ σ', up σ v V σ' → Q σ' A) → g v σ A Q
theorem tg_name {i : Nat} (hN : X.N.Nodup) (hi : X.N[i]? = some x) (hx : Loc X.env.scope x) (hf : X.fn x = true ∨ X.env.scope.names.lookup x = some .local := by first | exact .inl rfl | exact .inr rfl) : Tgt X (.Name x px) R (fun σ v _ σ' => σ' = σ.set i (some v)) :=
  ⟨_, pg_name hN hi hx hf, fun a v σ V A Q l r q => q _ rfl⟩
/-- the loop alone -/
theorem for_core {J : It} {A : Hp} {D : Ends} {up : L2.St → Vl → Hp → L2.St → Prop} {g : TG} {xs : List α} {K : L2.St → Hp → Hp → Prop} {T : Vl → Hp → Hp → Prop} (hJ : Walks J V A R xs) (w : Ow V M A)
    (hg : ∀ (a : α) (v : Vl) (σ : L2.St) (V A : Hp) (Q : L2.St → Hp → Prop), Le V A → R a v V → (∀ σ', up σ v V σ' → Q σ' A) → g v σ A Q)
    (hK : ∀ σ' V' M' A', Stp V M A V' M' A' → K σ' V' M' → D.nx σ' A') (hT : ∀ v V' M' A', Stp V M A V' M' A' → T v V' M' → D.rt v A')
    (I : Nat → L2.St → Hp → Hp → Prop) (h0 : I 0 σ V M)
    (hs : ∀ j a v σ' σ2 V0 V' M', xs[j]? = some a → I j σ' V0 M' → Same V V0 → Same V0 V' → R a v V' → up σ' v V' σ2 → Go X body σ2 V' M' { nx := I (j + 1), ct := I (j + 1), bk := K, rt := T })
    (hd : ∀ σ' V' M', I xs.length σ' V' M' → Same V V' → K σ' V' M') :
    ∃ W : Nat → Nat → L2.St → Hp → Prop, (∃ m, W 0 m σ A) ∧ ∀ i m σ H, W i m σ H →
      (J.stop i H ∧ D.nx σ H) ∨ (J.go i H ∧ ∃ N : L2.St → Hp → Prop, (∀ σ' H', N σ' H' → ∃ m', m' < m ∧ W (i + 1) m' σ' H') ∧ ∀ x H', J.yld i H x H' → g x σ H' fun σ2 H2 => RSs X body { D with nx := N, ct := N, bk := D.nx } σ2 H2) := by
  have stand : ∀ {V' M' A'}, Stp V M A V' M' A' → ∀ b o, V b ≠ none → A b = some o → A' b = some o := fun {V' M' A'} s b o h1 h2 => s.aa b o (by
    cases q : M b with
    | none => rfl
    | some u => exact absurd (w.di b (by rw [q]; exact fun z => nomatch z)) h1) h2
  refine ⟨fun j m σ' A' => m = xs.length - j ∧ j ≤ xs.length ∧ ∃ V' M', Stp V M A V' M' A' ∧ I j σ' V' M', ⟨xs.length, rfl, Nat.zero_le _, V, M, .refl w, h0⟩, ?_⟩
  rintro j m σ' A' ⟨rfl, hj, V', M', s, i⟩
  obtain ⟨w1, w2⟩ := hJ j V' A' s.vv s.ow.va (stand s)
  by_cases hlt : j < xs.length
  · obtain ⟨go, yl⟩ := w2 xs[j] (List.getElem?_eq_getElem hlt)
    refine .inr ⟨go, fun σ2 A2 => ∃ V2 M2, Stp V M A V2 M2 A2 ∧ I (j + 1) σ2 V2 M2, fun σ2 A2 ⟨V2, M2, s2, i2⟩ => ⟨xs.length - (j + 1), by omega, rfl, hlt, V2, M2, s2, i2⟩, fun v A2 hy => ?_⟩
    obtain ⟨V2, g2, r⟩ := yl v A2 hy
    have s2 := s.trans (g2.stp s.ow)
    refine hg xs[j] v σ' V2 A2 _ g2.va r fun σ3 u3 => ?_
    exact hs j xs[j] v σ' σ3 V' V2 M' (List.getElem?_eq_getElem hlt) i s.vv g2.vv r u3 A2 _ s2.ow
      ⟨fun σ4 V4 M4 A4 t h => ⟨V4, M4, s2.trans t, h⟩, fun u V4 M4 A4 t h => hT u V4 M4 A4 (s2.trans t) h, fun σ4 V4 M4 A4 t h => hK σ4 V4 M4 A4 (s2.trans t) h, fun σ4 V4 M4 A4 t h => ⟨V4, M4, s2.trans t, h⟩⟩
  · have e : j = xs.length := by omega
    subst e
    exact .inl ⟨w1 (Nat.le_refl _), hK σ' V' M' A' s (hd σ' V' M' i s.vv)⟩
/-- for over a list, a tuple, a range, .. -/
theorem go_for {tg : Expr} {up : L2.St → Vl → Hp → L2.St → Prop} {xs : List α} (hp : PassesOwn (model X.prog X.w) X.A X.env X.xe) (hc : X.calm = true) (ht : Tgt X tg R up) (hS : Src X tg iter σ V none R xs)
    (I : Nat → L2.St → Hp → Hp → Prop) (h0 : ∀ V', Same V V' → I 0 σ V' M)
    (hs : ∀ j a v σ' σ2 V0 V' M', xs[j]? = some a → I j σ' V0 M' → Same V V0 → Same V0 V' → R a v V' → up σ' v V' σ2 → Go X body σ2 V' M' { nx := I (j + 1), ct := I (j + 1), bk := fun σ2 V2 M2 => Go X rest σ2 V2 M2 P, rt := P.rt })
    (hd : ∀ σ' V' M', I xs.length σ' V' M' → Same V V' → Go X rest σ' V' M' P)
    (hs' : ∀ x, foldedSetIterable iter X.env x = pure x := by intro _; rfl) : Go X (.For tg iter body [] pos :: rest) σ V M P := by
  obtain ⟨_, wi, hpi, hwi⟩ := hS
  obtain ⟨g, hpg, hg⟩ := ht
  refine go_of (ps_for hp hc hpi hpg pss_rs hs') fun A D w f => ?_
  refine hwi V A _ (Same.refl _) w.va (fun _ z => nomatch z) fun J V2 A2 g2 hJ => ?_
  have s2 := g2.stp w
  exact for_core (K := fun σ' V' M' => Go X rest σ' V' M' P) (T := P.rt) hJ s2.ow hg (fun σ' V' M' A' s h => go_next f (s2.trans s) h) (fun v V' M' A' s h => f.rt v V' M' A' (s2.trans s) h) I (h0 V2 g2.vv)
    (fun j a v σ' σ3 V0 V' M' ha i s0 s1 r u => hs j a v σ' σ3 V0 V' M' ha i (g2.vv.trans s0) s1 r u) (fun σ' V' M' i s => hd σ' V' M' i (g2.vv.trans s))
theorem unlock_stp {A A' V' M' : Hp} {d : Addr} {u : HO} {od : Obj} (w : Ow V M A) (hV : V d = some u) (hA : A d = some u) (hk : isDk u = true) (s : Stp V M (upd A d (.frz od u)) V' M' A') : A' d = some (.frz od u) ∧ Stp V M A V' M' (upd A' d u) := by
  have hM : M d = none := by
    cases q : M d with
    | none => rfl
    | some x => exact absurd (w.di d (by rw [q]; exact fun z => nomatch z)) (by rw [hV]; exact fun z => nomatch z)
  have hd : A' d = some (.frz od u) := s.aa d _ hM upd_same
  have hM' : M' d = none := by
    cases q : M' d with
    | none => rfl
    | some x => exact absurd (s.ow.di d (by rw [q]; exact fun z => nomatch z)) (by rw [s.vv d u hV]; exact fun z => nomatch z)
  refine ⟨hd, s.vv, ⟨fun b o e => ?_, fun b o e => ?_, s.ow.di, s.ow.mt⟩, fun b h1 h2 h3 => ?_, fun b o h1 h2 => ?_⟩
  · by_cases hb : b = d
    · subst hb
      rw [s.vv b u hV] at e
      exact .inl (by rw [upd_same]; exact e)
    · rcases s.ow.va b o e with h | ⟨h, ob, h'⟩
      · exact .inl (by rw [upd_ne hb]; exact h)
      · exact .inr ⟨h, ob, by rw [upd_ne hb]; exact h'⟩
  · have hb : b ≠ d := fun z => by
      rw [z, hM'] at e
      cases e
    rw [upd_ne hb]
    exact s.ow.ma b o e
  · have hb : b ≠ d := fun z => by
      rw [z, hV] at h1
      cases h1
    obtain ⟨z1, z2⟩ := s.fr b h1 h2 (by rw [upd_ne hb]; exact h3)
    exact ⟨z1, fun t => z2 fun xs z => t xs (by rw [upd_ne hb] at z; exact z)⟩
  · by_cases hb : b = d
    · subst hb
      rw [hA] at h2
      rw [upd_same]
      exact h2
    · rw [upd_ne hb]
      exact s.aa b o h1 (by rw [upd_ne hb]; exact h2)
theorem lock_ow {A : Hp} {d : Addr} {u : HO} (od : Obj) (w : Ow V M A) (hV : V d = some u) (hk : isDk u = true) : Ow V M (upd A d (.frz od u)) := by
  refine ⟨fun b o e => ?_, fun b o e => ?_, w.di, w.mt⟩
  · by_cases hb : b = d
    · subst hb
      rw [hV] at e
      cases e
      exact .inr ⟨hk, od, upd_same⟩
    · rcases w.va b o e with h | ⟨h, ob, h'⟩
      · exact .inl (by rw [upd_ne hb]; exact h)
      · exact .inr ⟨h, ob, by rw [upd_ne hb]; exact h'⟩
  · have hb : b ≠ d := fun z => by
      have e2 := w.di b (by rw [e]; exact fun z => nomatch z)
      rw [z, hV] at e2
      cases e2
    rw [upd_ne hb]
    exact w.ma b o e
theorem mut_dk {u : HO} (h : isDk u = true) : Mut (some u) := by
  cases u <;> first | trivial | cases h
/-- for over what must be locked (a dict) -/
theorem go_forD {tg : Expr} {d : Addr} {up : L2.St → Vl → Hp → L2.St → Prop} {xs : List α} (hp : PassesOwn (model X.prog X.w) X.A X.env X.xe) (hc : X.calm = true) (ht : Tgt X tg R up) (hS : Src X tg iter σ V (some d) R xs)
    (I : Nat → L2.St → Hp → Hp → Prop) (h0 : ∀ V', Same V V' → I 0 σ V' M)
    (hs : ∀ j a v σ' σ2 V0 V' M', xs[j]? = some a → I j σ' V0 M' → Same V V0 → Same V0 V' → R a v V' → up σ' v V' σ2 → Go X body σ2 V' M' { nx := I (j + 1), ct := I (j + 1), bk := fun σ2 V2 M2 => Go X rest σ2 V2 M2 P, rt := P.rt })
    (hd : ∀ σ' V' M', I xs.length σ' V' M' → Same V V' → Go X rest σ' V' M' P)
    (hs' : ∀ x, foldedSetIterable iter X.env x = pure x := by intro _; rfl) : Go X (.For tg iter body [] pos :: rest) σ V M P := by
  obtain ⟨hld, wi, hpi, hwi⟩ := hS
  obtain ⟨u, hu, hk⟩ := hld d rfl
  obtain ⟨g, hpg, hg⟩ := ht
  have hF := ps_for (pos := pos) hp hc hpi hpg (pss_rs (b := body)) hs'
  intro A D w f
  rcases w.va d u hu with hA | ⟨_, ob, hA⟩
  · refine rss_of (pss_cons (ps_lock hF) pss_rs) ⟨d, u, hA, mut_dk hk, fun od => ?_⟩
    have w1 := lock_ow od w hu hk
    refine hwi V _ _ (Same.refl _) w1.va (fun d' z => by cases z; exact ⟨od, u, hu, upd_same⟩) fun J V2 A2 g2 hJ => ?_
    have s2 := g2.stp w1
    refine for_core (K := fun σ' V' M' => Go X rest σ' V' M' P) (T := P.rt) hJ s2.ow hg (fun σ' V' M' A' s h => ?_) (fun v V' M' A' s h => ?_) I (h0 V2 g2.vv)
      (fun j a v σ' σ3 V0 V' M' ha i s0 s1 r u => hs j a v σ' σ3 V0 V' M' ha i (g2.vv.trans s0) s1 r u) (fun σ' V' M' i s => hd σ' V' M' i (g2.vv.trans s))
    · obtain ⟨z1, z2⟩ := unlock_stp w hu hA hk (s2.trans s)
      exact ⟨z1, go_next f z2 h⟩
    · obtain ⟨z1, z2⟩ := unlock_stp w hu hA hk (s2.trans s)
      exact ⟨z1, f.rt v V' M' _ z2 h⟩
  · refine rss_of (pss_cons hF pss_rs) ?_
    refine hwi V A _ (Same.refl _) w.va (fun d' z => by cases z; exact ⟨ob, u, hu, hA⟩) fun J V2 A2 g2 hJ => ?_
    have s2 := g2.stp w
    exact for_core (K := fun σ' V' M' => Go X rest σ' V' M' P) (T := P.rt) hJ s2.ow hg (fun σ' V' M' A' s h => go_next f (s2.trans s) h) (fun v V' M' A' s h => f.rt v V' M' A' (s2.trans s) h) I (h0 V2 g2.vv)
      (fun j a v σ' σ3 V0 V' M' ha i s0 s1 r u => hs j a v σ' σ3 V0 V' M' ha i (g2.vv.trans s0) s1 r u) (fun σ' V' M' i s => hd σ' V' M' i (g2.vv.trans s))
/-- what is owned is shown -/
theorem go_pub {V1 M1 : Hp} (h : Go X rest σ V1 M1 P) (hv : Same V V1) (h1 : ∀ b o, V1 b = some o → V b = some o ∨ M b = some o) (h2 : ∀ b o, M1 b = some o → M b = some o ∧ V1 b = none) : Go X rest σ V M P := fun A D w f => by
  have s : Stp V M A V1 M1 A := by
    refine ⟨hv, ⟨fun b o e => ?_, fun b o e => w.ma b o (h2 b o e).1, fun b hb => ?_, fun b xs z => w.mt b xs (h2 b _ z).1⟩, fun b e1 e2 _ => ?_, fun _ _ _ e => e⟩
    · rcases h1 b o e with z | z
      · exact w.va b o z
      · exact .inl (w.ma b o z)
    · cases q : M1 b with
      | none => exact absurd q hb
      | some o => exact (h2 b o q).2
    · refine ⟨?_, fun _ => ?_⟩
      · cases q : M1 b with
        | none => rfl
        | some o =>
          rw [(h2 b o q).1] at e2
          cases e2
      · cases q : V1 b with
        | none => rfl
        | some o =>
          rcases h1 b o q with z | z
          · rw [e1] at z; cases z
          · rw [e2] at z; cases z
  exact h A D s.ow (f.step s)
end

/-! ### a def's body -/
/-- the body hands back c -/
abbrev RetP {ρ : Type} (S : Rf ρ) (c : ρ) : Post := { nx := fun _ V' _ => S c .non V', rt := fun v V' _ => S c v V' }
/-- a def of the top as it stands behind it -/
structure Dfn (K : PySem.W.Frag) (mg : Str → Option Value) (x : Str) (st : Stmt) (ps : List Str) : Prop where
  ex : ∃ (f : Addr) (fd : FuncData), FunD K x x (defArgs st) (defBody st) (defScope st) [] [] f fd ∧ mg x = some (.ref f) ∧ Binds K fd ps []
section
variable {P : Program} {w : World} {K : PySem.W.Frag} {mg : Str → Option Value} {base : Heap} {x : Str} {st : Stmt} {N ps : List Str} {k : Nat} {α β γ δ ρ : Type}
abbrev bodyX (P : Program) (w : World) (K : PySem.W.Frag) (mg : Str → Option Value) (base : Heap) (N : List Str) (x : Str) (st : Stmt) (f : Addr) (cdv : Value) (A : Around) (outer : List Env) (s : Shared) (H : Hp) (E : XK) : Cx := (cxOf CX0 P w K mg base N x (defScope st) f cdv A outer s H E).nox
theorem run_body {X : Cx} {b : List Stmt} {σ : L2.St} {V H : Hp} {S : Rf ρ} {c : ρ} {Q : VK} (l : Le V H) (h : Go X b σ V H0 (RetP S c)) (q : ∀ V' H' v, Grow V H V' H' → S c v V' → Q v H') : RSs X b { nx := fun _ H' => Q .non H', rt := Q } σ H :=
  h H _ (Ow.start l) ⟨fun σ' V' M' A' s h => q V' A' .non s.grow h, fun v V' M' A' s h => q V' A' v s.grow h, fun _ _ _ _ _ h => h.elim, fun _ _ _ _ _ h => h.elim⟩
theorem gfn1 {R1 : Rf α} {pre : α → Prop} {S : Rf ρ} {g : α → ρ} (D : Dfn K mg x st ps) (sc : FnScope N ps (defScope st)) (hl : ps.length = 1)
    (h : ∀ f cdv A outer s H E v1 a V, Room k (bodyX P w K mg base N x st f cdv A outer s H E).A → R1 a v1 V → pre a → Go (bodyX P w K mg base N x st f cdv A outer s H E) (defBody st) (start N [v1]) V H0 (RetP S (g a))) : Gfn P w K mg base x (k + 1) (sp1 R1 pre S g) := by
  obtain ⟨f, fd, F, hm, bn⟩ := D.ex
  refine ⟨f, fd, ps, F.ok sc (fun vs H Q E h => ?_) (fun cdv A outer s H vs Q E hr hsp => ?_), hm, F.kp, bn⟩
  · obtain ⟨v1, a, V, rfl, _⟩ := h
    exact hl.symm
  · obtain ⟨v1, a, V, rfl, l, r1, hp, q⟩ := hsp
    exact ⟨_, PSs.nox pss_rs, run_body l (h f cdv A outer s H E v1 a V hr r1 hp) q⟩
theorem gfn2 {R1 : Rf α} {R2 : Rf β} {pre : α → β → Prop} {S : Rf ρ} {g : α → β → ρ} (D : Dfn K mg x st ps) (sc : FnScope N ps (defScope st)) (hl : ps.length = 2)
    (h : ∀ f cdv A outer s H E v1 v2 a b V, Room k (bodyX P w K mg base N x st f cdv A outer s H E).A → R1 a v1 V → R2 b v2 V → pre a b → Go (bodyX P w K mg base N x st f cdv A outer s H E) (defBody st) (start N [v1, v2]) V H0 (RetP S (g a b))) : Gfn P w K mg base x (k + 1) (sp2 R1 R2 pre S g) := by
  obtain ⟨f, fd, F, hm, bn⟩ := D.ex
  refine ⟨f, fd, ps, F.ok sc (fun vs H Q E h => ?_) (fun cdv A outer s H vs Q E hr hsp => ?_), hm, F.kp, bn⟩
  · obtain ⟨v1, v2, a, b, V, rfl, _⟩ := h
    exact hl.symm
  · obtain ⟨v1, v2, a, b, V, rfl, l, r1, r2, hp, q⟩ := hsp
    exact ⟨_, PSs.nox pss_rs, run_body l (h f cdv A outer s H E v1 v2 a b V hr r1 r2 hp) q⟩
theorem gfn3 {R1 : Rf α} {R2 : Rf β} {R3 : Rf γ} {pre : α → β → γ → Prop} {S : Rf ρ} {g : α → β → γ → ρ} (D : Dfn K mg x st ps) (sc : FnScope N ps (defScope st)) (hl : ps.length = 3)
    (h : ∀ f cdv A outer s H E v1 v2 v3 a b c V, Room k (bodyX P w K mg base N x st f cdv A outer s H E).A → R1 a v1 V → R2 b v2 V → R3 c v3 V → pre a b c → Go (bodyX P w K mg base N x st f cdv A outer s H E) (defBody st) (start N [v1, v2, v3]) V H0 (RetP S (g a b c))) :
    Gfn P w K mg base x (k + 1) (sp3 R1 R2 R3 pre S g) := by
  obtain ⟨f, fd, F, hm, bn⟩ := D.ex
  refine ⟨f, fd, ps, F.ok sc (fun vs H Q E h => ?_) (fun cdv A outer s H vs Q E hr hsp => ?_), hm, F.kp, bn⟩
  · obtain ⟨v1, v2, v3, a, b, c, V, rfl, _⟩ := h
    exact hl.symm
  · obtain ⟨v1, v2, v3, a, b, c, V, rfl, l, r1, r2, r3, hp, q⟩ := hsp
    exact ⟨_, PSs.nox pss_rs, run_body l (h f cdv A outer s H E v1 v2 v3 a b c V hr r1 r2 r3 hp) q⟩
theorem gfn4 {R1 : Rf α} {R2 : Rf β} {R3 : Rf γ} {R4 : Rf δ} {pre : α → β → γ → δ → Prop} {S : Rf ρ} {g : α → β → γ → δ → ρ} (D : Dfn K mg x st ps) (sc : FnScope N ps (defScope st)) (hl : ps.length = 4)
    (h : ∀ f cdv A outer s H E v1 v2 v3 v4 a b c d V, Room k (bodyX P w K mg base N x st f cdv A outer s H E).A → R1 a v1 V → R2 b v2 V → R3 c v3 V → R4 d v4 V → pre a b c d → Go (bodyX P w K mg base N x st f cdv A outer s H E) (defBody st) (start N [v1, v2, v3, v4]) V H0 (RetP S (g a b c d))) :
    Gfn P w K mg base x (k + 1) (sp4 R1 R2 R3 R4 pre S g) := by
  obtain ⟨f, fd, F, hm, bn⟩ := D.ex
  refine ⟨f, fd, ps, F.ok sc (fun vs H Q E h => ?_) (fun cdv A outer s H vs Q E hr hsp => ?_), hm, F.kp, bn⟩
  · obtain ⟨v1, v2, v3, v4, a, b, c, d, V, rfl, _⟩ := h
    exact hl.symm
  · obtain ⟨v1, v2, v3, v4, a, b, c, d, V, rfl, l, r1, r2, r3, r4, hp, q⟩ := hsp
    exact ⟨_, PSs.nox pss_rs, run_body l (h f cdv A outer s H E v1 v2 v3 v4 a b c d V hr r1 r2 r3 r4 hp) q⟩
end
end Om
set_option maxHeartbeats 4000000
/-! Om, part E: comprehensions. -/
namespace Om
open PySem PySem.Spec PyProof.Rows L2

/-- an owned thing is changed -/
theorem Stp.set {V M A : Hp} {p : Addr} {o o' : HO} (w : Ow V M A) (h : M p = some o) (ht : ∀ xs, o' ≠ .tup xs := by exact fun _ z => nomatch z) : Stp V M A V (upd M p o') (upd A p o') := by
  have hv : V p = none := w.di p (by rw [h]; exact fun z => nomatch z)
  refine ⟨Same.refl _, ⟨fun b u e => ?_, fun b u e => ?_, fun b hb => ?_, fun b xs z => ?_⟩, fun b h1 h2 h3 => ⟨?_, fun _ => h1⟩, fun b u h1 h2 => ?_⟩
  · have hb : b ≠ p := fun z => by rw [z, hv] at e; cases e
    rcases w.va b u e with z | ⟨z, ob, z'⟩
    · exact .inl (by rw [upd_ne hb]; exact z)
    · exact .inr ⟨z, ob, by rw [upd_ne hb]; exact z'⟩
  · by_cases hb : b = p
    · subst hb
      rw [upd_same] at e ⊢
      exact e
    · rw [upd_ne hb] at e ⊢
      exact w.ma b u e
  · by_cases hb' : b = p
    · subst hb'
      exact hv
    · rw [upd_ne hb'] at hb
      exact w.di b hb
  · by_cases hb : b = p
    · subst hb
      rw [upd_same] at z
      cases z
      exact ht xs rfl
    · rw [upd_ne hb] at z
      exact w.mt b xs z
  · have hb : b ≠ p := fun z => by rw [z, h] at h2; cases h2
    rw [upd_ne hb]
    exact h2
  · have hb : b ≠ p := fun z => by rw [z, h] at h1; cases h1
    rw [upd_ne hb]
    exact h2
/-- a new thing is owned -/
theorem Stp.make {V M A : Hp} {p : Addr} {o : HO} (w : Ow V M A) (h : A p = none) (ht : ∀ xs, o ≠ .tup xs := by exact fun _ z => nomatch z) : Stp V M A V (upd M p o) (upd A p o) := by
  have hv : V p = none := w.va.free h
  have hm : M p = none := by
    cases q : M p with
    | none => rfl
    | some u =>
      rw [w.ma p u q] at h
      cases h
  refine ⟨Same.refl _, ⟨fun b u e => ?_, fun b u e => ?_, fun b hb => ?_, fun b xs z => ?_⟩, fun b h1 h2 h3 => ⟨?_, fun _ => h1⟩, fun b u h1 h2 => ?_⟩
  · have hb : b ≠ p := fun z => by rw [z, hv] at e; cases e
    rcases w.va b u e with z | ⟨z, ob, z'⟩
    · exact .inl (by rw [upd_ne hb]; exact z)
    · exact .inr ⟨z, ob, by rw [upd_ne hb]; exact z'⟩
  · by_cases hb : b = p
    · subst hb
      rw [upd_same] at e ⊢
      exact e
    · rw [upd_ne hb] at e ⊢
      exact w.ma b u e
  · by_cases hb' : b = p
    · subst hb'
      exact hv
    · rw [upd_ne hb'] at hb
      exact w.di b hb
  · by_cases hb : b = p
    · subst hb
      rw [upd_same] at z
      cases z
      exact ht xs rfl
    · rw [upd_ne hb] at z
      exact w.mt b xs z
  · rw [upd_ne (fun z => h3 (by rw [z]; exact h))]
    exact h2
  · rw [upd_ne (ne_of_none h2 h)]
    exact h2
/-- one new thing D, owned alone while it is filled, is shown at last -/
theorem grow_made {V A V1 A1 : Hp} {D : Addr} {o u : HO} (l : Le V A) (hD : A D = none) (s : Stp V (upd H0 D o) (upd A D o) V1 (upd H0 D u) A1) : Grow V A (upd V1 D u) A1 := by
  have hV : V1 D = none := s.ow.di D (by rw [upd_same]; exact fun z => nomatch z)
  refine ⟨fun b x e => ?_, fun b x e => ?_, fun b x e => ?_, fun b h1 h2 h3 => ?_⟩
  · have h := s.vv b x e
    rw [upd_ne (fun z => by rw [z, hV] at h; cases h)]
    exact h
  · have hb : b ≠ D := ne_of_none e hD
    exact s.aa b x (by rw [upd_ne hb]) (by rw [upd_ne hb]; exact e)
  · by_cases hb : b = D
    · subst hb
      rw [upd_same] at e
      exact .inl (s.ow.ma b x (by rw [upd_same]; exact e))
    · rw [upd_ne hb] at e
      exact s.ow.va b x e
  · have hb : b ≠ D := fun z => h2 (by rw [z]; exact hD)
    rw [upd_ne hb]
    exact (s.fr b h1 (by rw [upd_ne hb]) (by rw [upd_ne hb]; exact h2)).2 (fun xs z => h3 xs (by rw [upd_ne hb] at z; exact z))
theorem Ow.make {V A : Hp} {D : Addr} {o : HO} (l : Le V A) (hD : A D = none) (ht : ∀ xs, o ≠ .tup xs := by exact fun _ z => nomatch z) : Ow V (upd H0 D o) (upd A D o) := (Stp.make (Ow.start l) hD ht).ow

theorem wipe_get (σ : L2.St) (i : Nat) : ∀ vs : List Nat, (wipe σ vs)[i]? = if i ∈ vs then (σ[i]?).map (fun _ => none) else σ[i]?
  | [] => by simp [wipe]
  | v :: vs => by
    unfold wipe
    rw [List.getElem?_set]
    by_cases h : v = i
    · subst h
      rw [if_pos rfl, if_pos List.mem_cons_self, wipe_length]
      by_cases hl : v < σ.length
      · rw [if_pos hl, List.getElem?_eq_getElem hl]
        rfl
      · rw [if_neg hl, List.getElem?_eq_none (by omega)]
        rfl
    · rw [if_neg h, wipe_get σ i vs]
      have e : (i ∈ v :: vs) ↔ i ∈ vs := by
        rw [List.mem_cons]
        exact ⟨fun z => z.resolve_left (fun w => h w.symm), .inr⟩
      simp only [e]
theorem wipe_idem (σ : L2.St) (vs : List Nat) : wipe (wipe σ vs) vs = wipe σ vs := by
  refine List.ext_getElem? fun i => ?_
  rw [wipe_get, wipe_get]
  by_cases h : i ∈ vs
  · rw [if_pos h, if_pos h]
    cases σ[i]? <;> rfl
  · rw [if_neg h]
/-- a block's context -/
abbrev bl (X : Cx) (scope : Scope) (s : Shared) (H : Hp) (C : Addr) (cl : List (Str × Addr)) (fp : List Addr) : Cx := X.blk s H scope (compEnvC scope cl C X.env) fp
def REb (X : Cx) (scope : Scope) (e : Expr) : TE := fun σ H Q => ∀ s H1 C cl fp, RE (bl X scope s H1 C cl fp) e σ H Q
def RTb (X : Cx) (scope : Scope) (e : Expr) : TT := fun σ H Q => ∀ s H1 C cl fp, RT (bl X scope s H1 C cl fp) e σ H Q
/-- judgements within a block, whichever -/
def EvRb {α : Type} (X : Cx) (scope : Scope) (e : Expr) (σ : L2.St) (V : Hp) (R : Rf α) (a : α) : Prop := ∀ s H C cl fp, EvR (bl X scope s H C cl fp) e σ V R a
def EvTb (X : Cx) (scope : Scope) (e : Expr) (σ : L2.St) (V : Hp) (b : Bool) : Prop := ∀ s H C cl fp, EvT (bl X scope s H C cl fp) e σ V b
/-- the clause's tests -/
def Tsb {α : Type} (X : Cx) (scope : Scope) (ifs : List Expr) (σ : α → L2.St → Hp → Prop) (p : α → Bool) : Prop :=
  ∃ tt : TT, (∀ s H C cl fp, PTs (bl X scope s H C cl fp) ifs tt) ∧ ∀ a σ' V, σ a σ' V → ∀ A (Q : Bool → Hp → Prop), Le V A → (∀ A2, Grow V A V A2 → Q (p a) A2) → tt σ' A Q
section
variable {X : Cx} {scope : Scope} {σ : L2.St} {V : Hp} {α β : Type} {R : Rf α} {S : Rf β} {tg iter elt c : Expr} {ifs : List Expr} {pos px : Pos} {x : Str} {ld : Option Addr}
theorem ts_nil {f : α → L2.St → Hp → Prop} : Tsb X scope [] f (fun _ => true) := ⟨tYes, fun _ _ _ _ _ => pts_nil, fun a σ' V _ A Q l q => q A (.refl l)⟩
theorem ts_one {f : α → L2.St → Hp → Prop} {p : α → Bool} (h : ∀ a σ' V, f a σ' V → EvTb X scope c σ' V (p a)) : Tsb X scope [c] f p :=
  ⟨RTb X scope c, fun s H C cl fp => pts_one ⟨fun pins s1 σ1 H1 Q I h => h s H C cl fp pins s1 I⟩, fun a σ' V ha A Q l q s H C cl fp => h a σ' V ha s H C cl fp V A Q (Same.refl _) l q⟩
def Tgb (X : Cx) (scope : Scope) (tg : Expr) (vs : List Nat) (R : Rf α) (up : L2.St → Vl → Hp → L2.St → Prop) : Prop :=
  ∃ g : TG, (∀ s H C cl fp, PG (bl X scope s H C cl fp) tg g) ∧ ∀ (a : α) (v : Vl) (σ : L2.St) (V A : Hp) (Q : L2.St → Hp → Prop), Le V A → R a v V → (∀ σ', up σ v V σ' → wipe σ' vs = wipe σ vs → Q σ' A) → g v σ A Q
theorem tgb_name {i : Nat} (hN : X.N.Nodup) (hi : X.N[i]? = some x) (hx : ∀ s H C cl fp, Loc (bl X scope s H C cl fp).env.scope x)
    (hf : ∀ s H C cl fp, (bl X scope s H C cl fp).fn x = true ∨ (bl X scope s H C cl fp).env.scope.names.lookup x = some .local := by first | exact fun _ _ _ _ _ => .inr rfl | exact fun _ _ _ _ _ => .inl rfl) : Tgb X scope (.Name x px) [i] R (fun σ v _ σ' => σ' = σ.set i (some v)) :=
  ⟨gName i, fun s H C cl fp => pg_name hN hi (hx s H C cl fp) (hf s H C cl fp), fun a v σ V A Q l r q => q _ rfl (by show (List.set (σ.set i (some v)) i none) = List.set σ i none; rw [List.set_set])⟩
/-- what a turn of the block stands at -/
def AtTurn (σ : L2.St) (vs : List Nat) (V : Hp) (R : Rf α) (up : L2.St → Vl → Hp → L2.St → Prop) (xs : List α) (a : α) (σ' : L2.St) (V' : Hp) : Prop := a ∈ xs ∧ Same V V' ∧ ∃ v, R a v V' ∧ up (wipe σ vs) v V' σ'
theorem lc_read [Mo S] {J : It} {A : Hp} {xs : List α} {p : α → Bool} {f : α → β} {vs : List Nat} {up : L2.St → Vl → Hp → L2.St → Prop} {g : TG} {tt : TT} {Q : VK} {A1 : Hp} {D : Addr} (hJ : Walks J V A R xs) (l : Le V A) (hn : xs.length ≤ sizeLine)
    (hg : ∀ (a : α) (v : Vl) (σ : L2.St) (V A : Hp) (Q : L2.St → Hp → Prop), Le V A → R a v V → (∀ σ', up σ v V σ' → wipe σ' vs = wipe σ vs → Q σ' A) → g v σ A Q)
    (ht : ∀ a σ' V', AtTurn σ vs V R up xs a σ' V' → ∀ A (Q : Bool → Hp → Prop), Le V' A → (∀ A2, Grow V' A V' A2 → Q (p a) A2) → tt σ' A Q)
    (he : ∀ a σ' V', AtTurn σ vs V R up xs a σ' V' → p a = true → EvRb X scope elt σ' V' S (f a))
    (q : ∀ V2 A2 v, Grow V A V2 A2 → qL S ((xs.filter p).map f) v V2 → Q v A2) (hD : A D = none) :
    ∃ W : Nat → Nat → Hp → Prop, (∃ m, W 0 m (upd A D (.lst []))) ∧ ∀ i m H, W i m H →
      (J.stop i H ∧ Q (.ref D) H) ∨ (J.go i H ∧ ∃ Nx : Hp → Prop, (∀ H', Nx H' → ∃ m', m' < m ∧ W (i + 1) m' H') ∧ ∀ x H', J.yld i H x H' → g x (wipe σ vs) H' fun σ2 H2 => wipe σ2 vs = wipe σ vs ∧ tt σ2 H2 fun b H3 =>
        if b = true then (REb X scope elt) σ2 H3 fun y H4 => ∃ acc, H4 D = some (.lst acc) ∧ acc.length < sizeLine ∧ Nx (upd H4 D (.lst (acc ++ [y]))) else Nx H3) := by
  have w0 : Ow V (upd H0 D (.lst [])) (upd A D (.lst [])) := Ow.make l hD
  refine ⟨fun i m A' => m = xs.length - i ∧ i ≤ xs.length ∧ ∃ V' acc, Stp V (upd H0 D (.lst [])) (upd A D (.lst [])) V' (upd H0 D (.lst acc)) A' ∧ Al S (((xs.take i).filter p).map f) acc V' ∧ acc.length ≤ i,
    ⟨xs.length, rfl, Nat.zero_le _, V, [], .refl w0, .nil, Nat.le_refl _⟩, ?_⟩
  rintro i m A' ⟨rfl, hi, V', acc, s, al, ha⟩
  have stand : ∀ b o, V b ≠ none → A b = some o → A' b = some o := fun b o h1 h2 => by
    have hb : b ≠ D := fun z => h1 (by rw [z]; exact l.free hD)
    exact s.aa b o (by rw [upd_ne hb]) (by rw [upd_ne hb]; exact h2)
  obtain ⟨w1, w2⟩ := hJ i V' A' s.vv s.ow.va stand
  by_cases hlt : i < xs.length
  · have hx : xs[i]? = some xs[i] := List.getElem?_eq_getElem hlt
    obtain ⟨go, yl⟩ := w2 xs[i] hx
    have tk : xs.take (i + 1) = xs.take i ++ [xs[i]] := by rw [List.take_add_one, hx]; rfl
    refine .inr ⟨go, fun A2 => ∃ V2 acc2, Stp V (upd H0 D (.lst [])) (upd A D (.lst [])) V2 (upd H0 D (.lst acc2)) A2 ∧ Al S (((xs.take (i + 1)).filter p).map f) acc2 V2 ∧ acc2.length ≤ i + 1,
      fun A2 ⟨V2, acc2, h1, h2, h3⟩ => ⟨xs.length - (i + 1), by omega, rfl, hlt, V2, acc2, h1, h2, h3⟩, fun v A2 hy => ?_⟩
    obtain ⟨V2, g2, r⟩ := yl v A2 hy
    have s2 := s.trans (g2.stp s.ow)
    refine hg xs[i] v (wipe σ vs) V2 A2 _ g2.va r fun σ3 u3 hw => ⟨?_, ?_⟩
    · rw [hw]
      exact wipe_idem σ vs
    · have at_ : AtTurn σ vs V R up xs xs[i] σ3 V2 := ⟨List.getElem_mem hlt, s2.vv, v, r, u3⟩
      refine ht xs[i] σ3 V2 at_ A2 _ g2.va fun A3 g3 => ?_
      have s3 := s2.trans (g3.stp s2.ow)
      cases hp : p xs[i] with
      | false =>
        refine iteF ⟨V2, acc, s3, ?_, by omega⟩
        rw [tk, List.filter_append, List.filter_cons, hp]
        simpa using al.mo g2.vv
      | true =>
        refine iteT fun s0 H1 C cl fp => he xs[i] σ3 V2 at_ hp s0 H1 C cl fp V2 A3 _ (Same.refl _) g3.va fun V4 A4 y g4 r4 => ?_
        have s4 := s3.trans (g4.stp s3.ow)
        refine ⟨acc, s4.ow.ma D _ upd_same, by omega, V4, acc ++ [y], ?_, ?_, by rw [List.length_append, List.length_singleton]; omega⟩
        · have s5 := s4.trans (Stp.set (o' := .lst (acc ++ [y])) s4.ow upd_same)
          rw [upd_upd] at s5
          exact s5
        · rw [tk, List.filter_append, List.filter_cons, hp]
          simp only [if_true, List.filter_nil, List.map_append, List.map_cons, List.map_nil]
          exact (al.mo (g2.vv.trans g4.vv)).app (.cons r4 .nil)
  · have e : i = xs.length := by omega
    subst e
    refine .inl ⟨w1 (Nat.le_refl _), q (upd V' D (.lst acc)) A' _ (grow_made l hD s) ⟨D, acc, rfl, upd_same, ?_, ?_⟩⟩
    · rw [List.take_length] at al
      exact al.mo (same_new (s.ow.di D (by rw [upd_same]; exact fun z => nomatch z)))
    · rw [List.take_length] at al
      rw [al.len]
      omega

theorem AtTurn.of {vs : List Nat} {V2 : Hp} {up : L2.St → Vl → Hp → L2.St → Prop} {xs : List α} {a : α} {σ' : L2.St} {V' : Hp} (s : Same V V2) (h : AtTurn σ vs V2 R up xs a σ' V') : AtTurn σ vs V R up xs a σ' V' := ⟨h.1, s.trans h.2.1, h.2.2⟩
theorem unlock_grow {A V1 A1 : Hp} {d : Addr} {u : HO} {od : Obj} (l : Le V A) (hV : V d = some u) (hA : A d = some u) (hk : isDk u = true) (g : Grow V (upd A d (.frz od u)) V1 A1) : A1 d = some (.frz od u) ∧ Grow V A V1 (upd A1 d u) := by
  have w := lock_ow od (Ow.start l) hV hk
  obtain ⟨h1, h2⟩ := unlock_stp (Ow.start l) hV hA hk (g.stp w)
  exact ⟨h1, h2.grow⟩
/-- the reading of a list comprehension, as a value or ahead of a store -/
theorem lc_tree [Mo S] {xs : List α} {p : α → Bool} {f : α → β} {vs : List Nat} {up : L2.St → Vl → Hp → L2.St → Prop} (hS : Src X tg iter σ V ld R xs) (hn : xs.length ≤ sizeLine)
    (hg : Tgb X scope tg vs R up) (ht : Tsb X scope ifs (AtTurn σ vs V R up xs) p) (he : ∀ a σ' V', AtTurn σ vs V R up xs a σ' V' → p a = true → EvRb X scope elt σ' V' S (f a)) :
    ∃ wi g tt, PI X tg iter wi ∧ (∀ s H C cl fp, PG (bl X scope s H C cl fp) tg g) ∧ (∀ s H C cl fp, PTs (bl X scope s H C cl fp) ifs tt) ∧
      ∀ V1 A (Q : VK), Same V V1 → Le V1 A → (∀ d, ld = some d → ∃ ob o, V d = some o ∧ A d = some (.frz ob o)) → (∀ V2 A2 v, Grow V1 A V2 A2 → qL S ((xs.filter p).map f) v V2 → Q v A2) → tLc wi g tt (REb X scope elt) vs σ A Q := by
  obtain ⟨hld, wi, hpi, hwi⟩ := hS
  obtain ⟨g, hpg, hg⟩ := hg
  obtain ⟨tt, hpt, ht⟩ := ht
  refine ⟨wi, g, tt, hpi, hpg, hpt, fun V1 A Q s l lk q => ?_⟩
  refine hwi V1 A _ s l lk fun J V2 A2 g2 hJ => fun D hD => ?_
  exact lc_read (A1 := A2) hJ g2.va hn hg (fun a σ' V' h => ht a σ' V' (h.of (s.trans g2.vv))) (fun a σ' V' h => he a σ' V' (h.of (s.trans g2.vv))) (fun V3 A3 v g3 r => q V3 A3 v (g2.trans g3) r) hD
/-- [elt for target in iter if ..] -/
theorem ev_lc [Mo S] {xs : List α} {p : α → Bool} {f : α → β} {own : List (Str × Nat)} {up : L2.St → Vl → Hp → L2.St → Prop} (hc : X.calm = true) (hN : X.N.Nodup) (hS : Src X tg iter σ V none R xs) (hn : xs.length ≤ sizeLine) (ok : BlkOk X.N X.env.scope scope own)
    (hg : Tgb X scope tg (own.map (·.2)) R up) (ht : Tsb X scope ifs (AtTurn σ (own.map (·.2)) V R up xs) p) (he : ∀ a σ' V', AtTurn σ (own.map (·.2)) V R up xs a σ' V' → p a = true → EvRb X scope elt σ' V' S (f a))
    (hs : ∀ x, foldedSetIterable iter X.env x = pure x := by intro _; rfl) : EvR X (.ListComp elt [⟨tg, iter, ifs, 0⟩] scope pos) σ V (qL S) ((xs.filter p).map f) := by
  obtain ⟨wi, g, tt, h1, h2, h3, h4⟩ := lc_tree hS hn hg ht he
  exact ev_of (pe_lc hc hN h1 ok h2 h3 (fun s H C cl fp => ⟨fun pins s1 σ1 H1 Q I h => h s H C cl fp pins s1 I⟩) hs) fun V1 A Q s l q => h4 V1 A Q s l (fun _ z => (nomatch z)) q
/-- .. over what must be locked -/
theorem ev_lcD [Mo S] {d : Addr} {xs : List α} {p : α → Bool} {f : α → β} {own : List (Str × Nat)} {up : L2.St → Vl → Hp → L2.St → Prop} (hc : X.calm = true) (hN : X.N.Nodup) (hS : Src X tg iter σ V (some d) R xs) (hn : xs.length ≤ sizeLine) (ok : BlkOk X.N X.env.scope scope own)
    (hg : Tgb X scope tg (own.map (·.2)) R up) (ht : Tsb X scope ifs (AtTurn σ (own.map (·.2)) V R up xs) p) (he : ∀ a σ' V', AtTurn σ (own.map (·.2)) V R up xs a σ' V' → p a = true → EvRb X scope elt σ' V' S (f a))
    (hs : ∀ x, foldedSetIterable iter X.env x = pure x := by intro _; rfl) : EvR X (.ListComp elt [⟨tg, iter, ifs, 0⟩] scope pos) σ V (qL S) ((xs.filter p).map f) := by
  obtain ⟨u, hu, hk⟩ := hS.1 d rfl
  obtain ⟨wi, g, tt, h1, h2, h3, h4⟩ := lc_tree hS hn hg ht he
  have hE := pe_lc (pos := pos) hc hN h1 ok h2 h3 (te := REb X scope elt) (fun s H C cl fp => ⟨fun pins s1 σ1 H1 Q I h => h s H C cl fp pins s1 I⟩) hs
  intro V1 A Q s l q
  have hu1 := s d u hu
  rcases l d u hu1 with hA | ⟨_, ob, hA⟩
  · refine re_of (pe_lock hE) ⟨d, u, hA, mut_dk hk, fun od => ?_⟩
    have w1 := lock_ow od (Ow.start l) hu1 hk
    refine h4 V1 _ _ s w1.va (fun d' z => by cases z; exact ⟨od, u, hu, upd_same⟩) fun V2 A2 v g r => ?_
    obtain ⟨z1, z2⟩ := unlock_grow l hu1 hA hk g
    exact ⟨z1, q V2 _ v z2 r⟩
  · exact re_of hE (h4 V1 A Q s l (fun d' z => by cases z; exact ⟨ob, u, hu, hA⟩) q)
end
/-- y = [..] on one line, y a local -/
theorem go_setLc {X : Cx} {scope : Scope} {σ : L2.St} {V M : Hp} {P : Post} {α β : Type} {R : Rf α} {S : Rf β} {tg iter elt : Expr} {ifs : List Expr} {rest : List Stmt} {pos spos py : Pos} {y : Str} {i : Nat} [Mo S] {xs : List α} {p : α → Bool} {f : α → β} {own : List (Str × Nat)} {up : L2.St → Vl → Hp → L2.St → Prop}
    (hc : X.calm = true) (hN : X.N.Nodup) (hy : X.N[i]? = some y) (hyl : X.env.scope.names.lookup y = some .local) (hsw : swapsWith (.ListComp elt [⟨tg, iter, ifs, 0⟩] scope pos) (some (.Name y py)) spos.line X.env = pure true)
    (hS : Src X tg iter σ V none R xs) (hn : xs.length ≤ sizeLine) (ok : BlkOk X.N X.env.scope scope own)
    (hg : Tgb X scope tg (own.map (·.2)) R up) (ht : Tsb X scope ifs (AtTurn σ (own.map (·.2)) V R up xs) p) (he : ∀ a σ' V', AtTurn σ (own.map (·.2)) V R up xs a σ' V' → p a = true → EvRb X scope elt σ' V' S (f a))
    (k : ∀ V' v, Same V V' → qL S ((xs.filter p).map f) v V' → Go X rest (σ.set i (some v)) V' M P) (hs : ∀ x, foldedSetIterable iter X.env x = pure x := by intro _; rfl) :
    Go X (.Assign [.Name y py] (.ListComp elt [⟨tg, iter, ifs, 0⟩] scope pos) spos :: rest) σ V M P := by
  obtain ⟨wi, g, tt, h1, h2, h3, h4⟩ := lc_tree hS hn hg ht he
  exact go_of (ps_setLc hc hN hy hyl hsw h1 ok h2 h3 (fun s H C cl fp => ⟨fun pins s1 σ1 H1 Q I h => h s H C cl fp pins s1 I⟩) hs) fun A D w fi => h4 V A _ (Same.refl _) w.va (fun _ z => (nomatch z)) fun V2 A2 v g2 r => go_next fi (g2.stp w) (k V2 v g2.vv r)
end Om
set_option maxHeartbeats 4000000
/-! Om, part F: people, equality of data, in, isinstance, constants of the module. -/
namespace Om
open PySem PySem.Spec PyProof.Rows L2

/-! ### people -/
abbrev Pn := Fin 8
def nmL : List Str := ["ann", "bo", "cy", "dee", "eve", "fay", "gus", "z"]
def nm (i : Pn) : Str := nmL.getD i.val ""
abbrev qP : Rf Pn := fun i v _ => v = .str (nm i)
instance : Mo qP := ⟨fun _ h => h⟩
theorem nm_inj : ∀ i j : Pn, (nm i = nm j) ↔ i = j := by decide +kernel
theorem nm_ok : ∀ i : Pn, PyData.strOk (nm i) = true := by decide +kernel
theorem nm_len : ∀ i : Pn, (nm i).length ≤ sizeLine := by decide +kernel

/-! ### data, seen by == -/
class Dt {α : Type} [DecidableEq α] (R : Rf α) where
  D : α → PyData
  n : Nat
  dp : ∀ (K : PySem.W.Frag) {a : α} {v : Vl} {V H : Hp}, Le V H → R a v V → Dp K H v (D a)
  lay : ∀ a, (D a).canLay0 = true
  dep : ∀ a, (D a).depth ≤ n
  eqv : ∀ a b, PyData.eqv (D a) (D b) = decide (a = b)
section
variable {α β : Type} [DecidableEq α] [DecidableEq β] {R : Rf α} {S : Rf β}
instance : Dt qI where
  D := .int
  n := 0
  dp := fun K a v V H _ r => by rw [show v = _ from r]; exact .int a
  lay := fun a => by simp [PyData.canLay0]
  dep := fun a => by simp [PyData.depth]
  eqv := fun a b => by
    simp only [PyData.eqv]
    rw [Bool.beq_eq_decide_eq]
instance : Dt qP where
  D := fun i => .str (nm i)
  n := 0
  dp := fun K a v V H _ r => by rw [show v = _ from r]; exact .str (nm a)
  lay := fun a => by simp [PyData.canLay0, nm_ok]
  dep := fun a => by simp [PyData.depth]
  eqv := fun a b => by
    simp only [PyData.eqv]
    by_cases h : a = b
    · subst h
      simp
    · rw [decide_eq_false h]
      exact beq_eq_false_iff_ne.mpr (fun z => h ((nm_inj a b).mp z))
instance [d1 : Dt R] [d2 : Dt S] : Dt (q2 R S) where
  D := fun x => .tuple [d1.D x.1, d2.D x.2]
  n := max d1.n d2.n + 1
  dp := fun K a v V H l ⟨p, x, y, e, h, r1, r2⟩ => by
    rw [e]
    exact .tup (SqT.of (l.at h)) (.cons (d1.dp K l r1) (.cons (d2.dp K l r2) .nil))
  lay := fun a => by simp [PyData.canLay0, PyData.canLayAll0, d1.lay, d2.lay]
  dep := fun a => by
    have h1 := d1.dep a.1
    have h2 := d2.dep a.2
    simp only [PyData.depth, PyData.depthAll]
    omega
  eqv := fun a b => by
    simp only [PyData.eqv, PyData.eqvAll, d1.eqv, d2.eqv, Bool.and_true]
    obtain ⟨a1, a2⟩ := a
    obtain ⟨b1, b2⟩ := b
    by_cases h1 : a1 = b1 <;> by_cases h2 : a2 = b2 <;> simp [h1, h2]
theorem dt_all [d : Dt R] (K : PySem.W.Frag) {V H : Hp} (l : Le V H) : ∀ {xs : List α} {vs : List Vl}, Al R xs vs V → DpAll K H vs (xs.map d.D)
  | _, _, .nil => .nil
  | _, _, .cons r t => .cons (d.dp K l r) (dt_all K l t)
theorem dt_lay [d : Dt R] : ∀ xs : List α, PyData.canLayAll0 (xs.map d.D) = true
  | [] => by simp [PyData.canLayAll0]
  | x :: xs => by simp [PyData.canLayAll0, d.lay x, dt_lay xs]
theorem dt_dep [d : Dt R] : ∀ xs : List α, PyData.depthAll (xs.map d.D) ≤ d.n
  | [] => by simp [PyData.depthAll]
  | x :: xs => by
    have h1 := dt_dep xs
    have h2 := d.dep x
    simp only [List.map_cons, PyData.depthAll]
    omega
theorem dt_eqv [d : Dt R] : ∀ xs ys : List α, PyData.eqvAll (xs.map d.D) (ys.map d.D) = decide (xs = ys)
  | [], [] => by simp [PyData.eqvAll]
  | [], _ :: _ => by simp [PyData.eqvAll]
  | _ :: _, [] => by simp [PyData.eqvAll]
  | x :: xs, y :: ys => by
    simp only [List.map_cons, PyData.eqvAll, d.eqv, dt_eqv xs ys]
    by_cases h1 : x = y <;> by_cases h2 : xs = ys <;> simp [h1, h2]
instance [d : Dt R] : Dt (qL R) where
  D := fun xs => .list (xs.map d.D)
  n := d.n + 1
  dp := fun K a v V H l ⟨p, vs, e, h, al, _⟩ => by
    rw [e]
    exact .lst (SqL.of (l.at h)) (dt_all K l al)
  lay := fun xs => by simp [PyData.canLay0, dt_lay]
  dep := fun xs => by
    have h := dt_dep (R := R) xs
    simp only [PyData.depth]
    omega
  eqv := fun xs ys => by simp only [PyData.eqv, dt_eqv]
instance [d : Dt R] : Dt (qU R) where
  D := fun xs => .tuple (xs.map d.D)
  n := d.n + 1
  dp := fun K a v V H l ⟨p, vs, e, h, al, _⟩ => by
    rw [e]
    exact .tup (SqT.of (l.at h)) (dt_all K l al)
  lay := fun xs => by simp [PyData.canLay0, dt_lay]
  dep := fun xs => by
    have h := dt_dep (R := R) xs
    simp only [PyData.depth]
    omega
  eqv := fun xs ys => by simp only [PyData.eqv, dt_eqv]
theorem dt_shaped [d : Dt R] (hn : d.n ≤ 64) (a : α) : SeqAt.shaped (d.D a) = true := by
  show ((d.D a).canLay0 && decide ((d.D a).depth ≤ 64)) = true
  rw [Bool.and_eq_true]
  exact ⟨d.lay a, decide_eq_true (Nat.le_trans (d.dep a) hn)⟩
end
section
variable {X : Cx} {σ : L2.St} {V : Hp} {α β : Type} [DecidableEq α] {R : Rf α} {a b : α} {xs : List α} {e : Expr} {pos : Pos}
theorem o_eqD [d : Dt R] (hu : X.A.units + 64 < cLine) (hn : d.n ≤ 64 := by decide) : Op2 X (compareOp .Eq) R a R b qB (decide (a = b)) :=
  ⟨_, op_eqD hu, fun V1 A x y Q l rx ry q => ⟨d.D a, d.D b, d.dp _ l rx, d.dp _ l ry, dt_shaped hn a, dt_shaped hn b, q V1 A _ (.refl l) (by rw [d.eqv])⟩⟩
theorem o_neD [d : Dt R] (hu : X.A.units + 64 < cLine) (hn : d.n ≤ 64 := by decide) : Op2 X (compareOp .NotEq) R a R b qB (!decide (a = b)) :=
  ⟨_, op_neD hu, fun V1 A x y Q l rx ry q => ⟨d.D a, d.D b, d.dp _ l rx, d.dp _ l ry, dt_shaped hn a, dt_shaped hn b, q V1 A _ (.refl l) (by rw [d.eqv])⟩⟩
theorem any_eqv [d : Dt R] (a : α) : ∀ xs : List α, ((xs.map d.D).any fun z => PyData.eqv z (d.D a)) = decide (a ∈ xs)
  | [] => by simp
  | x :: xs => by
    rw [List.map_cons, List.any_cons, any_eqv a xs, d.eqv]
    by_cases h1 : x = a
    · subst h1
      simp
    · have h2 : ¬ a = x := fun z => h1 z.symm
      simp [h1, h2]
theorem o_inD [d : Dt R] (hu : X.A.units + 65 < cLine) (hn : d.n ≤ 63 := by decide) : Op2 X (compareOp .In) R a (qL R) xs qB (decide (a ∈ xs)) :=
  ⟨_, op_inD hu, fun V1 A x y Q l rx ry q => ⟨d.D a, xs.map d.D, d.dp _ l rx, Dt.dp (R := qL R) _ l ry, dt_shaped (by omega) a, dt_shaped (R := qL R) (by show d.n + 1 ≤ 64; omega) xs, q V1 A _ (.refl l) (by rw [any_eqv])⟩⟩
theorem o_ninD [d : Dt R] (hu : X.A.units + 65 < cLine) (hn : d.n ≤ 63 := by decide) : Op2 X (compareOp .NotIn) R a (qL R) xs qB (!decide (a ∈ xs)) :=
  ⟨_, op_notInD hu, fun V1 A x y Q l rx ry q => ⟨d.D a, xs.map d.D, d.dp _ l rx, Dt.dp (R := qL R) _ l ry, dt_shaped (by omega) a, dt_shaped (R := qL R) (by show d.n + 1 ≤ 64; omega) xs, q V1 A _ (.refl l) (by rw [any_eqv])⟩⟩
omit [DecidableEq α]
/-- people -/
theorem o_eqP {i j : Pn} : Op2 X (compareOp .Eq) qP i qP j qB (decide (i = j)) :=
  ⟨_, op_eq, fun V1 A x y Q l rx ry q => by
    cases rx
    cases ry
    refine ⟨rfl, q V1 A _ (.refl l) ?_⟩
    show L2.V.bl _ = L2.V.bl _
    congr 1
    simp only [L2.V.str.injEq, nm_inj]⟩
theorem o_neP {i j : Pn} : Op2 X (compareOp .NotEq) qP i qP j qB (!decide (i = j)) :=
  ⟨_, op_ne, fun V1 A x y Q l rx ry q => by
    cases rx
    cases ry
    refine ⟨rfl, q V1 A _ (.refl l) ?_⟩
    show L2.V.bl _ = L2.V.bl _
    congr 1
    simp only [L2.V.str.injEq, nm_inj]⟩
theorem al_flatP {H : Hp} : ∀ {xs : List Pn} {vs : List Vl}, Al qP xs vs H → vs = xs.map (fun i => L2.V.str (nm i))
  | _, _, .nil => rfl
  | _, _, .cons r t => by rw [List.map_cons, ← al_flatP t, ← show _ = L2.V.str (nm _) from r]
theorem inV_P (i : Pn) : ∀ xs : List Pn, inV (.str (nm i)) (xs.map fun i => L2.V.str (nm i)) = decide (i ∈ xs)
  | [] => rfl
  | x :: xs => by
    have ih := inV_P i xs
    unfold inV at ih ⊢
    rw [List.map_cons, List.any_cons, ih]
    have e : eqV (.str (nm x)) (.str (nm i)) = decide (i = x) := by
      show (decide (nm x = nm i)) = _
      by_cases h : i = x
      · subst h
        simp
      · rw [decide_eq_false h, decide_eq_false (fun z => h ((nm_inj x i).mp z).symm)]
    rw [e]
    by_cases h : i = x <;> simp [h]
theorem flat_P (xs : List Pn) : (xs.map fun i => L2.V.str (nm i)).all flatV = true := by
  rw [List.all_eq_true]
  intro v hv
  obtain ⟨i, _, rfl⟩ := List.mem_map.mp hv
  rfl
theorem o_inP {i : Pn} {xs : List Pn} : Op2 X (compareOp .In) qP i (qL qP) xs qB (decide (i ∈ xs)) :=
  ⟨_, op_in_seq, fun V1 A x y Q l rx ⟨p, vs, e, h, al, _⟩ q => by
    have e2 := al_flatP al
    subst e2
    cases rx
    exact ⟨p, _, e, .inl (SqL.of (l.at h)), rfl, flat_P xs, q V1 A _ (.refl l) (by show L2.V.bl (inV _ _) = _; rw [inV_P])⟩⟩
theorem o_inPU {i : Pn} {xs : List Pn} : Op2 X (compareOp .In) qP i (qU qP) xs qB (decide (i ∈ xs)) :=
  ⟨_, op_in_seq, fun V1 A x y Q l rx ⟨p, vs, e, h, al, _⟩ q => by
    have e2 := al_flatP al
    subst e2
    cases rx
    exact ⟨p, _, e, .inr (SqT.of (l.at h)), rfl, flat_P xs, q V1 A _ (.refl l) (by show L2.V.bl (inV _ _) = _; rw [inV_P])⟩⟩
/-- whole numbers in a list -/
theorem inV_I (i : Int) : ∀ xs : List Int, inV (.int i) (xs.map L2.V.int) = decide (i ∈ xs)
  | [] => rfl
  | x :: xs => by
    have ih := inV_I i xs
    unfold inV at ih ⊢
    rw [List.map_cons, List.any_cons, ih]
    have e : eqV (.int x) (.int i) = decide (i = x) := by
      show (decide (x = i)) = _
      by_cases h : i = x
      · subst h
        simp
      · rw [decide_eq_false h, decide_eq_false (fun z => h z.symm)]
    rw [e]
    by_cases h : i = x <;> simp [h]
theorem o_ninI {i : Int} {xs : List Int} : Op2 X (compareOp .NotIn) qI i (qL qI) xs qB (!decide (i ∈ xs)) :=
  ⟨_, op_notIn_seq, fun V1 A x y Q l rx ⟨p, vs, e, h, al, _⟩ q => by
    have e2 := al.ints
    subst e2
    cases rx
    refine ⟨p, _, e, .inl (SqL.of (l.at h)), rfl, ?_, q V1 A _ (.refl l) (by show L2.V.bl (!inV _ _) = _; rw [inV_I])⟩
    rw [List.all_eq_true]
    intro v hv
    obtain ⟨i, _, rfl⟩ := List.mem_map.mp hv
    rfl⟩
/-- a text among written ones -/
theorem inV_S (i : Str) : ∀ xs : List Str, inV (.str i) (xs.map L2.V.str) = decide (i ∈ xs)
  | [] => rfl
  | x :: xs => by
    have ih := inV_S i xs
    unfold inV at ih ⊢
    rw [List.map_cons, List.any_cons, ih]
    have e : eqV (.str x) (.str i) = decide (i = x) := by
      show (decide (x = i)) = _
      by_cases h : i = x
      · subst h
        simp
      · rw [decide_eq_false h, decide_eq_false (fun z => h z.symm)]
    rw [e]
    by_cases h : i = x <;> simp [h]
theorem al_strs {H : Hp} : ∀ {xs : List Str} {vs : List Vl}, Al qS xs vs H → vs = xs.map L2.V.str
  | _, _, .nil => rfl
  | _, _, .cons r t => by rw [List.map_cons, ← al_strs t, ← show _ = L2.V.str _ from r]
theorem flat_S (xs : List Str) : (xs.map L2.V.str).all flatV = true := by
  rw [List.all_eq_true]
  intro v hv
  obtain ⟨i, _, rfl⟩ := List.mem_map.mp hv
  rfl
/-- a tuple of texts, tracked or the module's own -/
def qK (K : PySem.W.Frag) : Rf (List Str) := fun xs v H => ∃ p, v = .ref p ∧ SqT K H p (xs.map L2.V.str)
instance {K : PySem.W.Frag} : Mo (qK K) := ⟨fun s ⟨p, e, h⟩ => ⟨p, e, by
  rcases h with (h | ⟨o, h⟩) | h
  · exact .inl (.inl (s _ _ h))
  · exact .inl (.inr ⟨o, s _ _ h⟩)
  · exact .inr h⟩⟩
theorem sqT_le {K : PySem.W.Frag} {V H : Hp} {p : Addr} {xs : List Vl} (l : Le V H) (h : SqT K V p xs) : SqT K H p xs := by
  rcases h with (h | ⟨o, h⟩) | h
  · exact .inl (.inl (l.at h))
  · exact .inl (.inr ⟨o, l.at h⟩)
  · exact .inr h
theorem o_inK {i : Str} {xs : List Str} : Op2 X (compareOp .In) qS i (qK X.K) xs qB (decide (i ∈ xs)) :=
  ⟨_, op_in_seq, fun V1 A x y Q l rx ⟨p, e, h⟩ q => by
    cases rx
    exact ⟨p, _, e, .inr (sqT_le l h), rfl, flat_S xs, q V1 A _ (.refl l) (by show L2.V.bl (inV _ _) = _; rw [inV_S])⟩⟩
/-- text among a display's -/
theorem o_inS {i : Str} {xs : List Str} : Op2 X (compareOp .In) qS i (qU qS) xs qB (decide (i ∈ xs)) :=
  ⟨_, op_in_seq, fun V1 A x y Q l rx ⟨p, vs, e, h, al, _⟩ q => by
    have e2 := al_strs al
    subst e2
    cases rx
    exact ⟨p, _, e, .inr (SqT.of (l.at h)), rfl, flat_S xs, q V1 A _ (.refl l) (by show L2.V.bl (inV _ _) = _; rw [inV_S])⟩⟩
/-- a sign in a text -/
theorem o_sign {c : Nat} {z : Str} : Op2 X (compareOp .In) qS ⟨#[c]⟩ qS z qB (decide (c ∈ z.cps.toList)) :=
  ⟨_, op_in_sign, fun V1 A x y Q l rx ry q => ⟨c, z, rx, ry, q V1 A _ (.refl l) rfl⟩⟩

/-! ### is None -/
theorem o_notN {v : α} {k : Bool} (h : ∀ x H, R v x H → (!decide (x = .non)) = k) : Op2 X (compareOp .IsNot) R v qN () qB k :=
  ⟨_, op_notN, fun V1 A x y Q l rx ry q => ⟨ry, q V1 A _ (.refl l) (by rw [h x V1 rx])⟩⟩
theorem o_isN {v : α} {k : Bool} (h : ∀ x H, R v x H → decide (x = .non) = k) : Op2 X (compareOp .Is) R v qN () qB k :=
  ⟨_, op_isN, fun V1 A x y Q l rx ry q => ⟨ry, q V1 A _ (.refl l) (by rw [h x V1 rx])⟩⟩

/-! ### classes as values, isinstance -/
abbrev qT : Rf String := fun n v _ => v = .ty n
instance : Mo qT := ⟨fun _ h => h⟩
theorem ev_ty {x : Str} {n : String} (hg : Gl X x) (hm : X.mg x = none) (hv : bootBuiltins x = some (.type n)) (hn : x ≠ "__name__" := by decide) (hd : (x == ("__debug__" : Str)) = false := by decide) : EvR X (.Name x pos) σ V qT n :=
  ev_of (pe_bltn (v := .ty n) hg hm hv rfl hn hd) fun V1 A Q s l q => q V1 A _ (.refl l) rfl
/-- what a value's type is -/
def Tyd (K : PySem.W.Frag) (R : Rf α) (a : α) (t : Value) : Prop := ∀ v V H, Le V H → R a v V → TyX K H v t
theorem tyd_I {K : PySem.W.Frag} {i : Int} : Tyd K qI i (.type "int") := fun v V H _ r => by rw [show v = _ from r]; exact .base (.int i)
theorem tyd_S {K : PySem.W.Frag} {i : Str} : Tyd K qS i (.type "str") := fun v V H _ r => by rw [show v = _ from r]; exact .base (.str i)
theorem tyd_P {K : PySem.W.Frag} {i : Pn} : Tyd K qP i (.type "str") := fun v V H _ r => by rw [show v = _ from r]; exact .base (.str _)
theorem tyd_L {K : PySem.W.Frag} {S : Rf β} {xs : List β} : Tyd K (qL S) xs (.type "list") := fun v V H l ⟨p, vs, e, h, _⟩ => by rw [e]; exact .base (.lst (l.at h))
theorem tyd_U {K : PySem.W.Frag} {S : Rf β} {xs : List β} : Tyd K (qU S) xs (.type "tuple") := fun v V H l ⟨p, vs, e, h, _⟩ => by rw [e]; exact .base (.tup (l.at h))
theorem tyd_2 {K : PySem.W.Frag} {γ : Type} {S : Rf β} {T : Rf γ} {x : β × γ} : Tyd K (q2 S T) x (.type "tuple") := fun v V H l ⟨p, a, b, e, h, _⟩ => by rw [e]; exact .base (.tup (l.at h))
theorem f_isi {t : Value} {n : String} {k : Bool} (ty : Tyd X.K R a t) (h : PySem.W.kitOne X.K t (.type n) = some k) : Fn2 X (.builtin "isinstance") R a qT n qB k :=
  ⟨_, call_isi, fun V1 A x y Q l rx ry q => ⟨x, y, t, .type n, k, rfl, by rw [show y = _ from ry]; exact .ty n, ty x V1 A l rx, h, q V1 A _ (.refl l) rfl⟩⟩
theorem f_isiT {t : Value} {n1 n2 : String} {k : Bool} (ty : Tyd X.K R a t) (h : PySem.W.kitAny X.K t [.type n1, .type n2] = some k) : Fn2 X (.builtin "isinstance") R a (q2 qT qT) (n1, n2) qB k :=
  ⟨_, call_isiT, fun V1 A x y Q l rx ⟨p, u, v, e, hp, r1, r2⟩ q => ⟨x, p, [u, v], t, _, k, by rw [e], l.at hp, .cons (by rw [show u = _ from r1]; exact .ty n1) (.cons (by rw [show v = _ from r2]; exact .ty n2) .nil), ty x V1 A l rx, h, q V1 A _ (.refl l) rfl⟩⟩
/-- isinstance against a class of the program -/
theorem f_isiC {t : Value} {C : Addr} {k : Bool} (ty : Tyd X.K R a t) (h : PySem.W.kitOne X.K t (.ref C) = some k) : Fn2 X (.builtin "isinstance") R a (fun (_ : Unit) v _ => v = .ref C) () qB k :=
  ⟨_, call_isi, fun V1 A x y Q l rx ry q => ⟨x, y, t, .ref C, k, rfl, by rw [show y = _ from ry]; exact .own C, ty x V1 A l rx, h, q V1 A _ (.refl l) rfl⟩⟩
/-- a module's constant -/
theorem ev_glob {x : Str} {v : Vl} {u : Value} (hg : Gl X x) (hm : X.mg x = some u) (r : RelV v u) (h : ∀ V1, Same V V1 → R a v V1) (hd : (x == ("__debug__" : Str)) = false := by decide) : EvR X (.Name x pos) σ V R a :=
  ev_of (pe_glob hg hm r hd) fun V1 A Q s l q => q V1 A v (.refl l) (h V1 s)
end
end Om
set_option maxHeartbeats 4000000
/-! Om, part G: slices, sums of lists and tuples, max of a tuple, sorted, comprehensions of two clauses. -/
namespace Om
open PySem PySem.Spec PyProof.Rows L2
section
variable {X : Cx} {σ : L2.St} {V : Hp} {α β γ : Type} {R : Rf α} {S : Rf β} {e e1 e2 : Expr} {pos p2 : Pos}
/-! ### slices of lists -/
def EvP (X : Cx) (e : Option Expr) (σ : L2.St) (V : Hp) (o : Option Int) : Prop :=
  ∃ t, PO X e t ∧ ∀ V1 A (Q : Option Int → Hp → Prop), Same V V1 → Le V1 A → (∀ A2, Grow V1 A V1 A2 → Q o A2) → t σ A Q
theorem ep_none : EvP X none σ V none := ⟨_, po_none, fun V1 A Q s l q => q A (.refl l)⟩
theorem ep_some {i : Int} (h : EvR X e σ V qI i) : EvP X (some e) σ V (some i) := ⟨_, po_some pe_re, fun V1 A Q s l q => h V1 A _ s l fun V2 A2 v g r => ⟨i, r, q A2 g.drop⟩⟩
def cut {α : Type} (xs : List α) (lo hi : Option Int) : List α := (xs.drop (HT.sIx xs.length 0 lo)).take (HT.sIx xs.length xs.length hi - HT.sIx xs.length 0 lo)
theorem Al.drop {H : Hp} : ∀ {xs : List α} {vs : List Vl} (n : Nat), Al R xs vs H → Al R (xs.drop n) (vs.drop n) H
  | _, _, 0, h => h
  | _, _, _ + 1, .nil => .nil
  | _, _, n + 1, .cons _ t => Al.drop n t
theorem Al.take {H : Hp} : ∀ {xs : List α} {vs : List Vl} (n : Nat), Al R xs vs H → Al R (xs.take n) (vs.take n) H
  | _, _, 0, _ => .nil
  | _, _, _ + 1, .nil => .nil
  | _, _, n + 1, .cons r t => .cons r (Al.take n t)
theorem Al.cut {H : Hp} {xs : List α} {vs : List Vl} (h : Al R xs vs H) (lo hi : Option Int) : Al R (Om.cut xs lo hi) (cutV vs lo hi) H := by
  unfold Om.cut cutV
  rw [h.len]
  exact (h.drop _).take _
theorem cut_len {α : Type} (xs : List α) (lo hi : Option Int) : (cut xs lo hi).length ≤ xs.length := by
  unfold cut
  rw [List.length_take, List.length_drop]
  omega
theorem ev_sl [Mo R] {xs : List α} {lo hi : Option Expr} {l h : Option Int} (h1 : EvR X e σ V (qL R) xs) (h2 : EvP X lo σ V l) (h3 : EvP X hi σ V h) : EvR X (.Subscript e (.Slice lo hi none p2) pos) σ V (qL R) (cut xs l h) := by
  obtain ⟨t2, p2, k2⟩ := h2
  obtain ⟨t3, p3, k3⟩ := h3
  refine ev_of (pe_slice sl_list pe_re p2 p3) fun V1 A Q s l0 q => h1 V1 A _ s l0 fun V2 A2 v g ⟨p, vs, ev, hp, al, hl⟩ => k2 V2 A2 _ (s.trans g.vv) g.va fun A3 g3 => k3 V2 A3 _ (s.trans g.vv) g3.va fun A4 g4 => ?_
  have g5 := (g.trans g3).trans g4
  refine ⟨p, vs, ev, SqL.of (g4.va.at hp), fun t ht => ?_⟩
  have gn : Grow V2 A4 _ _ := Grow.new (o := .lst (cutV vs l h)) g5.va ht
  exact q _ _ _ (g5.trans gn) ⟨t, _, rfl, upd_same, (al.cut l h).mo gn.vv, Nat.le_trans (cut_len xs l h) hl⟩
theorem cut_drop {xs : List α} {n : Nat} : cut xs (some (n : Int)) none = xs.drop n := by
  unfold cut
  rw [HT.sIx_nat, HT.sIx_none]
  rcases Nat.le_total n xs.length with h | h
  · rw [Nat.min_eq_left h]
    exact List.take_of_length_le (by rw [List.length_drop]; omega)
  · rw [Nat.min_eq_right h, List.drop_length, List.drop_of_length_le h]
    simp
theorem cut_take {xs : List α} {n : Nat} : cut xs none (some (n : Int)) = xs.take n := by
  unfold cut
  rw [HT.sIx_nat, HT.sIx_none, List.drop_zero, Nat.sub_zero]
  rcases Nat.le_total n xs.length with h | h
  · rw [Nat.min_eq_left h]
  · rw [Nat.min_eq_right h, List.take_length, List.take_of_length_le h]
theorem cut_mid {xs : List α} {n m : Nat} (h : m ≤ xs.length) : cut xs (some (n : Int)) (some (m : Int)) = (xs.drop n).take (m - n) := by
  unfold cut
  rw [HT.sIx_nat, HT.sIx_nat, Nat.min_eq_left h]
  rcases Nat.le_total n xs.length with h' | h'
  · rw [Nat.min_eq_left h']
  · rw [Nat.min_eq_right h', List.drop_length, List.drop_of_length_le h']
    simp
/-! ### sums -/
theorem o_cat [Mo R] {xs ys : List α} (h : xs.length + ys.length ≤ sizeLine) : Op2 X (binaryOp .Add) (qL R) xs (qL R) ys (qL R) (xs ++ ys) :=
  ⟨_, op_cat, fun V1 A x y Q l ⟨p, vs, e1, hp, al, _⟩ ⟨p', us, e2, hp', al', _⟩ q => ⟨p, p', vs, us, e1, e2, l.at hp, l.at hp', by rw [← al.len, ← al'.len]; exact h, fun t ht => by
    have gn : Grow V1 A _ _ := Grow.new (o := .lst (vs ++ us)) l ht
    exact q _ _ _ gn ⟨t, _, rfl, upd_same, (al.mo gn.vv).app (al'.mo gn.vv), by rw [List.length_append]; exact h⟩⟩⟩
theorem Al.nil_iff {H : Hp} {xs : List α} {vs : List Vl} (h : Al R xs vs H) : vs = [] ↔ xs = [] := by
  cases h <;> simp
theorem o_catU [Mo R] {xs ys : List α} (h : xs.length + ys.length ≤ sizeLine) : Op2 X (binaryOp .Add) (qU R) xs (qU R) ys (qU R) (xs ++ ys) :=
  ⟨_, op_catA, fun V1 A x y Q l ⟨p, vs, e1, hp, al, b1⟩ ⟨p', us, e2, hp', al', b2⟩ q => ⟨p, p', vs, us, e1, e2, SqT.of (l.at hp), SqT.of (l.at hp'), by rw [← al.len, ← al'.len]; exact h,
    fun z => by
      have z1 := al.nil_iff.mp z
      subst z1
      exact q V1 A _ (.refl l) ⟨p', us, rfl, hp', al', b2⟩,
    fun _ z => by
      have z1 := al'.nil_iff.mp z
      subst z1
      rw [List.append_nil] at q
      exact q V1 A _ (.refl l) ⟨p, vs, rfl, hp, al, b1⟩,
    fun _ _ t ht => by
      have gn : Grow V1 A _ _ := Grow.new (o := .tup (vs ++ us)) l ht
      exact q _ _ _ gn ⟨t, _, rfl, upd_same, (al.mo gn.vv).app (al'.mo gn.vv), by rw [List.length_append]; exact h⟩⟩⟩
/-! ### max of a tuple of whole numbers -/
theorem dpAll_ints {K : PySem.W.Frag} {H : Hp} : ∀ ns : List Int, DpAll K H (ns.map L2.V.int) (ns.map PyData.int)
  | [] => .nil
  | n :: ns => .cons (.int n) (dpAll_ints ns)
theorem depth_ints : ∀ ns : List Int, PyData.depthAll (ns.map PyData.int) = 0
  | [] => by simp [PyData.depthAll]
  | n :: ns => by simp [PyData.depthAll, PyData.depth, depth_ints ns]
theorem call_maxT (hc : X.calm = true) (hu : X.A.units + 1 < cLine) : CallR X (.builtin "max") (fun vs H Q => ∃ (a : Addr) (n : Int) (ns : List Int), vs = [L2.V.ref a] ∧ SqT X.K H a ((n :: ns).map L2.V.int) ∧ Q (.int (ns.foldl max n)) H) := by
  intro pins s σ H vs us Q I r h
  obtain ⟨a, n, ns, rfl, hs, q⟩ := h
  rw [Vals.ref1 r]
  obtain ⟨its, rv, ht, _⟩ := I.tuple hs
  obtain ⟨as, hr⟩ := Dp.readsAll I _ _ its (dpAll_ints (K := X.K) (H := H) (n :: ns)) rv
  have hd := depth_ints (n :: ns)
  have hA : PySem.W.AlikeAll ((n :: ns).map PyData.int) := by
    refine ⟨fun x hx y hy => ?_, fun x hx => ?_⟩
    · obtain ⟨i, _, rfl⟩ := List.mem_map.mp hx
      obtain ⟨j, _, rfl⟩ := List.mem_map.mp hy
      simp [PySem.W.alike]
    · obtain ⟨i, _, rfl⟩ := List.mem_map.mp hx
      exact fun z => nomatch z
  refine PySem.W.max_tuple_data (x := .int n) (xs := ns.map PyData.int) (I.ok.hd hc) (show s.heap.IsTuple a its.toArray from ht) (by simpa using hr) hA ?_ fun i v h' tk bs hi hrd hk => ?_
  · rw [show PyData.int n :: ns.map PyData.int = (n :: ns).map PyData.int from rfl, hd]
    exact hu
  · rw [PySem.W.maxD_ints] at hrd
    refine ⟨.int (ns.foldl max n), H, I.kept hk, ?_, q⟩
    cases hrd
    exact ⟨_, rfl⟩
theorem f_maxU (hc : X.calm = true) (hu : X.A.units + 1 < cLine) {n : Int} {ns : List Int} : Fn1 X (.builtin "max") (qU qI) (n :: ns) qI (ns.foldl max n) :=
  ⟨_, call_maxT hc hu, fun V1 A x Q l ⟨p, vs, ev, hp, al, _⟩ q => ⟨p, n, ns, by rw [ev], SqT.of (by rw [← al.ints]; exact l.at hp), q V1 A _ (.refl l) rfl⟩⟩
/-! ### sorted -/
theorem f_sorted {ns ms : List Int} (h1 : ms.Perm ns) (h2 : ms.Pairwise (· ≤ ·)) : Fn1 X (.builtin "sorted") (qL qI) ns (qL qI) ms :=
  ⟨_, cr_sortedI, fun V1 A x Q l ⟨p, vs, ev, hp, al, hl⟩ q => ⟨p, ns, by rw [ev], SqL.of (by rw [← al.ints]; exact l.at hp), fun ns' t hp1 hp2 ht => by
    have e : ns' = ms := PySem.W.ksm_same (hp1.trans h1.symm) hp2 h2
    subst e
    have gn : Grow V1 A _ _ := Grow.new (o := .lst (ns'.map L2.V.int)) l ht
    exact q _ _ _ gn ⟨t, _, rfl, upd_same, al_ints, by rw [h1.length_eq]; exact hl⟩⟩⟩
end
/-! ### comprehensions of two clauses -/
/-- an inner clause's source -/
def Srcb {α β : Type} (X : Cx) (scope : Scope) (tg iter : Expr) (V : Hp) (ld : Option Addr) (at_ : α → L2.St → Hp → Prop) (S : Rf β) (ys : α → List β) : Prop :=
  ∃ wi, (∀ s H C cl fp, PI (bl X scope s H C cl fp) tg iter wi) ∧ ∀ a σ' V', at_ a σ' V' → ∀ A (Q : It → Hp → Prop), Le V' A → (∀ d, ld = some d → ∃ ob o, V d = some o ∧ A d = some (.frz ob o)) →
    (∀ J V2 A2, Grow V' A V2 A2 → Walks J V2 A2 S (ys a) → Q J A2) → wi σ' A Q
section
variable {X : Cx} {scope : Scope} {σ : L2.St} {V : Hp} {α β γ : Type} {R : Rf α} {S : Rf β} {T : Rf γ} {tg iter tg1 iter1 elt c : Expr} {ifs ifs1 : List Expr} {pos px : Pos} {x : Str} {ld : Option Addr}
theorem walks_lst [Mo S] {xs : List β} {v : Vl} {A : Hp} {p : Addr} {vs : List Vl} (hp : V p = some (.lst vs)) (al : Al S xs vs V) : Walks (Itl X.K p) V A S xs := fun i V' A' sv lv k => by
  have hA : A' p = some (.lst vs) := lv.at (sv _ _ hp)
  refine ⟨fun hi => ⟨vs, SqL.of hA, by rw [← al.len]; exact hi⟩, fun a ha => ?_⟩
  obtain ⟨w, hw, r⟩ := al.get ha
  refine ⟨⟨vs, w, SqL.of hA, hw⟩, fun v A'' y => ?_⟩
  obtain ⟨e1, e2⟩ := y
  have e3 := e2 vs (SqL.of hA)
  rw [hw] at e3
  cases e3
  rw [e1]
  exact ⟨V', .refl lv, Mo.mo sv r⟩
theorem walks_tup [Mo S] {xs : List β} {v : Vl} {A : Hp} {p : Addr} {vs : List Vl} (hp : V p = some (.tup vs)) (al : Al S xs vs V) : Walks (Itt X.K p) V A S xs := fun i V' A' sv lv k => by
  have hA : A' p = some (.tup vs) := lv.at (sv _ _ hp)
  refine ⟨fun hi => ⟨vs, SqT.of hA, by rw [← al.len]; exact hi⟩, fun a ha => ?_⟩
  obtain ⟨w, hw, r⟩ := al.get ha
  refine ⟨⟨vs, w, SqT.of hA, hw⟩, fun v A'' y => ?_⟩
  obtain ⟨e1, e2⟩ := y
  have e3 := e2 vs (SqT.of hA)
  rw [hw] at e3
  cases e3
  rw [e1]
  exact ⟨V', .refl lv, Mo.mo sv r⟩
theorem pe_reb {s H C cl fp} {e : Expr} : PE (bl X scope s H C cl fp) e (REb X scope e) := ⟨fun pins s1 σ1 H1 Q I h => h s H C cl fp pins s1 I⟩
theorem srcb_list [Mo S] {f : α → L2.St → Hp → Prop} {ys : α → List β} (h : ∀ a σ' V', f a σ' V' → EvRb X scope iter σ' V' (qL S) (ys a)) : Srcb X scope tg iter V ld f S ys :=
  ⟨iList X.K (REb X scope iter), fun s H C cl fp => pi_list (X := bl X scope s H C cl fp) pe_reb, fun a σ' V' ha A Q l _ q => fun s H C cl fp => h a σ' V' ha s H C cl fp V' A _ (Same.refl _) l fun V2 A2 v g ⟨p, vs, ev, hp, al, _⟩ =>
    ⟨p, ev, ⟨vs, SqL.of (g.va.at hp)⟩, q _ V2 A2 g (walks_lst (X := X) (v := v) hp al)⟩⟩
theorem srcb_tup [Mo S] {f : α → L2.St → Hp → Prop} {ys : α → List β} (h : ∀ a σ' V', f a σ' V' → EvRb X scope iter σ' V' (qU S) (ys a)) : Srcb X scope tg iter V ld f S ys :=
  ⟨iTup X.K (REb X scope iter), fun s H C cl fp => pi_tup (X := bl X scope s H C cl fp) pe_reb, fun a σ' V' ha A Q l _ q => fun s H C cl fp => h a σ' V' ha s H C cl fp V' A _ (Same.refl _) l fun V2 A2 v g ⟨p, vs, ev, hp, al, _⟩ =>
    ⟨p, ev, ⟨vs, SqT.of (g.va.at hp)⟩, q _ V2 A2 g (walks_tup (X := X) (v := v) hp al)⟩⟩
/-- the second clause's turn -/
def AtTurn2 (σ : L2.St) (vs vs1 : List Nat) (V : Hp) (R : Rf α) (S : Rf β) (up up1 : L2.St → Vl → Hp → L2.St → Prop) (xs : List α) (ys : α → List β) (z : α × β) (σ' : L2.St) (V' : Hp) : Prop :=
  ∃ σ2 V2, AtTurn σ vs V R up xs z.1 σ2 V2 ∧ z.2 ∈ ys z.1 ∧ Same V2 V' ∧ ∃ v, S z.2 v V' ∧ up1 (wipe σ2 vs1) v V' σ'

theorem srcb_range2 {e1 e2 : Expr} {p pos : Pos} {f : α → L2.St → Hp → Prop} {lo hi : α → Int} (hg : ∀ s H C cl fp, Gl (bl X scope s H C cl fp) "range") (hm : X.mg "range" = none) (h1 : ∀ a σ' V', f a σ' V' → EvRb X scope e1 σ' V' qI (lo a)) (h2 : ∀ a σ' V', f a σ' V' → EvRb X scope e2 σ' V' qI (hi a))
    (hb : ∀ a σ' V', f a σ' V' → -(2 ^ 62) ≤ lo a ∧ lo a < 2 ^ 62 ∧ -(2 ^ 62) ≤ hi a ∧ hi a < 2 ^ 62)
    (hs : ∀ s H C cl fp, starEach [e1, e2] (bl X scope s H C cl fp).env = [(false, eval e1 (bl X scope s H C cl fp).env), (false, eval e2 (bl X scope s H C cl fp).env)] := by exact fun _ _ _ _ _ => rfl)
    (hs2 : ∀ s H C cl fp, starEach [e2] (bl X scope s H C cl fp).env = [(false, eval e2 (bl X scope s H C cl fp).env)] := by exact fun _ _ _ _ _ => rfl) :
    Srcb X scope tg (.Call (.Name "range" p) [e1, e2] [] pos) V ld f qI (fun a => rgl (lo a) (hi a - lo a).toNat) :=
  ⟨iRng2 (tCons (REb X scope e1) (tCons (REb X scope e2) tNil)), fun s H C cl fp => pi_range2 (hg s H C cl fp) hm (pa_cons pe_reb (pa_cons pe_reb pa_nil (hs2 s H C cl fp)) (by rw [hs, hs2])) (hs s H C cl fp) (hs2 s H C cl fp),
    fun a σ' V' ha A Q l _ q => fun s H C cl fp => h1 a σ' V' ha s H C cl fp V' A _ (Same.refl _) l fun V2 A2 v g r => fun s H C cl fp => h2 a σ' V' ha s H C cl fp V2 A2 _ g.vv g.va fun V3 A3 u g3 r3 => by
      obtain ⟨b1, b2, b3, b4⟩ := hb a σ' V' ha
      exact ⟨lo a, hi a, by rw [show v = _ from r, show u = _ from r3], ⟨b1, b2, b3, b4⟩, q _ V3 A3 (g.trans g3) walks_range⟩⟩
theorem flat_at {F : α → List γ} {xs : List α} {i : Nat} {a : α} (h : xs[i]? = some a) : xs.flatMap F = (xs.take i).flatMap F ++ (F a ++ (xs.drop (i + 1)).flatMap F) := by
  obtain ⟨hl, e⟩ := List.getElem?_eq_some_iff.mp h
  have e2 : xs = xs.take i ++ a :: xs.drop (i + 1) := by
    rw [← e, List.getElem_cons_drop, List.take_append_drop]
  conv => lhs; rw [e2]
  rw [List.flatMap_append, List.flatMap_cons]
theorem fil_at {q : β → Bool} {ys : List β} {j : Nat} {b : β} (h : ys[j]? = some b) (hq : q b = true) : ((ys.take j).filter q).length < (ys.filter q).length := by
  obtain ⟨hl, e⟩ := List.getElem?_eq_some_iff.mp h
  have e2 : ys = ys.take j ++ b :: ys.drop (j + 1) := by
    rw [← e, List.getElem_cons_drop, List.take_append_drop]
  conv => rhs; rw [e2]
  rw [List.filter_append, List.filter_cons, if_pos hq, List.length_append, List.length_cons]
  omega
theorem fil_split {p : α → Bool} {xs : List α} {i : Nat} {a : α} (h : xs[i]? = some a) (hp : p a = true) : xs.filter p = (xs.take i).filter p ++ a :: (xs.drop (i + 1)).filter p := by
  obtain ⟨hl, e⟩ := List.getElem?_eq_some_iff.mp h
  have e2 : xs = xs.take i ++ a :: xs.drop (i + 1) := by
    rw [← e, List.getElem_cons_drop, List.take_append_drop]
  conv => lhs; rw [e2]
  rw [List.filter_append, List.filter_cons, if_pos hp]
theorem lc2_read [Mo T] {J : It} {A : Hp} {xs : List α} {ys : α → List β} {p : α → Bool} {q : α × β → Bool} {f : α × β → γ} {vs vs1 : List Nat} {up up1 : L2.St → Vl → Hp → L2.St → Prop} {g g1 : TG} {tt tt1 : TT} {wi1 : TI} {Q : VK} {D : Addr}
    (hJ : Walks J V A R xs) (l : Le V A) (hn : ((xs.filter p).flatMap fun a => ((ys a).filter fun b => q (a, b)).map fun b => f (a, b)).length ≤ sizeLine)
    (hg : ∀ (a : α) (v : Vl) (σ : L2.St) (V A : Hp) (Q : L2.St → Hp → Prop), Le V A → R a v V → (∀ σ', up σ v V σ' → wipe σ' vs = wipe σ vs → Q σ' A) → g v σ A Q)
    (ht : ∀ a σ' V', AtTurn σ vs V R up xs a σ' V' → ∀ A (Q : Bool → Hp → Prop), Le V' A → (∀ A2, Grow V' A V' A2 → Q (p a) A2) → tt σ' A Q)
    (hi1 : ∀ a σ' V', AtTurn σ vs V R up xs a σ' V' → ∀ A' (Q : It → Hp → Prop), Le V' A' → (∀ b o, V b ≠ none → A b = some o → A' b = some o) → (∀ J V2 A2, Grow V' A' V2 A2 → Walks J V2 A2 S (ys a) → Q J A2) → wi1 σ' A' Q)
    (hg1 : ∀ (a : β) (v : Vl) (σ : L2.St) (V A : Hp) (Q : L2.St → Hp → Prop), Le V A → S a v V → (∀ σ', up1 σ v V σ' → wipe σ' vs1 = wipe σ vs1 → Q σ' A) → g1 v σ A Q)
    (ht1 : ∀ z σ' V', AtTurn2 σ vs vs1 V R S up up1 xs ys z σ' V' → ∀ A (Q : Bool → Hp → Prop), Le V' A → (∀ A2, Grow V' A V' A2 → Q (q z) A2) → tt1 σ' A Q)
    (he : ∀ z σ' V', AtTurn2 σ vs vs1 V R S up up1 xs ys z σ' V' → q z = true → EvRb X scope elt σ' V' T (f z))
    (k : ∀ V2 A2 v, Grow V A V2 A2 → qL T ((xs.filter p).flatMap fun a => ((ys a).filter fun b => q (a, b)).map fun b => f (a, b)) v V2 → Q v A2) (hD : A D = none) :
    ∃ W : Nat → Nat → Hp → Prop, (∃ m, W 0 m (upd A D (.lst []))) ∧ ∀ i m H, W i m H →
      (J.stop i H ∧ Q (.ref D) H) ∨ (J.go i H ∧ ∃ Nx : Hp → Prop, (∀ H', Nx H' → ∃ m', m' < m ∧ W (i + 1) m' H') ∧ ∀ x H', J.yld i H x H' → g x (wipe σ vs) H' fun σ2 H2 => wipe σ2 vs = wipe σ vs ∧ tt σ2 H2 fun b H3 =>
        if b = true then wi1 σ2 H3 fun J1 H4 => ∃ W1 : Nat → Nat → Hp → Prop, (∃ m, W1 0 m H4) ∧ ∀ j k H, W1 j k H →
          (J1.stop j H ∧ Nx H) ∨ (J1.go j H ∧ ∃ Nx1 : Hp → Prop, (∀ H', Nx1 H' → ∃ k', k' < k ∧ W1 (j + 1) k' H') ∧ ∀ x H', J1.yld j H x H' → g1 x (wipe σ2 vs1) H' fun σ3 H5 => wipe σ3 vs1 = wipe σ2 vs1 ∧ tt1 σ3 H5 fun b H6 =>
            if b = true then (REb X scope elt) σ3 H6 fun y H7 => ∃ acc, H7 D = some (.lst acc) ∧ acc.length < sizeLine ∧ Nx1 (upd H7 D (.lst (acc ++ [y]))) else Nx1 H6)
        else Nx H3) := by
  have w0 : Ow V (upd H0 D (.lst [])) (upd A D (.lst [])) := Ow.make l hD
  generalize hF : (fun a => ((ys a).filter fun b => q (a, b)).map fun b => f (a, b)) = F at hn k ⊢
  have hFa : ∀ a, F a = ((ys a).filter fun b => q (a, b)).map fun b => f (a, b) := fun a => by rw [← hF]
  refine ⟨fun i m A' => m = xs.length - i ∧ i ≤ xs.length ∧ ∃ V' acc, Stp V (upd H0 D (.lst [])) (upd A D (.lst [])) V' (upd H0 D (.lst acc)) A' ∧ Al T (((xs.take i).filter p).flatMap F) acc V',
    ⟨xs.length, rfl, Nat.zero_le _, V, [], .refl w0, .nil⟩, ?_⟩
  rintro i m A' ⟨rfl, hi, V', acc, s, al⟩
  have stand : ∀ {V' M' A'}, Stp V (upd H0 D (.lst [])) (upd A D (.lst [])) V' M' A' → ∀ b o, V b ≠ none → A b = some o → A' b = some o := fun {V' M' A'} s b o h1 h2 => by
    have hb : b ≠ D := fun z => h1 (by rw [z]; exact l.free hD)
    exact s.aa b o (by rw [upd_ne hb]) (by rw [upd_ne hb]; exact h2)
  obtain ⟨w1, w2⟩ := hJ i V' A' s.vv s.ow.va (stand s)
  by_cases hlt : i < xs.length
  · have hx : xs[i]? = some xs[i] := List.getElem?_eq_getElem hlt
    obtain ⟨go, yl⟩ := w2 xs[i] hx
    have tk : xs.take (i + 1) = xs.take i ++ [xs[i]] := by rw [List.take_add_one, hx]; rfl
    refine .inr ⟨go, fun A2 => ∃ V2 acc2, Stp V (upd H0 D (.lst [])) (upd A D (.lst [])) V2 (upd H0 D (.lst acc2)) A2 ∧ Al T (((xs.take (i + 1)).filter p).flatMap F) acc2 V2,
      fun A2 ⟨V2, acc2, h1, h2⟩ => ⟨xs.length - (i + 1), by omega, rfl, hlt, V2, acc2, h1, h2⟩, fun v A2 hy => ?_⟩
    obtain ⟨V2, g2, r⟩ := yl v A2 hy
    have s2 := s.trans (g2.stp s.ow)
    refine hg xs[i] v (wipe σ vs) V2 A2 _ g2.va r fun σ3 u3 hw => ⟨by rw [hw]; exact wipe_idem σ vs, ?_⟩
    have at_ : AtTurn σ vs V R up xs xs[i] σ3 V2 := ⟨List.getElem_mem hlt, s2.vv, v, r, u3⟩
    refine ht xs[i] σ3 V2 at_ A2 _ g2.va fun A3 g3 => ?_
    have s3 := s2.trans (g3.stp s2.ow)
    cases hp : p xs[i] with
    | false =>
      refine iteF ⟨V2, acc, s3, ?_⟩
      rw [tk, List.filter_append, List.filter_cons, hp]
      simpa using al.mo g2.vv
    | true =>
      have tk2 : ((xs.take (i + 1)).filter p).flatMap F = ((xs.take i).filter p).flatMap F ++ F xs[i] := by
        rw [tk, List.filter_append, List.filter_cons, hp]
        simp
      have hsp := fil_split hx hp
      have hin : (xs.filter p)[((xs.take i).filter p).length]? = some xs[i] := by
        rw [hsp, List.getElem?_append_right (Nat.le_refl _)]
        simp
      have htk : (xs.filter p).take ((xs.take i).filter p).length = (xs.take i).filter p := by
        rw [hsp, List.take_left']
        rfl
      refine iteT (hi1 xs[i] σ3 V2 at_ A3 _ s3.ow.va (stand s3) fun J1 V4 A4 g4 hJ1 => ?_)
      have s4 := s3.trans (g4.stp s3.ow)
      refine ⟨fun j k A5 => k = (ys xs[i]).length - j ∧ j ≤ (ys xs[i]).length ∧ ∃ V5 acc5, Stp V4 (upd H0 D (.lst acc)) A4 V5 (upd H0 D (.lst acc5)) A5 ∧
        Al T (((xs.take i).filter p).flatMap F ++ (((ys xs[i]).take j).filter fun b => q (xs[i], b)).map fun b => f (xs[i], b)) acc5 V5, ⟨(ys xs[i]).length, rfl, Nat.zero_le _, V4, acc, .refl s4.ow, ?_⟩, ?_⟩
      · simpa using al.mo (g2.vv.trans g4.vv)
      rintro j m5 A5 ⟨rfl, hj, V5, acc5, s5, al5⟩
      have stand1 : ∀ b o, V4 b ≠ none → A4 b = some o → A5 b = some o := fun b o h1 h2 => by
        have hb : b ≠ D := fun z => h1 (by rw [z]; exact s4.ow.di D (by rw [upd_same]; exact fun z => nomatch z))
        exact s5.aa b o (by rw [upd_ne hb]) h2
      obtain ⟨w3, w4⟩ := hJ1 j V5 A5 s5.vv s5.ow.va stand1
      by_cases hltj : j < (ys xs[i]).length
      · have hy1 : (ys xs[i])[j]? = some (ys xs[i])[j] := List.getElem?_eq_getElem hltj
        obtain ⟨go1, yl1⟩ := w4 _ hy1
        have tj : (ys xs[i]).take (j + 1) = (ys xs[i]).take j ++ [(ys xs[i])[j]] := by rw [List.take_add_one, hy1]; rfl
        refine .inr ⟨go1, fun A6 => ∃ V6 acc6, Stp V4 (upd H0 D (.lst acc)) A4 V6 (upd H0 D (.lst acc6)) A6 ∧
          Al T (((xs.take i).filter p).flatMap F ++ (((ys xs[i]).take (j + 1)).filter fun b => q (xs[i], b)).map fun b => f (xs[i], b)) acc6 V6,
          fun A6 ⟨V6, acc6, h1, h2⟩ => ⟨(ys xs[i]).length - (j + 1), by omega, rfl, hltj, V6, acc6, h1, h2⟩, fun u A6 hu => ?_⟩
        obtain ⟨V6, g6, r6⟩ := yl1 u A6 hu
        have s6 := s5.trans (g6.stp s5.ow)
        refine hg1 _ u (wipe σ3 vs1) V6 A6 _ g6.va r6 fun σ6 u6 hw6 => ⟨by rw [hw6]; exact wipe_idem σ3 vs1, ?_⟩
        have at2 : AtTurn2 σ vs vs1 V R S up up1 xs ys (xs[i], (ys xs[i])[j]) σ6 V6 := ⟨σ3, V2, at_, List.getElem_mem hltj, g4.vv.trans (s5.vv.trans g6.vv), u, r6, u6⟩
        refine ht1 _ σ6 V6 at2 A6 _ g6.va fun A7 g7 => ?_
        have s7 := s6.trans (g7.stp s6.ow)
        cases hq : q (xs[i], (ys xs[i])[j]) with
        | false =>
          refine iteF ⟨V6, acc5, s7, ?_⟩
          rw [tj, List.filter_append, List.filter_cons, hq]
          simpa using al5.mo g6.vv
        | true =>
          refine iteT fun s0 H1 C cl fp => he _ σ6 V6 at2 hq s0 H1 C cl fp V6 A7 _ (Same.refl _) g7.va fun V8 A8 y g8 r8 => ?_
          have s8 := s7.trans (g8.stp s7.ow)
          refine ⟨acc5, s8.ow.ma D _ upd_same, ?_, V8, acc5 ++ [y], ?_, ?_⟩
          · have h1 := fil_at (q := fun b => q (xs[i], b)) hy1 hq
            have h2 := flat_at (F := F) hin
            have h3 := congrArg List.length h2
            rw [htk, List.length_append, List.length_append, hFa xs[i], List.length_map] at h3
            have h4 := al5.len
            rw [List.length_append, List.length_map] at h4
            omega
          · have s9 := s8.trans (Stp.set (o' := .lst (acc5 ++ [y])) s8.ow upd_same)
            rw [upd_upd] at s9
            exact s9
          · rw [tj, List.filter_append, List.filter_cons, hq]
            simp only [if_true, List.filter_nil, List.map_append, List.map_cons, List.map_nil]
            rw [← List.append_assoc]
            exact (al5.mo (g6.vv.trans g8.vv)).app (.cons r8 .nil)
      · have e : j = (ys xs[i]).length := by omega
        subst e
        refine .inl ⟨w3 (Nat.le_refl _), V5, acc5, s4.trans s5, ?_⟩
        rw [tk2, hFa xs[i]]
        rw [List.take_length] at al5
        exact al5
  · have e : i = xs.length := by omega
    subst e
    refine .inl ⟨w1 (Nat.le_refl _), k (upd V' D (.lst acc)) A' _ (grow_made l hD s) ⟨D, acc, rfl, upd_same, ?_, hn⟩⟩
    rw [List.take_length] at al
    exact al.mo (same_new (s.ow.di D (by rw [upd_same]; exact fun z => nomatch z)))
theorem lc2_tree [Mo T] {xs : List α} {ys : α → List β} {p : α → Bool} {q : α × β → Bool} {f : α × β → γ} {vs vs1 : List Nat} {up up1 : L2.St → Vl → Hp → L2.St → Prop} (hS : Src X tg iter σ V ld R xs)
    (hn : ((xs.filter p).flatMap fun a => ((ys a).filter fun b => q (a, b)).map fun b => f (a, b)).length ≤ sizeLine) (hg : Tgb X scope tg vs R up) (ht : Tsb X scope ifs (AtTurn σ vs V R up xs) p)
    (hS1 : Srcb X scope tg1 iter1 V ld (AtTurn σ vs V R up xs) S ys) (hg1 : Tgb X scope tg1 vs1 S up1) (ht1 : Tsb X scope ifs1 (AtTurn2 σ vs vs1 V R S up up1 xs ys) q)
    (he : ∀ z σ' V', AtTurn2 σ vs vs1 V R S up up1 xs ys z σ' V' → q z = true → EvRb X scope elt σ' V' T (f z)) :
    ∃ wi g tt wi1 g1 tt1, PI X tg iter wi ∧ (∀ s H C cl fp, PG (bl X scope s H C cl fp) tg g) ∧ (∀ s H C cl fp, PTs (bl X scope s H C cl fp) ifs tt) ∧ (∀ s H C cl fp, PI (bl X scope s H C cl fp) tg1 iter1 wi1) ∧
      (∀ s H C cl fp, PG (bl X scope s H C cl fp) tg1 g1) ∧ (∀ s H C cl fp, PTs (bl X scope s H C cl fp) ifs1 tt1) ∧
      ∀ V1 A (Q : VK), Same V V1 → Le V1 A → (∀ d, ld = some d → ∃ ob o, V d = some o ∧ A d = some (.frz ob o)) →
        (∀ V2 A2 v, Grow V1 A V2 A2 → qL T ((xs.filter p).flatMap fun a => ((ys a).filter fun b => q (a, b)).map fun b => f (a, b)) v V2 → Q v A2) → tLc2 wi g tt wi1 g1 tt1 (REb X scope elt) vs vs1 σ A Q := by
  obtain ⟨hld, wi, hpi, hwi⟩ := hS
  obtain ⟨g, hpg, hg⟩ := hg
  obtain ⟨tt, hpt, ht⟩ := ht
  obtain ⟨wi1, hpi1, hwi1⟩ := hS1
  obtain ⟨g1, hpg1, hg1⟩ := hg1
  obtain ⟨tt1, hpt1, ht1⟩ := ht1
  refine ⟨wi, g, tt, wi1, g1, tt1, hpi, hpg, hpt, hpi1, hpg1, hpt1, fun V1 A Q s l lk k => ?_⟩
  refine hwi V1 A _ s l lk fun J V2 A2 g2 hJ => fun D hD => ?_
  have sv := s.trans g2.vv
  have of2 : ∀ z σ' V', AtTurn2 σ vs vs1 V2 R S up up1 xs ys z σ' V' → AtTurn2 σ vs vs1 V R S up up1 xs ys z σ' V' := fun z σ' V' ⟨σ2, V3, h1, h2⟩ => ⟨σ2, V3, h1.of sv, h2⟩
  refine lc2_read (wi1 := wi1) hJ g2.va hn hg (fun a σ' V' h => ht a σ' V' (h.of sv)) (fun a σ' V' h A' Q' l' st q' => hwi1 a σ' V' (h.of sv) A' Q' l' (fun d z => ?_) q') hg1 (fun z σ' V' h => ht1 z σ' V' (of2 z σ' V' h)) (fun z σ' V' h => he z σ' V' (of2 z σ' V' h))
    (fun V3 A3 v g3 r => k V3 A3 v (g2.trans g3) r) hD
  obtain ⟨ob, o, h1, h2⟩ := lk d z
  exact ⟨ob, o, h1, st d _ (by rw [sv d o h1]; exact fun z => nomatch z) (g2.aa d _ h2)⟩
/-- [elt for tg in iter if .. for tg1 in iter1 if ..] -/
theorem ev_lc2 [Mo T] {xs : List α} {ys : α → List β} {p : α → Bool} {q : α × β → Bool} {f : α × β → γ} {own : List (Str × Nat)} {vs1 : List Nat} {up up1 : L2.St → Vl → Hp → L2.St → Prop} (hc : X.calm = true) (hN : X.N.Nodup) (hS : Src X tg iter σ V none R xs)
    (hn : ((xs.filter p).flatMap fun a => ((ys a).filter fun b => q (a, b)).map fun b => f (a, b)).length ≤ sizeLine) (ok : BlkOk X.N X.env.scope scope own) (hv : ∀ i ∈ vs1, i ∈ own.map (·.2)) (hg : Tgb X scope tg (own.map (·.2)) R up) (ht : Tsb X scope ifs (AtTurn σ (own.map (·.2)) V R up xs) p)
    (hS1 : Srcb X scope tg1 iter1 V none (AtTurn σ (own.map (·.2)) V R up xs) S ys) (hg1 : Tgb X scope tg1 vs1 S up1) (ht1 : Tsb X scope ifs1 (AtTurn2 σ (own.map (·.2)) vs1 V R S up up1 xs ys) q)
    (he : ∀ z σ' V', AtTurn2 σ (own.map (·.2)) vs1 V R S up up1 xs ys z σ' V' → q z = true → EvRb X scope elt σ' V' T (f z))
    (hs : ∀ x, foldedSetIterable iter X.env x = pure x := by intro _; rfl) (hs1 : ∀ env x, foldedSetIterable iter1 env x = pure x := by intro _ _; rfl) :
    EvR X (.ListComp elt [⟨tg, iter, ifs, 0⟩, ⟨tg1, iter1, ifs1, 0⟩] scope pos) σ V (qL T) ((xs.filter p).flatMap fun a => ((ys a).filter fun b => q (a, b)).map fun b => f (a, b)) := by
  obtain ⟨wi, g, tt, wi1, g1, tt1, h1, h2, h3, h4, h5, h6, h7⟩ := lc2_tree hS hn hg ht hS1 hg1 ht1 he
  exact ev_of (pe_lc2 hc hN h1 ok hv h2 h3 h4 h5 h6 (fun s H C cl fp => pe_reb) hs hs1) fun V1 A Q s l k => h7 V1 A Q s l (fun _ z => (nomatch z)) k
theorem ev_lc2D [Mo T] {d : Addr} {xs : List α} {ys : α → List β} {p : α → Bool} {q : α × β → Bool} {f : α × β → γ} {own : List (Str × Nat)} {vs1 : List Nat} {up up1 : L2.St → Vl → Hp → L2.St → Prop} (hc : X.calm = true) (hN : X.N.Nodup) (hS : Src X tg iter σ V (some d) R xs)
    (hn : ((xs.filter p).flatMap fun a => ((ys a).filter fun b => q (a, b)).map fun b => f (a, b)).length ≤ sizeLine) (ok : BlkOk X.N X.env.scope scope own) (hv : ∀ i ∈ vs1, i ∈ own.map (·.2)) (hg : Tgb X scope tg (own.map (·.2)) R up) (ht : Tsb X scope ifs (AtTurn σ (own.map (·.2)) V R up xs) p)
    (hS1 : Srcb X scope tg1 iter1 V (some d) (AtTurn σ (own.map (·.2)) V R up xs) S ys) (hg1 : Tgb X scope tg1 vs1 S up1) (ht1 : Tsb X scope ifs1 (AtTurn2 σ (own.map (·.2)) vs1 V R S up up1 xs ys) q)
    (he : ∀ z σ' V', AtTurn2 σ (own.map (·.2)) vs1 V R S up up1 xs ys z σ' V' → q z = true → EvRb X scope elt σ' V' T (f z))
    (hs : ∀ x, foldedSetIterable iter X.env x = pure x := by intro _; rfl) (hs1 : ∀ env x, foldedSetIterable iter1 env x = pure x := by intro _ _; rfl) :
    EvR X (.ListComp elt [⟨tg, iter, ifs, 0⟩, ⟨tg1, iter1, ifs1, 0⟩] scope pos) σ V (qL T) ((xs.filter p).flatMap fun a => ((ys a).filter fun b => q (a, b)).map fun b => f (a, b)) := by
  obtain ⟨u, hu, hk⟩ := hS.1 d rfl
  obtain ⟨wi, g, tt, wi1, g1, tt1, h1, h2, h3, h4, h5, h6, h7⟩ := lc2_tree hS hn hg ht hS1 hg1 ht1 he
  have hE := pe_lc2 (pos := pos) hc hN h1 ok hv h2 h3 h4 h5 h6 (te := REb X scope elt) (fun s H C cl fp => pe_reb) hs hs1
  intro V1 A Q s l k
  have hu1 := s d u hu
  rcases l d u hu1 with hA | ⟨_, ob, hA⟩
  · refine re_of (pe_lock hE) ⟨d, u, hA, mut_dk hk, fun od => ?_⟩
    have w1 := lock_ow od (Ow.start l) hu1 hk
    refine h7 V1 _ _ s w1.va (fun d' z => by cases z; exact ⟨od, u, hu, upd_same⟩) fun V2 A2 v g r => ?_
    obtain ⟨z1, z2⟩ := unlock_grow l hu1 hA hk g
    exact ⟨z1, k V2 _ v z2 r⟩
  · exact re_of hE (h7 V1 A Q s l (fun d' z => by cases z; exact ⟨ob, u, hu, hA⟩) k)
/-- y = [.. for .. for ..], y a local -/
theorem go_setLc2 {M : Hp} {P : Post} {rest : List Stmt} {spos py : Pos} {y : Str} {i : Nat} [Mo T] {xs : List α} {ys : α → List β} {p : α → Bool} {q : α × β → Bool} {f : α × β → γ} {own : List (Str × Nat)} {vs1 : List Nat} {up up1 : L2.St → Vl → Hp → L2.St → Prop} (hc : X.calm = true) (hN : X.N.Nodup)
    (hy : X.N[i]? = some y) (hyl : X.env.scope.names.lookup y = some .local) (hsw : swapsWith (.ListComp elt [⟨tg, iter, ifs, 0⟩, ⟨tg1, iter1, ifs1, 0⟩] scope pos) (some (.Name y py)) spos.line X.env = pure true) (hS : Src X tg iter σ V none R xs)
    (hn : ((xs.filter p).flatMap fun a => ((ys a).filter fun b => q (a, b)).map fun b => f (a, b)).length ≤ sizeLine) (ok : BlkOk X.N X.env.scope scope own) (hv : ∀ i ∈ vs1, i ∈ own.map (·.2)) (hg : Tgb X scope tg (own.map (·.2)) R up) (ht : Tsb X scope ifs (AtTurn σ (own.map (·.2)) V R up xs) p)
    (hS1 : Srcb X scope tg1 iter1 V none (AtTurn σ (own.map (·.2)) V R up xs) S ys) (hg1 : Tgb X scope tg1 vs1 S up1) (ht1 : Tsb X scope ifs1 (AtTurn2 σ (own.map (·.2)) vs1 V R S up up1 xs ys) q)
    (he : ∀ z σ' V', AtTurn2 σ (own.map (·.2)) vs1 V R S up up1 xs ys z σ' V' → q z = true → EvRb X scope elt σ' V' T (f z))
    (k : ∀ V' v, Same V V' → qL T ((xs.filter p).flatMap fun a => ((ys a).filter fun b => q (a, b)).map fun b => f (a, b)) v V' → Go X rest (σ.set i (some v)) V' M P)
    (hs : ∀ x, foldedSetIterable iter X.env x = pure x := by intro _; rfl) (hs1 : ∀ env x, foldedSetIterable iter1 env x = pure x := by intro _ _; rfl) :
    Go X (.Assign [.Name y py] (.ListComp elt [⟨tg, iter, ifs, 0⟩, ⟨tg1, iter1, ifs1, 0⟩] scope pos) spos :: rest) σ V M P := by
  obtain ⟨wi, g, tt, wi1, g1, tt1, h1, h2, h3, h4, h5, h6, h7⟩ := lc2_tree hS hn hg ht hS1 hg1 ht1 he
  exact go_of (ps_setLc2 hc hN hy hyl hsw h1 ok hv h2 h3 h4 h5 h6 (fun s H C cl fp => pe_reb) hs hs1) fun A D w fi => h7 V A _ (Same.refl _) w.va (fun _ z => (nomatch z)) fun V2 A2 v g2 r => go_next fi (g2.stp w) (k V2 v g2.vv r)
end
end Om
set_option maxHeartbeats 4000000
/-! Om, part H: comprehensions over one name, in short. -/
namespace Om
open PySem PySem.Spec PyProof.Rows L2
section
variable {X : Cx} {scope : Scope} {σ : L2.St} {V M : Hp} {P : Post} {rest : List Stmt} {α β : Type} {R : Rf α} {S : Rf β} {iter elt c : Expr} {pos px py spos : Pos} {x y : Str} {ld : Option Addr} {i k : Nat} {xs : List α} {f : α → β} {p : α → Bool}
theorem at_name {up : L2.St → Vl → Hp → L2.St → Prop} {a : α} {σ' : L2.St} {V' : Hp} (h : AtTurn σ [i] V R (fun σ v _ σ' => σ' = σ.set i (some v)) xs a σ' V') : ∃ v, a ∈ xs ∧ Same V V' ∧ R a v V' ∧ σ' = σ.set i (some v) := by
  obtain ⟨h1, h2, v, h3, h4⟩ := h
  refine ⟨v, h1, h2, h3, ?_⟩
  rw [h4]
  show (List.set (List.set σ i none) i (some v)) = _
  rw [List.set_set]
/-- [elt for x in iter] -/
theorem ev_lcn [Mo S] (i : Nat) (hc : X.calm = true) (hN : X.N.Nodup) (hi : X.N[i]? = some x) (hS : Src X (.Name x px) iter σ V none R xs) (hn : xs.length ≤ sizeLine) (ok : BlkOk X.N X.env.scope scope [(x, i)])
    (he : ∀ a v V', a ∈ xs → Same V V' → R a v V' → EvRb X scope elt (σ.set i (some v)) V' S (f a)) (hx : ∀ s H C cl fp, Loc (bl X scope s H C cl fp).env.scope x := by first | exact fun _ _ _ _ _ => .inl rfl | exact fun _ _ _ _ _ => .inr rfl)
    (hf : ∀ s H C cl fp, (bl X scope s H C cl fp).fn x = true ∨ (bl X scope s H C cl fp).env.scope.names.lookup x = some .local := by first | exact fun _ _ _ _ _ => .inr rfl | exact fun _ _ _ _ _ => .inl rfl)
    (hs : ∀ x, foldedSetIterable iter X.env x = pure x := by intro _; rfl) : EvR X (.ListComp elt [⟨.Name x px, iter, [], 0⟩] scope pos) σ V (qL S) (xs.map f) := by
  have h := ev_lc (pos := pos) (f := f) (S := S) (elt := elt) hc hN hS hn ok (tgb_name (R := R) hN hi hx hf) ts_nil (fun a σ' V' at_ _ => by
    obtain ⟨v, h1, h2, h3, rfl⟩ := at_name (up := fun _ _ _ _ => True) at_
    exact he a v V' h1 h2 h3) hs
  rwa [List.filter_eq_self.mpr (fun _ _ => rfl)] at h
/-- [elt for x in iter if c] -/
theorem ev_lcf [Mo S] (i : Nat) (hc : X.calm = true) (hN : X.N.Nodup) (hi : X.N[i]? = some x) (hS : Src X (.Name x px) iter σ V none R xs) (hn : xs.length ≤ sizeLine) (ok : BlkOk X.N X.env.scope scope [(x, i)])
    (ht : ∀ a v V', a ∈ xs → Same V V' → R a v V' → EvTb X scope c (σ.set i (some v)) V' (p a))
    (he : ∀ a v V', a ∈ xs → p a = true → Same V V' → R a v V' → EvRb X scope elt (σ.set i (some v)) V' S (f a)) (hx : ∀ s H C cl fp, Loc (bl X scope s H C cl fp).env.scope x := by first | exact fun _ _ _ _ _ => .inl rfl | exact fun _ _ _ _ _ => .inr rfl)
    (hf : ∀ s H C cl fp, (bl X scope s H C cl fp).fn x = true ∨ (bl X scope s H C cl fp).env.scope.names.lookup x = some .local := by first | exact fun _ _ _ _ _ => .inr rfl | exact fun _ _ _ _ _ => .inl rfl)
    (hs : ∀ x, foldedSetIterable iter X.env x = pure x := by intro _; rfl) : EvR X (.ListComp elt [⟨.Name x px, iter, [c], 0⟩] scope pos) σ V (qL S) ((xs.filter p).map f) :=
  ev_lc (pos := pos) (f := f) (S := S) (elt := elt) hc hN hS hn ok (tgb_name (R := R) hN hi hx hf) (ts_one fun a σ' V' at_ => by
    obtain ⟨v, h1, h2, h3, rfl⟩ := at_name (up := fun _ _ _ _ => True) at_
    exact ht a v V' h1 h2 h3) (fun a σ' V' at_ hp => by
    obtain ⟨v, h1, h2, h3, rfl⟩ := at_name (up := fun _ _ _ _ => True) at_
    exact he a v V' h1 hp h2 h3) hs
/-- .. over a locked dict -/
theorem ev_lcnD [Mo S] (i : Nat) {d : Addr} (hc : X.calm = true) (hN : X.N.Nodup) (hi : X.N[i]? = some x) (hS : Src X (.Name x px) iter σ V (some d) R xs) (hn : xs.length ≤ sizeLine) (ok : BlkOk X.N X.env.scope scope [(x, i)])
    (he : ∀ a v V', a ∈ xs → Same V V' → R a v V' → EvRb X scope elt (σ.set i (some v)) V' S (f a)) (hx : ∀ s H C cl fp, Loc (bl X scope s H C cl fp).env.scope x := by first | exact fun _ _ _ _ _ => .inl rfl | exact fun _ _ _ _ _ => .inr rfl)
    (hf : ∀ s H C cl fp, (bl X scope s H C cl fp).fn x = true ∨ (bl X scope s H C cl fp).env.scope.names.lookup x = some .local := by first | exact fun _ _ _ _ _ => .inr rfl | exact fun _ _ _ _ _ => .inl rfl)
    (hs : ∀ x, foldedSetIterable iter X.env x = pure x := by intro _; rfl) : EvR X (.ListComp elt [⟨.Name x px, iter, [], 0⟩] scope pos) σ V (qL S) (xs.map f) := by
  have h := ev_lcD (pos := pos) (f := f) (S := S) (elt := elt) hc hN hS hn ok (tgb_name (R := R) hN hi hx hf) ts_nil (fun a σ' V' at_ _ => by
    obtain ⟨v, h1, h2, h3, rfl⟩ := at_name (up := fun _ _ _ _ => True) at_
    exact he a v V' h1 h2 h3) hs
  rwa [List.filter_eq_self.mpr (fun _ _ => rfl)] at h
theorem ev_lcfD [Mo S] (i : Nat) {d : Addr} (hc : X.calm = true) (hN : X.N.Nodup) (hi : X.N[i]? = some x) (hS : Src X (.Name x px) iter σ V (some d) R xs) (hn : xs.length ≤ sizeLine) (ok : BlkOk X.N X.env.scope scope [(x, i)])
    (ht : ∀ a v V', a ∈ xs → Same V V' → R a v V' → EvTb X scope c (σ.set i (some v)) V' (p a))
    (he : ∀ a v V', a ∈ xs → p a = true → Same V V' → R a v V' → EvRb X scope elt (σ.set i (some v)) V' S (f a)) (hx : ∀ s H C cl fp, Loc (bl X scope s H C cl fp).env.scope x := by first | exact fun _ _ _ _ _ => .inl rfl | exact fun _ _ _ _ _ => .inr rfl)
    (hf : ∀ s H C cl fp, (bl X scope s H C cl fp).fn x = true ∨ (bl X scope s H C cl fp).env.scope.names.lookup x = some .local := by first | exact fun _ _ _ _ _ => .inr rfl | exact fun _ _ _ _ _ => .inl rfl)
    (hs : ∀ x, foldedSetIterable iter X.env x = pure x := by intro _; rfl) : EvR X (.ListComp elt [⟨.Name x px, iter, [c], 0⟩] scope pos) σ V (qL S) ((xs.filter p).map f) :=
  ev_lcD (pos := pos) (f := f) (S := S) (elt := elt) hc hN hS hn ok (tgb_name (R := R) hN hi hx hf) (ts_one fun a σ' V' at_ => by
    obtain ⟨v, h1, h2, h3, rfl⟩ := at_name (up := fun _ _ _ _ => True) at_
    exact ht a v V' h1 h2 h3) (fun a σ' V' at_ hp => by
    obtain ⟨v, h1, h2, h3, rfl⟩ := at_name (up := fun _ _ _ _ => True) at_
    exact he a v V' h1 hp h2 h3) hs
/-- y = [elt for x in iter], y a local -/
theorem go_lcn [Mo S] (i k : Nat) (hc : X.calm = true) (hN : X.N.Nodup) (hk : X.N[k]? = some y) (hyl : X.env.scope.names.lookup y = some .local) (hi : X.N[i]? = some x) (hS : Src X (.Name x px) iter σ V none R xs) (hn : xs.length ≤ sizeLine) (ok : BlkOk X.N X.env.scope scope [(x, i)])
    (he : ∀ a v V', a ∈ xs → Same V V' → R a v V' → EvRb X scope elt (σ.set i (some v)) V' S (f a)) (q : ∀ V' v, Same V V' → qL S (xs.map f) v V' → Go X rest (σ.set k (some v)) V' M P)
    (hsw : swapsWith (.ListComp elt [⟨.Name x px, iter, [], 0⟩] scope pos) (some (.Name y py)) spos.line X.env = pure true := by exact sw_true rfl rfl rfl (by decide +kernel))
    (hx : ∀ s H C cl fp, Loc (bl X scope s H C cl fp).env.scope x := by first | exact fun _ _ _ _ _ => .inl rfl | exact fun _ _ _ _ _ => .inr rfl)
    (hf : ∀ s H C cl fp, (bl X scope s H C cl fp).fn x = true ∨ (bl X scope s H C cl fp).env.scope.names.lookup x = some .local := by first | exact fun _ _ _ _ _ => .inr rfl | exact fun _ _ _ _ _ => .inl rfl)
    (hs : ∀ x, foldedSetIterable iter X.env x = pure x := by intro _; rfl) : Go X (.Assign [.Name y py] (.ListComp elt [⟨.Name x px, iter, [], 0⟩] scope pos) spos :: rest) σ V M P :=
  go_setLc (p := fun _ => true) (f := f) (S := S) (elt := elt) hc hN hk hyl hsw hS hn ok (tgb_name (R := R) hN hi hx hf) ts_nil (fun a σ' V' at_ _ => by
    obtain ⟨v, h1, h2, h3, rfl⟩ := at_name (up := fun _ _ _ _ => True) at_
    exact he a v V' h1 h2 h3) (fun V' v s r => q V' v s (by rwa [List.filter_eq_self.mpr (fun _ _ => rfl)] at r)) hs
theorem go_lcf [Mo S] (i k : Nat) (hc : X.calm = true) (hN : X.N.Nodup) (hk : X.N[k]? = some y) (hyl : X.env.scope.names.lookup y = some .local) (hi : X.N[i]? = some x) (hS : Src X (.Name x px) iter σ V none R xs) (hn : xs.length ≤ sizeLine) (ok : BlkOk X.N X.env.scope scope [(x, i)])
    (ht : ∀ a v V', a ∈ xs → Same V V' → R a v V' → EvTb X scope c (σ.set i (some v)) V' (p a))
    (he : ∀ a v V', a ∈ xs → p a = true → Same V V' → R a v V' → EvRb X scope elt (σ.set i (some v)) V' S (f a)) (q : ∀ V' v, Same V V' → qL S ((xs.filter p).map f) v V' → Go X rest (σ.set k (some v)) V' M P)
    (hsw : swapsWith (.ListComp elt [⟨.Name x px, iter, [c], 0⟩] scope pos) (some (.Name y py)) spos.line X.env = pure true := by exact sw_true rfl rfl rfl (by decide +kernel))
    (hx : ∀ s H C cl fp, Loc (bl X scope s H C cl fp).env.scope x := by first | exact fun _ _ _ _ _ => .inl rfl | exact fun _ _ _ _ _ => .inr rfl)
    (hf : ∀ s H C cl fp, (bl X scope s H C cl fp).fn x = true ∨ (bl X scope s H C cl fp).env.scope.names.lookup x = some .local := by first | exact fun _ _ _ _ _ => .inr rfl | exact fun _ _ _ _ _ => .inl rfl)
    (hs : ∀ x, foldedSetIterable iter X.env x = pure x := by intro _; rfl) : Go X (.Assign [.Name y py] (.ListComp elt [⟨.Name x px, iter, [c], 0⟩] scope pos) spos :: rest) σ V M P :=
  go_setLc (f := f) (S := S) (elt := elt) hc hN hk hyl hsw hS hn ok (tgb_name (R := R) hN hi hx hf) (ts_one fun a σ' V' at_ => by
    obtain ⟨v, h1, h2, h3, rfl⟩ := at_name (up := fun _ _ _ _ => True) at_
    exact ht a v V' h1 h2 h3) (fun a σ' V' at_ hp => by
    obtain ⟨v, h1, h2, h3, rfl⟩ := at_name (up := fun _ _ _ _ => True) at_
    exact he a v V' h1 hp h2 h3) q hs
end
end Om
set_option maxHeartbeats 4000000
/-! Om, the text by places (printed by gen_top.py). -/
namespace Om
open PySem PySem.Spec PyProof.Rows L2
def topS (i : Nat) : Stmt := PySem.Challenge.pw_ownmarks_k22_whole_lifts_by_scores.main.body.getD i (.Pass ⟨0, 0, 0, 0⟩)
abbrev s_is_count : Stmt := topS 9
abbrev n_is_count : List Str := ["value", "least", "most"]
theorem sc_is_count : FnScope n_is_count ["value", "least", "most"] (defScope s_is_count) := ⟨rfl, rfl, rfl, by decide +kernel, rfl, by decide +kernel, by decide +kernel⟩
abbrev s_is_one_of : Stmt := topS 10
abbrev n_is_one_of : List Str := ["value", "texts"]
theorem sc_is_one_of : FnScope n_is_one_of ["value", "texts"] (defScope s_is_one_of) := ⟨rfl, rfl, rfl, by decide +kernel, rfl, by decide +kernel, by decide +kernel⟩
abbrev s_common_part : Stmt := topS 11
abbrev n_common_part : List Str := ["one", "other"]
theorem sc_common_part : FnScope n_common_part ["one", "other"] (defScope s_common_part) := ⟨rfl, rfl, rfl, by decide +kernel, rfl, by decide +kernel, by decide +kernel⟩
abbrev s_fraction : Stmt := topS 12
abbrev n_fraction : List Str := ["top", "bottom", "part"]
theorem sc_fraction : FnScope n_fraction ["top", "bottom"] (defScope s_fraction) := ⟨rfl, rfl, rfl, by decide +kernel, rfl, by decide +kernel, by decide +kernel⟩
abbrev s_plus : Stmt := topS 13
abbrev n_plus : List Str := ["one", "other"]
theorem sc_plus : FnScope n_plus ["one", "other"] (defScope s_plus) := ⟨rfl, rfl, rfl, by decide +kernel, rfl, by decide +kernel, by decide +kernel⟩
abbrev s_over : Stmt := topS 14
abbrev n_over : List Str := ["one", "number"]
theorem sc_over : FnScope n_over ["one", "number"] (defScope s_over) := ⟨rfl, rfl, rfl, by decide +kernel, rfl, by decide +kernel, by decide +kernel⟩
abbrev s_is_less : Stmt := topS 15
abbrev n_is_less : List Str := ["one", "other"]
theorem sc_is_less : FnScope n_is_less ["one", "other"] (defScope s_is_less) := ⟨rfl, rfl, rfl, by decide +kernel, rfl, by decide +kernel, by decide +kernel⟩
abbrev s_total : Stmt := topS 16
abbrev n_total : List Str := ["some", "found", "one"]
theorem sc_total : FnScope n_total ["some"] (defScope s_total) := ⟨rfl, rfl, rfl, by decide +kernel, rfl, by decide +kernel, by decide +kernel⟩
abbrev s_in_order : Stmt := topS 17
abbrev n_in_order : List Str := ["some", "common", "numbers", "top", "bottom", "number"]
theorem sc_in_order : FnScope n_in_order ["some"] (defScope s_in_order) := ⟨rfl, rfl, rfl, by decide +kernel, rfl, by decide +kernel, by decide +kernel⟩
abbrev s_is_word : Stmt := topS 23
abbrev n_is_word : List Str := ["value", "sign"]
theorem sc_is_word : FnScope n_is_word ["value"] (defScope s_is_word) := ⟨rfl, rfl, rfl, by decide +kernel, rfl, by decide +kernel, by decide +kernel⟩
abbrev s_are_people : Stmt := topS 24
abbrev n_are_people : List Str := ["value", "one"]
theorem sc_are_people : FnScope n_are_people ["value"] (defScope s_are_people) := ⟨rfl, rfl, rfl, by decide +kernel, rfl, by decide +kernel, by decide +kernel⟩
abbrev s_Crowd_init : Stmt := inClass (topS 25) 0
abbrev n_Crowd_init : List Str := ["self", "people", "most", "at", "person"]
theorem sc_Crowd_init : FnScope n_Crowd_init ["self", "people", "most"] (defScope s_Crowd_init) := ⟨rfl, rfl, rfl, by decide +kernel, rfl, by decide +kernel, by decide +kernel⟩
abbrev s_Crowd_people : Stmt := inClass (topS 25) 1
abbrev n_Crowd_people : List Str := ["self"]
theorem sc_Crowd_people : FnScope n_Crowd_people ["self"] (defScope s_Crowd_people) := ⟨rfl, rfl, rfl, by decide +kernel, rfl, by decide +kernel, by decide +kernel⟩
abbrev s_Crowd_len : Stmt := inClass (topS 25) 3
abbrev n_Crowd_len : List Str := ["self"]
theorem sc_Crowd_len : FnScope n_Crowd_len ["self"] (defScope s_Crowd_len) := ⟨rfl, rfl, rfl, by decide +kernel, rfl, by decide +kernel, by decide +kernel⟩
abbrev s_Crowd_contains : Stmt := inClass (topS 25) 4
abbrev n_Crowd_contains : List Str := ["self", "person"]
theorem sc_Crowd_contains : FnScope n_Crowd_contains ["self", "person"] (defScope s_Crowd_contains) := ⟨rfl, rfl, rfl, by decide +kernel, rfl, by decide +kernel, by decide +kernel⟩
abbrev s_Crowd_iter : Stmt := inClass (topS 25) 5
abbrev n_Crowd_iter : List Str := ["self"]
theorem sc_Crowd_iter : FnScope n_Crowd_iter ["self"] (defScope s_Crowd_iter) := ⟨rfl, rfl, rfl, by decide +kernel, rfl, by decide +kernel, by decide +kernel⟩
abbrev s_Crowd_place : Stmt := inClass (topS 25) 6
abbrev n_Crowd_place : List Str := ["self", "person"]
theorem sc_Crowd_place : FnScope n_Crowd_place ["self", "person"] (defScope s_Crowd_place) := ⟨rfl, rfl, rfl, by decide +kernel, rfl, by decide +kernel, by decide +kernel⟩
abbrev s_Crowd_pairs : Stmt := inClass (topS 25) 7
abbrev n_Crowd_pairs : List Str := ["self", "one", "other"]
theorem sc_Crowd_pairs : FnScope n_Crowd_pairs ["self"] (defScope s_Crowd_pairs) := ⟨rfl, rfl, rfl, by decide +kernel, rfl, by decide +kernel, by decide +kernel⟩
abbrev s_Crowd_is_pair : Stmt := inClass (topS 25) 8
abbrev n_Crowd_is_pair : List Str := ["self", "value"]
theorem sc_Crowd_is_pair : FnScope n_Crowd_is_pair ["self", "value"] (defScope s_Crowd_is_pair) := ⟨rfl, rfl, rfl, by decide +kernel, rfl, by decide +kernel, by decide +kernel⟩
abbrev s_check_crowd : Stmt := topS 26
abbrev n_check_crowd : List Str := ["value"]
theorem sc_check_crowd : FnScope n_check_crowd ["value"] (defScope s_check_crowd) := ⟨rfl, rfl, rfl, by decide +kernel, rfl, by decide +kernel, by decide +kernel⟩
abbrev s_are_reads : Stmt := topS 33
abbrev n_are_reads : List Str := ["crowd", "value", "one"]
theorem sc_are_reads : FnScope n_are_reads ["crowd", "value"] (defScope s_are_reads) := ⟨rfl, rfl, rfl, by decide +kernel, rfl, by decide +kernel, by decide +kernel⟩
abbrev s_are_lists : Stmt := topS 34
abbrev n_are_lists : List Str := ["crowd", "value", "members", "one", "person"]
theorem sc_are_lists : FnScope n_are_lists ["crowd", "value"] (defScope s_are_lists) := ⟨rfl, rfl, rfl, by decide +kernel, rfl, by decide +kernel, by decide +kernel⟩
abbrev s_Rule_init : Stmt := inClass (topS 35) 0
abbrev n_Rule_init : List Str := ["self", "crowd", "turn", "reads", "gather", "trim", "lists", "prizes", "pair", "one", "person"]
theorem sc_Rule_init : FnScope n_Rule_init ["self", "crowd", "turn", "reads", "gather", "trim", "lists", "prizes"] (defScope s_Rule_init) := ⟨rfl, rfl, rfl, by decide +kernel, rfl, by decide +kernel, by decide +kernel⟩
abbrev s_Rule_iter : Stmt := inClass (topS 35) 9
abbrev n_Rule_iter : List Str := ["self"]
theorem sc_Rule_iter : FnScope n_Rule_iter ["self"] (defScope s_Rule_iter) := ⟨rfl, rfl, rfl, by decide +kernel, rfl, by decide +kernel, by decide +kernel⟩
abbrev s_Rule_has_readers : Stmt := inClass (topS 35) 10
abbrev n_Rule_has_readers : List Str := ["self", "person", "pair"]
theorem sc_Rule_has_readers : FnScope n_Rule_has_readers ["self", "person"] (defScope s_Rule_has_readers) := ⟨rfl, rfl, rfl, by decide +kernel, rfl, by decide +kernel, by decide +kernel⟩
abbrev s_Rule_readers : Stmt := inClass (topS 35) 12
abbrev n_Rule_readers : List Str := ["self", "person", "pair"]
theorem sc_Rule_readers : FnScope n_Rule_readers ["self", "person"] (defScope s_Rule_readers) := ⟨rfl, rfl, rfl, by decide +kernel, rfl, by decide +kernel, by decide +kernel⟩
abbrev s_Rule_list_of : Stmt := inClass (topS 35) 13
abbrev n_Rule_list_of : List Str := ["self", "person", "one"]
theorem sc_Rule_list_of : FnScope n_Rule_list_of ["self", "person"] (defScope s_Rule_list_of) := ⟨rfl, rfl, rfl, by decide +kernel, rfl, by decide +kernel, by decide +kernel⟩
abbrev s_lists_in_order : Stmt := topS 36
abbrev n_lists_in_order : List Str := ["crowd", "lists", "found", "person", "one", "other"]
theorem sc_lists_in_order : FnScope n_lists_in_order ["crowd", "lists"] (defScope s_lists_in_order) := ⟨rfl, rfl, rfl, by decide +kernel, rfl, by decide +kernel, by decide +kernel⟩
abbrev s_first_of : Stmt := topS 37
abbrev n_first_of : List Str := ["crowd", "people", "person"]
theorem sc_first_of : FnScope n_first_of ["crowd", "people"] (defScope s_first_of) := ⟨rfl, rfl, rfl, by decide +kernel, rfl, by decide +kernel, by decide +kernel⟩
abbrev s_check_rule : Stmt := topS 42
abbrev n_check_rule : List Str := ["value"]
theorem sc_check_rule : FnScope n_check_rule ["value"] (defScope s_check_rule) := ⟨rfl, rfl, rfl, by decide +kernel, rfl, by decide +kernel, by decide +kernel⟩
abbrev s_check_person : Stmt := topS 43
abbrev n_check_person : List Str := ["rule", "person"]
theorem sc_check_person : FnScope n_check_person ["rule", "person"] (defScope s_check_person) := ⟨rfl, rfl, rfl, by decide +kernel, rfl, by decide +kernel, by decide +kernel⟩
abbrev s_middle : Stmt := topS 45
abbrev n_middle : List Str := ["marks", "row", "mark"]
theorem sc_middle : FnScope n_middle ["marks"] (defScope s_middle) := ⟨rfl, rfl, rfl, by decide +kernel, rfl, by decide +kernel, by decide +kernel⟩
abbrev s_trimmed : Stmt := topS 46
abbrev n_trimmed : List Str := ["marks", "trim", "row", "kept", "mark"]
theorem sc_trimmed : FnScope n_trimmed ["marks", "trim"] (defScope s_trimmed) := ⟨rfl, rfl, rfl, by decide +kernel, rfl, by decide +kernel, by decide +kernel⟩
abbrev s_gathered : Stmt := topS 47
abbrev n_gathered : List Str := ["gather", "trim", "told", "marks", "one"]
theorem sc_gathered : FnScope n_gathered ["gather", "trim", "told"] (defScope s_gathered) := ⟨rfl, rfl, rfl, by decide +kernel, rfl, by decide +kernel, by decide +kernel⟩
abbrev s_own_reads : Stmt := topS 49
abbrev n_own_reads : List Str := ["rule", "person", "members", "pair"]
theorem sc_own_reads : FnScope n_own_reads ["rule", "person"] (defScope s_own_reads) := ⟨rfl, rfl, rfl, by decide +kernel, rfl, by decide +kernel, by decide +kernel⟩
abbrev s_check_plain : Stmt := topS 51
abbrev n_check_plain : List Str := ["rule"]
theorem sc_check_plain : FnScope n_check_plain ["rule"] (defScope s_check_plain) := ⟨rfl, rfl, rfl, by decide +kernel, rfl, by decide +kernel, by decide +kernel⟩
abbrev s_bunches : Stmt := topS 52
abbrev n_bunches : List Str := ["size", "most", "found", "turn", "one", "mark"]
theorem sc_bunches : FnScope n_bunches ["size", "most"] (defScope s_bunches) := ⟨rfl, rfl, rfl, by decide +kernel, rfl, by decide +kernel, by decide +kernel⟩
abbrev s_score_of_marks : Stmt := topS 53
abbrev n_score_of_marks : List Str := ["rule", "marks", "mark"]
theorem sc_score_of_marks : FnScope n_score_of_marks ["rule", "marks"] (defScope s_score_of_marks) := ⟨rfl, rfl, rfl, by decide +kernel, rfl, by decide +kernel, by decide +kernel⟩
abbrev s_bunch_scores : Stmt := topS 54
abbrev n_bunch_scores : List Str := ["rule", "size", "found", "marks"]
theorem sc_bunch_scores : FnScope n_bunch_scores ["rule", "size"] (defScope s_bunch_scores) := ⟨rfl, rfl, rfl, by decide +kernel, rfl, by decide +kernel, by decide +kernel⟩
abbrev s_spans : Stmt := topS 55
abbrev n_spans : List Str := ["rule", "size", "found", "marks", "low", "high"]
theorem sc_spans : FnScope n_spans ["rule", "size"] (defScope s_spans) := ⟨rfl, rfl, rfl, by decide +kernel, rfl, by decide +kernel, by decide +kernel⟩
abbrev s_decides : Stmt := topS 56
abbrev n_decides : List Str := ["span", "worth", "is_earlier", "low", "high"]
theorem sc_decides : FnScope n_decides ["span", "worth", "is_earlier"] (defScope s_decides) := ⟨rfl, rfl, rfl, by decide +kernel, rfl, by decide +kernel, by decide +kernel⟩
abbrev s_Swings_init : Stmt := inClass (topS 57) 0
abbrev n_Swings_init : List Str := ["self", "rule", "person", "member", "size", "pair"]
theorem sc_Swings_init : FnScope n_Swings_init ["self", "rule", "person"] (defScope s_Swings_init) := ⟨rfl, rfl, rfl, by decide +kernel, rfl, by decide +kernel, by decide +kernel⟩
abbrev s_Swings_is_earlier : Stmt := inClass (topS 57) 1
abbrev n_Swings_is_earlier : List Str := ["self", "member"]
theorem sc_Swings_is_earlier : FnScope n_Swings_is_earlier ["self", "member"] (defScope s_Swings_is_earlier) := ⟨rfl, rfl, rfl, by decide +kernel, rfl, by decide +kernel, by decide +kernel⟩
abbrev s_Swings_marks_at : Stmt := inClass (topS 57) 2
abbrev n_Swings_marks_at : List Str := ["self", "worth", "member", "known", "span"]
theorem sc_Swings_marks_at : FnScope n_Swings_marks_at ["self", "worth", "member"] (defScope s_Swings_marks_at) := ⟨rfl, rfl, rfl, by decide +kernel, rfl, by decide +kernel, by decide +kernel⟩
abbrev s_Swings_decided_at : Stmt := inClass (topS 57) 3
abbrev n_Swings_decided_at : List Str := ["self", "worth", "member"]
theorem sc_Swings_decided_at : FnScope n_Swings_decided_at ["self", "worth"] (defScope s_Swings_decided_at) := ⟨rfl, rfl, rfl, by decide +kernel, rfl, by decide +kernel, by decide +kernel⟩
abbrev s_Swings_best : Stmt := inClass (topS 57) 4
abbrev n_Swings_best : List Str := ["self", "found", "worth"]
theorem sc_Swings_best : FnScope n_Swings_best ["self"] (defScope s_Swings_best) := ⟨rfl, rfl, rfl, by decide +kernel, rfl, by decide +kernel, by decide +kernel⟩
abbrev s_Swings_lift : Stmt := inClass (topS 57) 5
abbrev n_Swings_lift : List Str := ["self"]
theorem sc_Swings_lift : FnScope n_Swings_lift ["self"] (defScope s_Swings_lift) := ⟨rfl, rfl, rfl, by decide +kernel, rfl, by decide +kernel, by decide +kernel⟩
abbrev s_lift : Stmt := topS 58
abbrev n_lift : List Str := ["rule", "person"]
theorem sc_lift : FnScope n_lift ["rule", "person"] (defScope s_lift) := ⟨rfl, rfl, rfl, by decide +kernel, rfl, by decide +kernel, by decide +kernel⟩
abbrev s_lifts : Stmt := topS 59
abbrev n_lifts : List Str := ["rule", "person"]
theorem sc_lifts : FnScope n_lifts ["rule"] (defScope s_lifts) := ⟨rfl, rfl, rfl, by decide +kernel, rfl, by decide +kernel, by decide +kernel⟩
abbrev s_W_opened : Stmt := topS 61
abbrev n_W_opened : List Str := ["_law_script", "_law_k", "_law_cell", "_law_great"]
theorem sc_W_opened : FnScope n_W_opened ["_law_script", "_law_k"] (defScope s_W_opened) := ⟨rfl, rfl, rfl, by decide +kernel, rfl, by decide +kernel, by decide +kernel⟩
abbrev s_W_draw : Stmt := topS 62
abbrev n_W_draw : List Str := ["_law_pool", "_law_many", "_law_found"]
theorem sc_W_draw : FnScope n_W_draw ["_law_pool", "_law_many"] (defScope s_W_draw) := ⟨rfl, rfl, rfl, by decide +kernel, rfl, by decide +kernel, by decide +kernel⟩
abbrev s_W_pick : Stmt := topS 63
abbrev n_W_pick : List Str := ["_law_pool", "_law_some"]
theorem sc_W_pick : FnScope n_W_pick ["_law_pool", "_law_some"] (defScope s_W_pick) := ⟨rfl, rfl, rfl, by decide +kernel, rfl, by decide +kernel, by decide +kernel⟩
abbrev s_W_people : Stmt := topS 64
abbrev n_W_people : List Str := ["_law_pool", "_law_many", "_law_step", "_law_menu", "_law_found"]
theorem sc_W_people : FnScope n_W_people ["_law_pool", "_law_many"] (defScope s_W_people) := ⟨rfl, rfl, rfl, by decide +kernel, rfl, by decide +kernel, by decide +kernel⟩
abbrev s_W_pairs : Stmt := topS 65
abbrev n_W_pairs : List Str := ["_law_people_here", "_law_found", "_law_one", "_law_other"]
theorem sc_W_pairs : FnScope n_W_pairs ["_law_people_here"] (defScope s_W_pairs) := ⟨rfl, rfl, rfl, by decide +kernel, rfl, by decide +kernel, by decide +kernel⟩
abbrev s_W_parted : Stmt := topS 66
abbrev n_W_parted : List Str := ["_law_pool", "_law_people_here", "_law_where", "_law_number", "_law_many", "_law_found", "_law_person", "_law_at"]
theorem sc_W_parted : FnScope n_W_parted ["_law_pool", "_law_people_here"] (defScope s_W_parted) := ⟨rfl, rfl, rfl, by decide +kernel, rfl, by decide +kernel, by decide +kernel⟩
abbrev s_W_unlike : Stmt := topS 67
abbrev n_W_unlike : List Str := ["_law_some", "_law_at", "_law_one"]
theorem sc_W_unlike : FnScope n_W_unlike ["_law_some"] (defScope s_W_unlike) := ⟨rfl, rfl, rfl, by decide +kernel, rfl, by decide +kernel, by decide +kernel⟩
abbrev s_W_readers : Stmt := topS 68
abbrev n_W_readers : List Str := ["_law_plan_here", "_law_person", "_law_one"]
theorem sc_W_readers : FnScope n_W_readers ["_law_plan_here", "_law_person"] (defScope s_W_readers) := ⟨rfl, rfl, rfl, by decide +kernel, rfl, by decide +kernel, by decide +kernel⟩
abbrev s_W_list : Stmt := topS 69
abbrev n_W_list : List Str := ["_law_plan_here", "_law_person", "_law_members"]
theorem sc_W_list : FnScope n_W_list ["_law_plan_here", "_law_person"] (defScope s_W_list) := ⟨rfl, rfl, rfl, by decide +kernel, rfl, by decide +kernel, by decide +kernel⟩
abbrev s_W_plan : Stmt := topS 70
abbrev n_W_plan : List Str := ["_law_pool", "_law_least", "_law_many", "_law_top", "_law_menu", "_law_people_here", "_law_plan_here", "_law_members", "_law_kinds", "_law_rarely", "_law_person", "_law_counts", "_law_pair", "_law_one"]
theorem sc_W_plan : FnScope n_W_plan ["_law_pool", "_law_least", "_law_many", "_law_top", "_law_menu"] (defScope s_W_plan) := ⟨rfl, rfl, rfl, by decide +kernel, rfl, by decide +kernel, by decide +kernel⟩
abbrev s_W_made : Stmt := topS 71
abbrev n_W_made : List Str := ["_law_plan_here", "_law_one"]
theorem sc_W_made : FnScope n_W_made ["_law_plan_here"] (defScope s_W_made) := ⟨rfl, rfl, rfl, by decide +kernel, rfl, by decide +kernel, by decide +kernel⟩
abbrev s_W_sheet : Stmt := topS 72
abbrev n_W_sheet : List Str := ["_law_pool", "_law_plan_here", "_law_rarely", "_law_found", "_law_pair", "_law_is_missing"]
theorem sc_W_sheet : FnScope n_W_sheet ["_law_pool", "_law_plan_here", "_law_rarely"] (defScope s_W_sheet) := ⟨rfl, rfl, rfl, by decide +kernel, rfl, by decide +kernel, by decide +kernel⟩
abbrev s_W_ratio : Stmt := topS 73
abbrev n_W_ratio : List Str := ["_law_top", "_law_bottom", "_law_step", "_law_one", "_law_other"]
theorem sc_W_ratio : FnScope n_W_ratio ["_law_top", "_law_bottom"] (defScope s_W_ratio) := ⟨rfl, rfl, rfl, by decide +kernel, rfl, by decide +kernel, by decide +kernel⟩
abbrev s_W_add : Stmt := topS 74
abbrev n_W_add : List Str := ["_law_one", "_law_other"]
theorem sc_W_add : FnScope n_W_add ["_law_one", "_law_other"] (defScope s_W_add) := ⟨rfl, rfl, rfl, by decide +kernel, rfl, by decide +kernel, by decide +kernel⟩
abbrev s_W_less : Stmt := topS 75
abbrev n_W_less : List Str := ["_law_one", "_law_other"]
theorem sc_W_less : FnScope n_W_less ["_law_one", "_law_other"] (defScope s_W_less) := ⟨rfl, rfl, rfl, by decide +kernel, rfl, by decide +kernel, by decide +kernel⟩
abbrev s_W_by_worth : Stmt := topS 76
abbrev n_W_by_worth : List Str := ["_law_some", "_law_found", "_law_one", "_law_at", "_law_other"]
theorem sc_W_by_worth : FnScope n_W_by_worth ["_law_some"] (defScope s_W_by_worth) := ⟨rfl, rfl, rfl, by decide +kernel, rfl, by decide +kernel, by decide +kernel⟩
abbrev s_W_turned : Stmt := topS 77
abbrev n_W_turned : List Str := ["_law_way", "_law_marks", "_law_mark", "_law_one"]
theorem sc_W_turned : FnScope n_W_turned ["_law_way", "_law_marks"] (defScope s_W_turned) := ⟨rfl, rfl, rfl, by decide +kernel, rfl, by decide +kernel, by decide +kernel⟩
abbrev s_W_gathered : Stmt := topS 78
abbrev n_W_gathered : List Str := ["_law_plan_here", "_law_told", "_law_found", "_law_one", "_law_row", "_law_cut"]
theorem sc_W_gathered : FnScope n_W_gathered ["_law_plan_here", "_law_told"] (defScope s_W_gathered) := ⟨rfl, rfl, rfl, by decide +kernel, rfl, by decide +kernel, by decide +kernel⟩
abbrev s_W_rows : Stmt := topS 79
abbrev n_W_rows : List Str := ["_law_plan_here", "_law_sheet_here", "_law_found", "_law_person", "_law_given", "_law_other"]
theorem sc_W_rows : FnScope n_W_rows ["_law_plan_here", "_law_sheet_here"] (defScope s_W_rows) := ⟨rfl, rfl, rfl, by decide +kernel, rfl, by decide +kernel, by decide +kernel⟩
abbrev s_W_scored : Stmt := topS 80
abbrev n_W_scored : List Str := ["_law_plan_here", "_law_sheet_here", "_law_person", "_law_known", "_law_found", "_law_readers_here", "_law_told", "_law_one"]
theorem sc_W_scored : FnScope n_W_scored ["_law_plan_here", "_law_sheet_here"] (defScope s_W_scored) := ⟨rfl, rfl, rfl, by decide +kernel, rfl, by decide +kernel, by decide +kernel⟩
abbrev s_W_passes : Stmt := topS 81
abbrev n_W_passes : List Str := ["_law_plan_here", "_law_known", "_law_one", "_law_other"]
theorem sc_W_passes : FnScope n_W_passes ["_law_plan_here", "_law_known", "_law_one", "_law_other"] (defScope s_W_passes) := ⟨rfl, rfl, rfl, by decide +kernel, rfl, by decide +kernel, by decide +kernel⟩
abbrev s_W_rank : Stmt := topS 82
abbrev n_W_rank : List Str := ["_law_plan_here", "_law_known", "_law_person", "_law_one"]
theorem sc_W_rank : FnScope n_W_rank ["_law_plan_here", "_law_known", "_law_person"] (defScope s_W_rank) := ⟨rfl, rfl, rfl, by decide +kernel, rfl, by decide +kernel, by decide +kernel⟩
abbrev s_W_own : Stmt := topS 83
abbrev n_W_own : List Str := ["_law_plan_here", "_law_person", "_law_pair"]
theorem sc_W_own : FnScope n_W_own ["_law_plan_here", "_law_person"] (defScope s_W_own) := ⟨rfl, rfl, rfl, by decide +kernel, rfl, by decide +kernel, by decide +kernel⟩
abbrev s_W_bunches : Stmt := topS 84
abbrev n_W_bunches : List Str := ["_law_many", "_law_most", "_law_found", "_law_step", "_law_longer", "_law_row", "_law_mark"]
theorem sc_W_bunches : FnScope n_W_bunches ["_law_many", "_law_most"] (defScope s_W_bunches) := ⟨rfl, rfl, rfl, by decide +kernel, rfl, by decide +kernel, by decide +kernel⟩
abbrev s_W_marks_score : Stmt := topS 85
abbrev n_W_marks_score : List Str := ["_law_plan_here", "_law_marks", "_law_mark"]
theorem sc_W_marks_score : FnScope n_W_marks_score ["_law_plan_here", "_law_marks"] (defScope s_W_marks_score) := ⟨rfl, rfl, rfl, by decide +kernel, rfl, by decide +kernel, by decide +kernel⟩
abbrev s_W_worths : Stmt := topS 86
abbrev n_W_worths : List Str := ["_law_plan_here", "_law_person", "_law_many", "_law_row"]
theorem sc_W_worths : FnScope n_W_worths ["_law_plan_here", "_law_person"] (defScope s_W_worths) := ⟨rfl, rfl, rfl, by decide +kernel, rfl, by decide +kernel, by decide +kernel⟩
abbrev s_W_decides : Stmt := topS 87
abbrev n_W_decides : List Str := ["_law_plan_here", "_law_person", "_law_other", "_law_worth", "_law_is_earlier", "_law_row", "_law_low", "_law_high"]
theorem sc_W_decides : FnScope n_W_decides ["_law_plan_here", "_law_person", "_law_other", "_law_worth"] (defScope s_W_decides) := ⟨rfl, rfl, rfl, by decide +kernel, rfl, by decide +kernel, by decide +kernel⟩
abbrev s_W_decided : Stmt := topS 88
abbrev n_W_decided : List Str := ["_law_plan_here", "_law_person", "_law_worth", "_law_pair"]
theorem sc_W_decided : FnScope n_W_decided ["_law_plan_here", "_law_person", "_law_worth"] (defScope s_W_decided) := ⟨rfl, rfl, rfl, by decide +kernel, rfl, by decide +kernel, by decide +kernel⟩
abbrev s_W_lift : Stmt := topS 89
abbrev n_W_lift : List Str := ["_law_plan_here", "_law_person", "_law_worth"]
theorem sc_W_lift : FnScope n_W_lift ["_law_plan_here", "_law_person"] (defScope s_W_lift) := ⟨rfl, rfl, rfl, by decide +kernel, rfl, by decide +kernel, by decide +kernel⟩
abbrev s_W_with_row : Stmt := topS 90
abbrev n_W_with_row : List Str := ["_law_plan_here", "_law_sheet_here", "_law_person", "_law_row", "_law_found", "_law_at", "_law_other", "_law_pair", "_law_one"]
theorem sc_W_with_row : FnScope n_W_with_row ["_law_plan_here", "_law_sheet_here", "_law_person", "_law_row"] (defScope s_W_with_row) := ⟨rfl, rfl, rfl, by decide +kernel, rfl, by decide +kernel, by decide +kernel⟩
abbrev s_law : Stmt := topS 91
abbrev n_law : List Str := ["_law_script", "_law_k", "_law_pool", "_law_plan_here", "_law_rule", "_law_far", "_law_own_here", "_law_step", "_law_found", "_law_again", "_law_sheet_here", "_law_person", "_law_row", "_law_known", "_law_one"]
theorem sc_law : FnScope n_law ["_law_script"] (defScope s_law) := ⟨rfl, rfl, rfl, by decide +kernel, rfl, by decide +kernel, by decide +kernel⟩
end Om
set_option maxHeartbeats 4000000
/-! Om, the mathematics, part 1: fractions. -/
namespace Om
abbrev Fr := Int × Int
/-- small enough to be multiplied -/
def Sm (i : Int) : Prop := -(2 ^ 64) < i ∧ i < 2 ^ 64
def mLess (a b : Fr) : Bool := decide (a.1 * b.2 < b.1 * a.2)
def mGcd (a b : Int) : Int := (Int.gcd a b : Int)
def mFrac (t b : Int) : Fr := (t / mGcd t b, b / mGcd t b)
def mAbs (t : Int) : Int := if 0 - t > t then 0 - t else t
theorem mAbs_nn (t : Int) : 0 ≤ mAbs t := by
  unfold mAbs
  split <;> omega
theorem mAbs_gcd (t b : Int) : mGcd (mAbs t) b = mGcd t b := by
  unfold mGcd mAbs
  split
  · rw [Int.zero_sub, Int.neg_gcd]
  · rfl
theorem mGcd_zero {a : Int} (h : 0 ≤ a) : mGcd a 0 = a := by
  unfold mGcd
  rw [Int.gcd_zero_right]
  omega
theorem mGcd_step {a b : Int} (h : 0 ≤ a) (hb : 0 < b) : mGcd b (a % b) = mGcd a b := by
  obtain ⟨n, rfl⟩ := Int.eq_ofNat_of_zero_le h
  obtain ⟨m, rfl⟩ := Int.eq_ofNat_of_zero_le (Int.le_of_lt hb)
  have e : ((n : Int) % (m : Int)) = ((n % m : Nat) : Int) := rfl
  unfold mGcd
  rw [e]
  show ((Nat.gcd m (n % m) : Nat) : Int) = ((Nat.gcd n m : Nat) : Int)
  rw [Nat.gcd_comm m, ← Nat.gcd_rec, Nat.gcd_comm]
theorem mGcd_pos {t b : Int} (hb : 0 < b) : 0 < mGcd t b := by
  unfold mGcd
  have h : 0 < Int.gcd t b := Int.gcd_pos_of_ne_zero_right t (by omega)
  omega
theorem mGcd_le {t b : Int} (hb : 0 < b) : mGcd t b ≤ b := by
  unfold mGcd
  exact Int.le_of_dvd hb (Int.gcd_dvd_right t b)
theorem mFrac_one (t : Int) : mFrac t 1 = (t, 1) := by
  unfold mFrac mGcd
  rw [Int.gcd_one_right]
  simp
end Om
set_option maxHeartbeats 4000000
/-! Om, the mathematics, part 2: scores of marks. -/
namespace Om
def mSort (l : List Int) : List Int := l.mergeSort (fun a b => decide (a ≤ b))
theorem mSort_perm (l : List Int) : (mSort l).Perm l := List.mergeSort_perm l _
theorem mSort_pw (l : List Int) : (mSort l).Pairwise (· ≤ ·) := by
  have h := List.pairwise_mergeSort (le := fun (a b : Int) => decide (a ≤ b)) (fun a b c h1 h2 => by simp at *; omega) (fun a b => by simp; omega) l
  exact h.imp (fun h => by simpa using h)
theorem mSort_len (l : List Int) : (mSort l).length = l.length := (mSort_perm l).length_eq
def mMed (ms : List Int) : Fr := mFrac ((mSort ms).getD ((ms.length - 1) / 2) 0 + (mSort ms).getD (ms.length / 2) 0) 2
def mKept (t : Nat) (ms : List Int) : List Int := if 2 * t < ms.length then ((mSort ms).drop t).take (ms.length - t - t) else mSort ms
def mTrm (t : Nat) (ms : List Int) : Fr := mFrac (mKept t ms).sum ((mKept t ms).length : Int)
theorem mKept_pos {t : Nat} {ms : List Int} (h : ms ≠ []) : 0 < (mKept t ms).length := by
  have h0 := List.length_pos_iff.mpr h
  unfold mKept
  split
  · rw [List.length_take, List.length_drop, mSort_len]
    omega
  · rw [mSort_len]
    omega
theorem mKept_le (t : Nat) (ms : List Int) : (mKept t ms).length ≤ ms.length := by
  unfold mKept
  split
  · rw [List.length_take, List.length_drop, mSort_len]
    omega
  · rw [mSort_len]
    exact Nat.le_refl _
inductive Ga where
  | sum | mean | median | trim | least | greatest
  deriving DecidableEq
def mMin (ms : List Int) : Int := (mSort ms).getD 0 0
def mMax (ms : List Int) : Int := (mSort ms).getD (ms.length - 1) 0
/-- the score of marks -/
def mGath (g : Ga) (t : Nat) (ms : List Int) : Fr := match g with
  | .sum => (ms.sum, 1)
  | .mean => mFrac ms.sum (ms.length : Int)
  | .median => mMed ms
  | .trim => mTrm t ms
  | .least => (mMin ms, 1)
  | .greatest => (mMax ms, 1)
theorem getD_mem' {l : List Int} {i : Nat} (h : i < l.length) : l.getD i 0 ∈ l := by
  rw [List.getD_eq_getElem?_getD, List.getElem?_eq_getElem h]
  exact List.getElem_mem h
theorem mMin_mem {ms : List Int} (h : ms ≠ []) : mMin ms ∈ ms := by
  have h0 := List.length_pos_iff.mpr h
  exact (mSort_perm ms).mem_iff.mp (getD_mem' (by rw [mSort_len]; omega))
theorem mMax_mem {ms : List Int} (h : ms ≠ []) : mMax ms ∈ ms := by
  have h0 := List.length_pos_iff.mpr h
  exact (mSort_perm ms).mem_iff.mp (getD_mem' (by rw [mSort_len]; omega))
theorem pw_getD {l : List Int} (h : l.Pairwise (· ≤ ·)) {i j : Nat} (hij : i ≤ j) (hj : j < l.length) : l.getD i 0 ≤ l.getD j 0 := by
  rw [List.getD_eq_getElem?_getD, List.getD_eq_getElem?_getD, List.getElem?_eq_getElem hj, List.getElem?_eq_getElem (Nat.lt_of_le_of_lt hij hj)]
  rcases Nat.lt_or_eq_of_le hij with h1 | h1
  · exact List.pairwise_iff_getElem.mp h i j (Nat.lt_of_le_of_lt hij hj) hj h1
  · subst h1
    exact Int.le_refl _
theorem mMin_le {ms : List Int} {y : Int} (h : y ∈ ms) : mMin ms ≤ y := by
  obtain ⟨i, hi, e⟩ := List.getElem_of_mem ((mSort_perm ms).mem_iff.mpr h)
  have := pw_getD (mSort_pw ms) (Nat.zero_le i) hi
  have e2 : (mSort ms).getD i 0 = y := by
    rw [List.getD_eq_getElem?_getD, List.getElem?_eq_getElem hi]
    exact e
  rwa [e2] at this
theorem le_mMax {ms : List Int} {y : Int} (h : y ∈ ms) : y ≤ mMax ms := by
  obtain ⟨i, hi, e⟩ := List.getElem_of_mem ((mSort_perm ms).mem_iff.mpr h)
  have hl := mSort_len ms
  have := pw_getD (mSort_pw ms) (show i ≤ ms.length - 1 by omega) (by omega)
  have e2 : (mSort ms).getD i 0 = y := by
    rw [List.getD_eq_getElem?_getD, List.getElem?_eq_getElem hi]
    exact e
  rwa [e2] at this
end Om
set_option maxHeartbeats 4000000
/-! Om, defs: fractions. -/
namespace Om
open PySem PySem.Spec PyProof.Rows L2
abbrev qF : Rf Fr := q2 qI qI
/-- a pair, tracked or the module's own -/
def q2k {α β : Type} (K : PySem.W.Frag) (R1 : Rf α) (R2 : Rf β) : Rf (α × β) := fun x v H => ∃ p a b, v = .ref p ∧ SqT K H p [a, b] ∧ R1 x.1 a H ∧ R2 x.2 b H
theorem sqT_same {K : PySem.W.Frag} {V H : Hp} {p : Addr} {xs : List Vl} (s : Same V H) (h : SqT K V p xs) : SqT K H p xs := by
  rcases h with (h | ⟨o, h⟩) | h
  · exact .inl (.inl (s _ _ h))
  · exact .inl (.inr ⟨o, s _ _ h⟩)
  · exact .inr h
instance {α β : Type} {K : PySem.W.Frag} {R1 : Rf α} {R2 : Rf β} [Mo R1] [Mo R2] : Mo (q2k K R1 R2) := ⟨fun s ⟨p, a, b, e, h, r1, r2⟩ => ⟨p, a, b, e, sqT_same s h, Mo.mo s r1, Mo.mo s r2⟩⟩
theorem q2_k {α β : Type} {K : PySem.W.Frag} {R1 : Rf α} {R2 : Rf β} {x : α × β} {v : Vl} {H : Hp} (h : q2 R1 R2 x v H) : q2k K R1 R2 x v H := by
  obtain ⟨p, a, b, e, h, r1, r2⟩ := h
  exact ⟨p, a, b, e, SqT.of h, r1, r2⟩
theorem ev_ix0k {X : Cx} {σ : L2.St} {V : Hp} {α β : Type} {R : Rf α} {S : Rf β} {x : α × β} {e : Expr} {pos : Pos} {j p} (h : EvR X e σ V (q2k X.K R S) x) : EvR X (.Subscript e (.Constant (.int 0) j p) pos) σ V R x.1 :=
  ev_of (pe_ix ix_tup pe_re pe_int (fun _ _ => rfl)) fun V1 A Q s l q => h V1 A _ s l fun V2 A2 v g ⟨p, x, y, ev, hp, r1, r2⟩ => ⟨p, [x, y], 0, x, ev, rfl, sqT_le g.va hp, rfl, q V2 A2 x g r1⟩
theorem ev_ix1k {X : Cx} {σ : L2.St} {V : Hp} {α β : Type} {R : Rf α} {S : Rf β} {x : α × β} {e : Expr} {pos : Pos} {j p} (h : EvR X e σ V (q2k X.K R S) x) : EvR X (.Subscript e (.Constant (.int 1) j p) pos) σ V S x.2 :=
  ev_of (pe_ix ix_tup pe_re pe_int (fun _ _ => rfl)) fun V1 A Q s l q => h V1 A _ s l fun V2 A2 v g ⟨p, x, y, ev, hp, r1, r2⟩ => ⟨p, [x, y], 1, y, ev, rfl, sqT_le g.va hp, rfl, q V2 A2 y g r2⟩
section
variable {P : Program} {w : World} {K : PySem.W.Frag} {mg : Str → Option Value} {base : Heap}
theorem ok_is_less (D : Dfn K mg "is_less" s_is_less ["one", "other"]) : Gfn P w K mg base "is_less" 1 (sp2 qF qF (fun a b => Sm a.1 ∧ Sm b.1) qB mLess) := by
  refine gfn2 D sc_is_less rfl fun f cdv A outer s H E v1 v2 a b V hr r1 r2 hp => ?_
  exact go_ret (ev_cmp o_lt (ev_bin (o_mul (.inl hp.1)) (ev_ix0 (ev_var (i := 0) rfl (.inl rfl) rfl r1)) (ev_ix1 (ev_var (i := 1) rfl (.inl rfl) rfl r2)))
    (ev_bin (o_mul (.inl hp.2)) (ev_ix0 (ev_var (i := 1) rfl (.inl rfl) rfl r2)) (ev_ix1 (ev_var (i := 0) rfl (.inl rfl) rfl r1)))) fun V' v s r => r
theorem ok_common_part (D : Dfn K mg "common_part" s_common_part ["one", "other"]) : Gfn P w K mg base "common_part" 1 (sp2 qI qI (fun a b => 0 ≤ a ∧ 0 ≤ b) qI mGcd) := by
  refine gfn2 D sc_common_part rfl fun f cdv A outer s H E v1 v2 a b V hr r1 r2 hp => ?_
  refine go_while PassesOwn.never (fun m σ V' M' => ∃ i j : Int, σ = [some (.int i), some (.int j)] ∧ 0 ≤ i ∧ 0 ≤ j ∧ mGcd i j = mGcd a b ∧ m = j.toNat) b.toNat ⟨a, b, by rw [show v1 = _ from r1, show v2 = _ from r2]; rfl, hp.1, hp.2, rfl, rfl⟩ ?_
  rintro m σ' V' M' ⟨i, j, rfl, hi, hj, hg, rfl⟩
  refine ⟨_, et_cmp o_neI (ev_var (i := 1) rfl (.inl rfl) rfl (show qI j _ _ from rfl)) ev_int, fun hb => ?_, fun hb => ?_⟩
  · have hj0 : j ≠ 0 := fun z => by simp [z] at hb
    refine go_par (i := 0) (j := 1) rfl sc_common_part.nd rfl rfl (by decide) rfl rfl (ev_var (i := 1) rfl (.inl rfl) rfl (show qI j _ _ from rfl)) (ev_bin (o_mod (by omega)) (ev_var (i := 0) rfl (.inl rfl) rfl (show qI i _ _ from rfl)) (ev_var (i := 1) rfl (.inl rfl) rfl (show qI j _ _ from rfl))) (fun V2 v u s2 r3 r4 => ?_) rfl
    have h1 := Int.emod_lt_of_pos i (show 0 < j by omega)
    have h2 := Int.emod_nonneg i hj0
    refine go_nil ⟨(i % j).toNat, by omega, j, i % j, by rw [show v = _ from r3, show u = _ from r4]; rfl, hj, h2, ?_, rfl⟩
    rw [mGcd_step hi (by omega), hg]
  · have hj0 : j = 0 := by simpa using hb
    subst hj0
    refine go_ret (ev_var (i := 0) rfl (.inl rfl) rfl (show qI i _ _ from rfl)) fun V2 v s2 r => ?_
    rw [mGcd_zero hi] at hg
    rw [← hg]
    exact r
theorem ok_fraction {k : Nat} (D : Dfn K mg "fraction" s_fraction ["top", "bottom"]) (gC : Gfn P w K mg base "common_part" 1 (sp2 qI qI (fun a b => 0 ≤ a ∧ 0 ≤ b) qI mGcd)) (mx : mg "max" = none) (mi : mg "int" = none) :
    Gfn P w K mg base "fraction" 2 (sp2 qI qI (fun _ b => 0 < b ∧ b < 1073741824) qF mFrac) := by
  refine gfn2 D sc_fraction rfl fun f cdv A outer s H E v1 v2 a b V hr r1 r2 hp => ?_
  have hcal := gC.cal (X := bodyX P w K mg base n_fraction "fraction" s_fraction f cdv A outer s H E) hr (by rfl)
  refine go_set (i := 2) sc_fraction.nd rfl (.inl rfl) (ev_c2 hcal (ev_b2 (f_max2 rfl) (by rfl) mx boot_max (ev_t1 f_intI (by rfl) mi PyProof.Rows.boot_int (ev_var (i := 0) rfl (.inl rfl) rfl r1))
      (ev_t1 f_intI (by rfl) mi PyProof.Rows.boot_int (ev_bin o_sub ev_int (ev_var (i := 0) rfl (.inl rfl) rfl r1)))) (ev_var (i := 1) rfl (.inl rfl) rfl r2) ⟨mAbs_nn a, by omega⟩) fun V1 v s1 r => ?_
  have r : qI (mGcd a b) v V1 := (mAbs_gcd a b) ▸ r
  have h1 := mGcd_pos (t := a) hp.1
  have h2 := mGcd_le (t := a) hp.1
  have cd : ∀ i, CDiv i (mGcd a b) := fun i => ⟨h1, by omega⟩
  exact go_ret (ev_tup2 (ev_bin (o_fdiv (cd _)) (ev_var (i := 0) rfl (.inl rfl) rfl (Mo.mo s1 r1)) (ev_var (i := 2) rfl (.inl rfl) rfl r)) (ev_bin (o_fdiv (cd _)) (ev_var (i := 1) rfl (.inl rfl) rfl (Mo.mo s1 r2)) (ev_var (i := 2) rfl (.inl rfl) rfl r))) fun V2 v s2 r => r
end
end Om
set_option maxHeartbeats 4000000
/-! Om, defs: fractions further, scores. -/
namespace Om
open PySem PySem.Spec PyProof.Rows L2
section
variable {P : Program} {w : World} {K : PySem.W.Frag} {mg : Str → Option Value} {base : Heap}
def gaS : Ga → Str
  | .sum => "sum"
  | .mean => "mean"
  | .median => "median"
  | .trim => "trim"
  | .least => "least"
  | .greatest => "greatest"
abbrev qG : Rf Ga := fun g v _ => v = .str (gaS g)
instance : Mo qG := ⟨fun _ h => h⟩
theorem qG_S {g : Ga} {v : Vl} {H : Hp} (h : qG g v H) : qS (gaS g) v H := h
abbrev FrB (a : Fr) : Prop := 0 ≤ a.1 ∧ a.1 ≤ 1000 ∧ 0 < a.2 ∧ a.2 ≤ 100
theorem sm_of {i : Int} (h1 : 0 ≤ i) (h2 : i ≤ 1000) : Sm i := ⟨by omega, by omega⟩
def mPlus (a b : Fr) : Fr := mFrac (a.1 * b.2 + b.1 * a.2) (a.2 * b.2)
def mOver (a : Fr) (n : Int) : Fr := mFrac a.1 (a.2 * n)
theorem mul_pos100 {a b : Int} (h1 : 0 < a) (h2 : a ≤ 100) (h3 : 0 < b) (h4 : b ≤ 100) : 0 < a * b ∧ a * b < 1073741824 := by
  refine ⟨Int.mul_pos h1 h3, ?_⟩
  have h := Int.mul_le_mul h2 h4 (by omega) (by omega)
  omega
theorem ok_plus (D : Dfn K mg "plus" s_plus ["one", "other"]) (gF : Gfn P w K mg base "fraction" 2 (sp2 qI qI (fun _ b => 0 < b ∧ b < 1073741824) qF mFrac)) : Gfn P w K mg base "plus" 3 (sp2 (q2k K qI qI) qF (fun a b => FrB a ∧ FrB b) qF mPlus) := by
  refine gfn2 D sc_plus rfl fun f cdv A outer s H E v1 v2 a b V hr r1 r2 hp => ?_
  obtain ⟨⟨a1, a2, a3, a4⟩, b1, b2, b3, b4⟩ := hp
  have c := gF.cal (X := bodyX P w K mg base n_plus "plus" s_plus f cdv A outer s H E) hr (by rfl)
  have x1 := fun p => ev_var (X := bodyX P w K mg base n_plus "plus" s_plus f cdv A outer s H E) (σ := start n_plus [v1, v2]) (pos := p) (i := 0) rfl (.inl rfl) rfl r1
  have x2 := fun p => ev_var (X := bodyX P w K mg base n_plus "plus" s_plus f cdv A outer s H E) (σ := start n_plus [v1, v2]) (pos := p) (i := 1) rfl (.inl rfl) rfl r2
  exact go_ret (ev_c2 c (ev_bin o_add (ev_bin (o_mul (.inl (sm_of a1 a2))) (ev_ix0k (x1 _)) (ev_ix1 (x2 _))) (ev_bin (o_mul (.inl (sm_of b1 b2))) (ev_ix0 (x2 _)) (ev_ix1k (x1 _))))
    (ev_bin (o_mul (.inl (sm_of (by omega) (by omega)))) (ev_ix1k (x1 _)) (ev_ix1 (x2 _))) (mul_pos100 a3 a4 b3 b4)) fun V' v s r => r
theorem ok_over (D : Dfn K mg "over" s_over ["one", "number"]) (gF : Gfn P w K mg base "fraction" 2 (sp2 qI qI (fun _ b => 0 < b ∧ b < 1073741824) qF mFrac)) : Gfn P w K mg base "over" 3 (sp2 qF qI (fun a n => FrB a ∧ 0 < n ∧ n ≤ 100) qF mOver) := by
  refine gfn2 D sc_over rfl fun f cdv A outer s H E v1 v2 a b V hr r1 r2 hp => ?_
  obtain ⟨⟨a1, a2, a3, a4⟩, b3, b4⟩ := hp
  have c := gF.cal (X := bodyX P w K mg base n_over "over" s_over f cdv A outer s H E) hr (by rfl)
  exact go_ret (ev_c2 c (ev_ix0 (ev_var (i := 0) rfl (.inl rfl) rfl r1)) (ev_bin (o_mul (.inl (sm_of (by omega) (by omega)))) (ev_ix1 (ev_var (i := 0) rfl (.inl rfl) rfl r1)) (ev_var (i := 1) rfl (.inl rfl) rfl r2)) (mul_pos100 a3 a4 b3 b4)) fun V' v s r => r
/-- marks as told: (m, 1) -/
abbrev told (ms : List Int) : List Fr := ms.map fun m => (m, 1)
/-- so many small marks -/
def Mks (ms : List Int) : Prop := ms ≠ [] ∧ ms.length ≤ 10 ∧ ∀ m ∈ ms, 0 ≤ m ∧ m ≤ 10
theorem mks_sum : ∀ {ms : List Int}, (∀ m ∈ ms, 0 ≤ m ∧ m ≤ 10) → 0 ≤ ms.sum ∧ ms.sum ≤ 10 * (ms.length : Int)
  | [], _ => by simp
  | m :: ms, h => by
    have h1 := h m List.mem_cons_self
    have h2 := mks_sum (ms := ms) fun x hx => h x (List.mem_cons_of_mem _ hx)
    rw [List.sum_cons, List.length_cons]
    push_cast
    omega
theorem ok_total (D : Dfn K mg "total" s_total ["some"]) (gP : Gfn P w K mg base "plus" 3 (sp2 (q2k K qI qI) qF (fun a b => FrB a ∧ FrB b) qF mPlus))
    {no : Addr} (hN : mg "NOUGHT" = some (.ref no)) (hS : ∀ H, SqT K H no [.int 0, .int 1]) : Gfn P w K mg base "total" 4 (sp1 (qL qF) (fun xs => ∃ ms, xs = told ms ∧ Mks ms) qF (fun xs => ((xs.map (·.1)).sum, 1))) := by
  refine gfn1 D sc_total rfl fun f cdv A outer s H E v1 xs V hr r1 hp => ?_
  obtain ⟨ms, rfl, hm⟩ := hp
  have c := gP.cal (X := bodyX P w K mg base n_total "total" s_total f cdv A outer s H E) hr (by rfl)
  have e1 : (told ms).map (·.1) = ms := by simp [told, Function.comp_def]
  rw [e1]
  refine go_set (i := 1) (R := q2k K qI qI) (a := ((0 : Int), (1 : Int))) sc_total.nd rfl (.inl rfl) (ev_glob (v := .ref no) (by rfl) hN rfl fun V1 _ => ⟨no, .int 0, .int 1, rfl, hS V1, rfl, rfl⟩) fun V1 u s1 ru => ?_
  refine go_for PassesOwn.never rfl (tg_name (i := 2) sc_total.nd rfl (.inl rfl)) (src_list (ev_var (i := 0) rfl (.inl rfl) rfl (Mo.mo s1 r1)))
    (fun j σ V' M' => ∃ u y, σ = [some v1, some u, y] ∧ q2k K qI qI ((ms.take j).sum, 1) u V' ∧ (0 < j → qF ((ms.take j).sum, 1) u V')) (fun V2 s2 => ⟨u, none, rfl, Mo.mo s2 ru, fun z => absurd z (by omega)⟩) ?_ ?_
  · rintro j x v σ' σ2 V0 V' M' hx ⟨u, y, rfl, h1, h2⟩ s0 s2 rx rfl
    rw [List.getElem?_map] at hx
    obtain ⟨m, hmj, rfl⟩ := Option.map_eq_some_iff.mp hx
    obtain ⟨hjl, hje⟩ := List.getElem?_eq_some_iff.mp hmj
    have hb := hm.2.2 m (List.mem_of_getElem? hmj)
    have hsum := mks_sum (ms := ms.take j) fun z hz => hm.2.2 z (List.mem_of_mem_take hz)
    have hlen := hm.2.1
    rw [List.length_take] at hsum
    refine go_set (i := 1) sc_total.nd rfl (.inl rfl) (ev_c2 c (ev_var (i := 1) rfl (.inl rfl) rfl (Mo.mo s2 h1)) (ev_var (i := 2) rfl (.inl rfl) rfl rx) ⟨⟨by simp only; omega, by simp only; omega, by simp only; omega, by simp only; omega⟩, ⟨by simp only; omega, by simp only; omega, by simp only; omega, by simp only; omega⟩⟩) fun V3 u3 s3 r3 => ?_
    have e2 : mPlus ((ms.take j).sum, 1) (m, 1) = ((ms.take (j + 1)).sum, 1) := by
      unfold mPlus
      simp only [Int.mul_one]
      rw [mFrac_one, sum_take hmj]
    rw [e2] at r3
    exact go_nil ⟨u3, _, rfl, q2_k r3, fun _ => r3⟩
  · rintro σ' V' M' ⟨u, y, rfl, h1, h2⟩ s2
    have hl : 0 < (told ms).length := by
      rw [List.length_map]
      exact List.length_pos_iff.mpr hm.1
    have h3 := h2 hl
    rw [List.length_map, List.take_length] at h3
    exact go_ret (ev_var (i := 1) rfl (.inl rfl) rfl h3) fun V3 v s3 r => r
end
end Om
set_option maxHeartbeats 4000000
/-! Om, defs: scores. -/
namespace Om
open PySem PySem.Spec PyProof.Rows L2
theorem gaS_inj : ∀ g g' : Ga, gaS g = gaS g' → g = g' := by
  intro g g'
  cases g <;> cases g' <;> first | (intro _; rfl) | (intro h; exact absurd h (by decide +kernel))
theorem o_eqG {X : Cx} {g : Ga} (g' : Ga) : Op2 X (compareOp .Eq) qG g qS (gaS g') qB (decide (g = g')) := by
  obtain ⟨r, hr, h⟩ := o_eqS (X := X) (i := gaS g) (j := gaS g')
  refine ⟨r, hr, fun V1 A x y Q l rx ry q => h V1 A x y Q l rx ry fun V2 A2 z g2 rz => q V2 A2 z g2 ?_⟩
  rw [show z = _ from rz]
  show L2.V.bl _ = L2.V.bl _
  congr 1
  by_cases h : g = g'
  · subst h
    simp
  · rw [decide_eq_false h, decide_eq_false (fun z => h (gaS_inj g g' z))]
theorem fdiv_nat {n m : Nat} : ((n : Int) / (m : Int)) = ((n / m : Nat) : Int) := rfl
section
variable {P : Program} {w : World} {K : PySem.W.Frag} {mg : Str → Option Value} {base : Heap}
theorem ok_middle (D : Dfn K mg "middle" s_middle ["marks"]) (gF : Gfn P w K mg base "fraction" 2 (sp2 qI qI (fun _ b => 0 < b ∧ b < 1073741824) qF mFrac)) (mi : mg "int" = none) (ms_ : mg "sorted" = none) (ml : mg "len" = none) :
    Gfn P w K mg base "middle" 3 (sp1 (qL qI) (fun ms => ms ≠ [] ∧ ms.length ≤ 1000) qF mMed) := by
  refine gfn1 D sc_middle rfl fun f cdv A outer s H E v1 ms V hr r1 hp => ?_
  have c := gF.cal (X := bodyX P w K mg base n_middle "middle" s_middle f cdv A outer s H E) hr (by rfl)
  have hn := List.length_pos_iff.mpr hp.1
  refine go_set (i := 1) sc_middle.nd rfl (.inl rfl) (ev_b1 (f_sorted (mSort_perm ms) (mSort_pw ms)) (by rfl) ms_ PyProof.Rows.boot_sorted (EvR.eq (ev_lcn (f := fun m => m) 2 rfl sc_middle.nd rfl (src_list (ev_var (i := 0) rfl (.inl rfl) rfl r1)) (by rw [sizeLine_eq]; omega)
    (blkOk_by (N := n_middle) (sc := defScope s_middle) (by decide +kernel)) (fun a v V' ha sv ra => fun _ _ _ _ _ => ev_t1 f_intI (by rfl) mi PyProof.Rows.boot_int (ev_var (i := 2) rfl (.inl rfl) rfl ra))) (List.map_id' ms))) fun V1 v s1 r => ?_
  have xr := fun p => ev_var (X := bodyX P w K mg base n_middle "middle" s_middle f cdv A outer s H E) (σ := (start n_middle [v1]).set 1 (some v)) (pos := p) (i := 1) rfl (.inl rfl) rfl r
  have xl := fun p p' p'' => ev_b1 (X := bodyX P w K mg base n_middle "middle" s_middle f cdv A outer s H E) (pos := p) (p := p') f_lenL (by rfl) ml PySem.boot_len (xr p'')
  have i1 : (((mSort ms).length : Int) - 1) / 2 = (((ms.length - 1) / 2 : Nat) : Int) := by
    rw [mSort_len]
    omega
  have i2 : ((mSort ms).length : Int) / 2 = ((ms.length / 2 : Nat) : Int) := by
    rw [mSort_len]
    omega
  have g : ∀ i, i < ms.length → (mSort ms)[i]? = some ((mSort ms).getD i 0) := fun i hi => by
    rw [List.getD_eq_getElem?_getD, List.getElem?_eq_getElem (by rw [mSort_len]; exact hi)]
    rfl
  exact go_ret (ev_c2 c (ev_bin o_add (ev_ixL (xr _) ((ev_bin (o_fdiv (by constructor <;> decide)) (ev_bin o_sub (xl _ _ _) ev_int) ev_int).eq i1) (g _ (by omega)))
    (ev_ixL (xr _) ((ev_bin (o_fdiv (by constructor <;> decide)) (xl _ _ _) ev_int).eq i2) (g _ (by omega)))) ev_int ⟨by decide, by decide⟩) fun V' v s r => r
theorem ok_trimmed (D : Dfn K mg "trimmed" s_trimmed ["marks", "trim"]) (gF : Gfn P w K mg base "fraction" 2 (sp2 qI qI (fun _ b => 0 < b ∧ b < 1073741824) qF mFrac)) (mi : mg "int" = none) (ms_ : mg "sorted" = none) (ml : mg "len" = none) (msm : mg "sum" = none) :
    Gfn P w K mg base "trimmed" 3 (sp2 (qL qI) (fun (t : Nat) v _ => v = .int (t : Int)) (fun ms t => ms ≠ [] ∧ ms.length ≤ 1000 ∧ t ≤ 10) qF (fun ms t => mTrm t ms)) := by
  refine gfn2 D sc_trimmed rfl fun f cdv A outer s H E v1 v2 ms t V hr r1 r2 hp => ?_
  have c := gF.cal (X := bodyX P w K mg base n_trimmed "trimmed" s_trimmed f cdv A outer s H E) hr (by rfl)
  have hn := List.length_pos_iff.mpr hp.1
  refine go_set (i := 2) sc_trimmed.nd rfl (.inl rfl) (ev_b1 (f_sorted (mSort_perm ms) (mSort_pw ms)) (by rfl) ms_ PyProof.Rows.boot_sorted (EvR.eq (ev_lcn (f := fun m => m) 4 rfl sc_trimmed.nd rfl (src_list (ev_var (i := 0) rfl (.inl rfl) rfl r1)) (by rw [sizeLine_eq]; omega)
    (blkOk_by (N := n_trimmed) (sc := defScope s_trimmed) (by decide +kernel)) (fun a v V' ha sv ra => fun _ _ _ _ _ => ev_t1 f_intI (by rfl) mi PyProof.Rows.boot_int (ev_var (i := 4) rfl (.inl rfl) rfl ra))) (List.map_id' ms))) fun V1 v s1 r => ?_
  have xr := fun p => ev_var (X := bodyX P w K mg base n_trimmed "trimmed" s_trimmed f cdv A outer s H E) (σ := (start n_trimmed [v1, v2]).set 2 (some v)) (pos := p) (i := 2) rfl (.inl rfl) rfl r
  have xt := fun p => ev_var (X := bodyX P w K mg base n_trimmed "trimmed" s_trimmed f cdv A outer s H E) (σ := (start n_trimmed [v1, v2]).set 2 (some v)) (pos := p) (R := qI) (a := (t : Int)) (V := V1) (i := 1) rfl (.inl rfl) rfl r2
  have xl := fun p p' p'' => ev_b1 (X := bodyX P w K mg base n_trimmed "trimmed" s_trimmed f cdv A outer s H E) (pos := p) (p := p') f_lenL (by rfl) ml PySem.boot_len (xr p'')
  have hlen := mSort_len ms
  have mc : CMul 2 (t : Int) := .inl ⟨by decide, by decide⟩
  refine go_set (i := 3) (a := mKept t ms) sc_trimmed.nd rfl (.inl rfl) (ev_if (et_cmp o_gt (xl _ _ _) (ev_bin (o_mul mc) ev_int (xt _))) (fun h => EvR.eq (ev_sl (xr _) (ep_some (xt _)) (ep_some (ev_bin o_sub (xl _ _ _) (xt _)))) ?_) (fun h => (xr _).eq ?_)) fun V2 u s2 r4 => ?_
  · have h1 : 2 * t < ms.length := by
      have := of_decide_eq_true h
      omega
    have e : ((mSort ms).length : Int) - (t : Int) = ((ms.length - t : Nat) : Int) := by omega
    rw [e, cut_mid (by omega)]
    unfold mKept
    rw [if_pos h1]
  · have h1 : ¬ 2 * t < ms.length := by
      have := of_decide_eq_false h
      omega
    unfold mKept
    rw [if_neg h1]
  · have xk := fun p => ev_var (X := bodyX P w K mg base n_trimmed "trimmed" s_trimmed f cdv A outer s H E) (σ := ((start n_trimmed [v1, v2]).set 2 (some v)).set 3 (some u)) (pos := p) (i := 3) rfl (.inl rfl) rfl r4
    have k1 := mKept_pos (t := t) hp.1
    have k2 := mKept_le t ms
    exact go_ret (ev_c2 c (ev_b1 (f_sum rfl) (by rfl) msm PyProof.Rows.boot_sum (xk _)) (ev_b1 f_lenL (by rfl) ml PySem.boot_len (xk _)) ⟨by omega, by omega⟩) fun V' v s r => r
end
end Om
set_option maxHeartbeats 4000000
/-! Om, part N: objects: fields, methods, properties, own __contains__, __len__; making; locking for good. -/
namespace Om
open PySem PySem.Spec PyProof.Rows L2

/-! ### views of one object -/
/-- a value's thing is locked for good -/
theorem re_fix {X : Cx} {e : Expr} {σ : L2.St} {A : Hp} {Q : VK} (h : RE X e σ A fun v A' => ∃ d u, v = .ref d ∧ A' d = some u ∧ Mut (some u) ∧ ∀ od, Q v (upd A' d (.frz od u))) : RE X e σ A Q := fun pins s I =>
  thn (h pins s I) fun v s1 ⟨x, H1, I1, r, d, u, ev, e1, mu, q⟩ => by
    obtain ⟨od, I2⟩ := I1.lock e1 mu
    exact ⟨x, _, I2, r, q od⟩
/-- an owned thing is locked for good, and shown -/
theorem go_fix {X : Cx} {σ : L2.St} {V M : Hp} {P : Post} {rest : List Stmt} {d : Addr} {u : HO} (hd : M d = some u) (mu : Mut (some u)) (h : ∀ od, Go X rest σ (upd V d (.frz od u)) (fun b => if b = d then none else M b) P) : Go X rest σ V M P := fun A D w f pins s I => by
  have hA : A d = some u := w.ma d u hd
  obtain ⟨od, I2⟩ := I.lock hA mu
  have hV : V d = none := w.di d (by rw [hd]; exact fun z => nomatch z)
  have st : Stp V M A (upd V d (.frz od u)) (fun b => if b = d then none else M b) (upd A d (.frz od u)) := by
    refine ⟨fun b o e => by rw [upd_ne (fun z => by rw [z, hV] at e; cases e)]; exact e, ⟨fun b o e => ?_, fun b o e => ?_, fun b hb => ?_, fun b xs z => ?_⟩, fun b h1 h2 h3 => ?_, fun b o h1 h2 => ?_⟩
    · by_cases hb : b = d
      · subst hb
        rw [upd_same] at e
        cases e
        exact .inl upd_same
      · rw [upd_ne hb] at e
        rcases w.va b o e with z | ⟨z, ob, z'⟩
        · exact .inl (by rw [upd_ne hb]; exact z)
        · exact .inr ⟨z, ob, by rw [upd_ne hb]; exact z'⟩
    · by_cases hb : b = d
      · rw [if_pos hb] at e
        cases e
      · rw [if_neg hb] at e
        rw [upd_ne hb]
        exact w.ma b o e
    · by_cases hb' : b = d
      · exact absurd (if_pos hb') hb
      · rw [if_neg hb'] at hb
        rw [upd_ne hb']
        exact w.di b hb
    · by_cases hb : b = d
      · rw [if_pos hb] at z
        cases z
      · rw [if_neg hb] at z
        exact w.mt b xs z
    · have hb : b ≠ d := fun z => by rw [z, hd] at h2; cases h2
      refine ⟨by rw [if_neg hb]; exact h2, fun _ => ?_⟩
      rw [upd_ne hb]
      exact h1
    · have hb : b ≠ d := fun z => by rw [z, hd] at h1; cases h1
      rw [upd_ne hb]
      exact h2
  exact h od (upd A d (.frz od u)) D st.ow (f.step st) pins s I2

/-! ### fields -/
section
variable {X : Cx} {σ : L2.St} {V V' M : Hp} {α β γ : Type} {R : Rf α} {S : Rf β} {T : Rf γ} {a : α} {b : β} {c : γ} {e e1 e2 : Expr} {pos p px : Pos} {C : Addr} {f m x : Str} {P : Post} {rest : List Stmt}
/-- in R's things the field f of C is as S says -/
def Fld (C : Addr) (f : Str) (R : Rf α) (a : α) (S : Rf β) (b : β) : Prop := ∀ v H, R a v H → ∃ p dx fs u, v = .ref p ∧ H p = some (.ins C dx fs) ∧ fs.lookup f = some u ∧ S b u H
theorem ev_fld (h : EvR X e σ V R a) (hF : Fld C f R a S b) (c : Cls X.K C) (n : NoAttr X.K C f) (hb : attributeBase e f X.env (eval e X.env) = eval e X.env := by rfl) : EvR X (.Attribute e f pos) σ V S b :=
  ev_of (pe_fld pe_re hb) fun V1 A Q s l q => h V1 A _ s l fun V2 A2 v g r => by
    obtain ⟨p, dx, fs, u, ev, hp, hl, su⟩ := hF v V2 r
    exact ⟨p, C, dx, fs, u, ev, g.va.at hp, c, n, hl, q V2 A2 u g su⟩

/-- a method that keeps a promise -/
structure Mth (P : Program) (w : World) (K : PySem.W.Frag) (mg : Str → Option Value) (base : Heap) (C : Addr) (m : Str) (k : Nat) (sp : Sp) : Prop where
  ex : ∃ (f : Addr) (fd : FuncData) (ps : List Str), FnOk P w K mg base CX0 k f fd ps sp ∧ Meth K C m f ∧ Binds K fd ps []
/-- R's things are instances of C, without an attribute m of their own -/
def Ins (C : Addr) (m : Str) (R : Rf α) (a : α) : Prop := ∀ v H, R a v H → ∃ p dx fs, v = .ref p ∧ H p = some (.ins C dx fs) ∧ fs.lookup m = none
theorem ev_m0 {k j : Nat} {pre : α → Prop} {g : α → γ} {pl : Sem Bool} (h : EvR X e σ V R a) (c : Cls X.K C) (m0 : Mth X.prog X.w X.K X.mg X.base C m k (sp1 R pre T g)) (hr : Room j X.A) (hI : Ins C m R a) (hp : pre a) (hk : k ≤ j := by decide)
    (ht : eval (.Call (.Attribute e m p) [] [] pos) X.env = (do
      let ov ← eval e X.env
      standAt p.atName
      let (f, first) ← holding [ov] (getMethod ov m pl)
      callWith pos f first (backTo pos (starEach [] X.env)) (backToKw pos (keywordEach [] X.env))) := by rfl) : EvR X (.Call (.Attribute e m p) [] [] pos) σ V T (g a) := by
  obtain ⟨f, fd, ps, F, hm, bn⟩ := m0.ex
  refine ev_of (pe_meth0 (E := E0) (pl := pl) pe_re c hm F (hr.mono hk) bn .nil pass0 ht) fun V1 A Q s l q => h V1 A _ s l fun V2 A2 v g2 r => ?_
  obtain ⟨q0, dx, fs, ev, hp0, hl⟩ := hI v V2 r
  exact ⟨q0, dx, fs, ev, g2.va.at hp0, hl, v, a, V2, rfl, g2.va, r, hp, fun V3 A3 z g3 rz => q V3 A3 z (g2.trans g3) rz⟩
theorem ev_m1 [Mo R] {k j : Nat} {pre : α → β → Prop} {g : α → β → γ} {pl : Sem Bool} (h : EvR X e σ V R a) (h1 : EvR X e1 σ V S b) (c : Cls X.K C) (m0 : Mth X.prog X.w X.K X.mg X.base C m k (sp2 R S pre T g)) (hr : Room j X.A) (hI : Ins C m R a) (hp : pre a b) (hk : k ≤ j := by decide)
    (hst : starEach [e1] X.env = (false, eval e1 X.env) :: starEach [] X.env := by rfl)
    (ht : eval (.Call (.Attribute e m p) [e1] [] pos) X.env = (do
      let ov ← eval e X.env
      standAt p.atName
      let (f, first) ← holding [ov] (getMethod ov m pl)
      callWith pos f first (backTo pos (starEach [e1] X.env)) (backToKw pos (keywordEach [] X.env))) := by rfl) : EvR X (.Call (.Attribute e m p) [e1] [] pos) σ V T (g a b) := by
  obtain ⟨f, fd, ps, F, hm, bn⟩ := m0.ex
  refine ev_of (pe_meth (E := E0) (pl := pl) pe_re c hm F (hr.mono hk) bn .nil pass0 (pa_cons pe_re pa_nil hst) hst rfl ht) fun V1 A Q s l q => h V1 A _ s l fun V2 A2 v g2 r => ?_
  obtain ⟨q0, dx, fs, ev, hp0, hl⟩ := hI v V2 r
  exact ⟨q0, dx, fs, ev, g2.va.at hp0, hl, h1 V2 A2 _ (s.trans g2.vv) g2.va fun V3 A3 u g3 r3 => ⟨v, u, a, b, V3, rfl, g3.va, Mo.mo g3.vv r, r3, hp, fun V4 A4 z g4 rz => q V4 A4 z ((g2.trans g3).trans g4) rz⟩⟩
theorem ev_m2 [Mo R] [Mo S] {δ : Type} {U : Rf δ} {k j : Nat} {pre : α → β → γ → Prop} {g : α → β → γ → δ} {pl : Sem Bool} (h : EvR X e σ V R a) (h1 : EvR X e1 σ V S b) (h2 : EvR X e2 σ V T c) (cl : Cls X.K C) (m0 : Mth X.prog X.w X.K X.mg X.base C m k (sp3 R S T pre U g)) (hr : Room j X.A) (hI : Ins C m R a) (hp : pre a b c) (hk : k ≤ j := by decide)
    (hst : starEach [e1, e2] X.env = (false, eval e1 X.env) :: starEach [e2] X.env := by rfl) (hst2 : starEach [e2] X.env = (false, eval e2 X.env) :: starEach [] X.env := by rfl) (hpl : (backTo pos (starEach [e2] X.env)).any (·.1) = false := by rfl)
    (ht : eval (.Call (.Attribute e m p) [e1, e2] [] pos) X.env = (do
      let ov ← eval e X.env
      standAt p.atName
      let (f, first) ← holding [ov] (getMethod ov m pl)
      callWith pos f first (backTo pos (starEach [e1, e2] X.env)) (backToKw pos (keywordEach [] X.env))) := by rfl) : EvR X (.Call (.Attribute e m p) [e1, e2] [] pos) σ V U (g a b c) := by
  obtain ⟨f, fd, ps, F, hm, bn⟩ := m0.ex
  refine ev_of (pe_meth (E := E0) (pl := pl) pe_re cl hm F (hr.mono hk) bn .nil pass0 (pa_cons pe_re (pa_cons pe_re pa_nil hst2) hst) hst hpl ht) fun V1 A Q s l q => h V1 A _ s l fun V2 A2 v g2 r => ?_
  obtain ⟨q0, dx, fs, ev, hp0, hl⟩ := hI v V2 r
  exact ⟨q0, dx, fs, ev, g2.va.at hp0, hl, h1 V2 A2 _ (s.trans g2.vv) g2.va fun V3 A3 u g3 r3 => h2 V3 A3 _ ((s.trans g2.vv).trans g3.vv) g3.va fun V4 A4 t g4 r4 =>
    ⟨v, u, t, a, b, c, V4, rfl, g4.va, Mo.mo (g3.vv.trans g4.vv) r, Mo.mo g4.vv r3, r4, hp, fun V5 A5 z g5 rz => q V5 A5 z (((g2.trans g3).trans g4).trans g5) rz⟩⟩
/-- a property -/
structure Prp (P : Program) (w : World) (K : PySem.W.Frag) (mg : Str → Option Value) (base : Heap) (C : Addr) (m : Str) (k : Nat) (sp : Sp) : Prop where
  ex : ∃ (pa f : Addr) (fd : FuncData) (ps : List Str), FnOk P w K mg base CX0 k f fd ps sp ∧ PropOf K C m pa f ∧ Binds K fd ps []
theorem ev_prop {k j : Nat} {pre : α → Prop} {g : α → γ} (h : EvR X e σ V R a) (c : Cls X.K C) (m0 : Prp X.prog X.w X.K X.mg X.base C m k (sp1 R pre T g)) (hr : Room j X.A) (hI : ∀ v H, R a v H → ∃ p dx fs, v = .ref p ∧ H p = some (.ins C dx fs)) (hp : pre a) (hk : k + 1 ≤ j := by decide)
    (hb : attributeBase e m X.env (eval e X.env) = eval e X.env := by rfl) : EvR X (.Attribute e m pos) σ V T (g a) := by
  obtain ⟨pa, f, fd, ps, F, hm, bn⟩ := m0.ex
  refine ev_of (pe_prop (E := E0) pe_re c hm F (hr.mono hk) bn .nil pass0 hb) fun V1 A Q s l q => h V1 A _ s l fun V2 A2 v g2 r => ?_
  obtain ⟨q0, dx, fs, ev, hp0⟩ := hI v V2 r
  exact ⟨q0, dx, fs, ev, g2.va.at hp0, v, a, V2, by rw [ev], g2.va, r, hp, fun V3 A3 z g3 rz => q V3 A3 z (g2.trans g3) rz⟩
end

/-! ### own __contains__, __len__ -/
section
variable {X : Cx} {σ : L2.St} {V V' M : Hp} {α β : Type} {R : Rf α} {S : Rf β} {a : α} {b : β} {C : Addr} {k j : Nat}
theorem inst_at {pins : List (Addr × Obj)} {σ : L2.St} {H : Hp} {s : Shared} {p dx : Addr} {fs : List (Str × Vl)} (I : Inv X pins σ H s) (h : H p = some (.ins C dx fs)) : ∃ ox od, PySem.W.InstAt s.heap p ox C od := by
  obtain ⟨mA, O, _⟩ := ins_get I.hok h
  obtain ⟨od, J, _⟩ := O.look
  exact ⟨_, _, J⟩
theorem op_own_in {pre : α → β → Prop} {g : α → β → Bool} (m0 : Mth X.prog X.w X.K X.mg X.base C "__contains__" k (sp2 R S pre qB g)) (hr : Room j X.A) (hI : ∀ v H, R a v H → ∃ p dx fs, v = .ref p ∧ H p = some (.ins C dx fs)) (hp : pre a b) (hk : k ≤ j := by decide) :
    Op2 X (compareOp .In) S b R a qB (g a b) := by
  obtain ⟨f, fd, ps, F, hm, bn⟩ := m0.ex
  refine ⟨fun x y A Q => ∃ V, Le V A ∧ S b x V ∧ R a y V ∧ ∀ V2 A2, Grow V A V2 A2 → Q (.bl (g a b)) A2, ?_, fun V1 A x y Q l rx ry q => ⟨V1, l, rx, ry, fun V2 A2 g2 => q V2 A2 _ g2 rfl⟩⟩
  rintro pins s σ H x y v u Q I rx ry ⟨V, l, sb, ra, q⟩
  obtain ⟨p, dx, fs, ey, hy⟩ := hI y V ra
  subst ey
  obtain rfl : u = .ref p := ry
  obtain ⟨ox, od, J⟩ := inst_at I (l.at hy)
  obtain ⟨m, Fr⟩ := I.fr
  refine PySem.W.in_K Fr I.ok.mod.kin J hm.at_ hm.fn ?_
  refine wpAny_mono (run_fn (Q := fun v A2 => v = .bl (g a b) ∧ Q v A2) F (hr.mono hk) bn .nil (E := E0) pass0 I (.cons (show L2.RelV (.ref p) (.ref p) from rfl) (.cons rx .nil)) ⟨_, _, a, b, V, rfl, l, ra, sb, hp, fun V2 A2 z g2 rz => ⟨rz, by rw [show z = _ from rz]; exact q V2 A2 g2⟩⟩) (fun r s1 hq => ?_) fun _ _ z => z
  obtain ⟨z, H2, I2, rz, ez, q2⟩ := hq
  subst ez
  obtain rfl : r = .bool (g a b) := rz
  exact wpAny_truthy_bool ⟨.bl (g a b), H2, I2, rfl, q2⟩
theorem op_own_notin {pre : α → β → Prop} {g : α → β → Bool} (m0 : Mth X.prog X.w X.K X.mg X.base C "__contains__" k (sp2 R S pre qB g)) (hr : Room j X.A) (hI : ∀ v H, R a v H → ∃ p dx fs, v = .ref p ∧ H p = some (.ins C dx fs)) (hp : pre a b) (hk : k ≤ j := by decide) :
    Op2 X (compareOp .NotIn) S b R a qB (!(g a b)) := by
  obtain ⟨f, fd, ps, F, hm, bn⟩ := m0.ex
  refine ⟨fun x y A Q => ∃ V, Le V A ∧ S b x V ∧ R a y V ∧ ∀ V2 A2, Grow V A V2 A2 → Q (.bl (!(g a b))) A2, ?_, fun V1 A x y Q l rx ry q => ⟨V1, l, rx, ry, fun V2 A2 g2 => q V2 A2 _ g2 rfl⟩⟩
  rintro pins s σ H x y v u Q I rx ry ⟨V, l, sb, ra, q⟩
  obtain ⟨p, dx, fs, ey, hy⟩ := hI y V ra
  subst ey
  obtain rfl : u = .ref p := ry
  obtain ⟨ox, od, J⟩ := inst_at I (l.at hy)
  obtain ⟨m, Fr⟩ := I.fr
  refine PySem.W.notIn_K Fr I.ok.mod.kin J hm.at_ hm.fn ?_
  refine wpAny_mono (run_fn (Q := fun v A2 => v = .bl (g a b) ∧ Q (.bl (!(g a b))) A2) F (hr.mono hk) bn .nil (E := E0) pass0 I (.cons (show L2.RelV (.ref p) (.ref p) from rfl) (.cons rx .nil)) ⟨_, _, a, b, V, rfl, l, ra, sb, hp, fun V2 A2 z g2 rz => ⟨rz, q V2 A2 g2⟩⟩) (fun r s1 hq => ?_) fun _ _ z => z
  obtain ⟨z, H2, I2, rz, ez, q2⟩ := hq
  subst ez
  obtain rfl : r = .bool (g a b) := rz
  exact wpAny_truthy_bool ⟨.bl (!(g a b)), H2, I2, rfl, q2⟩
theorem f_own_len {pre : α → Prop} {g : α → Int} (m0 : Mth X.prog X.w X.K X.mg X.base C "__len__" k (sp1 R pre qI g)) (hr : Room j X.A) (hI : ∀ v H, R a v H → ∃ p dx fs, v = .ref p ∧ H p = some (.ins C dx fs)) (hp : pre a) (h0 : 0 ≤ g a) (h1 : g a < 2 ^ 63) (hk : k + 1 ≤ j := by decide) :
    Fn1 X (.builtin "len") R a qI (g a) := by
  obtain ⟨f, fd, ps, F, hm, bn⟩ := m0.ex
  refine ⟨fun xs A Q => ∃ V x, xs = [x] ∧ Le V A ∧ R a x V ∧ ∀ V2 A2, Grow V A V2 A2 → Q (.int (g a)) A2, ?_, fun V1 A x Q l rx q => ⟨V1, x, rfl, l, rx, fun V2 A2 g2 => q V2 A2 _ g2 rfl⟩⟩
  rintro pins s σ H xs us Q I rxs ⟨V, x, rfl, l, ra, q⟩
  obtain ⟨p, dx, fs, ey, hy⟩ := hI x V ra
  subst ey
  obtain ⟨u, rfl, ru⟩ := rxs.one
  obtain rfl : u = .ref p := ru
  obtain ⟨ox, od, J⟩ := inst_at I (l.at hy)
  obtain ⟨m, Fr⟩ := I.fr
  refine PySem.W.len_K Fr I.ok.mod.kin J hm.at_ hm.fn ?_
  have hl : [Value.ref p].length = ps.length := by
    rw [← F.len [.ref p] H (fun _ _ => True) E0 ⟨_, a, V, rfl, l, ra, hp, fun _ _ _ _ _ => trivial⟩]
    rfl
  refine wpAny_call (codeAny_mono (F.run X.A.in1 X.stack s H ⟨[.ref p], []⟩ [Value.ref p] [L2.V.ref p] (fun v A2 => v = .int (g a) ∧ Q v A2) E0 (hr.mono hk).in1 I.env0.in1 (by have z := bn s [.ref p] I.kIn (by simpa using hl); simpa using z) (.cons rfl .nil)
    ⟨_, a, V, rfl, l, ra, hp, fun V2 A2 z g2 rz => ⟨rz, by rw [show z = _ from rz]; exact q V2 A2 g2⟩⟩) fun r s' hq => ?_)
  cases r with
  | error er => exact False.elim hq
  | ok fl =>
    cases fl with
    | ret u =>
      obtain ⟨v, H', I3, rv, ev, q3⟩ := I.after hq
      subst ev
      obtain ⟨t, rfl⟩ := (show ∃ t, u = Value.int (g a) t from rv)
      exact ⟨⟨h0, h1⟩, ⟨.int (g a), H', I3.tok _, ⟨_, rfl⟩, q3⟩⟩
    | next => exact False.elim hq
    | brk => exact False.elim hq
    | cont => exact False.elim hq
end
end Om
set_option maxHeartbeats 4000000
/-! Om, part N2: values ahead of a change of owned things; stores to fields, dicts, lists; making an object. -/
namespace Om
open PySem PySem.Spec PyProof.Rows L2

/-! ### relations that see no owned thing -/
/-- lists, tuples, locked things -/
def Plain : HO → Prop
  | .lst _ => True
  | .tup _ => True
  | .frz _ _ => True
  | _ => False
class Lt {α : Type} (R : Rf α) : Prop where
  lt : ∀ {a : α} {v : Vl} {H H' : Hp}, (∀ b o, H b = some o → Plain o → H' b = some o) → R a v H → R a v H'
instance : Lt qI := ⟨fun _ h => h⟩
instance : Lt qB := ⟨fun _ h => h⟩
instance : Lt qN := ⟨fun _ h => h⟩
instance : Lt qS := ⟨fun _ h => h⟩
instance : Lt qP := ⟨fun _ h => h⟩
instance {α β : Type} {R1 : Rf α} {R2 : Rf β} [Lt R1] [Lt R2] : Lt (q2 R1 R2) := ⟨fun s ⟨p, a, b, e, h, r1, r2⟩ => ⟨p, a, b, e, s _ _ h trivial, Lt.lt s r1, Lt.lt s r2⟩⟩
theorem Al.lt {α : Type} {R : Rf α} [Lt R] {xs : List α} {vs : List Vl} {H H' : Hp} (s : ∀ b o, H b = some o → Plain o → H' b = some o) (h : Al R xs vs H) : Al R xs vs H' := Paired.mapP h fun _ _ r => Lt.lt s r
instance {α : Type} {R : Rf α} [Lt R] : Lt (qL R) := ⟨fun s ⟨p, vs, e, h, r, l⟩ => ⟨p, vs, e, s _ _ h trivial, r.lt s, l⟩⟩
instance {α : Type} {R : Rf α} [Lt R] : Lt (qU R) := ⟨fun s ⟨p, vs, e, h, r, l⟩ => ⟨p, vs, e, s _ _ h trivial, r.lt s, l⟩⟩
instance {α : Type} {R : Rf α} [m : Lt R] : Lt (qO R) := ⟨fun {a v H H'} s h => by
  cases a with
  | none => exact h
  | some a => exact m.lt s h⟩
/-- nothing plain is owned -/
def NoPl (M : Hp) : Prop := ∀ b o, M b = some o → ¬ Plain o

/-! ### a value, while something is owned -/
def EvM {α : Type} (X : Cx) (e : Expr) (σ : L2.St) (V M : Hp) (R : Rf α) (a : α) : Prop :=
  ∀ V1 A (Q : VK), Same V V1 → Ow V1 M A → (∀ V2 A2 v, Stp V1 M A V2 M A2 → R a v V2 → Q v A2) → RE X e σ A Q
section
variable {X : Cx} {σ : L2.St} {V V' M : Hp} {α β : Type} {R : Rf α} {S : Rf β} {a : α} {b : β} {e e1 e2 : Expr} {pos p px : Pos} {P : Post} {rest : List Stmt}
theorem EvR.m (h : EvR X e σ V R a) : EvM X e σ V M R a := fun V1 A Q s w q => h V1 A Q s w.va fun V2 A2 v g r => q V2 A2 v (g.stp w) r
/-- W without what M owns -/
def sans (W M : Hp) : Hp := fun b => match M b with
  | some _ => none
  | none => W b
theorem jn_mono {V V1 M : Hp} (s : Same V V1) (d : ∀ b, M b ≠ none → V1 b = none) : Same (jn V M) (jn V1 M) := fun b o h => by
  unfold jn at h ⊢
  cases q : V b with
  | some u =>
    rw [q] at h
    rw [s b u q]
    exact h
  | none =>
    rw [q] at h
    have e : M b = some o := h
    rw [d b (by rw [e]; exact fun z => nomatch z)]
    exact h
/-- reads of owned things, what comes is not owned -/
theorem EvR.w [Lt R] (h : EvR X e σ (jn V M) R a) (hM : NoPl M) : EvM X e σ V M R a := fun V1 A Q s w q => by
  refine h (jn V1 M) A Q (jn_mono s w.di) (jn_sees.le w) fun W2 A2 v g r => ?_
  have s1 : ∀ b o, M b = none → W2 b = some o → sans W2 M b = some o := fun b o h1 h2 => by
    unfold sans
    rw [h1]
    exact h2
  have s2 : ∀ b o, sans W2 M b = some o → M b = none ∧ W2 b = some o := fun b o h1 => by
    unfold sans at h1
    cases q : M b with
    | some u => rw [q] at h1; cases h1
    | none =>
      rw [q] at h1
      exact ⟨rfl, h1⟩
  have mV : ∀ b, V1 b ≠ none → M b = none := fun b hb => by
    cases q : M b with
    | none => rfl
    | some u => exact absurd (w.di b (by rw [q]; exact fun z => nomatch z)) hb
  refine q (sans W2 M) A2 v ⟨fun b o e => ?_, ⟨fun b o e => g.va b o (s2 b o e).2, fun b o e => g.aa b o (w.ma b o e), fun b hb => ?_, w.mt⟩, fun b h1 h2 h3 => ⟨h2, fun t => ?_⟩, fun b o _ e => g.aa b o e⟩ (Lt.lt (fun b o e hp => ?_) r)
  · exact s1 b o (mV b (by rw [e]; exact fun z => nomatch z)) (g.vv b o (jn_v b o e))
  · cases q : sans W2 M b with
    | none => rfl
    | some o => exact absurd (s2 b o q).1 hb
  · have e : W2 b = none := g.fr b (by unfold jn; rw [h1]; exact h2) h3 t
    cases q : sans W2 M b with
    | none => rfl
    | some o => rw [(s2 b o q).2] at e; cases e
  · cases q : M b with
    | none => exact s1 b o q e
    | some u =>
      have z := g.vv b u (by unfold jn; rw [w.di b (by rw [q]; exact fun z => nomatch z)]; exact q)
      rw [e] at z
      cases z
      exact absurd hp (hM b _ q)
/-- a reference to one thing -/
abbrev qA (x : Addr) : Rf Unit := fun _ v _ => v = .ref x
instance {x : Addr} : Mo (qA x) := ⟨fun _ h => h⟩
instance {x : Addr} : Lt (qA x) := ⟨fun _ h => h⟩
theorem go_setM {i : Nat} {x : Str} (hN : X.N.Nodup) (hi : X.N[i]? = some x) (hx : Loc X.env.scope x) (h : EvM X e σ V M R a) (k : ∀ V' v, Same V V' → R a v V' → Go X rest (σ.set i (some v)) V' M P)
    (hs : swapsWith e (some (.Name x px)) pos.line X.env = pure false := by rfl) (hf : X.fn x = true ∨ X.env.scope.names.lookup x = some .local := by first | exact .inl rfl | exact .inr rfl) : Go X (.Assign [.Name x px] e pos :: rest) σ V M P :=
  go_of (ps_set hN hi hx pe_re hs hf) fun A D w f => h V A _ (Same.refl _) w fun V2 A2 v g r => go_next f g (k V2 v g.vv r)
/-- owned things are not seen -/
theorem go_di {b : List Stmt} (h : (∀ c, M c ≠ none → V c = none) → Go X b σ V M P) : Go X b σ V M P := fun A D w f => h w.di A D w f
/-- the one owned thing is shown -/
theorem go_show {d : Addr} {o : HO} {b : List Stmt} (h : V d = none → Go X b σ (upd V d o) H0 P) : Go X b σ V (upd H0 d o) P := go_di fun di => by
  have hd : V d = none := di d (by rw [upd_same]; exact fun z => nomatch z)
  refine go_pub (h hd) (fun c u e => by rw [upd_ne (fun z => by rw [z, hd] at e; cases e)]; exact e) (fun c u e => ?_) (fun c u e => nomatch e)
  by_cases hc : c = d
  · subst hc
    rw [upd_same] at e ⊢
    exact .inr e
  · rw [upd_ne hc] at e
    exact .inl e
/-- x = {} -/
theorem go_newK {i : Nat} {x : Str} (hN : X.N.Nodup) (hi : X.N[i]? = some x) (hx : Loc X.env.scope x) (k : ∀ d, M d = none → V d = none → Go X rest (σ.set i (some (.ref d))) V (upd M d (.dK [])) P)
    (hs : swapsWith (.Dict [] [] p) (some (.Name x px)) pos.line X.env = pure false := by rfl) (hf : X.fn x = true ∨ X.env.scope.names.lookup x = some .local := by first | exact .inl rfl | exact .inr rfl) : Go X (.Assign [.Name x px] (.Dict [] [] p) pos :: rest) σ V M P :=
  go_of (ps_set hN hi hx pe_dnewK hs hf) fun A D w f d hd => go_next f (Stp.make w hd) (k d (by
    cases q : M d with
    | none => rfl
    | some u => rw [w.ma d u q] at hd; cases hd) (w.va.free hd))
theorem go_newT {i : Nat} {x : Str} (hN : X.N.Nodup) (hi : X.N[i]? = some x) (hx : Loc X.env.scope x) (k : ∀ d, M d = none → V d = none → Go X rest (σ.set i (some (.ref d))) V (upd M d (.dT [])) P)
    (hs : swapsWith (.Dict [] [] p) (some (.Name x px)) pos.line X.env = pure false := by rfl) (hf : X.fn x = true ∨ X.env.scope.names.lookup x = some .local := by first | exact .inl rfl | exact .inr rfl) : Go X (.Assign [.Name x px] (.Dict [] [] p) pos :: rest) σ V M P :=
  go_of (ps_set hN hi hx pe_dnewT hs hf) fun A D w f d hd => go_next f (Stp.make w hd) (k d (by
    cases q : M d with
    | none => rfl
    | some u => rw [w.ma d u q] at hd; cases hd) (w.va.free hd))
/-- x = [..], owned -/
theorem go_newL [Mo R] {i : Nat} {x : Str} {es : List Expr} {xs : List α} (hN : X.N.Nodup) (hi : X.N[i]? = some x) (hx : Loc X.env.scope x) (h : EvL X es σ V R xs) (hl : xs.length ≤ sizeLine) (k : ∀ V' d vs, Same V V' → M d = none → V' d = none → Al R xs vs V' → Go X rest (σ.set i (some (.ref d))) V' (upd M d (.lst vs)) P)
    (hs : swapsWith (.List es p) (some (.Name x px)) pos.line X.env = pure false := by rfl) (hf : X.fn x = true ∨ X.env.scope.names.lookup x = some .local := by first | exact .inl rfl | exact .inr rfl) : Go X (.Assign [.Name x px] (.List es p) pos :: rest) σ V M P :=
  go_of (ps_set hN hi hx (pe_lst pa_ra) hs hf) fun A D w f => h V A _ (Same.refl _) w.va fun V2 A2 vs g al => ⟨by rw [← al.len]; exact hl, fun d hd => by
    have w2 := (g.stp w).ow
    exact go_next f ((g.stp w).trans (Stp.make w2 hd)) (k V2 d vs g.vv (by
      cases q : M d with
      | none => rfl
      | some u => rw [w2.ma d u q] at hd; cases hd) (w2.va.free hd) al)⟩

/-! ### changes of owned things -/
/-- o.f = e, o owned -/
theorem go_fld {C x dx : Addr} {fs : List (Str × Vl)} {f : Str} {o : Expr} (c : Cls X.K C) (n : NoAttr X.K C f) (ho : ∀ V', Same V V' → EvR X o σ V' (qA x) ()) (hM : M x = some (.ins C dx fs)) (hl : fs.length < 1000) (h : EvM X e σ V M R a)
    (k : ∀ V' v, Same V V' → R a v V' → Go X rest σ V' (upd M x (.ins C dx (putF f v fs))) P) (hs : swapsWith e (some (.Attribute o f px)) pos.line X.env = pure false := by rfl) : Go X (.Assign [.Attribute o f px] e pos :: rest) σ V M P :=
  go_of (ps_fld pe_re pe_re hs) fun A D w fi => h V A _ (Same.refl _) w fun V2 A2 v s2 r => ho V2 s2.vv V2 A2 _ (Same.refl _) s2.ow.va fun V3 A3 y g3 ry => by
    have s3 := s2.trans (Stp.gar s2.ow g3)
    exact ⟨x, C, dx, fs, ry, s3.ow.ma x _ hM, c, n, hl, go_next fi (s3.trans (Stp.set s3.ow hM)) (k V2 v s2.vv r)⟩
/-- d[y] = e, d owned, y a flat key -/
theorem go_putK {d : Addr} {kvs : List (Key × Vl)} {o i : Expr} {key : Key} (hu : X.A.units + 1 < cLine) (ho : ∀ V', Same V V' → EvR X o σ (jn V' M) (qA d) ()) (hi : ∀ V', Same V V' → EvR X i σ (jn V' M) (fun (_ : Unit) v _ => v = kV key) ()) (hM : M d = some (.dK kvs)) (hl : kvs.length < sizeLine) (h : EvM X e σ V M R a)
    (k : ∀ V' v, Same V V' → R a v V' → Go X rest σ V' (upd M d (.dK (putK kvs key v))) P) (hs : swapsWith e (some (.Subscript o i px)) pos.line X.env = pure false := by rfl) : Go X (.Assign [.Subscript o i px] e pos :: rest) σ V M P :=
  go_of (ps_dput hu pe_re pe_re pe_re hs) fun A D w fi => h V A _ (Same.refl _) w fun V2 A2 v s2 r => ho V2 s2.vv _ A2 _ (Same.refl _) (jn_sees.le s2.ow) fun V3 A3 x g3 rx => by
    have s3 := s2.trans (Stp.gar s2.ow g3)
    refine hi V2 s2.vv _ A3 _ (Same.refl _) (jn_sees.le s3.ow) fun V4 A4 y g4 ry => ?_
    have s4 := s3.trans (Stp.gar s3.ow g4)
    exact ⟨d, _, rx, .inl ⟨kvs, key, s4.ow.ma d _ hM, ry, hl, rfl⟩, go_next fi (s4.trans (Stp.set s4.ow hM)) (k V2 v s2.vv r)⟩
/-- .. y a tuple that is seen -/
theorem go_putT {d : Addr} {kvs : List (List Key × Vl)} {o i : Expr} {key : List Key} (hu : X.A.units + 1 < cLine) (ho : ∀ V', Same V V' → EvR X o σ V' (qA d) ()) (hi : ∀ V', Same V V' → EvR X i σ V' (fun (_ : Unit) v V' => ∃ b, v = .ref b ∧ V' b = some (.tup (key.map kV))) ()) (hM : M d = some (.dT kvs)) (hl : kvs.length < sizeLine) (h : EvM X e σ V M R a) [Mo R]
    (k : ∀ V' v, Same V V' → R a v V' → Go X rest σ V' (upd M d (.dT (putK kvs key v))) P) (hs : swapsWith e (some (.Subscript o i px)) pos.line X.env = pure false := by rfl) : Go X (.Assign [.Subscript o i px] e pos :: rest) σ V M P :=
  go_of (ps_dput hu pe_re pe_re pe_re hs) fun A D w fi => h V A _ (Same.refl _) w fun V2 A2 v s2 r => ho V2 s2.vv V2 A2 _ (Same.refl _) s2.ow.va fun V3 A3 x g3 rx => by
    have s3 := s2.trans (g3.stp s2.ow)
    refine hi V3 s3.vv V3 A3 _ (Same.refl _) s3.ow.va fun V4 A4 y g4 ⟨b, ey, hb⟩ => ?_
    have s4 := s3.trans (g4.stp s3.ow)
    exact ⟨d, _, rx, .inr ⟨kvs, key, b, s4.ow.ma d _ hM, ey, g4.va.at hb, hl, rfl⟩, go_next fi (s4.trans (Stp.set s4.ow hM)) (k V4 v s4.vv (Mo.mo (g3.vv.trans g4.vv) r))⟩
/-- l.append(e), l owned -/
theorem go_app {l : Addr} {vs : List Vl} {o : Expr} (ho : EvR X o σ (jn V M) (qA l) ()) (hM : M l = some (.lst vs)) (hl : vs.length < sizeLine) (h : EvM X e σ V M R a)
    (k : ∀ V' v, Same V V' → R a v V' → Go X rest σ V' (upd M l (.lst (vs ++ [v]))) P) (hs : swapsWith (.Call (.Attribute o "append" p) [e] [] px) none pos.line X.env = pure false := by rfl)
    (hbase : attributeBase o "append" X.env (eval o X.env) = eval o X.env := by rfl) (hline : (p.endLine == px.line) = true := by rfl) (hst : starEach [e] X.env = (false, eval e X.env) :: starEach [] X.env := by rfl)
    (hfew : ((backTo px (starEach [e] X.env)).all (fun x => !x.1) && (backToKw px (keywordEach [] X.env)).all (fun x => x.1.isSome) && decide (([e] : List Expr).length + ([] : List Keyword).length + (if ([] : List Keyword).isEmpty then 0 else 1) < 30)) = true := by rfl) :
    Go X (.Expr (.Call (.Attribute o "append" p) [e] [] px) pos :: rest) σ V M P :=
  go_of (ps_expr (pe_bm (F.plainAttrs_list) F.slot_list_append F.type_list_append mt_append pe_re (pa_cons pe_re pa_nil hst) hbase hfew hline hst rfl) hs) fun A D w f => ho _ A _ (Same.refl _) (jn_sees.le w) fun V2 A2 x g2 rx => by
    have s2 := Stp.gar w g2
    refine ⟨?_, h V A2 _ (Same.refl _) s2.ow fun V3 A3 v s3 r => ?_⟩
    · rw [show x = .ref l from rx]
      exact .inl ⟨rfl, vs, SqL.of (s2.ow.ma l _ hM)⟩
    · have s4 := s2.trans s3
      exact ⟨l, vs, v, rx, rfl, s4.ow.ma l _ hM, hl, go_next f (s4.trans (Stp.set s4.ow hM)) (k V3 v s3.vv r)⟩
/-- l.insert(i, e), l owned -/
theorem go_ins {l : Addr} {vs : List Vl} {o : Expr} {j : Nat} (ho : EvR X o σ (jn V M) (qA l) ()) (hM : M l = some (.lst vs)) (hl : vs.length < sizeLine) (hi : EvR X e1 σ V qI (j : Int)) (hj : j < 2 ^ 62) (h : EvR X e σ V R a)
    (k : ∀ V' v, Same V V' → R a v V' → Go X rest σ V' (upd M l (.lst (vs.take j ++ [v] ++ vs.drop j))) P) (hs : swapsWith (.Call (.Attribute o "insert" p) [e1, e] [] px) none pos.line X.env = pure false := by rfl)
    (hbase : attributeBase o "insert" X.env (eval o X.env) = eval o X.env := by rfl) (hline : (p.endLine == px.line) = true := by rfl) (hst : starEach [e1, e] X.env = (false, eval e1 X.env) :: starEach [e] X.env := by rfl) (hst2 : starEach [e] X.env = (false, eval e X.env) :: starEach [] X.env := by rfl)
    (hfew : ((backTo px (starEach [e1, e] X.env)).all (fun x => !x.1) && (backToKw px (keywordEach [] X.env)).all (fun x => x.1.isSome) && decide (([e1, e] : List Expr).length + ([] : List Keyword).length + (if ([] : List Keyword).isEmpty then 0 else 1) < 30)) = true := by rfl)
    (hpl : (backTo px (starEach [e] X.env)).any (·.1) = false := by rfl) :
    Go X (.Expr (.Call (.Attribute o "insert" p) [e1, e] [] px) pos :: rest) σ V M P :=
  go_of (ps_expr (pe_bm (F.plainAttrs_list) F.slot_list_insert F.type_list_insert mt_insert pe_re (pa_cons pe_re (pa_cons pe_re pa_nil hst2) hst) hbase hfew hline hst hpl) hs) fun A D w f => ho _ A _ (Same.refl _) (jn_sees.le w) fun V2 A2 x g2 rx => by
    have s2 := Stp.gar w g2
    refine ⟨?_, hi V A2 _ (Same.refl _) s2.ow.va fun V3 A3 u g3 ru => h V3 A3 _ g3.vv g3.va fun V4 A4 v g4 r => ?_⟩
    · rw [show x = .ref l from rx]
      exact .inl ⟨rfl, vs, SqL.of (s2.ow.ma l _ hM)⟩
    · have s4 := s2.trans ((g3.trans g4).stp s2.ow)
      refine ⟨l, vs, (j : Int), v, rx, by rw [show u = _ from ru], s4.ow.ma l _ hM, hl, by omega, by omega, ?_⟩
      rw [Int.toNat_natCast]
      exact go_next f (s4.trans (Stp.set s4.ow hM)) (k V4 v (g3.vv.trans g4.vv) r)
end
end Om
set_option maxHeartbeats 4000000
/-! Om, part N3: making an object. -/
namespace Om
open PySem PySem.Spec PyProof.Rows L2
/-- what __init__ finds -/
structure Born (C x dx : Addr) (H1 H : Hp) : Prop where
  nx : H1 x = none
  nd : H1 dx = none
  ne : dx ≠ x
  eq : H = upd (upd H1 dx (.own x)) x (.ins C dx [])
section
variable {α β γ δ ρ : Type} {V M H1 H V' M' A' : Hp} {C x dx : Addr}
theorem Born.same (b : Born C x dx H1 H) : ∀ c o, H1 c = some o → H c = some o ∧ c ≠ x := fun c o e => by
  have h1 : c ≠ x := ne_of_none e b.nx
  have h2 : c ≠ dx := ne_of_none e b.nd
  rw [b.eq, upd_ne h1, upd_ne h2]
  exact ⟨e, h1⟩
theorem Born.ow (b : Born C x dx H1 H) (l : Le V H1) : Ow V (upd H0 x (.ins C dx [])) H := by
  have hv : ∀ c o, V c = some o → c ≠ x := fun c o e z => by
    rw [z, l.free b.nx] at e
    cases e
  refine ⟨fun c o e => ?_, fun c o e => ?_, fun c hc => ?_, fun c xs z => ?_⟩
  · rcases l c o e with h | ⟨h, ob, h'⟩
    · exact .inl (b.same c o h).1
    · exact .inr ⟨h, ob, (b.same c _ h').1⟩
  · by_cases hc : c = x
    · subst hc
      rw [upd_same] at e
      cases e
      rw [b.eq, upd_same]
    · rw [upd_ne hc] at e
      cases e
  · by_cases hc' : c = x
    · subst hc'
      exact l.free b.nx
    · rw [upd_ne hc'] at hc
      exact absurd rfl hc
  · by_cases hc : c = x
    · subst hc
      rw [upd_same] at z
      cases z
    · rw [upd_ne hc] at z
      cases z
theorem Born.grow (b : Born C x dx H1 H) (l : Le V H1) (s : Stp V (upd H0 x (.ins C dx [])) H V' M' A') : Grow V H1 (jn V' M') A' := by
  refine ⟨fun c o e => jn_v c o (s.vv c o e), fun c o e => ?_, jn_sees.le s.ow, fun c h1 h2 h3 => ?_⟩
  · obtain ⟨e1, e2⟩ := b.same c o e
    exact s.aa c o (by rw [upd_ne e2]) e1
  · cases q : H1 c with
    | none => exact absurd q h2
    | some o =>
      obtain ⟨e1, e2⟩ := b.same c o q
      obtain ⟨m, v⟩ := s.fr c h1 (by rw [upd_ne e2]) (by rw [e1]; exact fun z => nomatch z)
      have v := v (fun xs z => by rw [e1] at z; cases z; exact h3 xs q)
      unfold jn
      rw [v]
      exact m
def spI2 (C : Addr) {α β ρ : Type} (R1 : Rf α) (R2 : Rf β) (pre : α → β → Prop) (S : Rf ρ) (g : α → β → ρ) : Sp := fun vs H Q _ => ∃ x dx H1 v1 v2 a b V, vs = [.ref x, v1, v2] ∧ Born C x dx H1 H ∧ Le V H1 ∧ R1 a v1 V ∧ R2 b v2 V ∧ pre a b ∧ ∀ V' H', Grow V H1 V' H' → S (g a b) (.ref x) V' → Q .non H'
/-- __init__ behind a walk -/
abbrev IniP {ρ : Type} (S : Rf ρ) (c : ρ) (x : Addr) : Post := { nx := fun _ V' M' => S c (.ref x) (jn V' M'), rt := fun _ _ _ => False }
variable {P : Program} {w : World} {K : PySem.W.Frag} {mg : Str → Option Value} {base : Heap} {nm qual : Str} {st : Stmt} {N ps : List Str} {k : Nat}
/-- a def of a class -/
structure Dfm (K : PySem.W.Frag) (nm qual : Str) (st : Stmt) (ps : List Str) (f : Addr) (fd : FuncData) : Prop where
  F : FunD K nm qual (defArgs st) (defBody st) (defScope st) [] [] f fd
  bn : Binds K fd ps []
abbrev bodyI (P : Program) (w : World) (K : PySem.W.Frag) (mg : Str → Option Value) (base : Heap) (N : List Str) (q : Str) (st : Stmt) (f : Addr) (cdv : Value) (A : Around) (outer : List Env) (s : Shared) (H : Hp) (E : XK) : Cx := (cxOf CX0 P w K mg base N q (defScope st) f cdv A outer s H E).nox
theorem ini2 {R1 : Rf α} {R2 : Rf β} {pre : α → β → Prop} {S : Rf ρ} {g : α → β → ρ} {f : Addr} {fd : FuncData} (D : Dfm K nm qual st ps f fd) (sc : FnScope N ps (defScope st)) (hl : ps.length = 3)
    (h : ∀ cdv A outer s H E x dx v1 v2 a b V, Room k (bodyI P w K mg base N qual st f cdv A outer s H E).A → V x = none → R1 a v1 V → R2 b v2 V → pre a b →
      Go (bodyI P w K mg base N qual st f cdv A outer s H E) (defBody st) (start N [.ref x, v1, v2]) V (upd H0 x (.ins C dx [])) (IniP S (g a b) x)) : FnOk P w K mg base CX0 (k + 1) f fd ps (spI2 C R1 R2 pre S g) := by
  refine D.F.ok sc (fun vs H Q E h => ?_) (fun cdv A outer s H vs Q E hr hsp => ?_)
  · obtain ⟨x, dx, H1, v1, v2, a, b, V, rfl, _⟩ := h
    exact hl.symm
  · obtain ⟨x, dx, H1, v1, v2, a, b, V, rfl, bo, l, r1, r2, hp, q⟩ := hsp
    refine ⟨_, PSs.nox pss_rs, h cdv A outer s H E x dx v1 v2 a b V hr (l.free bo.nx) r1 r2 hp H _ (bo.ow l) ⟨fun σ' V' M' A' s hS => q _ A' (bo.grow l s) hS, fun _ _ _ _ _ z => z.elim, fun _ _ _ _ _ z => z.elim, fun _ _ _ _ _ z => z.elim⟩⟩
structure Mkr (P : Program) (w : World) (K : PySem.W.Frag) (mg : Str → Option Value) (base : Heap) (C : Addr) (k : Nat) (sp : Sp) : Prop where
  ex : ∃ (f : Addr) (fd : FuncData) (ps : List Str), Mk K C f ∧ FnOk P w K mg base CX0 k f fd ps sp ∧ Binds K fd ps []
end
section
variable {X : Cx} {σ : L2.St} {V : Hp} {α β ρ : Type} {R1 : Rf α} {R2 : Rf β} {S : Rf ρ} {a : α} {b : β} {e1 e2 : Expr} {pos p : Pos} {n : Str} {C : Addr} {k j : Nat}
theorem ev_mk2 [Mo R1] {pre : α → β → Prop} {g : α → β → ρ} (m : Mkr X.prog X.w X.K X.mg X.base C k (spI2 C R1 R2 pre S g)) (hr : Room j X.A) (hg : Gl X n) (hm : X.mg n = some (.ref C)) (h1 : EvR X e1 σ V R1 a) (h2 : EvR X e2 σ V R2 b) (hp : pre a b) (hk : k + 1 ≤ j := by decide)
    (hdb : (n == ("__debug__" : Str)) = false := by decide) (he : starEach [e1, e2] X.env = (false, eval e1 X.env) :: starEach [e2] X.env := by rfl) (he2 : starEach [e2] X.env = (false, eval e2 X.env) :: starEach [] X.env := by rfl) (hpl : (backTo pos (starEach [e2] X.env)).any (·.1) = false := by rfl) :
    EvR X (.Call (.Name n p) [e1, e2] [] pos) σ V S (g a b) := by
  obtain ⟨f, fd, ps, M, F, bn⟩ := m.ex
  refine ev_of (pe_make (E := E0) M F (hr.mono hk) hg hm bn .nil pass0 (pa_cons pe_re (pa_cons pe_re pa_nil he2) he) hdb he hpl) fun V1 A Q s l q => h1 V1 A _ s l fun V2 A2 v g2 r1 => h2 V2 A2 _ (s.trans g2.vv) g2.va fun V3 A3 u g3 r2 => fun x dx hx hd hne =>
    ⟨x, dx, A3, v, u, a, b, V3, rfl, ⟨hx, hd, hne, rfl⟩, g3.va, Mo.mo g3.vv r1, r2, hp, fun V4 A4 g4 rz => ⟨rfl, q V4 A4 _ ((g2.trans g3).trans g4) rz⟩⟩
end
end Om
set_option maxHeartbeats 4000000
/-! Om, part N4: dicts read; sources: keys of a locked dict, enumerate, zip, an own __iter__. -/
namespace Om
open PySem PySem.Spec PyProof.Rows L2
/-- keys that are ints, texts -/
class KeyK {κ : Type} (R : Rf κ) where
  enc : κ → Key
  iff : ∀ {k : κ} {v : Vl} {H : Hp}, R k v H ↔ v = kV (enc k)
  inj : ∀ {k k' : κ}, enc k = enc k' → k = k'
instance : KeyK qI := ⟨fun i => .inl i, Iff.rfl, fun h => Sum.inl.inj h⟩
instance : KeyK qS := ⟨fun i => .inr i, Iff.rfl, fun h => Sum.inr.inj h⟩
instance : KeyK qP := ⟨fun i => .inr (nm i), Iff.rfl, fun h => (nm_inj _ _).mp (Sum.inr.inj h)⟩
/-- keys that are tuples -/
class KeyT {κ : Type} (R : Rf κ) where
  enc : κ → List Key
  to : ∀ {k : κ} {v : Vl} {H : Hp}, R k v H → ∃ b, v = .ref b ∧ H b = some (.tup ((enc k).map kV))
  of : ∀ {k : κ} {b : Addr} {H : Hp}, H b = some (.tup ((enc k).map kV)) → R k (.ref b) H
  inj : ∀ {k k' : κ}, enc k = enc k' → k = k'
instance {κ κ' : Type} {R : Rf κ} {S : Rf κ'} [i : KeyK R] [j : KeyK S] : KeyT (q2 R S) where
  enc := fun x => [i.enc x.1, j.enc x.2]
  to := fun ⟨p, a, b, e, h, r1, r2⟩ => ⟨p, e, by rw [i.iff.mp r1, j.iff.mp r2] at h; exact h⟩
  of := fun {k b H} h => ⟨b, _, _, rfl, h, i.iff.mpr rfl, j.iff.mpr rfl⟩
  inj := fun {k k'} h => by
    obtain ⟨a, b⟩ := k
    obtain ⟨c, d⟩ := k'
    simp only [List.cons.injEq, and_true] at h
    rw [i.inj h.1, j.inj h.2]
/-- what stands there at k -/
def dg {κ β : Type} [DecidableEq κ] (kvs : List (κ × β)) (k : κ) : Option β := (kvs.find? fun x => decide (x.1 = k)).map (·.2)
def dput {κ β : Type} [DecidableEq κ] (kvs : List (κ × β)) (k : κ) (v : β) : List (κ × β) := if (kvs.any fun x => decide (x.1 = k)) = true then kvs.map (fun x => if x.1 = k then (x.1, v) else x) else kvs ++ [(k, v)]
section
variable {κ β ε : Type} [DecidableEq κ] [DecidableEq ε] {S : Rf β} {H H' : Hp} {E : κ → ε}
abbrev Pr (E : κ → ε) (S : Rf β) (kvs : List (κ × β)) (ks : List (ε × Vl)) (H : Hp) : Prop := Paired (fun x y => y.1 = E x.1 ∧ S x.2 y.2 H) kvs ks
theorem Pr.mo [Mo S] {kvs : List (κ × β)} {ks : List (ε × Vl)} (s : Same H H') (h : Pr E S kvs ks H) : Pr E S kvs ks H' := Paired.mapP h fun _ _ z => ⟨z.1, Mo.mo s z.2⟩
theorem Pr.lt [Lt S] {kvs : List (κ × β)} {ks : List (ε × Vl)} (s : ∀ b o, H b = some o → Plain o → H' b = some o) (h : Pr E S kvs ks H) : Pr E S kvs ks H' := Paired.mapP h fun _ _ z => ⟨z.1, Lt.lt s z.2⟩
theorem Pr.get (inj : ∀ {k k' : κ}, E k = E k' → k = k') : ∀ {kvs : List (κ × β)} {ks : List (ε × Vl)} {k : κ} {b : β}, Pr E S kvs ks H → dg kvs k = some b → ∃ v, valV ks (E k) = some v ∧ S b v H
  | _, _, _, _, .nil, h => by cases h
  | (k', b') :: kvs, (e, v) :: ks, k, b, .cons ⟨r1, r2⟩ t, h => by
    by_cases hk : k' = k
    · subst hk
      have e2 : b' = b := by simpa [dg, List.find?_cons] using h
      subst e2
      exact ⟨v, valV_pos r1, r2⟩
    · have h' : dg kvs k = some b := by simpa [dg, List.find?_cons, hk] using h
      obtain ⟨u, h1, h2⟩ := Pr.get inj t h'
      exact ⟨u, by rw [valV_neg (fun z => hk (inj (r1.symm.trans z)))]; exact h1, h2⟩
theorem Pr.isSome (inj : ∀ {k k' : κ}, E k = E k' → k = k') : ∀ {kvs : List (κ × β)} {ks : List (ε × Vl)} {k : κ}, Pr E S kvs ks H → (valV ks (E k)).isSome = (dg kvs k).isSome
  | _, _, _, .nil => rfl
  | (k', b') :: kvs, (e, v) :: ks, k, .cons ⟨r1, r2⟩ t => by
    by_cases hk : k' = k
    · subst hk
      have h1 : valV ((e, v) :: ks) (E k') = some v := valV_pos r1
      have h2 : dg ((k', b') :: kvs) k' = some b' := by simp [dg, List.find?_cons]
      rw [h1, h2]
      rfl
    · have h1 : valV ((e, v) :: ks) (E k) = valV ks (E k) := valV_neg (fun z => hk (inj (r1.symm.trans z)))
      have h2 : dg ((k', b') :: kvs) k = dg kvs k := by simp [dg, List.find?_cons, hk]
      rw [h1, h2]
      exact Pr.isSome inj t
theorem Pr.any (inj : ∀ {k k' : κ}, E k = E k' → k = k') {kvs : List (κ × β)} {ks : List (ε × Vl)} {k : κ} (h : Pr E S kvs ks H) : (ks.any fun x => decide (x.1 = E k)) = (kvs.any fun x => decide (x.1 = k)) := by
  induction h with
  | nil => rfl
  | @cons x y xs ys r t ih =>
    rw [List.any_cons, List.any_cons, ih, r.1]
    by_cases hk : x.1 = k
    · rw [hk]
      simp
    · rw [decide_eq_false hk, decide_eq_false (fun z => hk (inj z))]
theorem Pr.put (inj : ∀ {k k' : κ}, E k = E k' → k = k') {kvs : List (κ × β)} {ks : List (ε × Vl)} {k : κ} {b : β} {v : Vl} (h : Pr E S kvs ks H) (r : S b v H) : Pr E S (dput kvs k b) (putK ks (E k) v) H := by
  unfold dput putK
  rw [h.any inj]
  by_cases ha : (kvs.any fun x => decide (x.1 = k)) = true
  · rw [if_pos ha, if_pos ha]
    clear ha
    induction h with
    | nil => exact .nil
    | @cons x y xs ys q t ih =>
      rw [List.map_cons, List.map_cons]
      refine .cons ?_ ih
      by_cases hk : x.1 = k
      · rw [if_pos hk, if_pos (by rw [q.1, hk])]
        exact ⟨q.1, r⟩
      · rw [if_neg hk, if_neg (fun z => hk (inj (q.1.symm.trans z)))]
        exact q
  · rw [if_neg ha, if_neg ha]
    clear ha
    induction h with
    | nil => exact .cons ⟨rfl, r⟩ .nil
    | cons q t ih => exact .cons q ih
theorem Pr.keys {kvs : List (κ × β)} {ks : List (ε × Vl)} (h : Pr E S kvs ks H) : ks.map (·.1) = kvs.map (fun x => E x.1) := by
  induction h with
  | nil => rfl
  | cons q t ih => rw [List.map_cons, List.map_cons, ih, q.1]
end
section
variable {κ β : Type} [DecidableEq κ]
theorem dput_new' {l : List (κ × β)} {k : κ} {b : β} (h : k ∉ l.map (·.1)) : dput l k b = l ++ [(k, b)] := by
  unfold dput
  rw [if_neg]
  intro z
  obtain ⟨x, hx, e⟩ := List.any_eq_true.mp z
  exact h (List.mem_map.mpr ⟨x, hx, of_decide_eq_true e⟩)
theorem dg_isSome' {l : List (κ × β)} {k : κ} : (dg l k).isSome = decide (k ∈ l.map (·.1)) := by
  unfold dg
  induction l with
  | nil => simp
  | cons x l ih =>
    rw [List.find?_cons]
    by_cases hx : x.1 = k
    · simp [hx]
    · rw [decide_eq_false hx]
      show (Option.map _ (l.find? fun x => decide (x.1 = k))).isSome = _
      rw [ih]
      have h2 : ¬ k = x.1 := fun z => hx z.symm
      simp [h2]
end
/-- a finished dict -/
def qDk {κ β : Type} (R : Rf κ) [KeyK R] (S : Rf β) : Rf (List (κ × β)) := fun kvs v H => ∃ d od ks, v = .ref d ∧ H d = some (.frz od (.dK ks)) ∧ Pr (KeyK.enc R) S kvs ks H
def qDt {κ β : Type} (R : Rf κ) [KeyT R] (S : Rf β) : Rf (List (κ × β)) := fun kvs v H => ∃ d od ks, v = .ref d ∧ H d = some (.frz od (.dT ks)) ∧ Pr (KeyT.enc R) S kvs ks H
instance {κ β : Type} [DecidableEq κ] {R : Rf κ} [KeyK R] {S : Rf β} [Mo S] : Mo (qDk R S) := ⟨fun s ⟨d, od, ks, e, h, r⟩ => ⟨d, od, ks, e, s _ _ h, r.mo s⟩⟩
instance {κ β : Type} [DecidableEq κ] {R : Rf κ} [KeyT R] {S : Rf β} [Mo S] : Mo (qDt R S) := ⟨fun s ⟨d, od, ks, e, h, r⟩ => ⟨d, od, ks, e, s _ _ h, r.mo s⟩⟩
instance {κ β : Type} [DecidableEq κ] {R : Rf κ} [KeyK R] {S : Rf β} [Lt S] : Lt (qDk R S) := ⟨fun s ⟨d, od, ks, e, h, r⟩ => ⟨d, od, ks, e, s _ _ h trivial, r.lt s⟩⟩
instance {κ β : Type} [DecidableEq κ] {R : Rf κ} [KeyT R] {S : Rf β} [Lt S] : Lt (qDt R S) := ⟨fun s ⟨d, od, ks, e, h, r⟩ => ⟨d, od, ks, e, s _ _ h trivial, r.lt s⟩⟩
theorem Le.rdd {V A : Hp} (l : Le V A) {d : Addr} {u : HO} (h : Rd V d u) : Rd A d u := by
  rcases h with h | ⟨od, h⟩
  · exact l.rd h
  · exact .inr ⟨od, l.at h⟩
section
variable {X : Cx} {σ : L2.St} {V : Hp} {κ β α : Type} [DecidableEq κ] {R : Rf κ} {S : Rf β} {Z : Rf α} {a : α} {b : β} {k : κ} {kvs : List (κ × β)} {e i : Expr} {pos p : Pos} {x : Str}
/-- d[k], d's entry at key as S says -/
def Ent (key : Key) (Z : Rf α) (a : α) (S : Rf β) (b : β) : Prop := ∀ v H, Z a v H → ∃ d ks u, v = .ref d ∧ Rd H d (.dK ks) ∧ valV ks key = some u ∧ S b u H
theorem ev_get {key : Key} (hu : X.A.units + 1 < cLine) [Mo Z] (h : EvR X e σ V Z a) (hi : EvR X i σ V (fun (_ : Unit) v _ => v = kV key) ()) (hE : Ent key Z a S b) (hs : NoSl i := by exact fun _ _ => rfl) : EvR X (.Subscript e i pos) σ V S b :=
  ev_of (pe_dget hu pe_re pe_re hs) fun V1 A Q s l q => h V1 A _ s l fun V2 A2 v g r => hi V2 A2 _ (s.trans g.vv) g.va fun V3 A3 y g3 ry => by
    obtain ⟨d, ks, u, ev, hd, hv, hS⟩ := hE v V3 (Mo.mo g3.vv r)
    exact ⟨d, u, ev, .inl ⟨ks, key, g3.va.rdd hd, ry, hv.symm⟩, q V3 A3 u (g.trans g3) hS⟩
theorem ev_getK [KeyK R] [Mo S] (hu : X.A.units + 1 < cLine) (h : EvR X e σ V (qDk R S) kvs) (hi : EvR X i σ V R k) (hk : dg kvs k = some b) (hs : NoSl i := by exact fun _ _ => rfl) : EvR X (.Subscript e i pos) σ V S b :=
  ev_get (key := KeyK.enc R k) hu h (hi.conv fun v V' s r => KeyK.iff.mp r) (fun v H ⟨d, od, ks, ev, hd, pr⟩ => by
    obtain ⟨u, h1, h2⟩ := pr.get (KeyK.inj (R := R)) hk
    exact ⟨d, ks, u, ev, .inr ⟨od, hd⟩, h1, h2⟩) hs
theorem ev_getT [KeyT R] [Mo S] (hu : X.A.units + 1 < cLine) (h : EvR X e σ V (qDt R S) kvs) (hi : EvR X i σ V R k) (hk : dg kvs k = some b) (hs : NoSl i := by exact fun _ _ => rfl) : EvR X (.Subscript e i pos) σ V S b :=
  ev_of (pe_dget hu pe_re pe_re hs) fun V1 A Q s l q => h V1 A _ s l fun V2 A2 v g ⟨d, od, ks, ev, hd, pr⟩ => hi V2 A2 _ (s.trans g.vv) g.va fun V3 A3 y g3 ry => by
    obtain ⟨u, h1, h2⟩ := pr.get (KeyT.inj (R := R)) hk
    obtain ⟨c, ey, hc⟩ := KeyT.to ry
    exact ⟨d, u, ev, .inr ⟨ks, _, c, .inr ⟨od, g3.va.at (g3.vv _ _ hd)⟩, ey, g3.va.at hc, h1.symm⟩, q V3 A3 u (g.trans g3) (Mo.mo g3.vv h2)⟩
/-- k in d -/
theorem op_d_in (hu : X.A.units + 1 < cLine) : OpR X (compareOp .In) (fun x y H Q => ∃ c o, y = .ref c ∧ DGet H c x o ∧ Q (.bl o.isSome) H) := by
  rintro pins s σ H x y v u Q I rx ry ⟨c, o, ey, g, q⟩
  subst ey
  obtain rfl : u = .ref c := ry
  exact d_in hu I g rx fun s3 I3 => ⟨.bl o.isSome, H, I3, rfl, q⟩
theorem op_d_notin (hu : X.A.units + 1 < cLine) : OpR X (compareOp .NotIn) (fun x y H Q => ∃ c o, y = .ref c ∧ DGet H c x o ∧ Q (.bl (!o.isSome)) H) := by
  rintro pins s σ H x y v u Q I rx ry ⟨c, o, ey, g, q⟩
  subst ey
  obtain rfl : u = .ref c := ry
  exact d_notIn hu I g rx fun s3 I3 => ⟨.bl (!o.isSome), H, I3, rfl, q⟩
theorem o_inDk [KeyK R] (hu : X.A.units + 1 < cLine) : Op2 X (compareOp .In) R k (qDk R S) kvs qB ((dg kvs k).isSome) :=
  ⟨_, op_d_in hu, fun V1 A x y Q l rx ⟨d, od, ks, ev, hd, pr⟩ q => ⟨d, _, ev, .inl ⟨ks, KeyK.enc R k, .inr ⟨od, l.at hd⟩, KeyK.iff.mp rx, rfl⟩, q V1 A _ (.refl l) (by rw [pr.isSome (KeyK.inj (R := R))])⟩⟩
theorem o_ninDk [KeyK R] (hu : X.A.units + 1 < cLine) : Op2 X (compareOp .NotIn) R k (qDk R S) kvs qB (!(dg kvs k).isSome) :=
  ⟨_, op_d_notin hu, fun V1 A x y Q l rx ⟨d, od, ks, ev, hd, pr⟩ q => ⟨d, _, ev, .inl ⟨ks, KeyK.enc R k, .inr ⟨od, l.at hd⟩, KeyK.iff.mp rx, rfl⟩, q V1 A _ (.refl l) (by rw [pr.isSome (KeyK.inj (R := R))])⟩⟩
/-- an owned dict, seen -/
def qDo (R : Rf κ) [KeyK R] (S : Rf β) : Rf (List (κ × β)) := fun kvs v H => ∃ d ks, v = .ref d ∧ Rd H d (.dK ks) ∧ Pr (KeyK.enc R) S kvs ks H
theorem o_ninDo [KeyK R] (hu : X.A.units + 1 < cLine) : Op2 X (compareOp .NotIn) R k (qDo R S) kvs qB (!(dg kvs k).isSome) :=
  ⟨_, op_d_notin hu, fun V1 A x y Q l rx ⟨d, ks, ev, hd, pr⟩ q => ⟨d, _, ev, .inl ⟨ks, KeyK.enc R k, l.rdd hd, KeyK.iff.mp rx, rfl⟩, q V1 A _ (.refl l) (by rw [pr.isSome (KeyK.inj (R := R))])⟩⟩
/-- len(d) -/
theorem f_lenDk [KeyK R] : Fn1 X (.builtin "len") (qDk R S) kvs qI (kvs.length : Int) := by
  refine ⟨fun xs A Q => ∃ d ks, xs = [.ref d] ∧ Rd A d (.dK ks) ∧ Q (.int ks.length) A, ?_, fun V1 A x Q l ⟨d, od, ks, ev, hd, pr⟩ q => ⟨d, ks, by rw [ev], .inr ⟨od, l.at hd⟩, q V1 A _ (.refl l) (by rw [Paired.length pr])⟩⟩
  rintro pins s σ H xs us Q I r ⟨d, ks, rfl, hd, q⟩
  obtain ⟨u, rfl, ru⟩ := r.one
  cases ru
  exact d_len I hd fun t s' I' => ⟨.int ks.length, H, I', ⟨t, rfl⟩, q⟩
theorem f_lenDt [KeyT R] : Fn1 X (.builtin "len") (qDt R S) kvs qI (kvs.length : Int) := by
  refine ⟨fun xs A Q => ∃ d ks, xs = [.ref d] ∧ Rd A d (.dT ks) ∧ Q (.int ks.length) A, ?_, fun V1 A x Q l ⟨d, od, ks, ev, hd, pr⟩ q => ⟨d, ks, by rw [ev], .inr ⟨od, l.at hd⟩, q V1 A _ (.refl l) (by rw [Paired.length pr])⟩⟩
  rintro pins s σ H xs us Q I r ⟨d, ks, rfl, hd, q⟩
  obtain ⟨u, rfl, ru⟩ := r.one
  cases ru
  obtain ⟨z, low, ts, rel, dd⟩ := dt_rd I.hok hd
  have hl : ks.length = ts.length := Paired.length rel
  refine call_len_dictH low dd (by rw [← hl]; rw [sizeLine_eq] at z; omega) ?_
  rw [← hl]
  exact ⟨.int ((ks.length : Nat) : Int), H, I.tok _, ⟨_, rfl⟩, q⟩
/-- list(d) -/
theorem call_listKr (hc : X.calm = true) : CallR X (.type "list") (fun xs H Q => ∃ d ks, xs = [L2.V.ref d] ∧ Rd H d (.dK ks) ∧ ∀ q, H q = none → Q (.ref q) (upd H q (.lst (ks.map fun x => kV x.1)))) := by
  rintro pins s σ H xs us Q I r ⟨d, ks, rfl, hd, q⟩
  obtain ⟨u, rfl, ru⟩ := r.one
  cases ru
  obtain ⟨z, low, prs, rel, dof⟩ := dk_rd I.hok hd
  obtain ⟨ep, dat⟩ := dof.dictAt
  have n1 : ks.length = prs.length := Paired.length rel
  have src := PySem.W.kdl_dict (prog := X.prog) (w := X.w) (knd := mixKind X.prog X.w) (d := d) (kvs := prs) (ep := ep) low
  refine PySem.W.kdl_call src (I.ok.hd hc) dat (by omega) fun h1 t1 got cap keep lst itm => ?_
  have nw : ObjOk X.prog X.w (upd H s.heap.objs.size (.lst (ks.map fun x => kV x.1))) h1 s.heap.objs.size (.lst (ks.map fun x => kV x.1)) := by
    refine ⟨by simpa using z, got.toList, cap, ?_, by simpa using lst⟩
    have n2 : got.toList.length = got.size := Array.length_toList
    refine vals_of_at (by rw [List.length_map, n2, itm.1, n1]) fun j x w hx hw => ?_
    obtain ⟨key, y, at_, is⟩ := itm.2 j w (by rw [← Array.getElem?_toList]; exact hw)
    have kj : (ks.map (·.1))[j]? = some key := by
      rw [KV.keys rel, List.getElem?_map, at_]
      rfl
    rw [List.getElem?_map] at hx kj
    obtain ⟨en, e1, e2⟩ := Option.map_eq_some_iff.mp hx
    rw [e1] at kj
    cases kj
    rw [← e2]
    exact keyIs_rel is
  exact ⟨.ref s.heap.objs.size, _, I.laid keep (Nat.le_refl _) nw, rfl, q _ (I.hok.fresh (Nat.le_refl _))⟩
theorem al_keys [KeyK R] {H W : Hp} : ∀ {kvs : List (κ × β)} {ks : List (Key × Vl)}, Pr (KeyK.enc R) S kvs ks H → Al R (kvs.map (·.1)) (ks.map fun x => kV x.1) W
  | _, _, .nil => .nil
  | _, _, .cons q t => .cons (KeyK.iff.mpr (by show kV _ = _; rw [q.1])) (al_keys t)
theorem f_listDk [KeyK R] (hc : X.calm = true) (hl : kvs.length ≤ sizeLine) : Fn1 X (.type "list") (qDk R S) kvs (qL R) (kvs.map (·.1)) :=
  ⟨_, call_listKr hc, fun V1 A x Q l ⟨d, od, ks, ev, hd, pr⟩ q => ⟨d, ks, by rw [ev], .inr ⟨od, l.at hd⟩, fun t ht => by
    have gn : Grow V1 A _ _ := Grow.new (o := .lst (ks.map fun kv => kV kv.1)) l ht
    exact q _ _ _ gn ⟨t, _, rfl, upd_same, al_keys pr, by simpa using hl⟩⟩⟩
/-- list(d), the keys tuples -/
theorem see_all {A : Hp} : ∀ {ks : List (List Key × Vl)} {bs : List Addr} {V : Hp}, Le V A → IsKeys A ks bs → ∃ V2, Grow V A V2 A ∧ IsKeys V2 ks bs
  | _, _, V, l, .nil => ⟨V, .refl l, .nil⟩
  | _, _, V, l, .cons h t => by
    have g := Grow.see l h
    obtain ⟨V2, g2, i2⟩ := see_all g.va t
    exact ⟨V2, g.trans g2, .cons (g2.vv _ _ upd_same) i2⟩
theorem al_keysT [KeyT R] {H W : Hp} : ∀ {kvs : List (κ × β)} {ks : List (List Key × Vl)} {bs : List Addr}, Pr (KeyT.enc R) S kvs ks H → IsKeys W ks bs → Al R (kvs.map (·.1)) (bs.map L2.V.ref) W
  | _, _, _, .nil, .nil => .nil
  | _, _, _, .cons q t, .cons h u => .cons (KeyT.of (by rw [← q.1]; exact h)) (al_keysT t u)
theorem f_listDt [KeyT R] (hc : X.calm = true) (hl : kvs.length ≤ sizeLine) : Fn1 X (.type "list") (qDt R S) kvs (qL R) (kvs.map (·.1)) :=
  ⟨_, call_list_dT hc, fun V1 A x Q l ⟨d, od, ks, ev, hd, pr⟩ q => ⟨d, ks, by rw [ev], .inr ⟨od, l.at hd⟩, fun t bs ht hk => by
    obtain ⟨V2, g2, i2⟩ := see_all l hk
    have gn : Grow V2 A _ _ := Grow.new (o := .lst (bs.map L2.V.ref)) g2.va ht
    exact q _ _ _ (g2.trans gn) ⟨t, _, rfl, upd_same, al_keysT pr (Paired.mapP i2 fun _ _ z => gn.vv _ _ z), by simpa using hl⟩⟩⟩

/-! ### sources -/
theorem walks_dk [KeyK R] {A : Hp} {d : Addr} {od : Obj} {ks : List (Key × Vl)} (hd : V d = some (.frz od (.dK ks))) (pr : Pr (KeyK.enc R) S kvs ks V) : Walks (Itk d od ks) V A R (kvs.map (·.1)) := fun i V' A' sv lv k => by
  have hA : A' d = some (.frz od (.dK ks)) := lv.at (sv _ _ hd)
  have hl : ks.length = kvs.length := (Paired.length pr).symm
  refine ⟨fun hi => ⟨hA, by simpa [hl] using hi⟩, fun a ha => ?_⟩
  rw [List.getElem?_map] at ha
  obtain ⟨x, hx, rfl⟩ := Option.map_eq_some_iff.mp ha
  obtain ⟨y, hy, r1, r2⟩ := L2.paired_get pr hx
  refine ⟨⟨hA, by rw [hl]; exact (List.getElem?_eq_some_iff.mp hx).1⟩, fun v A'' ⟨e1, k', v', e2, e3⟩ => ⟨V', by rw [e1]; exact .refl lv, ?_⟩⟩
  rw [hy] at e2
  cases e2
  exact KeyK.iff.mpr (by rw [e3, ← r1])
theorem walks_dt [KeyT R] {A : Hp} {d : Addr} {od : Obj} {ks : List (List Key × Vl)} (hd : V d = some (.frz od (.dT ks))) (pr : Pr (KeyT.enc R) S kvs ks V) : Walks (Itkt d od ks) V A R (kvs.map (·.1)) := fun i V' A' sv lv k => by
  have hA : A' d = some (.frz od (.dT ks)) := lv.at (sv _ _ hd)
  have hl : ks.length = kvs.length := (Paired.length pr).symm
  refine ⟨fun hi => ⟨hA, by simpa [hl] using hi⟩, fun a ha => ?_⟩
  rw [List.getElem?_map] at ha
  obtain ⟨x, hx, rfl⟩ := Option.map_eq_some_iff.mp ha
  obtain ⟨y, hy, r1, r2⟩ := L2.paired_get pr hx
  refine ⟨⟨hA, by rw [hl]; exact (List.getElem?_eq_some_iff.mp hx).1⟩, fun v A'' ⟨e1, k', v', b, e2, e3, e4⟩ => ?_⟩
  rw [hy] at e2
  cases e2
  rw [e1, e3]
  have g := Grow.see lv e4
  exact ⟨_, g, KeyT.of (by rw [upd_same]; rw [show k' = _ from r1])⟩
theorem src_dk [KeyK R] {tg : Expr} (h : EvR X e σ V (qDk R S) kvs) : Src X tg e σ V none R (kvs.map (·.1)) :=
  ⟨fun _ z => (nomatch z), _, pi_keys pe_re, fun V1 A Q s l _ q => h V1 A _ s l fun V2 A2 v g ⟨d, od, ks, ev, hd, pr⟩ => ⟨d, od, ev, .inl ⟨ks, g.va.at hd, q _ V2 A2 g (walks_dk hd pr)⟩⟩⟩
theorem src_dt [KeyT R] {tg : Expr} (h : EvR X e σ V (qDt R S) kvs) : Src X tg e σ V none R (kvs.map (·.1)) :=
  ⟨fun _ z => (nomatch z), _, pi_keys pe_re, fun V1 A Q s l _ q => h V1 A _ s l fun V2 A2 v g ⟨d, od, ks, ev, hd, pr⟩ => ⟨d, od, ev, .inr ⟨ks, g.va.at hd, q _ V2 A2 g (walks_dt hd pr)⟩⟩⟩
theorem srcb_dk [KeyK R] {scope : Scope} {tg : Expr} {f : α → L2.St → Hp → Prop} {kvs : α → List (κ × β)} {ld : Option Addr} (h : ∀ a σ' V', f a σ' V' → EvRb X scope e σ' V' (qDk R S) (kvs a)) : Srcb X scope tg e V ld f R (fun a => (kvs a).map (·.1)) :=
  ⟨iKeys (REb X scope e), fun s H C cl fp => pi_keys pe_reb, fun a σ' V' ha A Q l _ q => fun s H C cl fp => h a σ' V' ha s H C cl fp V' A _ (Same.refl _) l fun V2 A2 v g ⟨d, od, ks, ev, hd, pr⟩ => ⟨d, od, ev, .inl ⟨ks, g.va.at hd, q _ V2 A2 g (walks_dk hd pr)⟩⟩⟩
/-- enumerate(list) -/
def enl {α : Type} (xs : List α) : List (Int × α) := (List.range xs.length).zipWith (fun (i : Nat) x => ((i : Int), x)) xs
theorem enl_get {α : Type} {xs : List α} {i : Nat} {y : Int × α} (h : (enl xs)[i]? = some y) : y.1 = (i : Int) ∧ xs[i]? = some y.2 := by
  unfold enl at h
  rw [List.getElem?_zipWith] at h
  cases h1 : (List.range xs.length)[i]? with
  | none => rw [h1] at h; cases h
  | some j =>
    cases h2 : xs[i]? with
    | none => rw [h1, h2] at h; cases h
    | some x =>
      rw [h1, h2] at h
      cases h
      obtain ⟨_, e⟩ := List.getElem?_eq_some_iff.mp h1
      rw [List.getElem_range] at e
      exact ⟨by rw [e], rfl⟩
theorem enl_len {α : Type} {xs : List α} : (enl xs).length = xs.length := by simp [enl]
theorem walks_en [Mo Z] {xs : List α} {vs : List Vl} {A : Hp} {p : Addr} (hp : V p = some (.lst vs)) (al : Al Z xs vs V) : Walks (Ite X.K p) V A (q2 qI Z) (enl xs) := fun i V' A' sv lv k => by
  have hA : A' p = some (.lst vs) := lv.at (sv _ _ hp)
  refine ⟨fun hi => ⟨vs, SqL.of hA, by rw [← al.len, ← enl_len]; exact hi⟩, fun a ha => ?_⟩
  obtain ⟨h1, h2⟩ := enl_get ha
  obtain ⟨w, hw, r⟩ := al.get h2
  refine ⟨⟨vs, w, SqL.of hA, hw⟩, fun v A'' ⟨T, x, e1, e2, e3, e4⟩ => ?_⟩
  have e5 := e4 vs (SqL.of hA)
  rw [hw] at e5
  cases e5
  rw [e1, e3]
  have gn : Grow V' A' _ _ := Grow.new (o := .tup [.int (i : Nat), w]) lv e2
  exact ⟨_, gn, T, _, _, rfl, upd_same, by rw [h1], Mo.mo (sv.trans gn.vv) r⟩
theorem src_en [Mo Z] {xs : List α} {elts : List Expr} {kk : Nat} {tpos : Pos} (hg : Gl X "enumerate") (hm : X.mg "enumerate" = none) (h : EvR X e σ V (qL Z) xs) (hs : starEach [e] X.env = [(false, eval e X.env)] := by rfl) :
    Src X (.Tuple elts kk tpos) (.Call (.Name "enumerate" p) [e] [] pos) σ V none (q2 qI Z) (enl xs) :=
  ⟨fun _ z => (nomatch z), _, pi_enum hg hm (pa_cons pe_re pa_nil hs) hs, fun V1 A Q s l _ q => h V1 A _ s l fun V2 A2 v g ⟨p, vs, ev, hp, al, _⟩ => ⟨p, vs, by rw [ev], SqL.of (g.va.at hp), q _ V2 A2 g (walks_en hp al)⟩⟩
/-- a target of two names -/
theorem tg_two {γ : Type} {Y : Rf γ} {i j : Nat} {x y : Str} {px py pt : Pos} {kk : Nat} (hc : X.calm = true) (hN : X.N.Nodup) (hi : X.N[i]? = some x) (hj : X.N[j]? = some y) (hx : Loc X.env.scope x) (hy : Loc X.env.scope y)
    (hf : X.fn x = true ∨ X.env.scope.names.lookup x = some .local := by first | exact .inl rfl | exact .inr rfl) (hf2 : X.fn y = true ∨ X.env.scope.names.lookup y = some .local := by first | exact .inl rfl | exact .inr rfl)
    (hn : (assignEach [.Name x px, .Name y py] X.env).length = 2 := by rfl) (hst : (assignEach [.Name x px, .Name y py] X.env).findIdx? (·.1) = none := by rfl)
    (h1 : assignEach [.Name x px, .Name y py] X.env = (false, assign (.Name x px) X.env) :: assignEach [.Name y py] X.env := by rfl) (h2 : assignEach [.Name y py] X.env = (false, assign (.Name y py) X.env) :: assignEach [] X.env := by rfl) :
    Tgt X (.Tuple [.Name x px, .Name y py] kk pt) (q2 Z Y) (fun σ v V σ' => ∃ p a b, v = .ref p ∧ V p = some (.tup [a, b]) ∧ σ' = (σ.set i (some a)).set j (some b)) := by
  refine ⟨_, pg_tup hc (pgs_cons (pg_name hN hi hx hf) (pgs_cons (pg_name hN hj hy hf2) pgs_nil)) hn hst, ?_⟩
  rintro c v σ V A Q l ⟨p, a, b, rfl, hp, _, _⟩ q
  exact ⟨p, [a, b], rfl, SqT.of (l.at hp), rfl, a, [b], rfl, b, [], rfl, rfl, q _ ⟨p, a, b, rfl, hp, rfl⟩⟩
end
end Om
set_option maxHeartbeats 4000000
/-! Om, part N5: an own __iter__ that hands back iter(a dict). -/
namespace Om
open PySem PySem.Spec PyProof.Rows L2
/-- what stands at p: an iterator over the n keys of d, at its start -/
def atStart (p d : Addr) (od : Obj) (n : Nat) : Heap → Prop := fun h => ∀ es ep, od.data = .dict es ep → h.IsKeyIter p d 0 n ep
abbrev itO (p d : Addr) (od : Obj) (n : Nat) : HO := .ext (atStart p d od n)
/-- a locked dict of n keys -/
def LockD (H : Hp) (d : Addr) (od : Obj) (n : Nat) : Prop := (∃ ks, H d = some (.frz od (.dK ks)) ∧ ks.length = n) ∨ ∃ ks, H d = some (.frz od (.dT ks)) ∧ ks.length = n
theorem lockD_at {X : Cx} {pins : List (Addr × Obj)} {σ : L2.St} {H : Hp} {s : Shared} {d : Addr} {od : Obj} {n : Nat} (I : Inv X pins σ H s) (h : LockD H d od n) :
    (d == sysModules) = false ∧ s.heap.get? d = some od ∧ od.ExactDict ∧ ∃ (es : Array DictEntry) (ep : Nat), od.data = .dict es ep ∧ es.size = n := by
  rcases h with ⟨ks, h, e⟩ | ⟨ks, h, e⟩
  · obtain ⟨h1, h2, h3, es, ep, vs, h4, h5, _⟩ := I.frzK h
    exact ⟨h1, h2, h3, es, ep, h4, h5.trans e⟩
  · obtain ⟨h1, h2, h3, es, ep, h4, h5, _⟩ := I.frzT h
    exact ⟨h1, h2, h3, es, ep, h4, h5.trans e⟩
/-- iter(d) -/
theorem call_iterD {X : Cx} : CallR X (.builtin "iter") (fun xs H Q => ∃ d od n, xs = [L2.V.ref d] ∧ LockD H d od n ∧ ∀ p, H p = none → X.s_0.heap.objs.size ≤ p → Q (.ref p) (upd H p (itO p d od n))) := by
  rintro pins s σ H xs us Q I r ⟨d, od, n, rfl, hd, q⟩
  obtain ⟨u, rfl, ru⟩ := r.one
  cases ru
  obtain ⟨h1, h2, h3, es, ep, h4, h5⟩ := lockD_at I hd
  refine Calls.call_function_entry (by decide +kernel) (by decide +kernel) PySem.W.kdk_entry_iter (PySem.W.kdk_args_iter _) ?_
  unfold Builtin.«iter»
  refine wpAny_bind (m := someArgs "iter" 1 2 _) (wpAny_of_eq (a := [Value.ref d]) (by first | rfl | kernel_rfl!) ?_)
  show wpAny _ _ (pyIter (.ref d) >>= _) _ _ _
  refine wpAny_bind (iter_keys h1 h2 h3 h4 ?_)
  have hn := I.hok.fresh (Nat.le_refl s.heap.objs.size)
  refine wpAny_pure ⟨_, rfl, .ref s.heap.objs.size, _, I.laid (a := s.heap.objs.size) (o := itO s.heap.objs.size d od n) (t' := s.toks) (fun _ _ z => Heap.get?_push_of_some _ z) (Nat.le_refl _) ⟨fun es' ep' e => ?_, ⟨_, Heap.get?_push_size _ rfl⟩, fun k1 k2 f k => fun es' ep' e => ?_⟩, rfl, q _ hn I.sz⟩
  · rw [h4] at e
    cases e
    exact ⟨_, Heap.get?_push_size _ rfl, rfl, by rw [h5]; rfl⟩
  · obtain ⟨o, e1, e2⟩ := f es' ep' e
    exact ⟨o, k o e1, e2⟩
/-- a def whose promise may name the state of the call -/
def RunS (P : Program) (w : World) (K : PySem.W.Frag) (mg : Str → Option Value) (base : Heap) (k : Nat) (f : Addr) (fd : FuncData) (ps : List Str) (sp : Shared → Sp) : Prop :=
  ∀ (A : Around) (outer : List Env) (s : Shared) (H : Hp) (args : Args) (us : List Value) (vs : List Vl) (Q : VK), Room k A → Env0 P w K mg base A outer s H → BindsTo s fd args (ps.zip us) → Vals vs us → us.length = ps.length → sp s vs H Q E0 →
    codeAny (model P w) A (.call (.ref f) args) (CR CX0 outer P w H s Q E0) s
theorem runS {P : Program} {w : World} {K : PySem.W.Frag} {mg : Str → Option Value} {base : Heap} {k : Nat} {f : Addr} {fd : FuncData} {nm qual : Str} {st : Stmt} {N ps : List Str} {sp : Shared → Sp} (F : FunD K nm qual (defArgs st) (defBody st) (defScope st) [] [] f fd) (S : FnScope N ps (defScope st))
    (hb : ∀ cdv A outer s H vs Q, Room k (A.deeper (envOfC qual (defScope st) s.heap.objs.size f cdv)) → sp s vs H Q E0 → ∃ t, PSs (cxOf CX0 P w K mg base N qual (defScope st) f cdv A outer s H E0) (defBody st) t ∧ t { nx := fun _ H' => Q .non H', rt := Q } (start N vs) H) :
    RunS P w K mg base (k + 1) f fd ps sp := by
  obtain ⟨oc, od, dV, kV0, doc, pm, an, cdv, ct, osl, rfl, lk, hcd, _, _⟩ := F.ex
  intro A outer s H args us vs Q hr e0 hbi rv hlen hsp
  have keepB : ∀ b o, base.get? b = some o → s.heap.get? b = some o := fun b o z => (e0.bs b o z).1
  have kin := e0.mod.kin.keeps keepB
  have kinds : ∀ y ∈ ps.zip us, (defScope st).names.lookup y.1 = some .local ∨ ((defScope st).names.lookup y.1 = some .cell ∧ ((cellsFrom (s.heap.objs.size + 1) (defScope st).names []).lookup y.1).isSome = true) := by
    rintro ⟨n, v⟩ hy
    have hn := (List.of_mem_zip hy).1
    exact (S.par n hn).imp id fun z => ⟨z, PySem.W.cellsFrom_some _ _ _ (.inl z)⟩
  refine codeAny_call_function hr.depth (kin _ _ lk) rfl S.co S.gen rfl (PySem.W.codeRec_of kin hcd) (hbi _ _ _ _ (wpAny_newFunctionEnv_cells S.kind kinds fun env he s1 x => ?_))
  subst he
  refine ⟨(e0.mod.nolimit.keeps keepB).keeps x.toInCall.keep, codeAny_func ?_⟩
  obtain ⟨t, ht, hq⟩ := hb cdv A outer s H vs Q (hr.deeper _) hsp
  have I : Inv (cxOf CX0 P w K mg base N qual (defScope st) f cdv A outer s H E0) [] (start N vs) H s1 := inv_start S hr.hd e0 (by rw [rv.length]; exact hlen) rv x
  refine wpAny_mono (ht.run [] s1 (start N vs) H _ I hq) (fun fl s2 hs => ?_) fun _ _ z => z
  cases fl with
  | ret u =>
    obtain ⟨v, _, H2, J, ru, q⟩ := hs
    exact ⟨v, H2, J.os, J.bare, J.base, J.hok, ru, q⟩
  | next =>
    obtain ⟨_, H2, J, q⟩ := hs
    exact ⟨.non, H2, J.os, J.bare, J.base, J.hok, rfl, q⟩
  | brk => exact hs.elim fun _ z => z.elim fun _ z => z.2.elim
  | cont => exact hs.elim fun _ z => z.elim fun _ z => z.2.elim
section
variable {X : Cx} {σ : L2.St} {V : Hp} {α : Type} {R : Rf α} {a : α} {C : Addr} {k j : Nat} {e tg : Expr} {pos : Pos}
/-- the promise of such an __iter__ -/
def spIt (R : Rf α) (dd : α → Vl → Hp → Addr → Obj → Nat → Prop) (s : Shared) : Sp := fun vs H Q _ => ∃ v d od n a V, vs = [v] ∧ Le V H ∧ R a v V ∧ dd a v V d od n ∧ LockD V d od n ∧ ∀ H' p, Same H H' → Le V H' → H' p = none → s.heap.objs.size ≤ p → Q (.ref p) (upd H' p (itO p d od n))
theorem Same.lock {H H' : Hp} {d : Addr} {od : Obj} {n : Nat} (s : Same H H') (h : LockD H d od n) : LockD H' d od n := by
  rcases h with ⟨ks, h, e⟩ | ⟨ks, h, e⟩
  · exact .inl ⟨ks, s _ _ h, e⟩
  · exact .inr ⟨ks, s _ _ h, e⟩
theorem Le.lock {V A : Hp} {d : Addr} {od : Obj} {n : Nat} (l : Le V A) (h : LockD V d od n) : LockD A d od n := by
  rcases h with ⟨ks, h, e⟩ | ⟨ks, h, e⟩
  · exact .inl ⟨ks, l.at h, e⟩
  · exact .inr ⟨ks, l.at h, e⟩
/-- a class whose __iter__ is such -/
structure Itr_ (P : Program) (w : World) (K : PySem.W.Frag) (mg : Str → Option Value) (base : Heap) (C : Addr) (k : Nat) (R : Rf α) (dd : α → Vl → Hp → Addr → Obj → Nat → Prop) : Prop where
  ex : ∃ (f : Addr) (fd : FuncData) (x : Str), RunS P w K mg base k f fd [x] (spIt R dd) ∧ Meth K C "__iter__" f ∧ Binds K fd [x] []
/-- what is walked at d -/
def Jt (d : Addr) (od : Obj) (H : Hp) (J : It) : Prop := (∃ ks, H d = some (.frz od (.dK ks)) ∧ J = Itk d od ks) ∨ ∃ ks, H d = some (.frz od (.dT ks)) ∧ J = Itkt d od ks
/-- for .. in an instance whose __iter__ keeps it -/
def iOwn (R : Rf α) (C : Addr) (dd : α → Vl → Hp → Addr → Obj → Nat → Prop) (te : TE) : TI := fun σ H Q => te σ H fun v H1 => ∃ V a d od n, Le V H1 ∧ R a v V ∧ (∃ p dx fs, v = .ref p ∧ V p = some (.ins C dx fs)) ∧ dd a v V d od n ∧ LockD V d od n ∧
  ∀ H' J, Same H1 H' → Le V H' → Jt d od H' J → Q J H'
theorem pi_own {dd : α → Vl → Hp → Addr → Obj → Nat → Prop} {te : TE} (m0 : Itr_ X.prog X.w X.K X.mg X.base C k R dd) (hr : Room j X.A) (he : PE X e te) (hk : k ≤ j := by decide) : PI X tg e (iOwn R C dd te) := by
  obtain ⟨f, fd, x0, F, hm, bn⟩ := m0.ex
  refine ⟨fun pins s σ H Q I h => ?_⟩
  refine thn (he.run pins s σ H _ I h) fun u s1 ⟨x, H1, I1, rx, V, a, d, od, n, l, ra, ⟨p, dx, fs, ex, hp⟩, hdd, hL, q⟩ => ?_
  subst ex
  obtain rfl : u = .ref p := rx
  obtain ⟨ox, od', J⟩ := inst_at I1 (l.at hp)
  obtain ⟨m, Fr⟩ := I1.fr
  refine PySem.W.owit_iter Fr I1.ok.mod.kin J hm.at_ hm.fn ?_
  refine wpAny_call (codeAny_mono (F X.A X.stack s1 H1 ⟨[.ref p], []⟩ [Value.ref p] [L2.V.ref p] (fun v A2 => ∃ H' b, Same H1 H' ∧ Le V H' ∧ H' b = none ∧ s1.heap.objs.size ≤ b ∧ v = .ref b ∧ A2 = upd H' b (itO b d od n)) (hr.mono hk) I1.env0 (bn s1 [.ref p] I1.kIn rfl) (.cons rfl .nil) rfl
    ⟨_, d, od, n, a, V, rfl, l, ra, hdd, hL, fun H' b s2 l2 hb hs => ⟨H', b, s2, l2, hb, hs, rfl, rfl⟩⟩) fun r s' hq => ?_)
  cases r with
  | error er => exact False.elim hq
  | ok fl =>
    cases fl with
    | next => exact False.elim hq
    | brk => exact False.elim hq
    | cont => exact False.elim hq
    | ret u =>
      obtain ⟨v, A2, os, bare, un, hok, rv, H', b, s2, l2, hb, fresh, rfl, rfl⟩ := hq
      obtain rfl : u = .ref b := rv
      have un2 : Un (frs X.stack) [] H1 H' s1.heap s'.heap := by
        refine ⟨un.keep, un.slot, fun c o h1 h2 h3 => ?_, un.there, fun c xs h1 => s2 c _ h1, fun c o u h1 => s2 c _ h1, fun c ps h1 => ⟨#[], by rw [s2 c _ h1]; simp⟩⟩
        have y := un.free c o h1 h2 h3
        rwa [upd_ne (fun z => absurd (Heap.lt_size h1) (by rw [z]; exact Nat.not_lt.mpr fresh))] at y
      have hok2 : HOk X.prog X.w H' s'.heap := fun c o h1 => by
        have hc : c ≠ b := ne_of_none h1 hb
        have x := hok c o (by rw [upd_ne hc]; exact h1)
        refine x.stay (fun _ _ _ z => z) (fun y z => ?_) fun y xs z => ?_
        · by_cases hy : y = b
          · rw [hy, upd_same] at z; cases z
          · rwa [upd_ne hy] at z
        · by_cases hy : y = b
          · rw [hy, upd_same] at z; cases z
          · rwa [upd_ne hy] at z
      have I2 : Inv X pins σ H' s' := I1.call' os un2 hok2 bare (fun c z => absurd z (by simp))
      obtain ⟨φ, ⟨ob, hob⟩, _⟩ := (show ObjOk X.prog X.w _ s'.heap b (itO b d od n) from hok b _ upd_same)
      obtain ⟨g1, g2, g3, es, ep, g4, g5⟩ := lockD_at I2 (l2.lock hL)
      have ik := φ es ep g4
      refine wpAny_specialOf (T := "dict_keyiterator") ik.typeIs PySem.F.slot_dict_keyiterator_next.lookup ?_
      have fp : ∀ c ∈ [b], FpOk X pins H' c := fun c hc => by
        have e : c = b := by simpa using hc
        subst e
        exact I1.fpOk fresh hb
      rcases l2.lock hL with ⟨ks, hk', e⟩ | ⟨ks, hk', e⟩
      · refine ⟨b, [b], _, _, H', rfl, I2, turn_keys b g4, ?_, fp, q H' _ s2 l2 (.inl ⟨ks, hk', rfl⟩)⟩
        rw [e]
        exact ik
      · refine ⟨b, [b], _, _, H', rfl, I2, turn_keysT b g4, ?_, fp, q H' _ s2 l2 (.inr ⟨ks, hk', rfl⟩)⟩
        rw [e]
        exact ik
end
end Om
set_option maxHeartbeats 4000000
/-! Om, part N6: dict comprehensions whose keys may be tuples. -/
namespace Om
open PySem PySem.Spec PyProof.Rows L2
/-- what a store under a tuple key does -/
def PutT (D : Addr) (y z : Vl) (H H' : Hp) : Prop := ∃ ks key b, y = .ref b ∧ H b = some (.tup (List.map kV key)) ∧ H D = some (.dT ks) ∧ ks.length < sizeLine ∧ H' = upd H D (.dT (putK ks key z))
theorem dictSetT {Y : Cx} {pins : List (Addr × Obj)} {σ : L2.St} {H H' : Hp} {s : Shared} {E : Value → Shared → Prop} {D : Addr} {y z : Vl} {u r : Value} {Q : Unit → Shared → Prop} (hu : Y.A.units < cLine) (I : Inv Y pins σ H s) (g : PutT D y z H H') (ry : RelV y u) (rz : RelV z r) (h : ∀ s2, Inv Y pins σ H' s2 → Q () s2) :
    wpAny (model Y.prog Y.w) Y.A (dictSet D u r) Q E s := by
  obtain ⟨ks, key, b, rfl, hb, hD, hlt, rfl⟩ := g
  obtain rfl : u = .ref b := ry
  obtain ⟨l1, low, ts, rel, dd⟩ := dt_of I.hok hD
  have n1 : ts.length ≤ sizeLine := Paired.length rel ▸ l1
  have n2 : (putK ks key z).length ≤ sizeLine := Nat.le_trans (length_putK ks key z) hlt
  refine wpAny_dictSet_heap (hsz := n1) (knd := tupleKind (mixKind Y.prog Y.w)) hu (key_of I.hok hb) dd fun h2 d2 sb => h _ ?_
  obtain ⟨ob, es, ep, q1, q2, q3, q4, _, q5⟩ := d2
  have kt : KT (upd H D (.dT (putK ks key z))) (putK ks key z) (storedH ts key b r) := (rel.put key hb rz).keeps fun c w e => by
    rw [upd_ne (ne_of e hD (fun z => nomatch z))]
    exact e
  exact d_write I (by rw [hD]; trivial) sb ⟨ob, q1⟩ ⟨n2, low, _, kt, ob, es, ep, q1, q2, q3, q4, q5⟩
section
variable {X : Cx}
/-- {k: v for target in iter if ..}, the keys tuples -/
def tDcT (wi : TI) (g : TG) (tt : TT) (tk tv : TE) (vs : List Nat) : TE := fun σ H Q => wi σ H fun J H1 => ∀ D, H1 D = none → ∃ W : Nat → Nat → Hp → Prop, (∃ m, W 0 m (upd H1 D (.dT []))) ∧ ∀ i m H, W i m H →
  (J.stop i H ∧ Q (.ref D) H) ∨ (J.go i H ∧ ∃ Nx : Hp → Prop, (∀ H', Nx H' → ∃ m', m' < m ∧ W (i + 1) m' H') ∧ ∀ x H', J.yld i H x H' → g x (wipe σ vs) H' fun σ2 H2 => wipe σ2 vs = wipe σ vs ∧ tt σ2 H2 fun b H3 =>
    if b = true then tk σ2 H3 fun y H4 => tv σ2 H4 fun z H5 => ∃ H6, PutT D y z H5 H6 ∧ Nx H6 else Nx H3)
theorem dcT_core {pins : List (Addr × Obj)} {s0 : Shared} {σ : L2.St} {H0' : Hp} {Q : VK} {kx vx tg iter : Expr} {ifs : List Expr} {sc : Scope} {own : List (Str × Nat)} {pos pos2 : Pos} {wi : TI} {g : TG} {tt : TT} {tk tv : TE} {Qf : Value → Shared → Prop} (hu : X.A.units < cLine)
    (calm : X.calm = true) (nd : X.N.Nodup) (I0 : Inv X pins σ H0' s0) (hi : PI X tg iter wi) (ok : BlkOk X.N X.env.scope sc own)
    (hg : ∀ s H C cl fp, PG (bl X sc s H C cl fp) tg g) (ht : ∀ s H C cl fp, PTs (bl X sc s H C cl fp) ifs tt) (hk : ∀ s H C cl fp, PE (bl X sc s H C cl fp) kx tk) (he : ∀ s H C cl fp, PE (bl X sc s H C cl fp) vx tv) (hs : ∀ x, foldedSetIterable iter X.env x = pure x)
    (h : tDcT wi g tt tk tv (own.map (·.2)) σ H0' Q)
    (last : ∀ D C s1 m H1, Inv X pins σ H1 s1 → Q (.ref D) H1 → s1.heap.Ns C m → FpOk X pins H1 C → compPost (model X.prog X.w) X.A X.xe none Qf (.ref D) C (.ok .next) s1) :
    wpAny (model X.prog X.w) X.A (comprehension (.DictComp kx vx [⟨tg, iter, ifs, 0⟩] sc pos) sc X.env pos2 newDict false (eval iter X.env) none) Qf X.xe s0 := by
  have closed : ∀ y ∈ sc.names, y.2 = .free → ∃ c, X.env.cells.lookup y.1 = some c := fun y hy e => I0.ok.has _ ((ok.free y hy e).elim .inl .inr)
  refine wpAny_comprehension_free (use := none) rfl hs (closure_ok closed) ok.kind (fun y hy e => by rw [ok.uniq y hy, e]) (thn (hi.run pins s0 σ H0' _ I0 h) fun xv sA hx => thn hx fun itv sB hB => ?_)
  obtain ⟨it, fp, tn, J, HB, rfl, IB, T, stB, fB, q⟩ := hB
  refine wpAny_newObj_type (newEnv_comp ?_)
  generalize hDe : sB.heap.objs.size = D
  have noD : HB D = none := IB.hok.fresh (Nat.le_of_eq hDe)
  obtain ⟨W, ⟨m0, w0⟩, turn⟩ := q D noD
  generalize hsC : ({ sB with heap := sB.heap.push { cls := .type "dict", data := .dict #[] } } : Shared) = sC
  have eC : sC.heap = sB.heap.push { cls := .type "dict", data := .dict #[] } := by subst hsC; rfl
  have IC : Inv X pins σ (upd HB D (.dT [])) sC := by
    subst hsC
    refine IB.laid (t' := sB.toks) (fun b o e => Heap.get?_push_of_some _ e) (Nat.le_of_eq hDe) ?_
    subst hDe
    exact dt_empty sB.heap IB.big
  have young : ∀ b ∈ fp, b < sB.heap.objs.size := fun b hb => (T.obj _ _ stB b hb).elim fun o e => Heap.lt_size e.1
  have fC : ∀ b ∈ fp, FpOk X pins (upd HB D (.dT [])) b ∧ b < sC.heap.objs.size := fun b hb => by
    have lt := young b hb
    have ne : b ≠ D := by subst hDe; exact Nat.ne_of_lt lt
    exact ⟨⟨by rw [upd_ne ne]; exact (fB b hb).1, (fB b hb).2⟩, by rw [eC, Heap.size_push]; exact Nat.lt_succ_of_lt lt⟩
  have stC : tn 0 sC.heap := T.keep _ _ _ stB fun b _ o e => by rw [eC]; exact Heap.get?_push_of_some _ e
  have ID := block_start IC ok nd fC
  have none_fp : ∀ b ∈ fp, (upd HB D (.dT [])) b = none := fun b hb => (fC b hb).1.1
  generalize hcl : cellsFrom (sC.heap.objs.size + 1) sc.names (cloFrom X.env.cells sc.names []) = cl at ID ⊢
  show codeAny _ _ (.compStart (.DictComp kx vx [⟨tg, iter, ifs, 0⟩] sc pos) 0 (.ref it) (.ref D) (compEnvC sc cl sC.heap.objs.size X.env)) (compPost (model X.prog X.w) X.A X.xe none Qf (.ref D) sC.heap.objs.size) _
  have pg := hg sC (upd HB D (.dT [])) sC.heap.objs.size cl fp
  have pt := ht sC (upd HB D (.dT [])) sC.heap.objs.size cl fp
  have pk := hk sC (upd HB D (.dT [])) sC.heap.objs.size cl fp
  have pe := he sC (upd HB D (.dT [])) sC.heap.objs.size cl fp
  generalize hY : bl X sc sC (upd HB D (.dT [])) sC.heap.objs.size cl fp = Y at pg pt pk pe
  have eY : X.blk sC (upd HB D (.dT [])) sc (compEnvC sc cl sC.heap.objs.size X.env) fp = Y := hY
  have ID : Inv Y [] (wipe σ (own.map (·.2))) (upd HB D (.dT [])) { sC with heap := pushCells (sC.heap.push { cls := .type "dict", data := .dict #[] }) sc.names } := by rw [← eY]; exact ID
  generalize hHC : upd HB D (.dT []) = HC at *
  generalize hsD : ({ sC with heap := pushCells (sC.heap.push { cls := .type "dict", data := .dict #[] }) sc.names } : Shared) = sD at ID ⊢
  have stD : tn 0 sD.heap := T.keep _ _ _ stC fun b _ o e => by subst hsD; exact pushCells_keeps _ _ _ _ (Heap.get?_push_of_some _ e)
  have free_fp : ∀ {σ' : L2.St} {H' : Hp} {s' : Shared}, Inv Y [] σ' H' s' → (∀ b ∈ fp, H' b = none) → ∀ b ∈ fp, FpOk Y [] H' b := fun {σ' H' s'} K0 hn b hb => by
    subst hY
    exact ⟨hn b hb, (K0.ok.exf b hb).1, K0.ok.exfs b hb, .inl hb, fun x c e => (K0.ok.exf b hb).2 x c e, fun p hp => nomatch hp⟩
  have go : codeAny (model X.prog X.w) X.A (.compLoop (.DictComp kx vx [⟨tg, iter, ifs, 0⟩] sc pos) 0 (.ref it) (.ref D) (compEnvC sc cl sC.heap.objs.size X.env)) (compPost (model X.prog X.w) X.A X.xe none Qf (.ref D) sC.heap.objs.size) sD := by
    refine compLoop_anyD (fun n s' => ∃ i H', Inv Y [] (wipe σ (own.map (·.2))) H' s' ∧ tn i s'.heap ∧ (∀ b ∈ fp, H' b = none) ∧ W i n H') ?_ m0 ⟨0, HC, ID, stD, none_fp, w0⟩
    rintro n sE ⟨i, HE, IE, stE, nE, wE⟩
    have yp : Y.prog = X.prog ∧ Y.w = X.w ∧ Y.K = X.K ∧ Y.calm = X.calm ∧ Y.A = X.A ∧ Y.env = compEnvC sc cl sC.heap.objs.size X.env ∧ Y.xe = fun _ _ => False := by subst hY; exact ⟨rfl, rfl, rfl, rfl, rfl, rfl, rfl⟩
    obtain ⟨y1, y2, y3, y4, y5, y6, y7⟩ := yp
    rcases turn i n HE wE with ⟨stop, fin⟩ | ⟨goes, Nx, less, step⟩
    · have td := T.done Y y1 y2 y3 (y4.trans calm) i [] sE _ HE (fun _ _ => False) IE (free_fp IE nE) stE stop
      rw [y5] at td
      refine thnF td fun r sF ⟨hr, IF⟩ => ?_
      subst hr
      have IG : Inv X pins σ HE sF := by
        subst hY
        exact IC.call' (ch := fp) IF.os IF.base IF.hok IF.bare fun b hb => ⟨(fC b hb).1.2.2.2.1, (fC b hb).1.2.1, (fC b hb).1.2.2.2.2.1, (fC b hb).1.2.2.2.2.2⟩
      have noC : HE sC.heap.objs.size = none := by
        have z : HE Y.env.locals = none := IF.free
        rw [y6] at z
        exact z
      obtain ⟨m, ns, _⟩ := IF.loc
      have ns : sF.heap.Ns Y.env.locals m := ns
      rw [y6] at ns
      exact last D sC.heap.objs.size sF m HE IG fin ns (IC.fpOk (Nat.le_refl _) noC)
    · have ti := T.item Y y1 y2 y3 (y4.trans calm) i [] sE _ HE (fun _ _ => False) IE (free_fp IE nE) stE goes
      rw [y5] at ti
      refine thnF ti fun r sF ⟨u, hr, hF⟩ => ?_
      subst hr
      refine thnF hF fun _ sG ⟨x, HG, IG, rG, yG, stG, nG⟩ => ?_
      have PG' := IG.pinned (free_fp IG nG) (T.obj _ _ stG)
      have r1 := pg.run _ sG _ HG x u _ PG' rG (step x HG yG)
      rw [y1, y2, y5, y6, y7] at r1
      refine thnF r1 fun _ sH ⟨σ8, HH, IH, wH, qH⟩ => ?_
      have r2 := pt.run _ sH σ8 HH _ IH qH
      rw [y1, y2, y5, y6, y7] at r2
      refine thnF r2 fun b sI ⟨HI, II, qI⟩ => ?_
      have back : ∀ {s' : Shared} {H' : Hp}, Inv Y ([] ++ pinsAt fp sG.heap) σ8 H' s' → Nx H' → ∃ m, m < n ∧ ∃ i H', Inv Y [] (wipe σ (own.map (·.2))) H' s' ∧ tn i s'.heap ∧ (∀ b ∈ fp, H' b = none) ∧ W i m H' := fun {s' H'} K0 nx => by
        obtain ⟨m2, lt, w2⟩ := less H' nx
        have held : ∀ b ∈ fp, ∀ o, sG.heap.get? b = some o → s'.heap.get? b = some o ∧ H' b = none := fun b hb o e => by
          have z := K0.pin (b, o) (List.mem_append_right _ (List.mem_append_right _ (mem_pinsAt hb e)))
          exact ⟨z.1, z.2.1⟩
        have len : (wipe σ (own.map (·.2))).length = σ8.length := by rw [← wH, wipe_length]
        refine ⟨m2, lt, i + 1, H', K0.unpinned.weak len fun j v e => (wipe_some (wH ▸ e)).1, T.keep _ _ _ stG fun b hb o e => (held b hb o e).1, fun b hb => ?_, w2⟩
        obtain ⟨o, e, _⟩ := T.obj _ _ stG b hb
        exact (held b hb o e).2
      cases b with
      | false => exact back II (by simpa using qI)
      | true =>
        have r3 := pk.run _ sI σ8 HI _ II (by simpa using qI)
        rw [y1, y2, y5, y6, y7] at r3
        refine thnF r3 fun z sJ ⟨yk, HJ, IJ, rJ, qJ⟩ => ?_
        have r4 := pe.run _ sJ σ8 HJ _ IJ qJ
        rw [y1, y2, y5, y6, y7] at r4
        refine thnF r4 fun z2 sK ⟨yv, HK, IK, rK, H6, put, nx⟩ => ?_
        have r5 := dictSetT (E := fun _ _ => False) (Q := fun _ s2 => ∃ m, m < n ∧ ∃ i H', Inv Y [] (wipe σ (own.map (·.2))) H' s2 ∧ tn i s2.heap ∧ (∀ b ∈ fp, H' b = none) ∧ W i m H') (by rw [y5]; exact hu) IK put rJ rK fun s2 I2 => back I2 nx
        rw [y1, y2, y5] at r5
        exact thnF r5 fun _ s2 z => z
  exact codeAny_compStart_dict go (T.self X.A 0 _ _ _ stD go)
end
end Om
namespace Om
open PySem PySem.Spec PyProof.Rows L2
theorem pe_dcT {X : Cx} {kx vx tg iter : Expr} {ifs : List Expr} {sc : Scope} {own : List (Str × Nat)} {pos : Pos} {wi : TI} {g : TG} {tt : TT} {tk tv : TE} (hu : X.A.units < cLine) (calm : X.calm = true) (nd : X.N.Nodup) (hi : PI X tg iter wi) (ok : BlkOk X.N X.env.scope sc own)
    (hg : ∀ s H C cl fp, PG (bl X sc s H C cl fp) tg g) (ht : ∀ s H C cl fp, PTs (bl X sc s H C cl fp) ifs tt) (hk : ∀ s H C cl fp, PE (bl X sc s H C cl fp) kx tk) (he : ∀ s H C cl fp, PE (bl X sc s H C cl fp) vx tv) (hs : ∀ x, foldedSetIterable iter X.env x = pure x := by intro _; rfl) :
    PE X (.DictComp kx vx [⟨tg, iter, ifs, 0⟩] sc pos) (tDcT wi g tt tk tv (own.map (·.2))) := ⟨fun pins s σ H Q I h => by
  rw [arm_eval_DictComp]
  refine dcT_core hu calm nd I hi ok hg ht hk he hs h fun D C s' m H' I' q ns fo => ⟨m, ns, fun h2 sb => ?_⟩
  exact ⟨.ref D, H', I'.turned (t' := s'.toks) (fun b o hb e => (sb.2 b hb).trans e) fo.1 fo.2.1 fo.2.2.2.1 fo.2.2.2.2.1 fo.2.2.2.2.2, rfl, q⟩⟩
theorem none_back {A A2 : Hp} {D : Addr} (s : Same A A2) (h : A2 D = none) : A D = none := by
  cases q : A D with
  | none => rfl
  | some o =>
    rw [s D o q] at h
    cases h
def dmk {κ β : Type} [DecidableEq κ] (l : List (κ × β)) : List (κ × β) := l.foldl (fun acc x => dput acc x.1 x.2) []
theorem dmk_snoc {κ β : Type} [DecidableEq κ] (l : List (κ × β)) (x : κ × β) : dmk (l ++ [x]) = dput (dmk l) x.1 x.2 := by
  unfold dmk
  rw [List.foldl_append]
  rfl
section
variable {X : Cx} {scope : Scope} {σ : L2.St} {V : Hp} {α κ β : Type} [DecidableEq κ] {R : Rf α} {RK : Rf κ} {S : Rf β} {tg iter kx vx c : Expr} {ifs : List Expr} {pos px : Pos} {x : Str}
theorem dc_tree [KeyK RK] [Mo S] {xs : List α} {p : α → Bool} {f : α → κ × β} {vs : List Nat} {up : L2.St → Vl → Hp → L2.St → Prop} (hS : Src X tg iter σ V none R xs) (hn : xs.length ≤ sizeLine)
    (hg : Tgb X scope tg vs R up) (ht : Tsb X scope ifs (AtTurn σ vs V R up xs) p) (hk : ∀ a σ' V', AtTurn σ vs V R up xs a σ' V' → p a = true → EvRb X scope kx σ' V' RK (f a).1) (he : ∀ a σ' V', AtTurn σ vs V R up xs a σ' V' → p a = true → EvRb X scope vx σ' V' S (f a).2) :
    ∃ wi g tt, PI X tg iter wi ∧ (∀ s H C cl fp, PG (bl X scope s H C cl fp) tg g) ∧ (∀ s H C cl fp, PTs (bl X scope s H C cl fp) ifs tt) ∧
      ∀ V1 A (Q : VK), Same V V1 → Le V1 A → (∀ V2 A2 D ks, A D = none → Grow V1 A V2 A2 → A2 D = some (.dK ks) → V2 D = some (.dK ks) → Pr (KeyK.enc RK) S (dmk ((xs.filter p).map f)) ks V2 → Q (.ref D) A2) → tDc wi g tt (REb X scope kx) (REb X scope vx) vs σ A Q := by
  obtain ⟨_, wi, hpi, hwi⟩ := hS
  obtain ⟨g, hpg, hg⟩ := hg
  obtain ⟨tt, hpt, ht⟩ := ht
  refine ⟨wi, g, tt, hpi, hpg, hpt, fun V1 A Q s l q => ?_⟩
  refine hwi V1 A _ s l (fun _ z => nomatch z) fun J V2 A2 g2 hJ => fun D hD => ?_
  have sv := s.trans g2.vv
  have w0 : Ow V2 (upd H0 D (.dK [])) (upd A2 D (.dK [])) := Ow.make g2.va hD
  refine ⟨fun i m A' => m = xs.length - i ∧ i ≤ xs.length ∧ ∃ V' ks, Stp V2 (upd H0 D (.dK [])) (upd A2 D (.dK [])) V' (upd H0 D (.dK ks)) A' ∧ Pr (KeyK.enc RK) S (dmk (((xs.take i).filter p).map f)) ks V' ∧ ks.length ≤ i,
    ⟨xs.length, rfl, Nat.zero_le _, V2, [], .refl w0, .nil, Nat.le_refl _⟩, ?_⟩
  rintro i m A' ⟨rfl, hi, V', ks, st, pr, ha⟩
  have stand : ∀ b o, V2 b ≠ none → A2 b = some o → A' b = some o := fun b o h1 h2 => by
    have hb : b ≠ D := fun z => h1 (by rw [z]; exact g2.va.free hD)
    exact st.aa b o (by rw [upd_ne hb]) (by rw [upd_ne hb]; exact h2)
  obtain ⟨w1, w2⟩ := hJ i V' A' st.vv st.ow.va stand
  by_cases hlt : i < xs.length
  · have hx : xs[i]? = some xs[i] := List.getElem?_eq_getElem hlt
    obtain ⟨go, yl⟩ := w2 xs[i] hx
    have tk : xs.take (i + 1) = xs.take i ++ [xs[i]] := by rw [List.take_add_one, hx]; rfl
    refine .inr ⟨go, fun A3 => ∃ V3 k3, Stp V2 (upd H0 D (.dK [])) (upd A2 D (.dK [])) V3 (upd H0 D (.dK k3)) A3 ∧ Pr (KeyK.enc RK) S (dmk (((xs.take (i + 1)).filter p).map f)) k3 V3 ∧ k3.length ≤ i + 1,
      fun A3 ⟨V3, k3, h1, h2, h3⟩ => ⟨xs.length - (i + 1), by omega, rfl, hlt, V3, k3, h1, h2, h3⟩, fun v A3 hy => ?_⟩
    obtain ⟨V3, g3, r⟩ := yl v A3 hy
    have s3 := st.trans (g3.stp st.ow)
    refine hg xs[i] v (wipe σ vs) V3 A3 _ g3.va r fun σ3 u3 hw => ⟨by rw [hw]; exact wipe_idem σ vs, ?_⟩
    have at_ : AtTurn σ vs V R up xs xs[i] σ3 V3 := ⟨List.getElem_mem hlt, sv.trans s3.vv, v, r, u3⟩
    refine ht xs[i] σ3 V3 at_ A3 _ g3.va fun A4 g4 => ?_
    have s4 := s3.trans (g4.stp s3.ow)
    cases hp : p xs[i] with
    | false =>
      refine iteF ⟨V3, ks, s4, ?_, by omega⟩
      rw [tk, List.filter_append, List.filter_cons, hp]
      simpa using pr.mo g3.vv
    | true =>
      refine iteT fun s0 H1 C cl fp => hk xs[i] σ3 V3 at_ hp s0 H1 C cl fp V3 A4 _ (Same.refl _) g4.va fun V5 A5 y g5 r5 => fun s0 H1 C cl fp => he xs[i] σ3 V3 at_ hp s0 H1 C cl fp V5 A5 _ g5.vv g5.va fun V6 A6 z g6 r6 => ?_
      have s6 := (s4.trans (g5.stp s4.ow)).trans (g6.stp (s4.trans (g5.stp s4.ow)).ow)
      refine ⟨ks, KeyK.enc RK (f xs[i]).1, KeyK.iff.mp r5, s6.ow.ma D _ upd_same, by omega, V6, putK ks (KeyK.enc RK (f xs[i]).1) z, ?_, ?_, ?_⟩
      · have s7 := s6.trans (Stp.set (o' := .dK (putK ks (KeyK.enc RK (f xs[i]).1) z)) s6.ow upd_same)
        rw [upd_upd] at s7
        exact s7
      · rw [tk, List.filter_append, List.filter_cons, hp]
        simp only [if_true, List.filter_nil, List.map_append, List.map_cons, List.map_nil]
        rw [dmk_snoc]
        exact (pr.mo (g3.vv.trans (g5.vv.trans g6.vv))).put (KeyK.inj (R := RK)) r6
      · exact Nat.le_trans (length_putK ks _ z) (by omega)
  · have e : i = xs.length := by omega
    subst e
    refine .inl ⟨w1 (Nat.le_refl _), q (upd V' D (.dK ks)) A' D ks (none_back g2.aa hD) (g2.trans (grow_made g2.va hD st)) (st.ow.ma D _ upd_same) upd_same ?_⟩
    rw [List.take_length] at pr
    exact pr.mo (same_new (st.ow.di D (by rw [upd_same]; exact fun z => nomatch z)))
theorem dcT_tree [KeyT RK] [Mo S] {xs : List α} {p : α → Bool} {f : α → κ × β} {vs : List Nat} {up : L2.St → Vl → Hp → L2.St → Prop} (hS : Src X tg iter σ V none R xs) (hn : xs.length ≤ sizeLine)
    (hg : Tgb X scope tg vs R up) (ht : Tsb X scope ifs (AtTurn σ vs V R up xs) p) (hk : ∀ a σ' V', AtTurn σ vs V R up xs a σ' V' → p a = true → EvRb X scope kx σ' V' RK (f a).1) (he : ∀ a σ' V', AtTurn σ vs V R up xs a σ' V' → p a = true → EvRb X scope vx σ' V' S (f a).2) (mk : Mo RK) :
    ∃ wi g tt, PI X tg iter wi ∧ (∀ s H C cl fp, PG (bl X scope s H C cl fp) tg g) ∧ (∀ s H C cl fp, PTs (bl X scope s H C cl fp) ifs tt) ∧
      ∀ V1 A (Q : VK), Same V V1 → Le V1 A → (∀ V2 A2 D ks, A D = none → Grow V1 A V2 A2 → A2 D = some (.dT ks) → V2 D = some (.dT ks) → Pr (KeyT.enc RK) S (dmk ((xs.filter p).map f)) ks V2 → Q (.ref D) A2) → tDcT wi g tt (REb X scope kx) (REb X scope vx) vs σ A Q := by
  obtain ⟨_, wi, hpi, hwi⟩ := hS
  obtain ⟨g, hpg, hg⟩ := hg
  obtain ⟨tt, hpt, ht⟩ := ht
  refine ⟨wi, g, tt, hpi, hpg, hpt, fun V1 A Q s l q => ?_⟩
  refine hwi V1 A _ s l (fun _ z => nomatch z) fun J V2 A2 g2 hJ => fun D hD => ?_
  have sv := s.trans g2.vv
  have w0 : Ow V2 (upd H0 D (.dT [])) (upd A2 D (.dT [])) := Ow.make g2.va hD
  refine ⟨fun i m A' => m = xs.length - i ∧ i ≤ xs.length ∧ ∃ V' ks, Stp V2 (upd H0 D (.dT [])) (upd A2 D (.dT [])) V' (upd H0 D (.dT ks)) A' ∧ Pr (KeyT.enc RK) S (dmk (((xs.take i).filter p).map f)) ks V' ∧ ks.length ≤ i,
    ⟨xs.length, rfl, Nat.zero_le _, V2, [], .refl w0, .nil, Nat.le_refl _⟩, ?_⟩
  rintro i m A' ⟨rfl, hi, V', ks, st, pr, ha⟩
  have stand : ∀ b o, V2 b ≠ none → A2 b = some o → A' b = some o := fun b o h1 h2 => by
    have hb : b ≠ D := fun z => h1 (by rw [z]; exact g2.va.free hD)
    exact st.aa b o (by rw [upd_ne hb]) (by rw [upd_ne hb]; exact h2)
  obtain ⟨w1, w2⟩ := hJ i V' A' st.vv st.ow.va stand
  by_cases hlt : i < xs.length
  · have hx : xs[i]? = some xs[i] := List.getElem?_eq_getElem hlt
    obtain ⟨go, yl⟩ := w2 xs[i] hx
    have tk : xs.take (i + 1) = xs.take i ++ [xs[i]] := by rw [List.take_add_one, hx]; rfl
    refine .inr ⟨go, fun A3 => ∃ V3 k3, Stp V2 (upd H0 D (.dT [])) (upd A2 D (.dT [])) V3 (upd H0 D (.dT k3)) A3 ∧ Pr (KeyT.enc RK) S (dmk (((xs.take (i + 1)).filter p).map f)) k3 V3 ∧ k3.length ≤ i + 1,
      fun A3 ⟨V3, k3, h1, h2, h3⟩ => ⟨xs.length - (i + 1), by omega, rfl, hlt, V3, k3, h1, h2, h3⟩, fun v A3 hy => ?_⟩
    obtain ⟨V3, g3, r⟩ := yl v A3 hy
    have s3 := st.trans (g3.stp st.ow)
    refine hg xs[i] v (wipe σ vs) V3 A3 _ g3.va r fun σ3 u3 hw => ⟨by rw [hw]; exact wipe_idem σ vs, ?_⟩
    have at_ : AtTurn σ vs V R up xs xs[i] σ3 V3 := ⟨List.getElem_mem hlt, sv.trans s3.vv, v, r, u3⟩
    refine ht xs[i] σ3 V3 at_ A3 _ g3.va fun A4 g4 => ?_
    have s4 := s3.trans (g4.stp s3.ow)
    cases hp : p xs[i] with
    | false =>
      refine iteF ⟨V3, ks, s4, ?_, by omega⟩
      rw [tk, List.filter_append, List.filter_cons, hp]
      simpa using pr.mo g3.vv
    | true =>
      refine iteT fun s0 H1 C cl fp => hk xs[i] σ3 V3 at_ hp s0 H1 C cl fp V3 A4 _ (Same.refl _) g4.va fun V5 A5 y g5 r5 => fun s0 H1 C cl fp => he xs[i] σ3 V3 at_ hp s0 H1 C cl fp V5 A5 _ g5.vv g5.va fun V6 A6 z g6 r6 => ?_
      have s6 := (s4.trans (g5.stp s4.ow)).trans (g6.stp (s4.trans (g5.stp s4.ow)).ow)
      obtain ⟨b, ey, hb⟩ := KeyT.to (mk.mo g6.vv r5)
      refine ⟨_, ⟨ks, KeyT.enc RK (f xs[i]).1, b, ey, g6.va.at hb, s6.ow.ma D _ upd_same, by omega, rfl⟩, V6, putK ks (KeyT.enc RK (f xs[i]).1) z, ?_, ?_, ?_⟩
      · have s7 := s6.trans (Stp.set (o' := .dT (putK ks (KeyT.enc RK (f xs[i]).1) z)) s6.ow upd_same)
        rw [upd_upd] at s7
        exact s7
      · rw [tk, List.filter_append, List.filter_cons, hp]
        simp only [if_true, List.filter_nil, List.map_append, List.map_cons, List.map_nil]
        rw [dmk_snoc]
        exact (pr.mo (g3.vv.trans (g5.vv.trans g6.vv))).put (KeyT.inj (R := RK)) r6
      · exact Nat.le_trans (length_putK ks _ z) (by omega)
  · have e : i = xs.length := by omega
    subst e
    refine .inl ⟨w1 (Nat.le_refl _), q (upd V' D (.dT ks)) A' D ks (none_back g2.aa hD) (g2.trans (grow_made g2.va hD st)) (st.ow.ma D _ upd_same) upd_same ?_⟩
    rw [List.take_length] at pr
    exact pr.mo (same_new (st.ow.di D (by rw [upd_same]; exact fun z => nomatch z)))
/-- a thing just shown is locked for good -/
theorem Grow.fix {V A V2 A2 : Hp} {D : Addr} {u : HO} (l : Le V A) (g : Grow V A V2 A2) (hA : A D = none) : Grow V A (upd V2 D u) (upd A2 D u) := by
  refine ⟨fun b o e => ?_, fun b o e => ?_, fun b o e => ?_, fun b h1 h2 h3 => ?_⟩
  · rw [upd_ne (ne_of_none e (l.free hA))]
    exact g.vv b o e
  · rw [upd_ne (ne_of_none e hA)]
    exact g.aa b o e
  · by_cases hb : b = D
    · subst hb
      rw [upd_same] at e
      cases e
      exact .inl upd_same
    · rw [upd_ne hb] at e
      rw [show ∀ w, upd A2 D w b = A2 b from fun w => upd_ne hb]
      exact g.va b o e
  · rw [upd_ne (fun z => h2 (by rw [z]; exact hA))]
    exact g.fr b h1 h2 h3
theorem Pr.upd {H : Hp} {D : Addr} {u u' : HO} {ε : Type} [DecidableEq ε] {E : κ → ε} {kvs : List (κ × β)} {ks : List (ε × Vl)} [Lt S] (h : Pr E S kvs ks H) (hD : H D = some u) (hp : ¬ Plain u) : Pr E S kvs ks (upd H D u') :=
  h.lt fun b o e p => by
    rw [upd_ne (fun z => by rw [z, hD] at e; cases e; exact hp p)]
    exact e
/-- {k: v for target in iter if ..}, locked for good -/
theorem ev_dc [KeyK RK] [Mo S] [Lt S] {xs : List α} {p : α → Bool} {f : α → κ × β} {own : List (Str × Nat)} {up : L2.St → Vl → Hp → L2.St → Prop} (hc : X.calm = true) (hN : X.N.Nodup) (hS : Src X tg iter σ V none R xs) (hn : xs.length ≤ sizeLine) (ok : BlkOk X.N X.env.scope scope own)
    (hg : Tgb X scope tg (own.map (·.2)) R up) (ht : Tsb X scope ifs (AtTurn σ (own.map (·.2)) V R up xs) p) (hk : ∀ a σ' V', AtTurn σ (own.map (·.2)) V R up xs a σ' V' → p a = true → EvRb X scope kx σ' V' RK (f a).1) (he : ∀ a σ' V', AtTurn σ (own.map (·.2)) V R up xs a σ' V' → p a = true → EvRb X scope vx σ' V' S (f a).2)
    (hs : ∀ x, foldedSetIterable iter X.env x = pure x := by intro _; rfl) : EvR X (.DictComp kx vx [⟨tg, iter, ifs, 0⟩] scope pos) σ V (qDk RK S) (dmk ((xs.filter p).map f)) := by
  obtain ⟨wi, g, tt, h1, h2, h3, h4⟩ := dc_tree (kx := kx) (vx := vx) hS hn hg ht hk he
  intro V1 A Q s l q
  refine re_fix (re_of (pe_dc hc hN h1 ok h2 h3 (fun s H C cl fp => pe_reb) (fun s H C cl fp => pe_reb) hs) (h4 V1 A _ s l fun V2 A2 D ks hA g2 hA2 hD pr => ⟨D, .dK ks, rfl, hA2, trivial, fun od => ?_⟩))
  exact q _ _ _ (g2.fix l hA) ⟨D, od, ks, rfl, upd_same, pr.upd hD (fun z => z)⟩
/-- .. the keys tuples -/
theorem ev_dcT [KeyT RK] [Mo RK] [Mo S] [Lt S] {xs : List α} {p : α → Bool} {f : α → κ × β} {own : List (Str × Nat)} {up : L2.St → Vl → Hp → L2.St → Prop} (hu : X.A.units < cLine) (hc : X.calm = true) (hN : X.N.Nodup) (hS : Src X tg iter σ V none R xs) (hn : xs.length ≤ sizeLine) (ok : BlkOk X.N X.env.scope scope own)
    (hg : Tgb X scope tg (own.map (·.2)) R up) (ht : Tsb X scope ifs (AtTurn σ (own.map (·.2)) V R up xs) p) (hk : ∀ a σ' V', AtTurn σ (own.map (·.2)) V R up xs a σ' V' → p a = true → EvRb X scope kx σ' V' RK (f a).1) (he : ∀ a σ' V', AtTurn σ (own.map (·.2)) V R up xs a σ' V' → p a = true → EvRb X scope vx σ' V' S (f a).2)
    (hs : ∀ x, foldedSetIterable iter X.env x = pure x := by intro _; rfl) : EvR X (.DictComp kx vx [⟨tg, iter, ifs, 0⟩] scope pos) σ V (qDt RK S) (dmk ((xs.filter p).map f)) := by
  obtain ⟨wi, g, tt, h1, h2, h3, h4⟩ := dcT_tree (kx := kx) (vx := vx) hS hn hg ht hk he inferInstance
  intro V1 A Q s l q
  refine re_fix (re_of (pe_dcT hu hc hN h1 ok h2 h3 (fun s H C cl fp => pe_reb) (fun s H C cl fp => pe_reb) hs) (h4 V1 A _ s l fun V2 A2 D ks hA g2 hA2 hD pr => ⟨D, .dT ks, rfl, hA2, trivial, fun od => ?_⟩))
  exact q _ _ _ (g2.fix l hA) ⟨D, od, ks, rfl, upd_same, pr.upd hD (fun z => z)⟩
/-- over one name -/
theorem ev_dcn [KeyK RK] [Mo S] [Lt S] (i : Nat) {xs : List α} {f : α → κ × β} (hc : X.calm = true) (hN : X.N.Nodup) (hi : X.N[i]? = some x) (hS : Src X (.Name x px) iter σ V none R xs) (hn : xs.length ≤ sizeLine) (ok : BlkOk X.N X.env.scope scope [(x, i)])
    (hk : ∀ a v V', a ∈ xs → Same V V' → R a v V' → EvRb X scope kx (σ.set i (some v)) V' RK (f a).1) (he : ∀ a v V', a ∈ xs → Same V V' → R a v V' → EvRb X scope vx (σ.set i (some v)) V' S (f a).2)
    (hx : ∀ s H C cl fp, Loc (bl X scope s H C cl fp).env.scope x := by first | exact fun _ _ _ _ _ => .inl rfl | exact fun _ _ _ _ _ => .inr rfl)
    (hf : ∀ s H C cl fp, (bl X scope s H C cl fp).fn x = true ∨ (bl X scope s H C cl fp).env.scope.names.lookup x = some .local := by first | exact fun _ _ _ _ _ => .inr rfl | exact fun _ _ _ _ _ => .inl rfl)
    (hs : ∀ x, foldedSetIterable iter X.env x = pure x := by intro _; rfl) : EvR X (.DictComp kx vx [⟨.Name x px, iter, [], 0⟩] scope pos) σ V (qDk RK S) (dmk (xs.map f)) := by
  have h := ev_dc (pos := pos) (f := f) (RK := RK) (S := S) (kx := kx) (vx := vx) hc hN hS hn ok (tgb_name (R := R) hN hi hx hf) ts_nil (fun a σ' V' at_ _ => by
    obtain ⟨v, h1, h2, h3, rfl⟩ := at_name (up := fun _ _ _ _ => True) at_
    exact hk a v V' h1 h2 h3) (fun a σ' V' at_ _ => by
    obtain ⟨v, h1, h2, h3, rfl⟩ := at_name (up := fun _ _ _ _ => True) at_
    exact he a v V' h1 h2 h3) hs
  rwa [List.filter_eq_self.mpr (fun _ _ => rfl)] at h
theorem ev_dcTn [KeyT RK] [Mo RK] [Mo S] [Lt S] (i : Nat) {xs : List α} {f : α → κ × β} (hu : X.A.units < cLine) (hc : X.calm = true) (hN : X.N.Nodup) (hi : X.N[i]? = some x) (hS : Src X (.Name x px) iter σ V none R xs) (hn : xs.length ≤ sizeLine) (ok : BlkOk X.N X.env.scope scope [(x, i)])
    (hk : ∀ a v V', a ∈ xs → Same V V' → R a v V' → EvRb X scope kx (σ.set i (some v)) V' RK (f a).1) (he : ∀ a v V', a ∈ xs → Same V V' → R a v V' → EvRb X scope vx (σ.set i (some v)) V' S (f a).2)
    (hx : ∀ s H C cl fp, Loc (bl X scope s H C cl fp).env.scope x := by first | exact fun _ _ _ _ _ => .inl rfl | exact fun _ _ _ _ _ => .inr rfl)
    (hf : ∀ s H C cl fp, (bl X scope s H C cl fp).fn x = true ∨ (bl X scope s H C cl fp).env.scope.names.lookup x = some .local := by first | exact fun _ _ _ _ _ => .inr rfl | exact fun _ _ _ _ _ => .inl rfl)
    (hs : ∀ x, foldedSetIterable iter X.env x = pure x := by intro _; rfl) : EvR X (.DictComp kx vx [⟨.Name x px, iter, [], 0⟩] scope pos) σ V (qDt RK S) (dmk (xs.map f)) := by
  have h := ev_dcT (pos := pos) (f := f) (RK := RK) (S := S) (kx := kx) (vx := vx) hu hc hN hS hn ok (tgb_name (R := R) hN hi hx hf) ts_nil (fun a σ' V' at_ _ => by
    obtain ⟨v, h1, h2, h3, rfl⟩ := at_name (up := fun _ _ _ _ => True) at_
    exact hk a v V' h1 h2 h3) (fun a σ' V' at_ _ => by
    obtain ⟨v, h1, h2, h3, rfl⟩ := at_name (up := fun _ _ _ _ => True) at_
    exact he a v V' h1 h2 h3) hs
  rwa [List.filter_eq_self.mpr (fun _ _ => rfl)] at h
theorem ev_dcTf [KeyT RK] [Mo RK] [Mo S] [Lt S] (i : Nat) {xs : List α} {p : α → Bool} {f : α → κ × β} (hu : X.A.units < cLine) (hc : X.calm = true) (hN : X.N.Nodup) (hi : X.N[i]? = some x) (hS : Src X (.Name x px) iter σ V none R xs) (hn : xs.length ≤ sizeLine) (ok : BlkOk X.N X.env.scope scope [(x, i)])
    (ht : ∀ a v V', a ∈ xs → Same V V' → R a v V' → EvTb X scope c (σ.set i (some v)) V' (p a))
    (hk : ∀ a v V', a ∈ xs → Same V V' → R a v V' → EvRb X scope kx (σ.set i (some v)) V' RK (f a).1) (he : ∀ a v V', a ∈ xs → Same V V' → R a v V' → EvRb X scope vx (σ.set i (some v)) V' S (f a).2)
    (hx : ∀ s H C cl fp, Loc (bl X scope s H C cl fp).env.scope x := by first | exact fun _ _ _ _ _ => .inl rfl | exact fun _ _ _ _ _ => .inr rfl)
    (hf : ∀ s H C cl fp, (bl X scope s H C cl fp).fn x = true ∨ (bl X scope s H C cl fp).env.scope.names.lookup x = some .local := by first | exact fun _ _ _ _ _ => .inr rfl | exact fun _ _ _ _ _ => .inl rfl)
    (hs : ∀ x, foldedSetIterable iter X.env x = pure x := by intro _; rfl) : EvR X (.DictComp kx vx [⟨.Name x px, iter, [c], 0⟩] scope pos) σ V (qDt RK S) (dmk ((xs.filter p).map f)) :=
  ev_dcT (pos := pos) (f := f) (RK := RK) (S := S) (kx := kx) (vx := vx) hu hc hN hS hn ok (tgb_name (R := R) hN hi hx hf) (ts_one fun a σ' V' at_ => by
    obtain ⟨v, h1, h2, h3, rfl⟩ := at_name (up := fun _ _ _ _ => True) at_
    exact ht a v V' h1 h2 h3) (fun a σ' V' at_ _ => by
    obtain ⟨v, h1, h2, h3, rfl⟩ := at_name (up := fun _ _ _ _ => True) at_
    exact hk a v V' h1 h2 h3) (fun a σ' V' at_ _ => by
    obtain ⟨v, h1, h2, h3, rfl⟩ := at_name (up := fun _ _ _ _ => True) at_
    exact he a v V' h1 h2 h3) hs
end
end Om
set_option maxHeartbeats 4000000
/-! Om, part N7: sources of an own __iter__, targets of two names in a block, methods by their defs. -/
namespace Om
open PySem PySem.Spec PyProof.Rows L2
section
variable {X : Cx} {scope : Scope} {σ : L2.St} {V : Hp} {α β κ γ : Type} [DecidableEq κ] {R : Rf κ} {S : Rf β} {RR : Rf γ} {Y : Rf α} {Z : Rf β} {c : γ} {kvs : List (κ × β)} {C : Addr} {k j : Nat} {e tg : Expr} {pos : Pos}
theorem src_ownK [KeyK R] [Mo S] {dd : γ → Vl → Hp → Addr → Obj → Nat → Prop} (h : EvR X e σ V RR c) (m0 : Itr_ X.prog X.w X.K X.mg X.base C k RR dd) (hr : Room j X.A)
    (hdd : ∀ v H, RR c v H → ∃ p dx fs d od ks, v = .ref p ∧ H p = some (.ins C dx fs) ∧ dd c v H d od ks.length ∧ H d = some (.frz od (.dK ks)) ∧ Pr (KeyK.enc R) S kvs ks H) (hk : k ≤ j := by decide) : Src X tg e σ V none R (kvs.map (·.1)) :=
  ⟨fun _ z => (nomatch z), _, pi_own m0 hr pe_re hk, fun V1 A Q s l _ q => h V1 A _ s l fun V2 A2 v g r => by
    obtain ⟨p, dx, fs, d, od, ks, ev, hp, hd, hL, pr⟩ := hdd v V2 r
    refine ⟨V2, c, d, od, ks.length, g.va, r, ⟨p, dx, fs, ev, hp⟩, hd, .inl ⟨ks, hL, rfl⟩, fun H' J s2 l2 hJ => ?_⟩
    have hd' : H' d = some (.frz od (.dK ks)) := l2.at hL
    have eJ : J = Itk d od ks := by
      rcases hJ with ⟨k', h1, h2⟩ | ⟨k', h1, h2⟩
      · rw [hd'] at h1
        cases h1
        exact h2
      · rw [hd'] at h1
        cases h1
    subst eJ
    exact q _ V2 H' ⟨g.vv, g.aa.trans s2, l2, g.fr⟩ (walks_dk hL pr)⟩
theorem src_ownT [KeyT R] [Mo S] {dd : γ → Vl → Hp → Addr → Obj → Nat → Prop} (h : EvR X e σ V RR c) (m0 : Itr_ X.prog X.w X.K X.mg X.base C k RR dd) (hr : Room j X.A)
    (hdd : ∀ v H, RR c v H → ∃ p dx fs d od ks, v = .ref p ∧ H p = some (.ins C dx fs) ∧ dd c v H d od ks.length ∧ H d = some (.frz od (.dT ks)) ∧ Pr (KeyT.enc R) S kvs ks H) (hk : k ≤ j := by decide) : Src X tg e σ V none R (kvs.map (·.1)) :=
  ⟨fun _ z => (nomatch z), _, pi_own m0 hr pe_re hk, fun V1 A Q s l _ q => h V1 A _ s l fun V2 A2 v g r => by
    obtain ⟨p, dx, fs, d, od, ks, ev, hp, hd, hL, pr⟩ := hdd v V2 r
    refine ⟨V2, c, d, od, ks.length, g.va, r, ⟨p, dx, fs, ev, hp⟩, hd, .inr ⟨ks, hL, rfl⟩, fun H' J s2 l2 hJ => ?_⟩
    have hd' : H' d = some (.frz od (.dT ks)) := l2.at hL
    have eJ : J = Itkt d od ks := by
      rcases hJ with ⟨k', h1, h2⟩ | ⟨k', h1, h2⟩
      · rw [hd'] at h1
        cases h1
      · rw [hd'] at h1
        cases h1
        exact h2
    subst eJ
    exact q _ V2 H' ⟨g.vv, g.aa.trans s2, l2, g.fr⟩ (walks_dt hL pr)⟩
/-- a target of one name, among several that the block owns -/
theorem wipe_set {σ : L2.St} {vs : List Nat} {i : Nat} {v : Option Vl} (h : i ∈ vs) : wipe (σ.set i v) vs = wipe σ vs := by
  refine List.ext_getElem? fun j => ?_
  rw [wipe_get, wipe_get]
  by_cases hj : j ∈ vs
  · rw [if_pos hj, if_pos hj, List.getElem?_set]
    by_cases hij : i = j
    · subst hij
      rw [if_pos rfl]
      by_cases hl : i < σ.length
      · rw [if_pos hl, List.getElem?_eq_getElem hl]
        rfl
      · rw [if_neg hl, List.getElem?_eq_none (by omega)]
    · rw [if_neg hij]
  · rw [if_neg hj, if_neg hj, List.getElem?_set_ne (show i ≠ j from fun z => hj (z ▸ h))]
theorem tgb_in {i : Nat} {vs : List Nat} {x : Str} {px : Pos} (hN : X.N.Nodup) (hi : X.N[i]? = some x) (hm : i ∈ vs := by decide) (hx : ∀ s H C cl fp, Loc (bl X scope s H C cl fp).env.scope x := by first | exact fun _ _ _ _ _ => .inl rfl | exact fun _ _ _ _ _ => .inr rfl)
    (hf : ∀ s H C cl fp, (bl X scope s H C cl fp).fn x = true ∨ (bl X scope s H C cl fp).env.scope.names.lookup x = some .local := by first | exact fun _ _ _ _ _ => .inr rfl | exact fun _ _ _ _ _ => .inl rfl) : Tgb X scope (.Name x px) vs Y (fun σ v _ σ' => σ' = σ.set i (some v)) :=
  ⟨gName i, fun s H C cl fp => pg_name hN hi (hx s H C cl fp) (hf s H C cl fp), fun a v σ V A Q l r q => q _ rfl (wipe_set hm)⟩
/-- what a turn of the two clauses stands at -/
theorem at_one {i : Nat} {vs : List Nat} {xs : List α} {a : α} {σ' : L2.St} {V' : Hp} (h : AtTurn σ vs V Y (fun σ v _ σ' => σ' = σ.set i (some v)) xs a σ' V') : ∃ v, a ∈ xs ∧ Same V V' ∧ Y a v V' ∧ σ' = (wipe σ vs).set i (some v) := by
  obtain ⟨h1, h2, v, h3, h4⟩ := h
  exact ⟨v, h1, h2, h3, h4⟩
theorem at_both [Mo Y] {i i' : Nat} {vs vs1 : List Nat} {xs : List α} {ys : α → List β} {z : α × β} {σ' : L2.St} {V' : Hp} (h : AtTurn2 σ vs vs1 V Y Z (fun σ v _ σ' => σ' = σ.set i (some v)) (fun σ v _ σ' => σ' = σ.set i' (some v)) xs ys z σ' V') :
    ∃ v u, z.1 ∈ xs ∧ z.2 ∈ ys z.1 ∧ Same V V' ∧ Y z.1 v V' ∧ Z z.2 u V' ∧ σ' = (wipe ((wipe σ vs).set i (some v)) vs1).set i' (some u) := by
  obtain ⟨σ2, V2, h1, h2, h3, u, h4, h5⟩ := h
  obtain ⟨v, g1, g2, g3, rfl⟩ := at_one h1
  exact ⟨v, u, g1, h2, g2.trans h3, Mo.mo h3 g3, h4, h5⟩
/-- a target of two names, in a block -/
theorem tgb_two {i i' : Nat} {x y : Str} {px py pt : Pos} {kk : Nat} (hc : X.calm = true) (hN : X.N.Nodup) (hi : X.N[i]? = some x) (hj : X.N[i']? = some y) (hij : i ≠ i') (hx : ∀ s H C cl fp, Loc (bl X scope s H C cl fp).env.scope x := by first | exact fun _ _ _ _ _ => .inl rfl | exact fun _ _ _ _ _ => .inr rfl)
    (hy : ∀ s H C cl fp, Loc (bl X scope s H C cl fp).env.scope y := by first | exact fun _ _ _ _ _ => .inl rfl | exact fun _ _ _ _ _ => .inr rfl)
    (hf : ∀ s H C cl fp, (bl X scope s H C cl fp).fn x = true ∨ (bl X scope s H C cl fp).env.scope.names.lookup x = some .local := by first | exact fun _ _ _ _ _ => .inr rfl | exact fun _ _ _ _ _ => .inl rfl)
    (hf2 : ∀ s H C cl fp, (bl X scope s H C cl fp).fn y = true ∨ (bl X scope s H C cl fp).env.scope.names.lookup y = some .local := by first | exact fun _ _ _ _ _ => .inr rfl | exact fun _ _ _ _ _ => .inl rfl)
    (hn : ∀ s H C cl fp, (assignEach [.Name x px, .Name y py] (bl X scope s H C cl fp).env).length = 2 := by exact fun _ _ _ _ _ => rfl) (hst : ∀ s H C cl fp, (assignEach [.Name x px, .Name y py] (bl X scope s H C cl fp).env).findIdx? (·.1) = none := by exact fun _ _ _ _ _ => rfl) :
    Tgb X scope (.Tuple [.Name x px, .Name y py] kk pt) [i, i'] (q2 Y Z) (fun σ v V σ' => ∃ p a b, v = .ref p ∧ V p = some (.tup [a, b]) ∧ σ' = (σ.set i (some a)).set i' (some b)) := by
  refine ⟨gTup X.K 2 (gCons (gName i) (gCons (gName i') gNil)), fun s H C cl fp => pg_tup (X := bl X scope s H C cl fp) hc (pgs_cons (pg_name hN hi (hx s H C cl fp) (hf s H C cl fp)) (pgs_cons (pg_name hN hj (hy s H C cl fp) (hf2 s H C cl fp)) pgs_nil)) (hn s H C cl fp) (hst s H C cl fp), ?_⟩
  rintro c v σ V A Q l ⟨p, a, b, rfl, hp, _, _⟩ q
  refine ⟨p, [a, b], rfl, SqT.of (l.at hp), rfl, a, [b], rfl, b, [], rfl, rfl, q _ ⟨p, a, b, rfl, hp, rfl⟩ ?_⟩
  show List.set (List.set ((σ.set i (some a)).set i' (some b)) i' none) i none = List.set (List.set σ i' none) i none
  rw [List.set_set, List.set_comm _ _ (Ne.symm hij), List.set_comm _ _ (Ne.symm hij), List.set_set]
/-- what a turn of two names stands at -/
theorem at_two {i i' : Nat} {xs : List (α × β)} {z : α × β} {σ' : L2.St} {V' : Hp} (hij : i ≠ i') (h : AtTurn σ [i, i'] V (q2 Y Z) (fun σ v V σ' => ∃ p a b, v = .ref p ∧ V p = some (.tup [a, b]) ∧ σ' = (σ.set i (some a)).set i' (some b)) xs z σ' V') :
    ∃ a b, z ∈ xs ∧ Same V V' ∧ Y z.1 a V' ∧ Z z.2 b V' ∧ σ' = (σ.set i (some a)).set i' (some b) := by
  obtain ⟨h1, h2, v, ⟨p, a, b, rfl, hp, r1, r2⟩, p', a', b', e, hp', rfl⟩ := h
  cases e
  rw [hp] at hp'
  cases hp'
  refine ⟨a, b, h1, h2, r1, r2, ?_⟩
  show List.set (List.set (List.set (List.set σ i' none) i none) i (some a)) i' (some b) = _
  rw [List.set_set, List.set_comm _ _ (Ne.symm hij), List.set_set]
end

/-! ### methods by their defs -/
section
variable {P : Program} {w : World} {K : PySem.W.Frag} {mg : Str → Option Value} {base : Heap} {nm qual : Str} {st : Stmt} {N ps : List Str} {k : Nat} {α β γ ρ : Type} {C : Addr}
structure Dmt (K : PySem.W.Frag) (C : Addr) (nm qual : Str) (st : Stmt) (ps : List Str) : Prop where
  ex : ∃ f fd, Dfm K nm qual st ps f fd ∧ Meth K C nm f
structure Dpr (K : PySem.W.Frag) (C : Addr) (nm qual : Str) (st : Stmt) (ps : List Str) : Prop where
  ex : ∃ p f fd, Dfm K nm qual st ps f fd ∧ PropOf K C nm p f
structure Dmk (K : PySem.W.Frag) (C : Addr) (nm qual : Str) (st : Stmt) (ps : List Str) : Prop where
  ex : ∃ f fd, Dfm K nm qual st ps f fd ∧ Mk K C f
theorem fnm1 {R1 : Rf α} {pre : α → Prop} {S : Rf ρ} {g : α → ρ} {f : Addr} {fd : FuncData} (D : Dfm K nm qual st ps f fd) (sc : FnScope N ps (defScope st)) (hl : ps.length = 1)
    (h : ∀ cdv A outer s H E v1 a V, Room k (bodyI P w K mg base N qual st f cdv A outer s H E).A → R1 a v1 V → pre a → Go (bodyI P w K mg base N qual st f cdv A outer s H E) (defBody st) (start N [v1]) V H0 (RetP S (g a))) : FnOk P w K mg base CX0 (k + 1) f fd ps (sp1 R1 pre S g) := by
  refine D.F.ok sc (fun vs H Q E h => ?_) (fun cdv A outer s H vs Q E hr hsp => ?_)
  · obtain ⟨v1, a, V, rfl, _⟩ := h
    exact hl.symm
  · obtain ⟨v1, a, V, rfl, l, r1, hp, q⟩ := hsp
    exact ⟨_, PSs.nox pss_rs, run_body l (h cdv A outer s H E v1 a V hr r1 hp) q⟩
theorem fnm2 {R1 : Rf α} {R2 : Rf β} {pre : α → β → Prop} {S : Rf ρ} {g : α → β → ρ} {f : Addr} {fd : FuncData} (D : Dfm K nm qual st ps f fd) (sc : FnScope N ps (defScope st)) (hl : ps.length = 2)
    (h : ∀ cdv A outer s H E v1 v2 a b V, Room k (bodyI P w K mg base N qual st f cdv A outer s H E).A → R1 a v1 V → R2 b v2 V → pre a b → Go (bodyI P w K mg base N qual st f cdv A outer s H E) (defBody st) (start N [v1, v2]) V H0 (RetP S (g a b))) : FnOk P w K mg base CX0 (k + 1) f fd ps (sp2 R1 R2 pre S g) := by
  refine D.F.ok sc (fun vs H Q E h => ?_) (fun cdv A outer s H vs Q E hr hsp => ?_)
  · obtain ⟨v1, v2, a, b, V, rfl, _⟩ := h
    exact hl.symm
  · obtain ⟨v1, v2, a, b, V, rfl, l, r1, r2, hp, q⟩ := hsp
    exact ⟨_, PSs.nox pss_rs, run_body l (h cdv A outer s H E v1 v2 a b V hr r1 r2 hp) q⟩
theorem fnm3 {R1 : Rf α} {R2 : Rf β} {R3 : Rf γ} {pre : α → β → γ → Prop} {S : Rf ρ} {g : α → β → γ → ρ} {f : Addr} {fd : FuncData} (D : Dfm K nm qual st ps f fd) (sc : FnScope N ps (defScope st)) (hl : ps.length = 3)
    (h : ∀ cdv A outer s H E v1 v2 v3 a b c V, Room k (bodyI P w K mg base N qual st f cdv A outer s H E).A → R1 a v1 V → R2 b v2 V → R3 c v3 V → pre a b c → Go (bodyI P w K mg base N qual st f cdv A outer s H E) (defBody st) (start N [v1, v2, v3]) V H0 (RetP S (g a b c))) : FnOk P w K mg base CX0 (k + 1) f fd ps (sp3 R1 R2 R3 pre S g) := by
  refine D.F.ok sc (fun vs H Q E h => ?_) (fun cdv A outer s H vs Q E hr hsp => ?_)
  · obtain ⟨v1, v2, v3, a, b, c, V, rfl, _⟩ := h
    exact hl.symm
  · obtain ⟨v1, v2, v3, a, b, c, V, rfl, l, r1, r2, r3, hp, q⟩ := hsp
    exact ⟨_, PSs.nox pss_rs, run_body l (h cdv A outer s H E v1 v2 v3 a b c V hr r1 r2 r3 hp) q⟩
theorem mth1 {R1 : Rf α} {pre : α → Prop} {S : Rf ρ} {g : α → ρ} (D : Dmt K C nm qual st ps) (sc : FnScope N ps (defScope st)) (hl : ps.length = 1)
    (h : ∀ f cdv A outer s H E v1 a V, Room k (bodyI P w K mg base N qual st f cdv A outer s H E).A → R1 a v1 V → pre a → Go (bodyI P w K mg base N qual st f cdv A outer s H E) (defBody st) (start N [v1]) V H0 (RetP S (g a))) : Mth P w K mg base C nm (k + 1) (sp1 R1 pre S g) := by
  obtain ⟨f, fd, D, m⟩ := D.ex
  exact ⟨f, fd, ps, fnm1 D sc hl (h f), m, D.bn⟩
theorem mth2 {R1 : Rf α} {R2 : Rf β} {pre : α → β → Prop} {S : Rf ρ} {g : α → β → ρ} (D : Dmt K C nm qual st ps) (sc : FnScope N ps (defScope st)) (hl : ps.length = 2)
    (h : ∀ f cdv A outer s H E v1 v2 a b V, Room k (bodyI P w K mg base N qual st f cdv A outer s H E).A → R1 a v1 V → R2 b v2 V → pre a b → Go (bodyI P w K mg base N qual st f cdv A outer s H E) (defBody st) (start N [v1, v2]) V H0 (RetP S (g a b))) : Mth P w K mg base C nm (k + 1) (sp2 R1 R2 pre S g) := by
  obtain ⟨f, fd, D, m⟩ := D.ex
  exact ⟨f, fd, ps, fnm2 D sc hl (h f), m, D.bn⟩
theorem mth3 {R1 : Rf α} {R2 : Rf β} {R3 : Rf γ} {pre : α → β → γ → Prop} {S : Rf ρ} {g : α → β → γ → ρ} (D : Dmt K C nm qual st ps) (sc : FnScope N ps (defScope st)) (hl : ps.length = 3)
    (h : ∀ f cdv A outer s H E v1 v2 v3 a b c V, Room k (bodyI P w K mg base N qual st f cdv A outer s H E).A → R1 a v1 V → R2 b v2 V → R3 c v3 V → pre a b c → Go (bodyI P w K mg base N qual st f cdv A outer s H E) (defBody st) (start N [v1, v2, v3]) V H0 (RetP S (g a b c))) : Mth P w K mg base C nm (k + 1) (sp3 R1 R2 R3 pre S g) := by
  obtain ⟨f, fd, D, m⟩ := D.ex
  exact ⟨f, fd, ps, fnm3 D sc hl (h f), m, D.bn⟩
theorem prp1 {R1 : Rf α} {pre : α → Prop} {S : Rf ρ} {g : α → ρ} (D : Dpr K C nm qual st ps) (sc : FnScope N ps (defScope st)) (hl : ps.length = 1)
    (h : ∀ f cdv A outer s H E v1 a V, Room k (bodyI P w K mg base N qual st f cdv A outer s H E).A → R1 a v1 V → pre a → Go (bodyI P w K mg base N qual st f cdv A outer s H E) (defBody st) (start N [v1]) V H0 (RetP S (g a))) : Prp P w K mg base C nm (k + 1) (sp1 R1 pre S g) := by
  obtain ⟨p, f, fd, D, m⟩ := D.ex
  exact ⟨p, f, fd, ps, fnm1 D sc hl (h f), m, D.bn⟩
theorem mkr2 {R1 : Rf α} {R2 : Rf β} {pre : α → β → Prop} {S : Rf ρ} {g : α → β → ρ} (D : Dmk K C nm qual st ps) (sc : FnScope N ps (defScope st)) (hl : ps.length = 3)
    (h : ∀ f cdv A outer s H E x dx v1 v2 a b V, Room k (bodyI P w K mg base N qual st f cdv A outer s H E).A → V x = none → R1 a v1 V → R2 b v2 V → pre a b →
      Go (bodyI P w K mg base N qual st f cdv A outer s H E) (defBody st) (start N [.ref x, v1, v2]) V (upd H0 x (.ins C dx [])) (IniP S (g a b) x)) : Mkr P w K mg base C (k + 1) (spI2 C R1 R2 pre S g) := by
  obtain ⟨f, fd, D, m⟩ := D.ex
  exact ⟨f, fd, ps, m, ini2 D sc hl (h f), D.bn⟩
/-- an __iter__ whose body hands back iter(self.fld) -/
theorem itr_of {R : Rf α} {dd : α → Vl → Hp → Addr → Obj → Nat → Prop} {x fld : Str} (D : Dmt K C "__iter__" qual st [x]) (sc : FnScope N [x] (defScope st)) (hN : N[0]? = some x) (mi : mg "iter" = none) (c : Cls K C) (na : NoAttr K C fld)
    {p1 p2 p3 p4 p5 : Pos} (hb : defBody st = [.Return (some (.Call (.Name "iter" p1) [.Attribute (.Name x p2) fld p3] [] p4)) p5]) (hvis : ∀ f cdv A outer s H E, Vis (bodyI P w K mg base N qual st f cdv A outer s H E).env.scope x) (hgl : ∀ f cdv A outer s H E, Gl (bodyI P w K mg base N qual st f cdv A outer s H E) "iter")
    (hx : (x == ("__debug__" : Str)) = false) (hx2 : (x == ("__classdict__" : Str)) = false) (hst : (start N [L2.V.non])[0]? = some (some .non))
    (hdd : ∀ a v H d od n, R a v H → dd a v H d od n → ∃ p dx fs, v = .ref p ∧ H p = some (.ins C dx fs) ∧ fs.lookup fld = some (.ref d)) : Itr_ P w K mg base C (k + 1) R dd := by
  obtain ⟨f, fd, D, m⟩ := D.ex
  refine ⟨f, fd, x, runS (N := N) D.F sc fun cdv A outer s H vs Q hr ⟨v, d, od, n, a, V, ev, l, ra, hd, hL, q⟩ => ?_, m, D.bn⟩
  obtain ⟨p, dx, fs, e1, e2, e3⟩ := hdd a v V d od n ra hd
  subst ev
  rw [hb]
  refine ⟨_, PSs.nox (pss_cons (ps_ret (pe_callB (X := bodyI P w K mg base N qual st f cdv A outer s H E0) call_iterD (hgl f cdv A outer s H E0) mi PyProof.Rows.boot_iter (pa_cons (pe_fld (pe_var (i := 0) hN (hvis f cdv A outer s H E0) hx hx2) (by rfl)) pa_nil (by rfl)) (by decide) (by decide) (by rfl) (by rfl))) pss_nil), ?_⟩
  have sl : (start N [v])[0]? = some (some v) := by
    unfold L2.start at hst ⊢
    simpa using hst
  refine ⟨v, sl, p, C, dx, fs, .ref d, e1, l.at e2, c, na, e3, d, od, n, rfl, l.lock hL, fun b hb hs => q H b (Same.refl _) l hb hs⟩
end
end Om
set_option maxHeartbeats 4000000
/-! Om: what the walks need of the head (printed by gen_fx.py). -/
namespace Om
open PySem PySem.Spec PyProof.Rows L2
/-- a constant of the module that is flat -/
def Cst (mg : Str → Option Value) (x : Str) (v : Vl) : Prop := ∃ u, mg x = some u ∧ RelV v u
/-- a written tuple of the module -/
def CstT (K : PySem.W.Frag) (mg : Str → Option Value) (x : Str) (vs : List Vl) : Prop := ∃ p, mg x = some (.ref p) ∧ ∀ H, SqT K H p vs
/-- Rule(crowd, turn = .., ..): __init__ by keywords -/
structure DmkR (K : PySem.W.Frag) (C : Addr) : Prop where
  ex : ∃ f fd g gV, FunD K "__init__" "Rule.__init__" (defArgs s_Rule_init) (defBody s_Rule_init) (defScope s_Rule_init) [] [("turn", .str "plain"), ("reads", .non), ("gather", .str "sum"), ("trim", .int 0), ("lists", .non), ("prizes", .int 0)] f fd ∧ Mk K C f ∧
    KBn K fd ["self", "crowd", "turn", "reads", "gather", "trim", "lists", "prizes"] 2 ["turn", "reads", "gather", "trim", "lists", "prizes"] g gV ∧ ∀ vs zs, vs.length = 2 → zs.length = 6 → gV vs zs = vs ++ zs
structure Fx (K : PySem.W.Frag) (mg : Str → Option Value) (cC cR cS : Addr) : Prop where
  d_is_count : Dfn K mg "is_count" s_is_count ["value", "least", "most"]
  d_is_one_of : Dfn K mg "is_one_of" s_is_one_of ["value", "texts"]
  d_common_part : Dfn K mg "common_part" s_common_part ["one", "other"]
  d_fraction : Dfn K mg "fraction" s_fraction ["top", "bottom"]
  d_plus : Dfn K mg "plus" s_plus ["one", "other"]
  d_over : Dfn K mg "over" s_over ["one", "number"]
  d_is_less : Dfn K mg "is_less" s_is_less ["one", "other"]
  d_total : Dfn K mg "total" s_total ["some"]
  d_in_order : Dfn K mg "in_order" s_in_order ["some"]
  d_is_word : Dfn K mg "is_word" s_is_word ["value"]
  d_are_people : Dfn K mg "are_people" s_are_people ["value"]
  g_cC : mg "Crowd" = some (.ref cC)
  c_cC : Cls K cC
  t_cC : ∀ {H : Hp} {a dx : Addr} {fs : List (Str × Vl)}, H a = some (.ins cC dx fs) → TyX K H (.ref a) (.ref cC)
  n_cC_own_places : NoAttr K cC "own_places"
  n_cC_most : NoAttr K cC "most"
  k_cC : PySem.W.kitOne K (.ref cC) (.ref cC) = some true
  d_Crowd_init : Dmk K cC "__init__" "Crowd.__init__" s_Crowd_init ["self", "people", "most"]
  d_Crowd_people : Dpr K cC "people" "Crowd.people" s_Crowd_people ["self"]
  d_Crowd_len : Dmt K cC "__len__" "Crowd.__len__" s_Crowd_len ["self"]
  d_Crowd_contains : Dmt K cC "__contains__" "Crowd.__contains__" s_Crowd_contains ["self", "person"]
  d_Crowd_iter : Dmt K cC "__iter__" "Crowd.__iter__" s_Crowd_iter ["self"]
  d_Crowd_place : Dmt K cC "place" "Crowd.place" s_Crowd_place ["self", "person"]
  d_Crowd_pairs : Dmt K cC "pairs" "Crowd.pairs" s_Crowd_pairs ["self"]
  d_Crowd_is_pair : Dmt K cC "is_pair" "Crowd.is_pair" s_Crowd_is_pair ["self", "value"]
  d_check_crowd : Dfn K mg "check_crowd" s_check_crowd ["value"]
  d_are_reads : Dfn K mg "are_reads" s_are_reads ["crowd", "value"]
  d_are_lists : Dfn K mg "are_lists" s_are_lists ["crowd", "value"]
  g_cR : mg "Rule" = some (.ref cR)
  c_cR : Cls K cR
  t_cR : ∀ {H : Hp} {a dx : Addr} {fs : List (Str × Vl)}, H a = some (.ins cR dx fs) → TyX K H (.ref a) (.ref cR)
  n_cR_crowd : NoAttr K cR "crowd"
  n_cR_turn : NoAttr K cR "turn"
  n_cR_gather : NoAttr K cR "gather"
  n_cR_trim : NoAttr K cR "trim"
  n_cR_read_pairs : NoAttr K cR "read_pairs"
  n_cR_list_rows : NoAttr K cR "list_rows"
  n_cR_prizes : NoAttr K cR "prizes"
  k_cR : PySem.W.kitOne K (.ref cR) (.ref cR) = some true
  d_Rule_init : DmkR K cR
  d_Rule_iter : Dmt K cR "__iter__" "Rule.__iter__" s_Rule_iter ["self"]
  d_Rule_has_readers : Dmt K cR "has_readers" "Rule.has_readers" s_Rule_has_readers ["self", "person"]
  d_Rule_readers : Dmt K cR "readers" "Rule.readers" s_Rule_readers ["self", "person"]
  d_Rule_list_of : Dmt K cR "list_of" "Rule.list_of" s_Rule_list_of ["self", "person"]
  d_lists_in_order : Dfn K mg "lists_in_order" s_lists_in_order ["crowd", "lists"]
  d_first_of : Dfn K mg "first_of" s_first_of ["crowd", "people"]
  d_check_rule : Dfn K mg "check_rule" s_check_rule ["value"]
  d_check_person : Dfn K mg "check_person" s_check_person ["rule", "person"]
  d_middle : Dfn K mg "middle" s_middle ["marks"]
  d_trimmed : Dfn K mg "trimmed" s_trimmed ["marks", "trim"]
  d_gathered : Dfn K mg "gathered" s_gathered ["gather", "trim", "told"]
  d_own_reads : Dfn K mg "own_reads" s_own_reads ["rule", "person"]
  d_check_plain : Dfn K mg "check_plain" s_check_plain ["rule"]
  d_bunches : Dfn K mg "bunches" s_bunches ["size", "most"]
  d_score_of_marks : Dfn K mg "score_of_marks" s_score_of_marks ["rule", "marks"]
  d_bunch_scores : Dfn K mg "bunch_scores" s_bunch_scores ["rule", "size"]
  d_spans : Dfn K mg "spans" s_spans ["rule", "size"]
  d_decides : Dfn K mg "decides" s_decides ["span", "worth", "is_earlier"]
  g_cS : mg "Swings" = some (.ref cS)
  c_cS : Cls K cS
  t_cS : ∀ {H : Hp} {a dx : Addr} {fs : List (Str × Vl)}, H a = some (.ins cS dx fs) → TyX K H (.ref a) (.ref cS)
  n_cS_own_rule : NoAttr K cS "own_rule"
  n_cS_person : NoAttr K cS "person"
  n_cS_firsts : NoAttr K cS "firsts"
  n_cS_worths : NoAttr K cS "worths"
  n_cS_members : NoAttr K cS "members"
  n_cS_span_of : NoAttr K cS "span_of"
  k_cS : PySem.W.kitOne K (.ref cS) (.ref cS) = some true
  d_Swings_init : Dmk K cS "__init__" "Swings.__init__" s_Swings_init ["self", "rule", "person"]
  d_Swings_is_earlier : Dmt K cS "is_earlier" "Swings.is_earlier" s_Swings_is_earlier ["self", "member"]
  d_Swings_marks_at : Dmt K cS "marks_at" "Swings.marks_at" s_Swings_marks_at ["self", "worth", "member"]
  d_Swings_decided_at : Dmt K cS "decided_at" "Swings.decided_at" s_Swings_decided_at ["self", "worth"]
  d_Swings_best : Dmt K cS "best" "Swings.best" s_Swings_best ["self"]
  d_Swings_lift : Dmt K cS "lift" "Swings.lift" s_Swings_lift ["self"]
  d_lift : Dfn K mg "lift" s_lift ["rule", "person"]
  d_lifts : Dfn K mg "lifts" s_lifts ["rule"]
  d_W_opened : Dfn K mg "_law_opened" s_W_opened ["_law_script", "_law_k"]
  d_W_draw : Dfn K mg "_law_draw" s_W_draw ["_law_pool", "_law_many"]
  d_W_pick : Dfn K mg "_law_pick" s_W_pick ["_law_pool", "_law_some"]
  d_W_people : Dfn K mg "_law_people" s_W_people ["_law_pool", "_law_many"]
  d_W_pairs : Dfn K mg "_law_pairs" s_W_pairs ["_law_people_here"]
  d_W_parted : Dfn K mg "_law_parted" s_W_parted ["_law_pool", "_law_people_here"]
  d_W_unlike : Dfn K mg "_law_unlike" s_W_unlike ["_law_some"]
  d_W_readers : Dfn K mg "_law_readers" s_W_readers ["_law_plan_here", "_law_person"]
  d_W_list : Dfn K mg "_law_list" s_W_list ["_law_plan_here", "_law_person"]
  d_W_plan : Dfn K mg "_law_plan" s_W_plan ["_law_pool", "_law_least", "_law_many", "_law_top", "_law_menu"]
  d_W_made : Dfn K mg "_law_made" s_W_made ["_law_plan_here"]
  d_W_sheet : Dfn K mg "_law_sheet" s_W_sheet ["_law_pool", "_law_plan_here", "_law_rarely"]
  d_W_ratio : Dfn K mg "_law_ratio" s_W_ratio ["_law_top", "_law_bottom"]
  d_W_add : Dfn K mg "_law_add" s_W_add ["_law_one", "_law_other"]
  d_W_less : Dfn K mg "_law_less" s_W_less ["_law_one", "_law_other"]
  d_W_by_worth : Dfn K mg "_law_by_worth" s_W_by_worth ["_law_some"]
  d_W_turned : Dfn K mg "_law_turned" s_W_turned ["_law_way", "_law_marks"]
  d_W_gathered : Dfn K mg "_law_gathered" s_W_gathered ["_law_plan_here", "_law_told"]
  d_W_rows : Dfn K mg "_law_rows" s_W_rows ["_law_plan_here", "_law_sheet_here"]
  d_W_scored : Dfn K mg "_law_scored" s_W_scored ["_law_plan_here", "_law_sheet_here"]
  d_W_passes : Dfn K mg "_law_passes" s_W_passes ["_law_plan_here", "_law_known", "_law_one", "_law_other"]
  d_W_rank : Dfn K mg "_law_rank" s_W_rank ["_law_plan_here", "_law_known", "_law_person"]
  d_W_own : Dfn K mg "_law_own" s_W_own ["_law_plan_here", "_law_person"]
  d_W_bunches : Dfn K mg "_law_bunches" s_W_bunches ["_law_many", "_law_most"]
  d_W_marks_score : Dfn K mg "_law_marks_score" s_W_marks_score ["_law_plan_here", "_law_marks"]
  d_W_worths : Dfn K mg "_law_worths" s_W_worths ["_law_plan_here", "_law_person"]
  d_W_decides : Dfn K mg "_law_decides" s_W_decides ["_law_plan_here", "_law_person", "_law_other", "_law_worth"]
  d_W_decided : Dfn K mg "_law_decided" s_W_decided ["_law_plan_here", "_law_person", "_law_worth"]
  d_W_lift : Dfn K mg "_law_lift" s_W_lift ["_law_plan_here", "_law_person"]
  d_W_with_row : Dfn K mg "_law_with_row" s_W_with_row ["_law_plan_here", "_law_sheet_here", "_law_person", "_law_row"]
  d_law : Dfn K mg "law" s_law ["_law_script"]
  m_isinstance : mg "isinstance" = none
  m_int : mg "int" = none
  m_bool : mg "bool" = none
  m_str : mg "str" = none
  m_list : mg "list" = none
  m_tuple : mg "tuple" = none
  m_len : mg "len" = none
  m_all : mg "all" = none
  m_sum : mg "sum" = none
  m_min : mg "min" = none
  m_max : mg "max" = none
  m_sorted : mg "sorted" = none
  m_range : mg "range" = none
  m_enumerate : mg "enumerate" = none
  m_iter : mg "iter" = none
  m_zip : mg "zip" = none
  m_dict : mg "dict" = none
  v_MOST_PEOPLE : Cst mg "MOST_PEOPLE" (.int 8)
  v_MOST_MARK : Cst mg "MOST_MARK" (.int 10)
  v_MOST_SIGNS : Cst mg "MOST_SIGNS" (.int 8)
  v_MOST_TRIM : Cst mg "MOST_TRIM" (.int 3)
  v_MOST_PRIZES : Cst mg "MOST_PRIZES" (.int 8)
  v_LETTERS : Cst mg "LETTERS" (.str "abcdefghijklmnopqrstuvwxyz")
  v_TURNS : CstT K mg "TURNS" [.str "plain", .str "centred", .str "placed"]
  v_GATHERS : CstT K mg "GATHERS" [.str "sum", .str "mean", .str "median", .str "trim", .str "least", .str "greatest"]
  v_TURNED_GATHERS : CstT K mg "TURNED_GATHERS" [.str "sum", .str "mean"]
  v_NOUGHT : CstT K mg "NOUGHT" [.int 0, .int 1]
end Om
set_option maxHeartbeats 0
/-! Om: the head, its run and its facts (printed by gen_hd.py). -/
namespace Om
open PySem PySem.Spec PyProof.Rows L2
def nms0 : List Str := ["_wall", "MarksError", "BadCrowd", "BadRule", "BadArgument", "NotThere", "NOUGHT", "is_count", "is_one_of", "common_part", "fraction", "plus", "over", "is_less", "total", "in_order", "MOST_PEOPLE", "MOST_MARK", "MOST_SIGNS", "LETTERS", "is_word", "are_people", "Crowd", "check_crowd", "TURNS", "GATHERS", "TURNED_GATHERS", "MOST_TRIM", "MOST_PRIZES", "are_reads"]
def nms1 : List Str := ["are_lists", "Rule", "lists_in_order", "first_of", "with_reads", "check_other", "reading_either", "reading_both", "check_rule", "check_person", "middle", "trimmed", "gathered", "own_reads", "check_plain", "bunches", "score_of_marks", "bunch_scores", "spans", "decides", "Swings", "lift", "lifts", "_law_opened", "_law_draw", "_law_pick", "_law_people", "_law_pairs", "_law_parted", "_law_unlike"]
def nms2 : List Str := ["_law_readers", "_law_list", "_law_plan", "_law_made", "_law_sheet", "_law_ratio", "_law_add", "_law_less", "_law_by_worth", "_law_turned", "_law_gathered", "_law_rows", "_law_scored", "_law_passes", "_law_rank", "_law_own", "_law_bunches", "_law_marks_score", "_law_worths", "_law_decides", "_law_decided", "_law_lift", "_law_with_row"]
def nms : List Str := nms0 ++ nms1 ++ nms2
abbrev Rw : PySem.W.OpenRow := PySem.W.OpenLaw.row PySem.Challenge.rw_ownmarks_k22_whole_lifts_by_scores
abbrev Vw : Program := PySem.W.view Rw.prog [91]
def hFa0 : List He.Fa := [.glo "is_count",
  .glo "is_one_of",
  .glo "common_part",
  .glo "fraction",
  .glo "plus",
  .glo "over",
  .glo "is_less",
  .glo "total",
  .glo "in_order",
  .glo "is_word",
  .glo "are_people",
  .glo "Crowd",
  .cls "Crowd",
  .noat "Crowd" "own_places",
  .noat "Crowd" "most",
  .mkr "Crowd",
  .meth "Crowd" "__len__",
  .meth "Crowd" "__contains__",
  .meth "Crowd" "__iter__",
  .meth "Crowd" "place"]
def hFa1 : List He.Fa := [.meth "Crowd" "pairs",
  .meth "Crowd" "is_pair",
  .glo "check_crowd",
  .glo "are_reads",
  .glo "are_lists",
  .glo "Rule",
  .cls "Rule",
  .noat "Rule" "crowd",
  .noat "Rule" "turn",
  .noat "Rule" "gather",
  .noat "Rule" "trim",
  .noat "Rule" "read_pairs",
  .noat "Rule" "list_rows",
  .noat "Rule" "prizes",
  .mkr "Rule",
  .meth "Rule" "__iter__",
  .meth "Rule" "has_readers",
  .meth "Rule" "readers",
  .meth "Rule" "list_of",
  .glo "lists_in_order"]
def hFa2 : List He.Fa := [.glo "first_of",
  .glo "check_rule",
  .glo "check_person",
  .glo "middle",
  .glo "trimmed",
  .glo "gathered",
  .glo "own_reads",
  .glo "check_plain",
  .glo "bunches",
  .glo "score_of_marks",
  .glo "bunch_scores",
  .glo "spans",
  .glo "decides",
  .glo "Swings",
  .cls "Swings",
  .noat "Swings" "own_rule",
  .noat "Swings" "person",
  .noat "Swings" "firsts",
  .noat "Swings" "worths",
  .noat "Swings" "members"]
def hFa3 : List He.Fa := [.noat "Swings" "span_of",
  .mkr "Swings",
  .meth "Swings" "is_earlier",
  .meth "Swings" "marks_at",
  .meth "Swings" "decided_at",
  .meth "Swings" "best",
  .meth "Swings" "lift",
  .glo "lift",
  .glo "lifts",
  .glo "_law_opened",
  .glo "_law_draw",
  .glo "_law_pick",
  .glo "_law_people",
  .glo "_law_pairs",
  .glo "_law_parted",
  .glo "_law_unlike",
  .glo "_law_readers",
  .glo "_law_list",
  .glo "_law_plan",
  .glo "_law_made"]
def hFa4 : List He.Fa := [.glo "_law_sheet",
  .glo "_law_ratio",
  .glo "_law_add",
  .glo "_law_less",
  .glo "_law_by_worth",
  .glo "_law_turned",
  .glo "_law_gathered",
  .glo "_law_rows",
  .glo "_law_scored",
  .glo "_law_passes",
  .glo "_law_rank",
  .glo "_law_own",
  .glo "_law_bunches",
  .glo "_law_marks_score",
  .glo "_law_worths",
  .glo "_law_decides",
  .glo "_law_decided",
  .glo "_law_lift",
  .glo "_law_with_row",
  .glo "law"]
def hFa5 : List He.Fa := [.free "isinstance",
  .free "int",
  .free "bool",
  .free "str",
  .free "list",
  .free "tuple",
  .free "len",
  .free "all",
  .free "sum",
  .free "min",
  .free "max",
  .free "sorted",
  .free "range",
  .free "enumerate",
  .free "iter",
  .free "zip",
  .free "dict",
  .int "MOST_PEOPLE" 8,
  .int "MOST_MARK" 10,
  .int "MOST_SIGNS" 8]
def hFa6 : List He.Fa := [.int "MOST_TRIM" 3,
  .int "MOST_PRIZES" 8,
  .str "LETTERS" "abcdefghijklmnopqrstuvwxyz",
  .glo "TURNS",
  .glo "GATHERS",
  .glo "TURNED_GATHERS",
  .glo "NOUGHT"]
def hFa : List He.Fa := hFa0 ++ (hFa1 ++ (hFa2 ++ (hFa3 ++ (hFa4 ++ (hFa5 ++ (hFa6))))))
def hFn0 : List He.DefD := [⟨("is_count", none), "is_count", "is_count", defArgs s_is_count, defBody s_is_count, defScope s_is_count, [], []⟩,
  ⟨("is_one_of", none), "is_one_of", "is_one_of", defArgs s_is_one_of, defBody s_is_one_of, defScope s_is_one_of, [], []⟩,
  ⟨("common_part", none), "common_part", "common_part", defArgs s_common_part, defBody s_common_part, defScope s_common_part, [], []⟩,
  ⟨("fraction", none), "fraction", "fraction", defArgs s_fraction, defBody s_fraction, defScope s_fraction, [], []⟩,
  ⟨("plus", none), "plus", "plus", defArgs s_plus, defBody s_plus, defScope s_plus, [], []⟩,
  ⟨("over", none), "over", "over", defArgs s_over, defBody s_over, defScope s_over, [], []⟩,
  ⟨("is_less", none), "is_less", "is_less", defArgs s_is_less, defBody s_is_less, defScope s_is_less, [], []⟩,
  ⟨("total", none), "total", "total", defArgs s_total, defBody s_total, defScope s_total, [], []⟩,
  ⟨("in_order", none), "in_order", "in_order", defArgs s_in_order, defBody s_in_order, defScope s_in_order, [], []⟩,
  ⟨("is_word", none), "is_word", "is_word", defArgs s_is_word, defBody s_is_word, defScope s_is_word, [], []⟩,
  ⟨("are_people", none), "are_people", "are_people", defArgs s_are_people, defBody s_are_people, defScope s_are_people, [], []⟩,
  ⟨("Crowd", some "__init__"), "__init__", "Crowd.__init__", defArgs s_Crowd_init, defBody s_Crowd_init, defScope s_Crowd_init, [], []⟩,
  ⟨("Crowd", some "__len__"), "__len__", "Crowd.__len__", defArgs s_Crowd_len, defBody s_Crowd_len, defScope s_Crowd_len, [], []⟩,
  ⟨("Crowd", some "__contains__"), "__contains__", "Crowd.__contains__", defArgs s_Crowd_contains, defBody s_Crowd_contains, defScope s_Crowd_contains, [], []⟩,
  ⟨("Crowd", some "__iter__"), "__iter__", "Crowd.__iter__", defArgs s_Crowd_iter, defBody s_Crowd_iter, defScope s_Crowd_iter, [], []⟩]
def hFn1 : List He.DefD := [⟨("Crowd", some "place"), "place", "Crowd.place", defArgs s_Crowd_place, defBody s_Crowd_place, defScope s_Crowd_place, [], []⟩,
  ⟨("Crowd", some "pairs"), "pairs", "Crowd.pairs", defArgs s_Crowd_pairs, defBody s_Crowd_pairs, defScope s_Crowd_pairs, [], []⟩,
  ⟨("Crowd", some "is_pair"), "is_pair", "Crowd.is_pair", defArgs s_Crowd_is_pair, defBody s_Crowd_is_pair, defScope s_Crowd_is_pair, [], []⟩,
  ⟨("check_crowd", none), "check_crowd", "check_crowd", defArgs s_check_crowd, defBody s_check_crowd, defScope s_check_crowd, [], []⟩,
  ⟨("are_reads", none), "are_reads", "are_reads", defArgs s_are_reads, defBody s_are_reads, defScope s_are_reads, [], []⟩,
  ⟨("are_lists", none), "are_lists", "are_lists", defArgs s_are_lists, defBody s_are_lists, defScope s_are_lists, [], []⟩,
  ⟨("Rule", some "__init__"), "__init__", "Rule.__init__", defArgs s_Rule_init, defBody s_Rule_init, defScope s_Rule_init, [], [("turn", .str "plain"), ("reads", .non), ("gather", .str "sum"), ("trim", .int 0), ("lists", .non), ("prizes", .int 0)]⟩,
  ⟨("Rule", some "__iter__"), "__iter__", "Rule.__iter__", defArgs s_Rule_iter, defBody s_Rule_iter, defScope s_Rule_iter, [], []⟩,
  ⟨("Rule", some "has_readers"), "has_readers", "Rule.has_readers", defArgs s_Rule_has_readers, defBody s_Rule_has_readers, defScope s_Rule_has_readers, [], []⟩,
  ⟨("Rule", some "readers"), "readers", "Rule.readers", defArgs s_Rule_readers, defBody s_Rule_readers, defScope s_Rule_readers, [], []⟩,
  ⟨("Rule", some "list_of"), "list_of", "Rule.list_of", defArgs s_Rule_list_of, defBody s_Rule_list_of, defScope s_Rule_list_of, [], []⟩,
  ⟨("lists_in_order", none), "lists_in_order", "lists_in_order", defArgs s_lists_in_order, defBody s_lists_in_order, defScope s_lists_in_order, [], []⟩,
  ⟨("first_of", none), "first_of", "first_of", defArgs s_first_of, defBody s_first_of, defScope s_first_of, [], []⟩,
  ⟨("check_rule", none), "check_rule", "check_rule", defArgs s_check_rule, defBody s_check_rule, defScope s_check_rule, [], []⟩,
  ⟨("check_person", none), "check_person", "check_person", defArgs s_check_person, defBody s_check_person, defScope s_check_person, [], []⟩]
def hFn2 : List He.DefD := [⟨("middle", none), "middle", "middle", defArgs s_middle, defBody s_middle, defScope s_middle, [], []⟩,
  ⟨("trimmed", none), "trimmed", "trimmed", defArgs s_trimmed, defBody s_trimmed, defScope s_trimmed, [], []⟩,
  ⟨("gathered", none), "gathered", "gathered", defArgs s_gathered, defBody s_gathered, defScope s_gathered, [], []⟩,
  ⟨("own_reads", none), "own_reads", "own_reads", defArgs s_own_reads, defBody s_own_reads, defScope s_own_reads, [], []⟩,
  ⟨("check_plain", none), "check_plain", "check_plain", defArgs s_check_plain, defBody s_check_plain, defScope s_check_plain, [], []⟩,
  ⟨("bunches", none), "bunches", "bunches", defArgs s_bunches, defBody s_bunches, defScope s_bunches, [], []⟩,
  ⟨("score_of_marks", none), "score_of_marks", "score_of_marks", defArgs s_score_of_marks, defBody s_score_of_marks, defScope s_score_of_marks, [], []⟩,
  ⟨("bunch_scores", none), "bunch_scores", "bunch_scores", defArgs s_bunch_scores, defBody s_bunch_scores, defScope s_bunch_scores, [], []⟩,
  ⟨("spans", none), "spans", "spans", defArgs s_spans, defBody s_spans, defScope s_spans, [], []⟩,
  ⟨("decides", none), "decides", "decides", defArgs s_decides, defBody s_decides, defScope s_decides, [], []⟩,
  ⟨("Swings", some "__init__"), "__init__", "Swings.__init__", defArgs s_Swings_init, defBody s_Swings_init, defScope s_Swings_init, [], []⟩,
  ⟨("Swings", some "is_earlier"), "is_earlier", "Swings.is_earlier", defArgs s_Swings_is_earlier, defBody s_Swings_is_earlier, defScope s_Swings_is_earlier, [], []⟩,
  ⟨("Swings", some "marks_at"), "marks_at", "Swings.marks_at", defArgs s_Swings_marks_at, defBody s_Swings_marks_at, defScope s_Swings_marks_at, [], []⟩,
  ⟨("Swings", some "decided_at"), "decided_at", "Swings.decided_at", defArgs s_Swings_decided_at, defBody s_Swings_decided_at, defScope s_Swings_decided_at, [], []⟩,
  ⟨("Swings", some "best"), "best", "Swings.best", defArgs s_Swings_best, defBody s_Swings_best, defScope s_Swings_best, [], []⟩]
def hFn3 : List He.DefD := [⟨("Swings", some "lift"), "lift", "Swings.lift", defArgs s_Swings_lift, defBody s_Swings_lift, defScope s_Swings_lift, [], []⟩,
  ⟨("lift", none), "lift", "lift", defArgs s_lift, defBody s_lift, defScope s_lift, [], []⟩,
  ⟨("lifts", none), "lifts", "lifts", defArgs s_lifts, defBody s_lifts, defScope s_lifts, [], []⟩,
  ⟨("_law_opened", none), "_law_opened", "_law_opened", defArgs s_W_opened, defBody s_W_opened, defScope s_W_opened, [], []⟩,
  ⟨("_law_draw", none), "_law_draw", "_law_draw", defArgs s_W_draw, defBody s_W_draw, defScope s_W_draw, [], []⟩,
  ⟨("_law_pick", none), "_law_pick", "_law_pick", defArgs s_W_pick, defBody s_W_pick, defScope s_W_pick, [], []⟩,
  ⟨("_law_people", none), "_law_people", "_law_people", defArgs s_W_people, defBody s_W_people, defScope s_W_people, [], []⟩,
  ⟨("_law_pairs", none), "_law_pairs", "_law_pairs", defArgs s_W_pairs, defBody s_W_pairs, defScope s_W_pairs, [], []⟩,
  ⟨("_law_parted", none), "_law_parted", "_law_parted", defArgs s_W_parted, defBody s_W_parted, defScope s_W_parted, [], []⟩,
  ⟨("_law_unlike", none), "_law_unlike", "_law_unlike", defArgs s_W_unlike, defBody s_W_unlike, defScope s_W_unlike, [], []⟩,
  ⟨("_law_readers", none), "_law_readers", "_law_readers", defArgs s_W_readers, defBody s_W_readers, defScope s_W_readers, [], []⟩,
  ⟨("_law_list", none), "_law_list", "_law_list", defArgs s_W_list, defBody s_W_list, defScope s_W_list, [], []⟩,
  ⟨("_law_plan", none), "_law_plan", "_law_plan", defArgs s_W_plan, defBody s_W_plan, defScope s_W_plan, [], []⟩,
  ⟨("_law_made", none), "_law_made", "_law_made", defArgs s_W_made, defBody s_W_made, defScope s_W_made, [], []⟩,
  ⟨("_law_sheet", none), "_law_sheet", "_law_sheet", defArgs s_W_sheet, defBody s_W_sheet, defScope s_W_sheet, [], []⟩]
def hFn4 : List He.DefD := [⟨("_law_ratio", none), "_law_ratio", "_law_ratio", defArgs s_W_ratio, defBody s_W_ratio, defScope s_W_ratio, [], []⟩,
  ⟨("_law_add", none), "_law_add", "_law_add", defArgs s_W_add, defBody s_W_add, defScope s_W_add, [], []⟩,
  ⟨("_law_less", none), "_law_less", "_law_less", defArgs s_W_less, defBody s_W_less, defScope s_W_less, [], []⟩,
  ⟨("_law_by_worth", none), "_law_by_worth", "_law_by_worth", defArgs s_W_by_worth, defBody s_W_by_worth, defScope s_W_by_worth, [], []⟩,
  ⟨("_law_turned", none), "_law_turned", "_law_turned", defArgs s_W_turned, defBody s_W_turned, defScope s_W_turned, [], []⟩,
  ⟨("_law_gathered", none), "_law_gathered", "_law_gathered", defArgs s_W_gathered, defBody s_W_gathered, defScope s_W_gathered, [], []⟩,
  ⟨("_law_rows", none), "_law_rows", "_law_rows", defArgs s_W_rows, defBody s_W_rows, defScope s_W_rows, [], []⟩,
  ⟨("_law_scored", none), "_law_scored", "_law_scored", defArgs s_W_scored, defBody s_W_scored, defScope s_W_scored, [], []⟩,
  ⟨("_law_passes", none), "_law_passes", "_law_passes", defArgs s_W_passes, defBody s_W_passes, defScope s_W_passes, [], []⟩,
  ⟨("_law_rank", none), "_law_rank", "_law_rank", defArgs s_W_rank, defBody s_W_rank, defScope s_W_rank, [], []⟩,
  ⟨("_law_own", none), "_law_own", "_law_own", defArgs s_W_own, defBody s_W_own, defScope s_W_own, [], []⟩,
  ⟨("_law_bunches", none), "_law_bunches", "_law_bunches", defArgs s_W_bunches, defBody s_W_bunches, defScope s_W_bunches, [], []⟩,
  ⟨("_law_marks_score", none), "_law_marks_score", "_law_marks_score", defArgs s_W_marks_score, defBody s_W_marks_score, defScope s_W_marks_score, [], []⟩,
  ⟨("_law_worths", none), "_law_worths", "_law_worths", defArgs s_W_worths, defBody s_W_worths, defScope s_W_worths, [], []⟩,
  ⟨("_law_decides", none), "_law_decides", "_law_decides", defArgs s_W_decides, defBody s_W_decides, defScope s_W_decides, [], []⟩]
def hFn5 : List He.DefD := [⟨("_law_decided", none), "_law_decided", "_law_decided", defArgs s_W_decided, defBody s_W_decided, defScope s_W_decided, [], []⟩,
  ⟨("_law_lift", none), "_law_lift", "_law_lift", defArgs s_W_lift, defBody s_W_lift, defScope s_W_lift, [], []⟩,
  ⟨("_law_with_row", none), "_law_with_row", "_law_with_row", defArgs s_W_with_row, defBody s_W_with_row, defScope s_W_with_row, [], []⟩,
  ⟨("law", none), "law", "law", defArgs s_law, defBody s_law, defScope s_law, [], []⟩]
def hFn : List He.DefD := hFn0 ++ (hFn1 ++ (hFn2 ++ (hFn3 ++ (hFn4 ++ (hFn5)))))
/-- what an instance's type leans on -/
def tyB (K : PySem.W.Frag) (x : Str) : Bool := He.eqO (PySem.W.findIn K (.ref (He.ga K x)) "__class__") (some (some (.builtin "object.__class__"))) && (He.eqO (PySem.W.specialIn K (.builtin "object.__class__") "__get__") (some (some (.builtin "getset_descriptor.__get__"))) &&
  (decide (PySem.W.takesIn K (.builtin "object.__class__") = some true) && decide (PySem.W.mroIn K (He.ga K x) (.type "object") = some true)))
theorem ty_of {K : PySem.W.Frag} {x : Str} (cl : Cls K (He.ga K x)) (h : tyB K x = true) {H : Hp} {a dx : Addr} {fs : List (Str × Vl)} (e : H a = some (.ins (He.ga K x) dx fs)) : TyX K H (.ref a) (.ref (He.ga K x)) := by
  obtain ⟨h1, h⟩ := He.ba h
  obtain ⟨h2, h⟩ := He.ba h
  obtain ⟨h3, h4⟩ := He.ba h
  exact .base (.ins e cl (He.eqO_ok h1) (He.eqO_ok h2) (of_decide_eq_true h3) (of_decide_eq_true h4))
theorem kit_self (K : PySem.W.Frag) (a : Addr) : PySem.W.kitOne K (.ref a) (.ref a) = some true := by
  unfold PySem.W.kitOne
  rw [if_pos (by simp)]
/-- the getter of Crowd.people -/
def pTop (K : PySem.W.Frag) : Addr := He.ma K (He.ga K "Crowd") "people"
def pGet (K : PySem.W.Frag) : Addr := match PySem.W.recIn K (pTop K) "property" with
  | some (.ref g :: _) => g
  | _ => 0
def pFun (K : PySem.W.Frag) : He.FnW := match K.lookup (pGet K) with
  | some ⟨_, _, .func r, _⟩ => some (r.name, r.qualname, r.params, r.body, r.scope, r.globals, r.closure, r.builtins)
  | _ => none
def pVal : He.FnW := some ("people", "Crowd.people", defArgs s_Crowd_people, .stmts (defBody s_Crowd_people), defScope s_Crowd_people, mainGlobals, [], builtinsNs)
def pCode (K : PySem.W.Frag) : Bool := match K.lookup (pGet K) with
  | some ⟨_, _, .func r, _⟩ => PySem.W.codeIn K r.code "Crowd.people" && (He.dflB K r.defaults [] && He.kwdB K r.kwdefaults [])
  | _ => false
def pRec (K : PySem.W.Frag) : Bool := match PySem.W.recIn K (pTop K) "property" with
  | some (.ref g :: _) => decide (g = pGet K)
  | _ => false
def prB (K : PySem.W.Frag) : Bool := He.eqO (PySem.W.findIn K (.ref (He.ga K "Crowd")) "people") (some (some (.ref (pTop K)))) && (He.eqO (PySem.W.specialIn K (.ref (pTop K)) "__get__") (some (some (.builtin "property.__get__"))) &&
  (decide (PySem.W.takesIn K (.ref (pTop K)) = some true) && (pRec K && (PySem.W.keepIn K (.ref (pGet K)) && pCode K))))
def exB (K : PySem.W.Frag) : Bool := tyB K "Crowd" && (tyB K "Rule" && (tyB K "Swings" && (prB K && (He.tupB K "TURNS" [.str "plain", .str "centred", .str "placed"] && (He.tupB K "GATHERS" [.str "sum", .str "mean", .str "median", .str "trim", .str "least", .str "greatest"] && (He.tupB K "TURNED_GATHERS" [.str "sum", .str "mean"] && (He.tupB K "NOUGHT" [.int 0, .int 1])))))))
theorem cst_int {mg : Str → Option Value} {x : Str} {i : Int} (h : ∃ t, mg x = some (.int i t)) : Cst mg x (.int i) := by
  obtain ⟨t, h⟩ := h
  exact ⟨_, h, t, rfl⟩
theorem cst_str {mg : Str → Option Value} {x z : Str} (h : ∃ t, mg x = some (.str z t)) : Cst mg x (.str z) := by
  obtain ⟨t, h⟩ := h
  exact ⟨_, h, t, rfl⟩
theorem rule_of {K : PySem.W.Frag} {C f : Addr} {fd : FuncData} (F : FunD K "__init__" "Rule.__init__" (defArgs s_Rule_init) (defBody s_Rule_init) (defScope s_Rule_init) [] [("turn", .str "plain"), ("reads", .non), ("gather", .str "sum"), ("trim", .int 0), ("lists", .non), ("prizes", .int 0)] f fd) (m : Mk K C f) : DmkR K C := by
  obtain ⟨mv, kb⟩ := F.kbinds0 (ps := ["self", "crowd", "turn", "reads", "gather", "trim", "lists", "prizes"]) 2 ["turn", "reads", "gather", "trim", "lists", "prizes"] [] (fun us _ ws => us ++ ws) (fun z => nomatch z) (fun q hq => nomatch hq) (fun r1 _ r3 => r1.append r3)
    (fun _ _ _ _ _ _ us mv ws h1 h2 h3 => match us, mv, ws, h1, h2, h3 with | [_, _], [], [_, _, _, _, _, _], _, _, _ => rfl)
  exact ⟨f, fd, _, _, F, m, kb, fun vs zs _ _ => rfl⟩
theorem prop_of {K : PySem.W.Frag} (h : prB K = true) (e : pFun K = pVal)
    (hb : ∀ (kV doc pm : Value) (an : Option Addr) (cdv ct : Value) (us : List Value), us.length = (["self"] : List Str).length → bindArgs (PySem.W.fnOf "people" "Crowd.people" (defArgs s_Crowd_people) (defBody s_Crowd_people) (defScope s_Crowd_people) .none kV doc pm an cdv ct) ⟨us, []⟩ = pure ((["self"] : List Str).zip us)) :
    Dpr K (He.ga K "Crowd") "people" "Crowd.people" s_Crowd_people ["self"] := by
  obtain ⟨h1, h⟩ := He.ba h
  obtain ⟨h2, h⟩ := He.ba h
  obtain ⟨h3, h⟩ := He.ba h
  obtain ⟨h4, h⟩ := He.ba h
  obtain ⟨h5, h6⟩ := He.ba h
  have hF : ∃ fd, FunD K "people" "Crowd.people" (defArgs s_Crowd_people) (defBody s_Crowd_people) (defScope s_Crowd_people) [] [] (pGet K) fd := by
    unfold pCode at h6
    unfold pFun at e
    cases q : K.lookup (pGet K) with
    | none =>
      rw [q] at h6
      cases h6
    | some o =>
      obtain ⟨oc, od, dt, osl⟩ := o
      rw [q] at h6 e
      cases dt with
      | func r =>
        obtain ⟨a1, a2, a3, a4, a5, a6, a7, a8, a9, a10, a11, a12, a13, a14, a15⟩ := r
        have e2 : (some (a1, a2, a3, a4, a5, a6, a7, a15) : He.FnW) = pVal := e
        unfold pVal at e2
        simp only [Option.some.injEq, Prod.mk.injEq] at e2
        obtain ⟨i1, i2, i3, i4, i5, i6, i7, i8⟩ := e2
        subst i1 i2 i3 i4 i5 i6 i7 i8
        have c3 : (PySem.W.codeIn K a13 "Crowd.people" && (He.dflB K a8 [] && He.kwdB K a9 [])) = true := h6
        obtain ⟨k1, k2⟩ := He.ba c3
        obtain ⟨k3, k4⟩ := He.ba k2
        exact ⟨_, ⟨oc, od, a8, a9, a10, a11, a12, a13, a14, osl, rfl, q, k1, He.dflB_ok k3, He.kwdB_ok k4⟩, h5⟩
      | _ => cases h6
  obtain ⟨fd, FD⟩ := hF
  refine ⟨pTop K, pGet K, fd, ⟨FD, FD.bindsN hb⟩, He.eqO_ok h1, He.eqO_ok h2, of_decide_eq_true h3, ?_⟩
  unfold pRec at h4
  cases q : PySem.W.recIn K (pTop K) "property" with
  | none =>
    rw [q] at h4
    cases h4
  | some l =>
    rw [q] at h4
    cases l with
    | nil => cases h4
    | cons v r =>
      cases v with
      | ref g =>
        have hg : g = pGet K := of_decide_eq_true h4
        exact ⟨r, by rw [hg]⟩
      | _ => cases h4

theorem fx_of {K : PySem.W.Frag} {h : Heap} {mg : Str → Option Value} (X : K.In h) (G : h.Ns mainGlobals mg) (c : He.SaysD hFa hFn K) (e : exB K = true) (hpf : pFun K = pVal) : Fx K mg (He.ga K "Crowd") (He.ga K "Rule") (He.ga K "Swings") := by
  obtain ⟨hcC, e⟩ := He.ba e
  obtain ⟨hcR, e⟩ := He.ba e
  obtain ⟨hcS, e⟩ := He.ba e
  obtain ⟨hp, e⟩ := He.ba e
  obtain ⟨htTURNS, e⟩ := He.ba e
  obtain ⟨htGATHERS, e⟩ := He.ba e
  obtain ⟨htTURNED_GATHERS, htNOUGHT⟩ := He.ba e
  exact {
    d_is_count := by
      obtain ⟨fd, F⟩ := c.def_ 0 rfl
      exact ⟨_, fd, F, He.glo_ok X G (c.fact 0 rfl), F.bindsN (fun _ _ _ _ _ _ us hl => match us, hl with | [_, _, _], _ => rfl)⟩
    d_is_one_of := by
      obtain ⟨fd, F⟩ := c.def_ 1 rfl
      exact ⟨_, fd, F, He.glo_ok X G (c.fact 1 rfl), F.bindsN (fun _ _ _ _ _ _ us hl => match us, hl with | [_, _], _ => rfl)⟩
    d_common_part := by
      obtain ⟨fd, F⟩ := c.def_ 2 rfl
      exact ⟨_, fd, F, He.glo_ok X G (c.fact 2 rfl), F.bindsN (fun _ _ _ _ _ _ us hl => match us, hl with | [_, _], _ => rfl)⟩
    d_fraction := by
      obtain ⟨fd, F⟩ := c.def_ 3 rfl
      exact ⟨_, fd, F, He.glo_ok X G (c.fact 3 rfl), F.bindsN (fun _ _ _ _ _ _ us hl => match us, hl with | [_, _], _ => rfl)⟩
    d_plus := by
      obtain ⟨fd, F⟩ := c.def_ 4 rfl
      exact ⟨_, fd, F, He.glo_ok X G (c.fact 4 rfl), F.bindsN (fun _ _ _ _ _ _ us hl => match us, hl with | [_, _], _ => rfl)⟩
    d_over := by
      obtain ⟨fd, F⟩ := c.def_ 5 rfl
      exact ⟨_, fd, F, He.glo_ok X G (c.fact 5 rfl), F.bindsN (fun _ _ _ _ _ _ us hl => match us, hl with | [_, _], _ => rfl)⟩
    d_is_less := by
      obtain ⟨fd, F⟩ := c.def_ 6 rfl
      exact ⟨_, fd, F, He.glo_ok X G (c.fact 6 rfl), F.bindsN (fun _ _ _ _ _ _ us hl => match us, hl with | [_, _], _ => rfl)⟩
    d_total := by
      obtain ⟨fd, F⟩ := c.def_ 7 rfl
      exact ⟨_, fd, F, He.glo_ok X G (c.fact 7 rfl), F.bindsN (fun _ _ _ _ _ _ us hl => match us, hl with | [_], _ => rfl)⟩
    d_in_order := by
      obtain ⟨fd, F⟩ := c.def_ 8 rfl
      exact ⟨_, fd, F, He.glo_ok X G (c.fact 8 rfl), F.bindsN (fun _ _ _ _ _ _ us hl => match us, hl with | [_], _ => rfl)⟩
    d_is_word := by
      obtain ⟨fd, F⟩ := c.def_ 9 rfl
      exact ⟨_, fd, F, He.glo_ok X G (c.fact 9 rfl), F.bindsN (fun _ _ _ _ _ _ us hl => match us, hl with | [_], _ => rfl)⟩
    d_are_people := by
      obtain ⟨fd, F⟩ := c.def_ 10 rfl
      exact ⟨_, fd, F, He.glo_ok X G (c.fact 10 rfl), F.bindsN (fun _ _ _ _ _ _ us hl => match us, hl with | [_], _ => rfl)⟩
    g_cC := He.glo_ok X G (c.fact 11 rfl)
    c_cC := He.cls_ok (x := "Crowd") (c.fact 12 rfl)
    t_cC := ty_of (x := "Crowd") (He.cls_ok (c.fact 12 rfl)) hcC
    n_cC_own_places := He.noat_ok (x := "Crowd") (f := "own_places") (c.fact 13 rfl)
    n_cC_most := He.noat_ok (x := "Crowd") (f := "most") (c.fact 14 rfl)
    k_cC := kit_self _ _
    d_Crowd_init := by
      obtain ⟨fd, F⟩ := c.def_ 11 rfl
      exact ⟨_, fd, ⟨F, F.bindsN (fun _ _ _ _ _ _ us hl => match us, hl with | [_, _, _], _ => rfl)⟩, He.mkr_ok (x := "Crowd") (c.fact 15 rfl)⟩
    d_Crowd_people := prop_of hp hpf (fun _ _ _ _ _ _ us hl => match us, hl with | [_], _ => rfl)
    d_Crowd_len := by
      obtain ⟨fd, F⟩ := c.def_ 12 rfl
      exact ⟨_, fd, ⟨F, F.bindsN (fun _ _ _ _ _ _ us hl => match us, hl with | [_], _ => rfl)⟩, He.meth_ok (x := "Crowd") (m := "__len__") (c.fact 16 rfl)⟩
    d_Crowd_contains := by
      obtain ⟨fd, F⟩ := c.def_ 13 rfl
      exact ⟨_, fd, ⟨F, F.bindsN (fun _ _ _ _ _ _ us hl => match us, hl with | [_, _], _ => rfl)⟩, He.meth_ok (x := "Crowd") (m := "__contains__") (c.fact 17 rfl)⟩
    d_Crowd_iter := by
      obtain ⟨fd, F⟩ := c.def_ 14 rfl
      exact ⟨_, fd, ⟨F, F.bindsN (fun _ _ _ _ _ _ us hl => match us, hl with | [_], _ => rfl)⟩, He.meth_ok (x := "Crowd") (m := "__iter__") (c.fact 18 rfl)⟩
    d_Crowd_place := by
      obtain ⟨fd, F⟩ := c.def_ 15 rfl
      exact ⟨_, fd, ⟨F, F.bindsN (fun _ _ _ _ _ _ us hl => match us, hl with | [_, _], _ => rfl)⟩, He.meth_ok (x := "Crowd") (m := "place") (c.fact 19 rfl)⟩
    d_Crowd_pairs := by
      obtain ⟨fd, F⟩ := c.def_ 16 rfl
      exact ⟨_, fd, ⟨F, F.bindsN (fun _ _ _ _ _ _ us hl => match us, hl with | [_], _ => rfl)⟩, He.meth_ok (x := "Crowd") (m := "pairs") (c.fact 20 rfl)⟩
    d_Crowd_is_pair := by
      obtain ⟨fd, F⟩ := c.def_ 17 rfl
      exact ⟨_, fd, ⟨F, F.bindsN (fun _ _ _ _ _ _ us hl => match us, hl with | [_, _], _ => rfl)⟩, He.meth_ok (x := "Crowd") (m := "is_pair") (c.fact 21 rfl)⟩
    d_check_crowd := by
      obtain ⟨fd, F⟩ := c.def_ 18 rfl
      exact ⟨_, fd, F, He.glo_ok X G (c.fact 22 rfl), F.bindsN (fun _ _ _ _ _ _ us hl => match us, hl with | [_], _ => rfl)⟩
    d_are_reads := by
      obtain ⟨fd, F⟩ := c.def_ 19 rfl
      exact ⟨_, fd, F, He.glo_ok X G (c.fact 23 rfl), F.bindsN (fun _ _ _ _ _ _ us hl => match us, hl with | [_, _], _ => rfl)⟩
    d_are_lists := by
      obtain ⟨fd, F⟩ := c.def_ 20 rfl
      exact ⟨_, fd, F, He.glo_ok X G (c.fact 24 rfl), F.bindsN (fun _ _ _ _ _ _ us hl => match us, hl with | [_, _], _ => rfl)⟩
    g_cR := He.glo_ok X G (c.fact 25 rfl)
    c_cR := He.cls_ok (x := "Rule") (c.fact 26 rfl)
    t_cR := ty_of (x := "Rule") (He.cls_ok (c.fact 26 rfl)) hcR
    n_cR_crowd := He.noat_ok (x := "Rule") (f := "crowd") (c.fact 27 rfl)
    n_cR_turn := He.noat_ok (x := "Rule") (f := "turn") (c.fact 28 rfl)
    n_cR_gather := He.noat_ok (x := "Rule") (f := "gather") (c.fact 29 rfl)
    n_cR_trim := He.noat_ok (x := "Rule") (f := "trim") (c.fact 30 rfl)
    n_cR_read_pairs := He.noat_ok (x := "Rule") (f := "read_pairs") (c.fact 31 rfl)
    n_cR_list_rows := He.noat_ok (x := "Rule") (f := "list_rows") (c.fact 32 rfl)
    n_cR_prizes := He.noat_ok (x := "Rule") (f := "prizes") (c.fact 33 rfl)
    k_cR := kit_self _ _
    d_Rule_init := by
      obtain ⟨fd, F⟩ := c.def_ 21 rfl
      exact rule_of F (He.mkr_ok (x := "Rule") (c.fact 34 rfl))
    d_Rule_iter := by
      obtain ⟨fd, F⟩ := c.def_ 22 rfl
      exact ⟨_, fd, ⟨F, F.bindsN (fun _ _ _ _ _ _ us hl => match us, hl with | [_], _ => rfl)⟩, He.meth_ok (x := "Rule") (m := "__iter__") (c.fact 35 rfl)⟩
    d_Rule_has_readers := by
      obtain ⟨fd, F⟩ := c.def_ 23 rfl
      exact ⟨_, fd, ⟨F, F.bindsN (fun _ _ _ _ _ _ us hl => match us, hl with | [_, _], _ => rfl)⟩, He.meth_ok (x := "Rule") (m := "has_readers") (c.fact 36 rfl)⟩
    d_Rule_readers := by
      obtain ⟨fd, F⟩ := c.def_ 24 rfl
      exact ⟨_, fd, ⟨F, F.bindsN (fun _ _ _ _ _ _ us hl => match us, hl with | [_, _], _ => rfl)⟩, He.meth_ok (x := "Rule") (m := "readers") (c.fact 37 rfl)⟩
    d_Rule_list_of := by
      obtain ⟨fd, F⟩ := c.def_ 25 rfl
      exact ⟨_, fd, ⟨F, F.bindsN (fun _ _ _ _ _ _ us hl => match us, hl with | [_, _], _ => rfl)⟩, He.meth_ok (x := "Rule") (m := "list_of") (c.fact 38 rfl)⟩
    d_lists_in_order := by
      obtain ⟨fd, F⟩ := c.def_ 26 rfl
      exact ⟨_, fd, F, He.glo_ok X G (c.fact 39 rfl), F.bindsN (fun _ _ _ _ _ _ us hl => match us, hl with | [_, _], _ => rfl)⟩
    d_first_of := by
      obtain ⟨fd, F⟩ := c.def_ 27 rfl
      exact ⟨_, fd, F, He.glo_ok X G (c.fact 40 rfl), F.bindsN (fun _ _ _ _ _ _ us hl => match us, hl with | [_, _], _ => rfl)⟩
    d_check_rule := by
      obtain ⟨fd, F⟩ := c.def_ 28 rfl
      exact ⟨_, fd, F, He.glo_ok X G (c.fact 41 rfl), F.bindsN (fun _ _ _ _ _ _ us hl => match us, hl with | [_], _ => rfl)⟩
    d_check_person := by
      obtain ⟨fd, F⟩ := c.def_ 29 rfl
      exact ⟨_, fd, F, He.glo_ok X G (c.fact 42 rfl), F.bindsN (fun _ _ _ _ _ _ us hl => match us, hl with | [_, _], _ => rfl)⟩
    d_middle := by
      obtain ⟨fd, F⟩ := c.def_ 30 rfl
      exact ⟨_, fd, F, He.glo_ok X G (c.fact 43 rfl), F.bindsN (fun _ _ _ _ _ _ us hl => match us, hl with | [_], _ => rfl)⟩
    d_trimmed := by
      obtain ⟨fd, F⟩ := c.def_ 31 rfl
      exact ⟨_, fd, F, He.glo_ok X G (c.fact 44 rfl), F.bindsN (fun _ _ _ _ _ _ us hl => match us, hl with | [_, _], _ => rfl)⟩
    d_gathered := by
      obtain ⟨fd, F⟩ := c.def_ 32 rfl
      exact ⟨_, fd, F, He.glo_ok X G (c.fact 45 rfl), F.bindsN (fun _ _ _ _ _ _ us hl => match us, hl with | [_, _, _], _ => rfl)⟩
    d_own_reads := by
      obtain ⟨fd, F⟩ := c.def_ 33 rfl
      exact ⟨_, fd, F, He.glo_ok X G (c.fact 46 rfl), F.bindsN (fun _ _ _ _ _ _ us hl => match us, hl with | [_, _], _ => rfl)⟩
    d_check_plain := by
      obtain ⟨fd, F⟩ := c.def_ 34 rfl
      exact ⟨_, fd, F, He.glo_ok X G (c.fact 47 rfl), F.bindsN (fun _ _ _ _ _ _ us hl => match us, hl with | [_], _ => rfl)⟩
    d_bunches := by
      obtain ⟨fd, F⟩ := c.def_ 35 rfl
      exact ⟨_, fd, F, He.glo_ok X G (c.fact 48 rfl), F.bindsN (fun _ _ _ _ _ _ us hl => match us, hl with | [_, _], _ => rfl)⟩
    d_score_of_marks := by
      obtain ⟨fd, F⟩ := c.def_ 36 rfl
      exact ⟨_, fd, F, He.glo_ok X G (c.fact 49 rfl), F.bindsN (fun _ _ _ _ _ _ us hl => match us, hl with | [_, _], _ => rfl)⟩
    d_bunch_scores := by
      obtain ⟨fd, F⟩ := c.def_ 37 rfl
      exact ⟨_, fd, F, He.glo_ok X G (c.fact 50 rfl), F.bindsN (fun _ _ _ _ _ _ us hl => match us, hl with | [_, _], _ => rfl)⟩
    d_spans := by
      obtain ⟨fd, F⟩ := c.def_ 38 rfl
      exact ⟨_, fd, F, He.glo_ok X G (c.fact 51 rfl), F.bindsN (fun _ _ _ _ _ _ us hl => match us, hl with | [_, _], _ => rfl)⟩
    d_decides := by
      obtain ⟨fd, F⟩ := c.def_ 39 rfl
      exact ⟨_, fd, F, He.glo_ok X G (c.fact 52 rfl), F.bindsN (fun _ _ _ _ _ _ us hl => match us, hl with | [_, _, _], _ => rfl)⟩
    g_cS := He.glo_ok X G (c.fact 53 rfl)
    c_cS := He.cls_ok (x := "Swings") (c.fact 54 rfl)
    t_cS := ty_of (x := "Swings") (He.cls_ok (c.fact 54 rfl)) hcS
    n_cS_own_rule := He.noat_ok (x := "Swings") (f := "own_rule") (c.fact 55 rfl)
    n_cS_person := He.noat_ok (x := "Swings") (f := "person") (c.fact 56 rfl)
    n_cS_firsts := He.noat_ok (x := "Swings") (f := "firsts") (c.fact 57 rfl)
    n_cS_worths := He.noat_ok (x := "Swings") (f := "worths") (c.fact 58 rfl)
    n_cS_members := He.noat_ok (x := "Swings") (f := "members") (c.fact 59 rfl)
    n_cS_span_of := He.noat_ok (x := "Swings") (f := "span_of") (c.fact 60 rfl)
    k_cS := kit_self _ _
    d_Swings_init := by
      obtain ⟨fd, F⟩ := c.def_ 40 rfl
      exact ⟨_, fd, ⟨F, F.bindsN (fun _ _ _ _ _ _ us hl => match us, hl with | [_, _, _], _ => rfl)⟩, He.mkr_ok (x := "Swings") (c.fact 61 rfl)⟩
    d_Swings_is_earlier := by
      obtain ⟨fd, F⟩ := c.def_ 41 rfl
      exact ⟨_, fd, ⟨F, F.bindsN (fun _ _ _ _ _ _ us hl => match us, hl with | [_, _], _ => rfl)⟩, He.meth_ok (x := "Swings") (m := "is_earlier") (c.fact 62 rfl)⟩
    d_Swings_marks_at := by
      obtain ⟨fd, F⟩ := c.def_ 42 rfl
      exact ⟨_, fd, ⟨F, F.bindsN (fun _ _ _ _ _ _ us hl => match us, hl with | [_, _, _], _ => rfl)⟩, He.meth_ok (x := "Swings") (m := "marks_at") (c.fact 63 rfl)⟩
    d_Swings_decided_at := by
      obtain ⟨fd, F⟩ := c.def_ 43 rfl
      exact ⟨_, fd, ⟨F, F.bindsN (fun _ _ _ _ _ _ us hl => match us, hl with | [_, _], _ => rfl)⟩, He.meth_ok (x := "Swings") (m := "decided_at") (c.fact 64 rfl)⟩
    d_Swings_best := by
      obtain ⟨fd, F⟩ := c.def_ 44 rfl
      exact ⟨_, fd, ⟨F, F.bindsN (fun _ _ _ _ _ _ us hl => match us, hl with | [_], _ => rfl)⟩, He.meth_ok (x := "Swings") (m := "best") (c.fact 65 rfl)⟩
    d_Swings_lift := by
      obtain ⟨fd, F⟩ := c.def_ 45 rfl
      exact ⟨_, fd, ⟨F, F.bindsN (fun _ _ _ _ _ _ us hl => match us, hl with | [_], _ => rfl)⟩, He.meth_ok (x := "Swings") (m := "lift") (c.fact 66 rfl)⟩
    d_lift := by
      obtain ⟨fd, F⟩ := c.def_ 46 rfl
      exact ⟨_, fd, F, He.glo_ok X G (c.fact 67 rfl), F.bindsN (fun _ _ _ _ _ _ us hl => match us, hl with | [_, _], _ => rfl)⟩
    d_lifts := by
      obtain ⟨fd, F⟩ := c.def_ 47 rfl
      exact ⟨_, fd, F, He.glo_ok X G (c.fact 68 rfl), F.bindsN (fun _ _ _ _ _ _ us hl => match us, hl with | [_], _ => rfl)⟩
    d_W_opened := by
      obtain ⟨fd, F⟩ := c.def_ 48 rfl
      exact ⟨_, fd, F, He.glo_ok X G (c.fact 69 rfl), F.bindsN (fun _ _ _ _ _ _ us hl => match us, hl with | [_, _], _ => rfl)⟩
    d_W_draw := by
      obtain ⟨fd, F⟩ := c.def_ 49 rfl
      exact ⟨_, fd, F, He.glo_ok X G (c.fact 70 rfl), F.bindsN (fun _ _ _ _ _ _ us hl => match us, hl with | [_, _], _ => rfl)⟩
    d_W_pick := by
      obtain ⟨fd, F⟩ := c.def_ 50 rfl
      exact ⟨_, fd, F, He.glo_ok X G (c.fact 71 rfl), F.bindsN (fun _ _ _ _ _ _ us hl => match us, hl with | [_, _], _ => rfl)⟩
    d_W_people := by
      obtain ⟨fd, F⟩ := c.def_ 51 rfl
      exact ⟨_, fd, F, He.glo_ok X G (c.fact 72 rfl), F.bindsN (fun _ _ _ _ _ _ us hl => match us, hl with | [_, _], _ => rfl)⟩
    d_W_pairs := by
      obtain ⟨fd, F⟩ := c.def_ 52 rfl
      exact ⟨_, fd, F, He.glo_ok X G (c.fact 73 rfl), F.bindsN (fun _ _ _ _ _ _ us hl => match us, hl with | [_], _ => rfl)⟩
    d_W_parted := by
      obtain ⟨fd, F⟩ := c.def_ 53 rfl
      exact ⟨_, fd, F, He.glo_ok X G (c.fact 74 rfl), F.bindsN (fun _ _ _ _ _ _ us hl => match us, hl with | [_, _], _ => rfl)⟩
    d_W_unlike := by
      obtain ⟨fd, F⟩ := c.def_ 54 rfl
      exact ⟨_, fd, F, He.glo_ok X G (c.fact 75 rfl), F.bindsN (fun _ _ _ _ _ _ us hl => match us, hl with | [_], _ => rfl)⟩
    d_W_readers := by
      obtain ⟨fd, F⟩ := c.def_ 55 rfl
      exact ⟨_, fd, F, He.glo_ok X G (c.fact 76 rfl), F.bindsN (fun _ _ _ _ _ _ us hl => match us, hl with | [_, _], _ => rfl)⟩
    d_W_list := by
      obtain ⟨fd, F⟩ := c.def_ 56 rfl
      exact ⟨_, fd, F, He.glo_ok X G (c.fact 77 rfl), F.bindsN (fun _ _ _ _ _ _ us hl => match us, hl with | [_, _], _ => rfl)⟩
    d_W_plan := by
      obtain ⟨fd, F⟩ := c.def_ 57 rfl
      exact ⟨_, fd, F, He.glo_ok X G (c.fact 78 rfl), F.bindsN (fun _ _ _ _ _ _ us hl => match us, hl with | [_, _, _, _, _], _ => rfl)⟩
    d_W_made := by
      obtain ⟨fd, F⟩ := c.def_ 58 rfl
      exact ⟨_, fd, F, He.glo_ok X G (c.fact 79 rfl), F.bindsN (fun _ _ _ _ _ _ us hl => match us, hl with | [_], _ => rfl)⟩
    d_W_sheet := by
      obtain ⟨fd, F⟩ := c.def_ 59 rfl
      exact ⟨_, fd, F, He.glo_ok X G (c.fact 80 rfl), F.bindsN (fun _ _ _ _ _ _ us hl => match us, hl with | [_, _, _], _ => rfl)⟩
    d_W_ratio := by
      obtain ⟨fd, F⟩ := c.def_ 60 rfl
      exact ⟨_, fd, F, He.glo_ok X G (c.fact 81 rfl), F.bindsN (fun _ _ _ _ _ _ us hl => match us, hl with | [_, _], _ => rfl)⟩
    d_W_add := by
      obtain ⟨fd, F⟩ := c.def_ 61 rfl
      exact ⟨_, fd, F, He.glo_ok X G (c.fact 82 rfl), F.bindsN (fun _ _ _ _ _ _ us hl => match us, hl with | [_, _], _ => rfl)⟩
    d_W_less := by
      obtain ⟨fd, F⟩ := c.def_ 62 rfl
      exact ⟨_, fd, F, He.glo_ok X G (c.fact 83 rfl), F.bindsN (fun _ _ _ _ _ _ us hl => match us, hl with | [_, _], _ => rfl)⟩
    d_W_by_worth := by
      obtain ⟨fd, F⟩ := c.def_ 63 rfl
      exact ⟨_, fd, F, He.glo_ok X G (c.fact 84 rfl), F.bindsN (fun _ _ _ _ _ _ us hl => match us, hl with | [_], _ => rfl)⟩
    d_W_turned := by
      obtain ⟨fd, F⟩ := c.def_ 64 rfl
      exact ⟨_, fd, F, He.glo_ok X G (c.fact 85 rfl), F.bindsN (fun _ _ _ _ _ _ us hl => match us, hl with | [_, _], _ => rfl)⟩
    d_W_gathered := by
      obtain ⟨fd, F⟩ := c.def_ 65 rfl
      exact ⟨_, fd, F, He.glo_ok X G (c.fact 86 rfl), F.bindsN (fun _ _ _ _ _ _ us hl => match us, hl with | [_, _], _ => rfl)⟩
    d_W_rows := by
      obtain ⟨fd, F⟩ := c.def_ 66 rfl
      exact ⟨_, fd, F, He.glo_ok X G (c.fact 87 rfl), F.bindsN (fun _ _ _ _ _ _ us hl => match us, hl with | [_, _], _ => rfl)⟩
    d_W_scored := by
      obtain ⟨fd, F⟩ := c.def_ 67 rfl
      exact ⟨_, fd, F, He.glo_ok X G (c.fact 88 rfl), F.bindsN (fun _ _ _ _ _ _ us hl => match us, hl with | [_, _], _ => rfl)⟩
    d_W_passes := by
      obtain ⟨fd, F⟩ := c.def_ 68 rfl
      exact ⟨_, fd, F, He.glo_ok X G (c.fact 89 rfl), F.bindsN (fun _ _ _ _ _ _ us hl => match us, hl with | [_, _, _, _], _ => rfl)⟩
    d_W_rank := by
      obtain ⟨fd, F⟩ := c.def_ 69 rfl
      exact ⟨_, fd, F, He.glo_ok X G (c.fact 90 rfl), F.bindsN (fun _ _ _ _ _ _ us hl => match us, hl with | [_, _, _], _ => rfl)⟩
    d_W_own := by
      obtain ⟨fd, F⟩ := c.def_ 70 rfl
      exact ⟨_, fd, F, He.glo_ok X G (c.fact 91 rfl), F.bindsN (fun _ _ _ _ _ _ us hl => match us, hl with | [_, _], _ => rfl)⟩
    d_W_bunches := by
      obtain ⟨fd, F⟩ := c.def_ 71 rfl
      exact ⟨_, fd, F, He.glo_ok X G (c.fact 92 rfl), F.bindsN (fun _ _ _ _ _ _ us hl => match us, hl with | [_, _], _ => rfl)⟩
    d_W_marks_score := by
      obtain ⟨fd, F⟩ := c.def_ 72 rfl
      exact ⟨_, fd, F, He.glo_ok X G (c.fact 93 rfl), F.bindsN (fun _ _ _ _ _ _ us hl => match us, hl with | [_, _], _ => rfl)⟩
    d_W_worths := by
      obtain ⟨fd, F⟩ := c.def_ 73 rfl
      exact ⟨_, fd, F, He.glo_ok X G (c.fact 94 rfl), F.bindsN (fun _ _ _ _ _ _ us hl => match us, hl with | [_, _], _ => rfl)⟩
    d_W_decides := by
      obtain ⟨fd, F⟩ := c.def_ 74 rfl
      exact ⟨_, fd, F, He.glo_ok X G (c.fact 95 rfl), F.bindsN (fun _ _ _ _ _ _ us hl => match us, hl with | [_, _, _, _], _ => rfl)⟩
    d_W_decided := by
      obtain ⟨fd, F⟩ := c.def_ 75 rfl
      exact ⟨_, fd, F, He.glo_ok X G (c.fact 96 rfl), F.bindsN (fun _ _ _ _ _ _ us hl => match us, hl with | [_, _, _], _ => rfl)⟩
    d_W_lift := by
      obtain ⟨fd, F⟩ := c.def_ 76 rfl
      exact ⟨_, fd, F, He.glo_ok X G (c.fact 97 rfl), F.bindsN (fun _ _ _ _ _ _ us hl => match us, hl with | [_, _], _ => rfl)⟩
    d_W_with_row := by
      obtain ⟨fd, F⟩ := c.def_ 77 rfl
      exact ⟨_, fd, F, He.glo_ok X G (c.fact 98 rfl), F.bindsN (fun _ _ _ _ _ _ us hl => match us, hl with | [_, _, _, _], _ => rfl)⟩
    d_law := by
      obtain ⟨fd, F⟩ := c.def_ 78 rfl
      exact ⟨_, fd, F, He.glo_ok X G (c.fact 99 rfl), F.bindsN (fun _ _ _ _ _ _ us hl => match us, hl with | [_], _ => rfl)⟩
    m_isinstance := He.free_ok X G (c.fact 100 rfl)
    m_int := He.free_ok X G (c.fact 101 rfl)
    m_bool := He.free_ok X G (c.fact 102 rfl)
    m_str := He.free_ok X G (c.fact 103 rfl)
    m_list := He.free_ok X G (c.fact 104 rfl)
    m_tuple := He.free_ok X G (c.fact 105 rfl)
    m_len := He.free_ok X G (c.fact 106 rfl)
    m_all := He.free_ok X G (c.fact 107 rfl)
    m_sum := He.free_ok X G (c.fact 108 rfl)
    m_min := He.free_ok X G (c.fact 109 rfl)
    m_max := He.free_ok X G (c.fact 110 rfl)
    m_sorted := He.free_ok X G (c.fact 111 rfl)
    m_range := He.free_ok X G (c.fact 112 rfl)
    m_enumerate := He.free_ok X G (c.fact 113 rfl)
    m_iter := He.free_ok X G (c.fact 114 rfl)
    m_zip := He.free_ok X G (c.fact 115 rfl)
    m_dict := He.free_ok X G (c.fact 116 rfl)
    v_MOST_PEOPLE := cst_int (He.int_ok X G (c.fact 117 rfl))
    v_MOST_MARK := cst_int (He.int_ok X G (c.fact 118 rfl))
    v_MOST_SIGNS := cst_int (He.int_ok X G (c.fact 119 rfl))
    v_MOST_TRIM := cst_int (He.int_ok X G (c.fact 120 rfl))
    v_MOST_PRIZES := cst_int (He.int_ok X G (c.fact 121 rfl))
    v_LETTERS := cst_str (He.str_ok X G (c.fact 122 rfl))
    v_TURNS := ⟨_, He.glo_ok X G (c.fact 123 rfl), fun H => He.tupB_ok htTURNS H⟩
    v_GATHERS := ⟨_, He.glo_ok X G (c.fact 124 rfl), fun H => He.tupB_ok htGATHERS H⟩
    v_TURNED_GATHERS := ⟨_, He.glo_ok X G (c.fact 125 rfl), fun H => He.tupB_ok htTURNED_GATHERS H⟩
    v_NOUGHT := ⟨_, He.glo_ok X G (c.fact 126 rfl), fun H => He.tupB_ok htNOUGHT H⟩
  }
end Om
set_option maxHeartbeats 0
/-! Om: the head's run. -/
namespace Om
open PySem PySem.Spec PyProof.Rows L2
/-! ### what the module's names reach: functions, codes, class bodies, methods, the getter -/
def valsAt (g : Addr → Option Obj) (a : Addr) : List Addr := match g a with
  | some ⟨_, _, .dict es _, _⟩ => es.toList.flatMap fun e => He.refV e.val
  | _ => []
def downOf (g : Addr → Option Obj) (a : Addr) : List Addr := match g a with
  | some ⟨_, _, .func r, _⟩ => He.refV r.code ++ He.refV r.kwdefaults
  | some ⟨_, _, .cls r, _⟩ => [r.ns]
  | some ⟨.type n, _, .fields vs, _⟩ => if n == "property" then vs.toList.flatMap He.refV else []
  | _ => []
def adr5 (g : Addr → Option Obj) (l1 l2 l3 l4 : List Addr) : List Addr := mainGlobals :: (l1 ++ (l2 ++ (l3 ++ (l4 ++ l4.flatMap (downOf g)))))
def adr4 (g : Addr → Option Obj) (l1 l2 l3 : List Addr) : List Addr := adr5 g l1 l2 l3 (l3.flatMap (downOf g))
def adr3 (g : Addr → Option Obj) (l1 l2 : List Addr) : List Addr := adr4 g l1 l2 (l2.flatMap (valsAt g))
def adr2 (g : Addr → Option Obj) (l1 : List Addr) : List Addr := adr3 g l1 (l1.flatMap (downOf g))
def adr1 (g : Addr → Option Obj) : List Addr := adr2 g (valsAt g mainGlobals)
def frK (g : Addr → Option Obj) : PySem.W.Frag := He.frG g (adr1 g)
/-! ### the Hook -/
abbrev AlX : Type := Bool × He.FnW × He.AlD
def obX (K : PySem.W.Frag) : AlX := (exB K, pFun K, He.obsD hFa hFn K)
def vlX : AlX := (true, pVal, He.valD hFn)
def hkX : PySem.W.Hook where
  α := AlX
  obs := fun s => obX (frK s.heap.get?)
  val := fun _ => vlX
  says := fun _ h => ∃ K : PySem.W.Frag, K.In h ∧ obX K = vlX
  of := fun _ _ e => ⟨_, He.frG_in, e⟩
  keeps := fun _ _ _ ⟨K, hK, c⟩ k => ⟨K, PySem.W.Frag.In.keeps hK k, c⟩
def obT (s : PySem.W.SharedT) : AlX := obX (frK (HandSHeadRun.getT s))
theorem obT_eq (s : PySem.W.SharedT) : obT s = hkX.obs s.abs := by
  have e : HandSHeadRun.getT s = s.abs.heap.get? := funext (HandSHeadRun.getT_eq s)
  unfold obT
  rw [e]
  rfl
theorem head_run (w : World) : HandSHeadRun.RunEq Rw Vw hkX obT 20000 nms w := by
  intro os
  kernel_rfl
end Om
set_option maxHeartbeats 4000000
/-! Om, part N8: d.setdefault(k, v) as a statement; a dict whose keys are pairs of pairs. -/
namespace Om
open PySem PySem.Spec PyProof.Rows L2
/-- the form of o.setdefault(e, f) -/
structure SdF (X : Cx) (o : Expr) (apos : Pos) (e f : Expr) (cpos : Pos) : Prop where
  base : attributeBase o "setdefault" X.env (eval o X.env) = eval o X.env
  few : ((backTo cpos (starEach [e, f] X.env)).all (fun x => !x.1) && (backToKw cpos (keywordEach [] X.env)).all (fun x => x.1.isSome) && decide (([e, f] : List Expr).length + ([] : List Keyword).length + (if ([] : List Keyword).isEmpty then 0 else 1) < 30)) = true
  line : (apos.endLine == cpos.line) = true
  trees : backTo cpos (starEach [e, f] X.env) = [(false, eval e X.env), (false, eval f X.env)]
section
variable {X : Cx} {o e f : Expr} {apos cpos : Pos} {to te tf : TE}
/-- what the call does, by the dict's own rule -/
theorem re_setd {σ : L2.St} {A : Hp} {Q : VK} (m : SdF X o apos e f cpos) (ho : PE X o to) (he : PE X e te) (hf : PE X f tf)
    (h : to σ A fun x H1 => ∃ d, x = .ref d ∧ (∀ pins s, Inv X pins σ H1 s → s.TypeIs (.ref d) "dict" ∧ ∀ b, Value.ref d = .ref b → ∃ ob, s.heap.get? b = some ob ∧ ob.dict = none) ∧ te σ H1 fun y H2 => tf σ H2 fun z H3 =>
      ∀ pins s u r, Inv X pins σ H3 s → RelV y u → RelV z r → wpAny (model X.prog X.w) X.A (call (.builtin "dict.setdefault") [.ref d, u, r]) (EP X pins σ Q) X.xe s) : RE X (.Call (.Attribute o "setdefault" apos) [e, f] [] cpos) σ A Q := fun pins s I => by
  refine wpAny_Call_method m.base m.few m.line PySem.F.plainAttrs_dict PySem.F.slot_dict_setdefault PySem.F.type_dict_setdefault (thn (ho.run pins s σ A _ I h) fun u s1 ⟨x, H1, I1, rx, d, ex, ty, q1⟩ => ?_)
  subst ex
  obtain rfl : u = .ref d := rx
  obtain ⟨t1, t2⟩ := ty pins s1 I1
  refine ⟨t1, t2, ?_⟩
  rw [m.trees]
  refine Calls.callWith_builtin rfl (Calls.evalArgs_plain (Calls.spliced_cons (thn (he.run pins s1 σ H1 _ I1 q1) fun iv s2 ⟨y, H2, I2, ry, q2⟩ => ?_)))
  exact Calls.spliced_cons (thn (hf.run pins s2 σ H2 _ I2 q2) fun fv s3 ⟨z, H3, I3, rz, q3⟩ => Calls.spliced_nil (q3 pins s3 iv fv I3 ry rz))
end
/-- with a tuple key -/
theorem setd_T {X : Cx} {pins : List (Addr × Obj)} {σ : L2.St} {H : Hp} {s : Shared} {Q : VK} {d b : Addr} {ks : List (List Key × Vl)} {key : List Key} {z : Vl} {r : Value} (hu : X.A.units + 1 < cLine) (I : Inv X pins σ H s) (hd : H d = some (.dT ks)) (hb : H b = some (.tup (key.map kV))) (hl : ks.length < sizeLine) (rz : RelV z r)
    (h1 : ∀ v, valV ks key = some v → Q v H) (h2 : valV ks key = none → Q z (upd H d (.dT (putK ks key z)))) : wpAny (model X.prog X.w) X.A (call (.builtin "dict.setdefault") [.ref d, .ref b, r]) (EP X pins σ Q) X.xe s := by
  obtain ⟨l1, low, ts, rel, dd⟩ := dt_of I.hok hd
  have n1 : ts.length ≤ sizeLine := Paired.length rel ▸ l1
  have n2 : (putK ks key z).length ≤ sizeLine := Nat.le_trans (length_putK ks key z) hl
  have vv := rel.val key
  refine call_setdefault_heap (hsz := n1) (knd := tupleKind (mixKind X.prog X.w)) hu (key_of I.hok hb) low dd (fun p hp => ?_) fun hn h2' d2 sb => ?_
  · rw [hp] at vv
    cases q : valV ks key with
    | none => rw [q] at vv; exact vv.elim
    | some v =>
      rw [q] at vv
      exact ⟨v, H, I.tok _, vv, h1 v q⟩
  · rw [hn] at vv
    cases q : valV ks key with
    | some v => rw [q] at vv; exact vv.elim
    | none =>
      obtain ⟨ob, es, ep, q1, q2, q3, q4, _, q5⟩ := d2
      have kt : KT (upd H d (.dT (putK ks key z))) (putK ks key z) (storedH ts key b r) := (rel.put key hb rz).keeps fun c w e => by
        rw [upd_ne (ne_of e hd (fun z => nomatch z))]
        exact e
      exact ⟨z, upd H d (.dT (putK ks key z)), d_write I (ob := .dT (putK ks key z)) (by rw [hd]; trivial) sb ⟨ob, q1⟩ ⟨n2, low, _, kt, ob, es, ep, q1, q2, q3, q4, q5⟩, rz, h2 q⟩
section
variable {X : Cx} {σ : L2.St} {V M : Hp} {κ β : Type} [DecidableEq κ] {R : Rf κ} {S : Rf β} {k : κ} {b : β} {o e f : Expr} {apos cpos pos : Pos} {P : Post} {rest : List Stmt} {kvs : List (κ × β)}
/-- what setdefault leaves -/
def dsetd (l : List (κ × β)) (k : κ) (b : β) : List (κ × β) := if k ∈ l.map (·.1) then l else l ++ [(k, b)]
theorem Pr.setd {E : κ → List Key} {ks : List (List Key × Vl)} {H : Hp} {v : Vl} (inj : ∀ {k k' : κ}, E k = E k' → k = k') (h : Pr E S kvs ks H) (r : S b v H) : Pr E S (dsetd kvs k b) (if (valV ks (E k)).isSome = true then ks else putK ks (E k) v) H := by
  have e := h.isSome inj (k := k)
  rw [dg_isSome'] at e
  unfold dsetd
  rw [e]
  by_cases hk : k ∈ kvs.map (·.1)
  · rw [if_pos hk, if_pos (decide_eq_true hk)]
    exact h
  · rw [if_neg hk, if_neg (by rw [decide_eq_false hk]; exact Bool.false_ne_true)]
    have p := h.put inj (k := k) r
    rwa [dput_new' hk] at p
/-- d.setdefault(k, v), d owned, k a tuple -/
theorem go_setd [KeyT R] [Mo R] [Mo S] {d : Addr} {ks : List (List Key × Vl)} (hu : X.A.units + 1 < cLine) (ho : ∀ V', Same V V' → EvR X o σ V' (qA d) ()) (he : EvR X e σ V R k) (hf : ∀ V', Same V V' → EvR X f σ V' S b) (hM : M d = some (.dT ks)) (hl : ks.length < sizeLine) (hpr : Pr (KeyT.enc R) S kvs ks V)
    (q : ∀ V' ks', Same V V' → Pr (KeyT.enc R) S (dsetd kvs k b) ks' V' → ks'.length ≤ ks.length + 1 → Go X rest σ V' (upd M d (.dT ks')) P) (m : SdF X o apos e f cpos) (hs : swapsWith (.Call (.Attribute o "setdefault" apos) [e, f] [] cpos) none pos.line X.env = pure false := by rfl) :
    Go X (.Expr (.Call (.Attribute o "setdefault" apos) [e, f] [] cpos) pos :: rest) σ V M P :=
  go_of (ps_expr pe_re hs) fun A D w fi => re_setd m pe_re pe_re pe_re (ho V (Same.refl _) V A _ (Same.refl _) w.va fun V1 A1 x g1 rx => by
    have s1 := Stp.gar w g1
    refine ⟨d, rx, fun pins s I => ?_, he V A1 _ (Same.refl _) s1.ow.va fun V2 A2 y g2 ry => hf V2 g2.vv V2 A2 _ (Same.refl _) g2.va fun V3 A3 z g3 rz => ?_⟩
    · obtain ⟨t1, t2, _⟩ := isD_at I (.inr ⟨ks, .inl (s1.ow.ma d _ hM)⟩)
      exact ⟨t1, t2⟩
    · have s3 := (s1.trans (g2.stp s1.ow)).trans (g3.stp (s1.trans (g2.stp s1.ow)).ow)
      intro pins s u r I ru rr
      obtain ⟨c, ey, hc⟩ := KeyT.to (Mo.mo g3.vv ry)
      subst ey
      obtain rfl : u = .ref c := ru
      have hd := s3.ow.ma d _ hM
      have pr3 := (hpr.mo s3.vv).setd (k := k) (KeyT.inj (R := R)) rz
      refine setd_T hu I hd (g3.va.at hc) hl rr (fun v hv => ?_) fun hv => ?_
      · rw [hv] at pr3
        have st := s3.trans (Stp.set (o' := .dT ks) s3.ow hM)
        rw [show upd A3 d (.dT ks) = A3 from funext fun c => by by_cases hc : c = d; · rw [hc, upd_same, hd]
                                                                · rw [upd_ne hc]] at st
        exact go_next fi st (q V3 ks s3.vv pr3 (Nat.le_succ _))
      · rw [hv] at pr3
        exact go_next fi (s3.trans (Stp.set s3.ow hM)) (q V3 _ s3.vv pr3 (length_putK ks _ z)))
end
end Om
set_option maxHeartbeats 4000000
/-! Om, part N9: a dict whose keys are pairs of pairs of whole numbers. -/
namespace Om
open PySem PySem.Spec PyProof.Rows L2
abbrev Fr2 := (Int × Int) × (Int × Int)
abbrev qF2 : Rf Fr2 := q2 (q2 qI qI) (q2 qI qI)
def encS (z : Fr2) : NestedKey := .tup [.tup [.num z.1.1, .num z.1.2], .tup [.num z.2.1, .num z.2.2]]
theorem encS_inj {x y : Fr2} (h : encS x = encS y) : x = y := by
  obtain ⟨⟨a, b⟩, c, d⟩ := x
  obtain ⟨⟨a', b'⟩, c', d'⟩ := y
  simp only [encS, NestedKey.tup.injEq, List.cons.injEq, NestedKey.num.injEq, and_true] at h
  obtain ⟨⟨rfl, rfl⟩, rfl, rfl⟩ := h
  rfl
/-- keys, where their tuples stand, where the values stand -/
abbrev Es := List (Fr2 × Addr × Addr)
def entsN (xs : Es) : List (NestedKey × Addr × Value) := xs.map fun x => (encS x.1, x.2.1, .ref x.2.2)
def rawN (P : Program) (w : World) (d : Addr) (xs : Es) : Heap → Prop := fun h => ∃ o es ep, h.get? d = some o ∧ o.ExactDict ∧ o.data = .dict es ep ∧ es.toList = (entsN xs).map (entryOfKey (nestedKind P w)) ∧ (xs.map (·.1)).Nodup ∧ (d == sysModules) = false ∧ xs.length ≤ sizeLine
abbrev spO (P : Program) (w : World) (d : Addr) (xs : Es) : HO := .ext (rawN P w d xs)
theorem rawN_ok {P : Program} {w : World} {d : Addr} {xs : Es} {H : Hp} {h : Heap} (r : rawN P w d xs h) : ObjOk P w H h d (spO P w d xs) := by
  obtain ⟨o, es, ep, e, rr⟩ := id r
  refine ⟨r, ⟨o, e⟩, fun h1 h2 f k => ?_⟩
  obtain ⟨o', es', ep', e', rr'⟩ := f
  exact ⟨o', es', ep', k o' e', rr'⟩
theorem ents_fst (xs : Es) : (entsN xs).map (·.1) = (xs.map (·.1)).map encS := by
  unfold entsN
  rw [List.map_map, List.map_map]
  rfl
theorem ents_nodup {xs : Es} (h : (xs.map (·.1)).Nodup) : ((entsN xs).map (·.1)).Nodup := by
  rw [ents_fst]
  unfold List.Nodup
  rw [List.pairwise_map]
  exact List.Pairwise.imp (fun hne z => hne (encS_inj z)) h
/-- the key tuples -/
def KeysN (H : Hp) (xs : Es) : Prop := ∀ x ∈ xs, qF2 x.1 (.ref x.2.1) H
theorem is_pair {P : Program} {w : World} {H : Hp} {h : Heap} (ok : HOk P w H h) {a b : Int} {v : Vl} {u : Value} (r : q2 qI qI (a, b) v H) (ru : RelV v u) : NestedIs h (.tup [.num a, .num b]) u := by
  obtain ⟨p, x, y, rfl, hp, rfl, rfl⟩ := r
  obtain rfl : u = .ref p := ru
  obtain ⟨_, its, rv, ob, e, c1, n, c2⟩ := (show ObjOk P w H h p (.tup _) from ok p _ hp)
  obtain ⟨u1, u2, rfl, r1, r2⟩ := rv.two
  obtain ⟨t1, rfl⟩ := r1
  obtain ⟨t2, rfl⟩ := r2
  exact .tup e c1 c2 (.cons (.int a t1) (.cons (.int b t2) .nil))
theorem is_key {P : Program} {w : World} {H : Hp} {h : Heap} (ok : HOk P w H h) {z : Fr2} {c : Addr} (r : qF2 z (.ref c) H) : (nestedKind P w).is h (encS z) c := by
  obtain ⟨p, x, y, e0, hp, r1, r2⟩ := r
  cases e0
  obtain ⟨_, its, rv, ob, e, c1, n, c2⟩ := (show ObjOk P w H h c (.tup _) from ok c _ hp)
  obtain ⟨u1, u2, rfl, q1, q2⟩ := rv.two
  exact ⟨.tup e c1 c2 (.cons (is_pair ok r1 q1) (.cons (is_pair ok r2 q2) .nil)), show (NestedKey.tup [.tup [.num z.1.1, .num z.1.2], .tup [.num z.2.1, .num z.2.2]]).depth ≤ 8 from by simp [NestedKey.depth, NestedKey.depthAll]⟩
theorem dictN {P : Program} {w : World} {H : Hp} {h : Heap} {d : Addr} {xs : Es} (ok : HOk P w H h) (k : KeysN H xs) (r : rawN P w d xs h) : h.DictOfH (nestedKind P w) d (entsN xs) := by
  obtain ⟨o, es, ep, e1, e2, e3, e4, e5, _⟩ := r
  refine ⟨o, es, ep, e1, e2, e3, e4, fun x hx => ?_, ents_nodup e5⟩
  obtain ⟨y, hy, rfl⟩ := List.mem_map.mp hx
  exact is_key ok (k y hy)
theorem atN {xs : Es} {z : Fr2} : atKey (entsN xs) (encS z) = (xs.find? fun x => decide (x.1 = z)).map fun x => (x.2.1, Value.ref x.2.2) := by
  unfold atKey entsN
  induction xs with
  | nil => rfl
  | cons x xs ih =>
    rw [List.map_cons, List.find?_cons, List.find?_cons]
    by_cases h : x.1 = z
    · rw [decide_eq_true h, decide_eq_true (congrArg encS h)]
      rfl
    · rw [decide_eq_false h, decide_eq_false (fun e => h (encS_inj e))]
      exact ih
/-- what setdefault leaves -/
def setN (xs : Es) (z : Fr2) (a b : Addr) : Es := if z ∈ xs.map (·.1) then xs else xs ++ [(z, a, b)]
theorem setd_N {X : Cx} {pins : List (Addr × Obj)} {σ : L2.St} {H : Hp} {s : Shared} {Q : VK} {d a b : Addr} {xs : Es} {z : Fr2} (hu : X.A.units + 9 < cLine) (I : Inv X pins σ H s) (hd : H d = some (spO X.prog X.w d xs)) (hk : KeysN H xs) (ha : qF2 z (.ref a) H) (hl : xs.length < sizeLine)
    (q : ∀ v, Q v (upd H d (spO X.prog X.w d (setN xs z a b)))) : wpAny (model X.prog X.w) X.A (call (.builtin "dict.setdefault") [.ref d, .ref a, .ref b]) (EP X pins σ Q) X.xe s := by
  obtain ⟨r, _, _⟩ := (show ObjOk X.prog X.w H s.heap d (spO X.prog X.w d xs) from I.hok d _ hd)
  have dd := dictN I.hok hk r
  obtain ⟨o, es, ep, e1, e2, e3, e4, e5, low, e6⟩ := r
  have n1 : (entsN xs).length ≤ sizeLine := by
    unfold entsN
    rw [List.length_map]
    exact e6
  refine call_setdefault_heap (hsz := n1) (knd := nestedKind X.prog X.w) (show X.A.in1.units + 8 < cLine from by show X.A.units + 1 + 8 < cLine; omega) (is_key I.hok ha) low dd (fun p hp => ?_) fun hn h2' d2 sb => ?_
  · rw [atN] at hp
    obtain ⟨y, hy, rfl⟩ := Option.map_eq_some_iff.mp hp
    have hm : z ∈ xs.map (·.1) := List.mem_map.mpr ⟨y, List.mem_of_find?_eq_some hy, of_decide_eq_true (List.find?_some (p := fun x : Fr2 × Addr × Addr => decide (x.1 = z)) hy)⟩
    have e : upd H d (spO X.prog X.w d (setN xs z a b)) = H := funext fun c => by
      unfold setN
      rw [if_pos hm]
      by_cases hc : c = d
      · rw [hc, upd_same, hd]
      · rw [upd_ne hc]
    have q' := q (.ref y.2.2)
    rw [e] at q'
    exact ⟨.ref y.2.2, H, I.tok _, rfl, q'⟩
  · have hm : z ∉ xs.map (·.1) := fun hm => by
      obtain ⟨y, hy, e⟩ := List.mem_map.mp hm
      rw [atN] at hn
      have := List.find?_eq_none.mp (Option.map_eq_none_iff.mp hn) y hy
      exact this (decide_eq_true e)
    obtain ⟨ob, es2, ep2, q1, q2, q3, q4, _, q5⟩ := d2
    have en : storedH (entsN xs) (encS z) a (.ref b) = entsN (setN xs z a b) := by
      rw [storedH_new hn]
      unfold setN
      rw [if_neg hm]
      unfold entsN
      rw [List.map_append]
      rfl
    have nl : (setN xs z a b).length ≤ sizeLine := by
      unfold setN
      split
      · exact e6
      · rw [List.length_append]
        exact hl
    have nn : ((setN xs z a b).map (·.1)).Nodup := by
      unfold setN
      rw [if_neg hm, List.map_append]
      refine List.nodup_append.mpr ⟨e5, by simp, ?_⟩
      intro x hx y hy e
      have : y = z := by simpa using hy
      subst this
      exact hm (e ▸ hx)
    exact ⟨.ref b, upd H d (spO X.prog X.w d (setN xs z a b)), d_write I (ob := spO X.prog X.w d (setN xs z a b)) (by rw [hd]; trivial) sb ⟨ob, q1⟩ (rawN_ok ⟨ob, es2, ep2, q1, q2, q3, by rw [q4, en], nn, low, nl⟩), rfl, q _⟩
/-! ### as rules -/
section
variable {X : Cx} {σ : L2.St} {V M : Hp} {α : Type} {S : Rf α} {b : α} {o e f : Expr} {apos cpos pos p px : Pos} {P : Post} {rest : List Stmt}
/-- x = {} -/
theorem go_newN {i : Nat} {x : Str} (hN : X.N.Nodup) (hi : X.N[i]? = some x) (hx : Loc X.env.scope x) (k : ∀ d, Go X rest (σ.set i (some (.ref d))) V (upd M d (spO X.prog X.w d [])) P)
    (hs : swapsWith (.Dict [] [] p) (some (.Name x px)) pos.line X.env = pure false := by rfl) (hf : X.fn x = true ∨ X.env.scope.names.lookup x = some .local := by first | exact .inl rfl | exact .inr rfl) : Go X (.Assign [.Name x px] (.Dict [] [] p) pos :: rest) σ V M P := by
  have hE : PE X (.Dict [] [] p) (fun _ H Q => ∀ d, H d = none → Q (.ref d) (upd H d (spO X.prog X.w d []))) := ⟨fun pins s σ H Q I h => by
    have hn := I.hok.fresh (Nat.le_refl s.heap.objs.size)
    refine wpAny_Dict_empty ⟨.ref s.heap.objs.size, _, I.laid (a := s.heap.objs.size) (o := spO X.prog X.w s.heap.objs.size []) (t' := s.toks) (fun _ _ q => Heap.get?_push_of_some _ q) (Nat.le_refl _) (rawN_ok ?_), rfl, h _ hn⟩
    exact ⟨_, #[], 0, Heap.get?_push_size _ rfl, ⟨rfl, rfl, rfl⟩, rfl, rfl, List.nodup_nil, beq_eq_false_iff_ne.mpr (Ne.symm (Nat.ne_of_lt I.big)), Nat.zero_le _⟩⟩
  exact go_of (ps_set hN hi hx hE hs hf) fun A D w fi d hd => go_next fi (Stp.make w hd) (k d)
theorem go_setdN {d : Addr} {xs : Es} {z : Fr2} (hu : X.A.units + 9 < cLine) (ho : ∀ V', Same V V' → EvR X o σ V' (qA d) ()) (he : EvR X e σ V qF2 z) (hf : ∀ V', Same V V' → EvR X f σ V' S b) (hS : ∀ v H, S b v H → ∃ c, v = .ref c) (hM : M d = some (spO X.prog X.w d xs)) (hl : xs.length < sizeLine) (hk : KeysN V xs)
    (q : ∀ V' a c, Same V V' → KeysN V' (setN xs z a c) → Go X rest σ V' (upd M d (spO X.prog X.w d (setN xs z a c))) P) (m : SdF X o apos e f cpos) (hs : swapsWith (.Call (.Attribute o "setdefault" apos) [e, f] [] cpos) none pos.line X.env = pure false := by rfl) :
    Go X (.Expr (.Call (.Attribute o "setdefault" apos) [e, f] [] cpos) pos :: rest) σ V M P :=
  go_of (ps_expr pe_re hs) fun A D w fi => re_setd m pe_re pe_re pe_re (ho V (Same.refl _) V A _ (Same.refl _) w.va fun V1 A1 x g1 rx => by
    have s1 := Stp.gar w g1
    refine ⟨d, rx, fun pins s I => ?_, he V A1 _ (Same.refl _) s1.ow.va fun V2 A2 y g2 ry => hf V2 g2.vv V2 A2 _ (Same.refl _) g2.va fun V3 A3 u g3 ru => ?_⟩
    · obtain ⟨⟨ob, es, ep, e1, e2, _⟩, _, _⟩ := (show ObjOk X.prog X.w A1 s.heap d _ from I.hok d _ (s1.ow.ma d _ hM))
      exact ⟨⟨ob, e1, e2.1⟩, fun c ec => by cases ec; exact ⟨ob, e1, e2.2.1⟩⟩
    · have s3 := (s1.trans (g2.stp s1.ow)).trans (g3.stp (s1.trans (g2.stp s1.ow)).ow)
      have ry3 : qF2 z y V3 := Mo.mo g3.vv ry
      obtain ⟨a, ey⟩ : ∃ a, y = .ref a := let ⟨p, _, _, e, _⟩ := ry3; ⟨p, e⟩
      subst ey
      obtain ⟨c, eu⟩ := hS u V3 ru
      subst eu
      intro pins s w1 w2 I rw1 rw2
      obtain rfl : w1 = .ref a := rw1
      obtain rfl : w2 = .ref c := rw2
      have k3 : KeysN V3 xs := fun x hx => Mo.mo s3.vv (hk x hx)
      have kA : KeysN A3 xs := fun x hx => by
        have z0 := k3 x hx
        obtain ⟨p, x1, y1, e, hp, ⟨p2, x2, y2, e2, hp2, r2⟩, p3, x3, y3, e3, hp3, r3⟩ := z0
        exact ⟨p, x1, y1, e, g3.va.at hp, ⟨p2, x2, y2, e2, g3.va.at hp2, r2⟩, p3, x3, y3, e3, g3.va.at hp3, r3⟩
      have rA : qF2 z (.ref a) A3 := by
        obtain ⟨p, x1, y1, e, hp, ⟨p2, x2, y2, e2, hp2, r2⟩, p3, x3, y3, e3, hp3, r3⟩ := ry3
        exact ⟨p, x1, y1, e, g3.va.at hp, ⟨p2, x2, y2, e2, g3.va.at hp2, r2⟩, p3, x3, y3, e3, g3.va.at hp3, r3⟩
      have kS : KeysN V3 (setN xs z a c) := fun x hx => by
        unfold setN at hx
        split at hx
        · exact k3 x hx
        · rcases List.mem_append.mp hx with h | h
          · exact k3 x h
          · have e : x = (z, a, c) := by simpa using h
            subst e
            exact ry3
      exact setd_N hu I (s3.ow.ma d _ hM) kA rA hl fun v => go_next fi (s3.trans (Stp.set s3.ow hM)) (q V3 a c s3.vv kS))
/-- such a dict, finished -/
def qSp (P : Program) (w : World) : Rf (List Fr2) := fun zs v H => ∃ d od xs, v = .ref d ∧ H d = some (.frz od (spO P w d xs)) ∧ KeysN H xs ∧ xs.map (·.1) = zs
instance {P : Program} {w : World} : Mo (qSp P w) := ⟨fun s ⟨d, od, xs, e, h, k, z⟩ => ⟨d, od, xs, e, s _ _ h, fun x hx => Mo.mo s (k x hx), z⟩⟩
instance {P : Program} {w : World} : Lt (qSp P w) := ⟨fun s ⟨d, od, xs, e, h, k, z⟩ => ⟨d, od, xs, e, s _ _ h trivial, fun x hx => Lt.lt s (k x hx), z⟩⟩
def Itn (P : Program) (w : World) (d : Addr) (od : Obj) (xs : Es) : It :=
  ⟨fun i H => H d = some (.frz od (spO P w d xs)) ∧ i < xs.length, fun i H v H' => H' = H ∧ ∃ x, xs[i]? = some x ∧ v = .ref x.2.1, fun i H => H d = some (.frz od (spO P w d xs)) ∧ xs.length ≤ i⟩
theorem frzN {pins : List (Addr × Obj)} {σ : L2.St} {H : Hp} {s : Shared} {d : Addr} {od : Obj} {xs : Es} (I : Inv X pins σ H s) (h : H d = some (.frz od (spO X.prog X.w d xs))) :
    (d == sysModules) = false ∧ s.heap.get? d = some od ∧ od.ExactDict ∧ ∃ es ep, od.data = .dict es ep ∧ es.size = xs.length ∧ ∀ (i : Nat) (x : Fr2 × Addr × Addr), xs[i]? = some x → ∃ en : DictEntry, es[i]? = some en ∧ en.key = .ref x.2.1 := by
  obtain ⟨hg, ⟨o, es, ep, e1, e2, e3, e4, e5, low, e6⟩, _⟩ := I.hok d _ h
  rw [hg] at e1
  cases e1
  refine ⟨low, hg, e2, es, ep, e3, ?_, fun i x hx => ?_⟩
  · have := size_of_entries e4
    rw [this]
    unfold entsN
    rw [List.length_map]
  · have q := entry_at e4 i
    unfold entsN at q
    rw [List.getElem?_map, hx] at q
    exact ⟨_, q, rfl⟩
theorem turn_N {P : Program} {w : World} {K : PySem.W.Frag} {tg : Expr} {d : Addr} {od : Obj} {xs : Es} {es : Array DictEntry} {ep : Nat} (it : Addr) (hod : od.data = .dict es ep) : Turn P w K tg (Itn P w d od xs) [it] it (fun i h => h.IsKeyIter it d i xs.length ep) where
  mem := List.mem_singleton.mpr rfl
  obj := fun i h st c hc => by
    obtain rfl : c = it := by simpa using hc
    obtain ⟨ob, g1, _, g3⟩ := st
    exact ⟨ob, g1, fun v z => by rw [g3] at z; cases z⟩
  keep := fun i h h' st k => st.at fun ob g => k it (List.mem_singleton.mpr rfl) ob g
  item := by
    rintro Y rfl rfl rfl hc i pins s σ H E I hf st ⟨hd, hi⟩
    obtain ⟨k0, k1, k2, k3, k4, k5⟩ := hf it (List.mem_singleton.mpr rfl)
    obtain ⟨g1, g2, g3, es', ep', g4, g5, g6⟩ := frzN I hd
    obtain ⟨rfl, rfl⟩ := dict_ep hod g4
    obtain ⟨x, hx⟩ : ∃ x, xs[i]? = some x := ⟨_, List.getElem?_eq_getElem hi⟩
    obtain ⟨en, he, hke⟩ := g6 i x hx
    refine next_key_item st g2 g4 g5 he fun h2 st2 sb => ?_
    have I2 : Inv Y pins σ H { s with heap := h2 } := I.turned (t' := s.toks) (fun c ob hc z => (sb.2 c hc).trans z) k0 k1 k3 k4 k5
    obtain ⟨ob, w1, w2, w3⟩ := id st2
    exact ⟨en.key, rfl, L2.go_of (s := { s with heap := h2 }) w1 w2 w3 (by decide) ⟨.ref x.2.1, H, I2, hke, ⟨rfl, x, hx, rfl⟩, st2, fun c hc => (hf c hc).1⟩⟩
  done := by
    rintro Y rfl rfl rfl hc i pins s σ H E I hf st ⟨hd, hi⟩
    obtain ⟨k0, k1, k2, k3, k4, k5⟩ := hf it (List.mem_singleton.mpr rfl)
    obtain ⟨g1, g2, g3, es', ep', g4, g5, g6⟩ := frzN I hd
    obtain ⟨rfl, rfl⟩ := dict_ep hod g4
    exact next_key_end (I.ok.hd hc) st g2 g4 g5 hi fun h2 eb => ⟨rfl, I.turned (t' := s.toks) (fun c ob hc z => eb c ob hc z) k0 k1 k3 k4 k5⟩
  self := fun A i s Q E st h => wpAny_pyIter_keyiter st h
theorem src_sp {tg : Expr} {zs : List Fr2} (h : EvR X e σ V (qSp X.prog X.w) zs) : Src X tg e σ V none qF2 zs := by
  refine ⟨fun _ z => (nomatch z), fun σ H Q => RE X e σ H fun v H1 => ∃ d od xs, v = .ref d ∧ H1 d = some (.frz od (spO X.prog X.w d xs)) ∧ Q (Itn X.prog X.w d od xs) H1, ⟨fun pins s σ H Q I h => ?_⟩, fun V1 A Q s l _ q => h V1 A _ s l fun V2 A2 v g ⟨d, od, xs, ev, hd, hk, hz⟩ => ⟨d, od, xs, ev, g.va.at hd, q _ V2 A2 g fun i V' A' sv lv k => ?_⟩⟩
  · refine thn (h pins s I) fun u s1 ⟨v, H1, I1, rv, d, od, xs, ev, hd, q⟩ => ?_
    subst ev
    obtain rfl : u = .ref d := rv
    obtain ⟨g1, g2, g3, es, ep, g4, g5, g6⟩ := frzN I1 hd
    refine iter_keys g1 g2 g3 g4 (pi_one (tk := s1.toks) I1 _ (turn_N _ g4) ⟨_, Heap.get?_push_size _ rfl, rfl, ?_⟩ q)
    rw [g5]
    rfl
  · have hA : A' d = some (.frz od (spO X.prog X.w d xs)) := lv.at (sv _ _ hd)
    subst hz
    refine ⟨fun hi => ⟨hA, by simpa using hi⟩, fun a ha => ?_⟩
    rw [List.getElem?_map] at ha
    obtain ⟨x, hx, rfl⟩ := Option.map_eq_some_iff.mp ha
    refine ⟨⟨hA, (List.getElem?_eq_some_iff.mp hx).1⟩, fun v A'' ⟨e1, y, e2, e3⟩ => ?_⟩
    rw [hx] at e2
    cases e2
    rw [e1, e3]
    exact ⟨V', .refl lv, Mo.mo sv (hk x (List.mem_of_getElem? hx))⟩
/-- something that stands on the heap -/
abbrev qRef : Rf Unit := fun _ v _ => ∃ c, v = .ref c
instance : Mo qRef := ⟨fun _ h => h⟩
theorem ev_getSp {zs : List Fr2} {z : Fr2} {i : Expr} (hu : X.A.units + 9 < cLine) (h : EvR X e σ V (qSp X.prog X.w) zs) (hi : EvR X i σ V qF2 z) (hz : z ∈ zs) (hs : NoSl i := by exact fun _ _ => rfl) : EvR X (.Subscript e i pos) σ V qRef () := fun V1 A Q s l q => by
  intro pins s0 I
  refine subD_of PySem.F.slot_dict_getitem.lookup hs (thn (h V1 A (fun v H1 => ∃ V2, Grow V1 A V2 H1 ∧ qSp X.prog X.w zs v V2) s l (fun V2 A2 v g r => ⟨V2, g, r⟩) pins s0 I) fun u s1 ⟨v, H1, I1, rv, V2, g, d, od, xs, ev, hd, hk, ez⟩ => ?_)
  refine thn (hi V2 H1 (fun y H2 => ∃ V3, Grow V2 H1 V3 H2 ∧ qF2 z y V3) (s.trans g.vv) g.va (fun V3 A3 y g3 r3 => ⟨V3, g3, r3⟩) pins s1 I1) fun iv s2 ⟨y, H2, I2, ry, V3, g3, r3⟩ => ?_
  subst ev
  obtain rfl : u = .ref d := rv
  obtain ⟨a, ey⟩ : ∃ a, y = .ref a := let ⟨p, _, _, e, _⟩ := r3; ⟨p, e⟩
  subst ey
  obtain rfl : iv = .ref a := ry
  obtain ⟨hg, raw, _⟩ := I2.hok d _ (g3.va.at (g3.vv _ _ hd))
  have kA : ∀ x : Fr2 × Addr, qF2 x.1 (.ref x.2) V3 → qF2 x.1 (.ref x.2) H2 := fun x z0 => by
    obtain ⟨p, x1, y1, e, hp, ⟨p2, x2, y2, e2, hp2, r2⟩, p3, x3, y3, e3, hp3, r3⟩ := z0
    exact ⟨p, x1, y1, e, g3.va.at hp, ⟨p2, x2, y2, e2, g3.va.at hp2, r2⟩, p3, x3, y3, e3, g3.va.at hp3, r3⟩
  have dd := dictN I2.hok (fun x hx => kA (x.1, x.2.1) (Mo.mo g3.vv (hk x hx))) raw
  obtain ⟨o, es, ep, e1, e2, _⟩ := id raw
  have hat : ∃ x : Fr2 × Addr × Addr, xs.find? (fun x => decide (x.1 = z)) = some x := by
    cases q : xs.find? (fun x => decide (x.1 = z)) with
    | some x => exact ⟨x, rfl⟩
    | none =>
      subst ez
      obtain ⟨y, hy, e⟩ := List.mem_map.mp hz
      exact absurd (decide_eq_true e) (List.find?_eq_none.mp q y hy)
  obtain ⟨x, hx⟩ := hat
  have ak : atKey (entsN xs) (encS z) = some (x.2.1, .ref x.2.2) := by rw [atN, hx]; rfl
  exact ⟨⟨o, e1, e2.1⟩, wpAny_getItem_heap (knd := nestedKind X.prog X.w) (show X.A.in1.units + 8 < cLine from by show X.A.units + 1 + 8 < cLine; omega) (is_key I2.hok (kA (z, a) r3)) dd ak ⟨.ref x.2.2, H2, I2.tok _, rfl, q V3 H2 _ (g.trans g3) ⟨_, rfl⟩⟩⟩
end
end Om
set_option maxHeartbeats 4000000
/-! Om, defs: asks, gathered. -/
namespace Om
open PySem PySem.Spec PyProof.Rows L2
section
variable {P : Program} {w : World} {K : PySem.W.Frag} {mg : Str → Option Value} {base : Heap} {cC cR cS : Addr}
/-- isinstance(e, T) -/
theorem ev_isi {X : Cx} {σ : L2.St} {V : Hp} {α : Type} {R : Rf α} [Mo R] {a : α} {e : Expr} {n : String} {t : Value} {k : Bool} {p1 p2 pos : Pos} {x : Str} (mi : X.mg "isinstance" = none) (ty : Tyd X.K R a t) (h : PySem.W.kitOne X.K t (.type n) = some k) (h1 : EvR X e σ V R a)
    (hg : Gl X "isinstance") (hgx : Gl X x) (mx : X.mg x = none) (bx : bootBuiltins x = some (.type n)) (hn : x ≠ "__name__" := by decide) (hd : (x == ("__debug__" : Str)) = false := by decide)
    (he : starEach [e, .Name x p2] X.env = (false, eval e X.env) :: starEach [.Name x p2] X.env := by rfl) : EvR X (.Call (.Name "isinstance" p1) [e, .Name x p2] [] pos) σ V qB k :=
  ev_b2 (f_isi ty h) hg mi PyProof.Rows.boot_isinstance h1 (ev_ty hgx mx bx hn hd) (by decide) (by decide) he
theorem told_fst (ms : List Int) : (told ms).map (·.1) = ms := by simp [told, Function.comp_def]
variable (F : Fx K mg cC cR cS)
include F
theorem ok_is_count : Gfn P w K mg base "is_count" 1 (sp3 qI qI qI (fun _ _ _ => True) qB (fun v l m => decide (l ≤ v) && decide (v ≤ m))) := by
  refine gfn3 F.d_is_count sc_is_count rfl fun f cdv A outer s H E v1 v2 v3 a b c V hr r1 r2 r3 hp => ?_
  refine go_ret ((ev_and (ev_isi F.m_isinstance tyd_I (by rfl) (ev_var (i := 0) rfl (.inl rfl) rfl r1) (by rfl) (by rfl) F.m_int PyProof.Rows.boot_int) fun _ => ev_and (ev_not (ev_isi F.m_isinstance tyd_I (by rfl) (ev_var (i := 0) rfl (.inl rfl) rfl r1) (by rfl) (by rfl) F.m_bool PyProof.Rows.boot_bool)) fun _ =>
    ev_one (ev_chain o_le o_le (ev_var (i := 1) rfl (.inl rfl) rfl r2) (ev_var (i := 0) rfl (.inl rfl) rfl r1) (ev_var (i := 2) rfl (.inl rfl) rfl r3))).eq (by rfl)) fun V' v s r => r
theorem ok_is_one_of : Gfn P w K mg base "is_one_of" 1 (sp2 qS (qK K) (fun _ _ => True) qB (fun v xs => decide (v ∈ xs))) := by
  refine gfn2 F.d_is_one_of sc_is_one_of rfl fun f cdv A outer s H E v1 v2 a b V hr r1 r2 hp => ?_
  exact go_ret ((ev_and (ev_isi F.m_isinstance tyd_S (by rfl) (ev_var (i := 0) rfl (.inl rfl) rfl r1) (by rfl) (by rfl) F.m_str PyProof.Rows.boot_str) fun _ => ev_one (ev_cmp o_inK (ev_var (i := 0) rfl (.inl rfl) rfl r1) (ev_var (i := 1) rfl (.inl rfl) rfl r2))).eq (by rfl)) fun V' v s r => r
theorem gx_common : Gfn P w K mg base "common_part" 1 (sp2 qI qI (fun a b => 0 ≤ a ∧ 0 ≤ b) qI mGcd) := ok_common_part F.d_common_part
theorem gx_fraction : Gfn P w K mg base "fraction" 2 (sp2 qI qI (fun _ b => 0 < b ∧ b < 1073741824) qF mFrac) := ok_fraction (k := 0) F.d_fraction (gx_common F) F.m_max F.m_int
theorem gx_plus : Gfn P w K mg base "plus" 3 (sp2 (q2k K qI qI) qF (fun a b => FrB a ∧ FrB b) qF mPlus) := ok_plus F.d_plus (gx_fraction F)
theorem gx_over : Gfn P w K mg base "over" 3 (sp2 qF qI (fun a n => FrB a ∧ 0 < n ∧ n ≤ 100) qF mOver) := ok_over F.d_over (gx_fraction F)
theorem gx_total : Gfn P w K mg base "total" 4 (sp1 (qL qF) (fun xs => ∃ ms, xs = told ms ∧ Mks ms) qF (fun xs => ((xs.map (·.1)).sum, 1))) := by
  obtain ⟨no, h1, h2⟩ := F.v_NOUGHT
  exact ok_total F.d_total (gx_plus F) h1 h2
theorem gx_middle : Gfn P w K mg base "middle" 3 (sp1 (qL qI) (fun ms => ms ≠ [] ∧ ms.length ≤ 1000) qF mMed) := ok_middle F.d_middle (gx_fraction F) F.m_int F.m_sorted F.m_len
abbrev qNat : Rf Nat := fun t v _ => v = .int (t : Int)
instance : Mo qNat := ⟨fun _ h => h⟩
instance : Lt qNat := ⟨fun _ h => h⟩
theorem gx_trimmed : Gfn P w K mg base "trimmed" 3 (sp2 (qL qI) qNat (fun ms t => ms ≠ [] ∧ ms.length ≤ 1000 ∧ t ≤ 10) qF (fun ms t => mTrm t ms)) := ok_trimmed F.d_trimmed (gx_fraction F) F.m_int F.m_sorted F.m_len F.m_sum
theorem gx_less : Gfn P w K mg base "is_less" 1 (sp2 qF qF (fun a b => Sm a.1 ∧ Sm b.1) qB mLess) := ok_is_less F.d_is_less
theorem ok_gathered : Gfn P w K mg base "gathered" 5 (sp3 qG qNat (qL qF) (fun _ t xs => t ≤ 10 ∧ ∃ ms, xs = told ms ∧ Mks ms) qF (fun g t xs => mGath g t (xs.map (·.1)))) := by
  refine gfn3 F.d_gathered sc_gathered rfl fun f cdv A outer s H E v1 v2 v3 g t xs V hr r1 r2 r3 hp => ?_
  obtain ⟨ht, ms, rfl, hm⟩ := hp
  rw [told_fst]
  have hn := hm.2.1
  have hpos := List.length_pos_iff.mpr hm.1
  have hsum := mks_sum (ms := ms) hm.2.2
  have xg := fun p => ev_var (X := bodyX P w K mg base n_gathered "gathered" s_gathered f cdv A outer s H E) (σ := start n_gathered [v1, v2, v3]) (pos := p) (i := 0) rfl (.inl rfl) rfl r1
  have xt := fun p => ev_var (X := bodyX P w K mg base n_gathered "gathered" s_gathered f cdv A outer s H E) (σ := start n_gathered [v1, v2, v3]) (pos := p) (i := 2) rfl (.inl rfl) rfl r3
  have cT := (gx_total (P := P) (w := w) (base := base) F).cal (X := bodyX P w K mg base n_gathered "gathered" s_gathered f cdv A outer s H E) hr (by rfl)
  have tot := fun p p' p'' => ev_c1 (pos := p) (p := p') cT (xt p'') ⟨ms, rfl, hm⟩
  refine go_if (et_cmp (o_eqG .sum) (xg _) ev_str) (fun h => ?_) (fun h => ?_)
  · have e := of_decide_eq_true h
    subst e
    refine go_ret (tot _ _ _) fun V' v s r => ?_
    rw [told_fst] at r
    exact r
  refine go_nil (go_if (et_cmp (o_eqG .mean) (xg _) ev_str) (fun h2 => ?_) (fun h2 => ?_))
  · have e := of_decide_eq_true h2
    subst e
    have b0 : FrB (((told ms).map (·.1)).sum, 1) := by
      rw [told_fst]
      refine ⟨by simp only; omega, by simp only; omega, by simp only; omega, by simp only; omega⟩
    refine go_ret (ev_c2 ((gx_over (P := P) (w := w) (base := base) F).cal (X := bodyX P w K mg base n_gathered "gathered" s_gathered f cdv A outer s H E) hr (by rfl)) (tot _ _ _) (ev_b1 f_lenL (by rfl) F.m_len PySem.boot_len (xt _)) ⟨b0, by rw [List.length_map]; omega, by rw [List.length_map]; omega⟩) fun V' v s r => ?_
    rw [told_fst, List.length_map] at r
    unfold mOver at r
    simp only [Int.one_mul] at r
    exact r
  refine go_nil ?_
  refine go_lcn 4 3 (xs := told ms) (f := fun z => z.1) (S := qI) rfl sc_gathered.nd rfl rfl rfl (src_list (xt _)) (by rw [List.length_map, sizeLine_eq]; omega) (blkOk_by (N := n_gathered) (sc := defScope s_gathered) (by decide +kernel))
    (fun a v V' ha sv ra => fun _ _ _ _ _ => ev_t1 f_intI (by rfl) F.m_int PyProof.Rows.boot_int (ev_ix0 (ev_var (i := 4) rfl (.inl rfl) rfl ra))) (fun V1 v s1 rm => ?_)
  have rm : qL qI ms v V1 := by
    have e := told_fst ms
    rwa [e] at rm
  have xg := fun p => ev_var (X := bodyX P w K mg base n_gathered "gathered" s_gathered f cdv A outer s H E) (σ := (start n_gathered [v1, v2, v3]).set 3 (some v)) (V := V1) (pos := p) (R := qG) (i := 0) rfl (.inl rfl) rfl r1
  have xm := fun p => ev_var (X := bodyX P w K mg base n_gathered "gathered" s_gathered f cdv A outer s H E) (σ := (start n_gathered [v1, v2, v3]).set 3 (some v)) (V := V1) (pos := p) (i := 3) rfl (.inl rfl) rfl rm
  refine go_if (et_cmp (o_eqG .median) (xg _) ev_str) (fun h3 => ?_) (fun h3 => ?_)
  · have e := of_decide_eq_true h3
    subst e
    exact go_ret (ev_c1 ((gx_middle (P := P) (w := w) (base := base) F).cal (X := bodyX P w K mg base n_gathered "gathered" s_gathered f cdv A outer s H E) hr (by rfl)) (xm _) ⟨hm.1, by omega⟩) fun V' v s r => r
  refine go_nil (go_if (et_cmp (o_eqG .trim) (xg _) ev_str) (fun h4 => ?_) (fun h4 => ?_))
  · have e := of_decide_eq_true h4
    subst e
    exact go_ret (ev_c2 ((gx_trimmed (P := P) (w := w) (base := base) F).cal (X := bodyX P w K mg base n_gathered "gathered" s_gathered f cdv A outer s H E) hr (by rfl)) (xm _) (ev_var (R := qNat) (a := t) (i := 1) rfl (.inl rfl) rfl r2) ⟨hm.1, by omega, ht⟩) fun V' v s r => r
  refine go_nil ?_
  refine go_ret (R := qF) (a := mGath g t ms) (ev_if (et_cmp (o_eqG .least) (xg _) ev_str) (fun h5 => ?_) (fun h5 => ?_)) fun V' v s r => r
  · have e := of_decide_eq_true h5
    subst e
    exact ev_tup2 (ev_b1 (f_min rfl (mMin_mem hm.1) (fun y hy => mMin_le hy)) (by rfl) F.m_min PyProof.Rows.boot_min (xm _)) ev_int
  · have e : g = .greatest := by cases g <;> first | rfl | (exact absurd h (by decide)) | (exact absurd h2 (by decide)) | (exact absurd h3 (by decide)) | (exact absurd h4 (by decide)) | (exact absurd h5 (by decide))
    subst e
    exact ev_tup2 (ev_b1 (f_max rfl (mMax_mem hm.1) (fun y hy => le_mMax hy)) (by rfl) F.m_max PyProof.Rows.boot_max (xm _)) ev_int
end
end Om
set_option maxHeartbeats 4000000
/-! Om, defs: crowds. -/
namespace Om
open PySem PySem.Spec PyProof.Rows L2
/-! ### some more rules -/
section
variable {X : Cx} {σ : L2.St} {V M : Hp} {α : Type} {R : Rf α} {a : α} {e : Expr} {pos p : Pos} {x : Str} {P : Post}
theorem ev_cst {i : Int} (h : Cst X.mg x (.int i)) (hg : Gl X x) (hd : (x == ("__debug__" : Str)) = false := by decide) : EvR X (.Name x pos) σ V qI i := by
  obtain ⟨u, h1, h2⟩ := h
  exact ev_glob hg h1 h2 (fun _ _ => rfl) hd
theorem ev_cstS {i : Str} (h : Cst X.mg x (.str i)) (hg : Gl X x) (hd : (x == ("__debug__" : Str)) = false := by decide) : EvR X (.Name x pos) σ V qS i := by
  obtain ⟨u, h1, h2⟩ := h
  exact ev_glob hg h1 h2 (fun _ _ => rfl) hd
theorem ev_cstT {xs : List Str} (h : CstT X.K X.mg x (xs.map L2.V.str)) (hg : Gl X x) (hd : (x == ("__debug__" : Str)) = false := by decide) : EvR X (.Name x pos) σ V (qK X.K) xs := by
  obtain ⟨q, h1, h2⟩ := h
  exact ev_glob (v := .ref q) hg h1 rfl (fun V1 _ => ⟨q, rfl, h2 V1⟩) hd
/-- a sign of a text -/
abbrev qSg : Rf Nat := fun c v _ => v = .str ⟨#[c]⟩
instance : Mo qSg := ⟨fun _ h => h⟩
theorem src_str {tg : Expr} {z : Str} (h : EvR X e σ V qS z) : Src X tg e σ V none qSg z.cps.toList :=
  ⟨fun _ z => (nomatch z), _, pi_str pe_re, fun V1 A Q s l _ q => h V1 A _ s l fun V2 A2 v g r => ⟨z, r, q _ V2 A2 g fun i V' A' sv lv k => by
    rw [Array.length_toList]
    refine ⟨fun hi => hi, fun a ha => ?_⟩
    rw [Array.getElem?_toList] at ha
    obtain ⟨hl, _⟩ := Array.getElem?_eq_some_iff.mp ha
    refine ⟨hl, fun v A'' ⟨e1, c, e2, e3⟩ => ?_⟩
    rw [ha] at e2
    cases e2
    rw [e1]
    exact ⟨V', .refl lv, e3⟩⟩⟩
theorem go_nilO (h : (∀ b, M b ≠ none → V b = none) → P.nx σ V M) : Go X [] σ V M P := fun A D w f => rss_of pss_nil (f.nx σ V M A (.refl w) (h w.di))
theorem jn_m {b : Addr} (h : V b = none) : jn V M b = M b := by
  unfold jn
  rw [h]
theorem jn_at {b : Addr} {o : HO} (d : ∀ b, M b ≠ none → V b = none) (h : M b = some o) : jn V M b = some o := by
  rw [jn_m (d b (by rw [h]; exact fun z => nomatch z)), h]
/-- isinstance(e, C) -/
theorem ev_isiC {C : Addr} {p1 p2 : Pos} [Mo R] (mi : X.mg "isinstance" = none) (ty : Tyd X.K R a (.ref C)) (h : PySem.W.kitOne X.K (.ref C) (.ref C) = some true) (h1 : EvR X e σ V R a) (hg : Gl X "isinstance") (hgx : Gl X x) (mx : X.mg x = some (.ref C)) (hd : (x == ("__debug__" : Str)) = false := by decide)
    (he : starEach [e, .Name x p2] X.env = (false, eval e X.env) :: starEach [.Name x p2] X.env := by rfl) : EvR X (.Call (.Name "isinstance" p1) [e, .Name x p2] [] pos) σ V qB true :=
  ev_b2 (f_isiC ty h) hg mi PyProof.Rows.boot_isinstance h1 (ev_glob (v := .ref C) hgx mx rfl (fun _ _ => rfl) hd) (by decide) (by decide) he
end
/-! ### the mirror -/
section
variable {κ β : Type} [DecidableEq κ]
theorem dput_new {l : List (κ × β)} {k : κ} {b : β} (h : k ∉ l.map (·.1)) : dput l k b = l ++ [(k, b)] := by
  unfold dput
  rw [if_neg]
  intro z
  obtain ⟨x, hx, e⟩ := List.any_eq_true.mp z
  exact h (List.mem_map.mpr ⟨x, hx, of_decide_eq_true e⟩)
theorem dmk_nodup {l : List (κ × β)} (h : (l.map (·.1)).Nodup) : dmk l = l := by
  suffices ∀ (m : List (κ × β)) (acc : List (κ × β)), ((acc ++ m).map (·.1)).Nodup → m.foldl (fun acc x => dput acc x.1 x.2) acc = acc ++ m by simpa [dmk] using this l [] (by simpa using h)
  intro m
  induction m with
  | nil => intro acc _; simp
  | cons x m ih =>
    intro acc hn
    rw [List.foldl_cons, dput_new, ih]
    · simp
    · simpa using hn
    · rw [List.map_append, List.map_cons] at hn
      intro z
      exact (List.nodup_append.mp hn).2.2 _ z _ List.mem_cons_self rfl
theorem dg_some {l : List (κ × β)} {k : κ} {b : β} (h : (l.map (·.1)).Nodup) (hm : (k, b) ∈ l) : dg l k = some b := by
  unfold dg
  induction l with
  | nil => cases hm
  | cons x l ih =>
    rw [List.map_cons, List.nodup_cons] at h
    rcases List.mem_cons.mp hm with e | hm
    · rw [← e]
      simp [List.find?_cons]
    · have hx : ¬ x.1 = k := fun z => h.1 (List.mem_map.mpr ⟨(k, b), hm, z.symm⟩)
      rw [List.find?_cons, decide_eq_false hx]
      exact ih h.2 hm
theorem dg_isSome {l : List (κ × β)} {k : κ} : (dg l k).isSome = decide (k ∈ l.map (·.1)) := by
  unfold dg
  induction l with
  | nil => simp
  | cons x l ih =>
    rw [List.find?_cons]
    by_cases hx : x.1 = k
    · simp [hx]
    · rw [decide_eq_false hx]
      show (Option.map _ (l.find? fun x => decide (x.1 = k))).isSome = _
      rw [ih]
      have h2 : ¬ k = x.1 := fun z => hx z.symm
      simp [h2]
end
structure Cr where
  pp : List Pn
  most : Nat
structure Cr.ok (c : Cr) : Prop where
  nd : c.pp.Nodup
  lo : 1 ≤ c.pp.length
  hi : c.pp.length ≤ 8
  m1 : 1 ≤ c.most
  m2 : c.most ≤ 10
def placesOf (pp : List Pn) : List (Pn × Int) := (enl pp).map fun z => (z.2, z.1)
theorem enl_snd {α : Type} (xs : List α) : (enl xs).map (·.2) = xs := by
  refine List.ext_getElem? fun i => ?_
  rw [List.getElem?_map]
  cases h : (enl xs)[i]? with
  | none =>
    have := List.getElem?_eq_none_iff.mp h
    rw [enl_len] at this
    rw [List.getElem?_eq_none this]
    rfl
  | some y =>
    rw [(enl_get h).2]
    rfl
theorem places_fst (pp : List Pn) : (placesOf pp).map (·.1) = pp := by
  unfold placesOf
  rw [List.map_map]
  exact enl_snd pp
theorem places_len (pp : List Pn) : (placesOf pp).length = pp.length := by
  unfold placesOf
  rw [List.length_map, enl_len]
theorem places_get {pp : List Pn} (h : pp.Nodup) {i : Pn} (hi : i ∈ pp) : dg (placesOf pp) i = some (pp.idxOf i : Int) := by
  refine dg_some (by rw [places_fst]; exact h) ?_
  have hl := List.idxOf_lt_length_iff.mpr hi
  have e : (enl pp)[pp.idxOf i]? = some ((pp.idxOf i : Int), i) := by
    have hl2 : pp.idxOf i < (enl pp).length := by rw [enl_len]; exact hl
    have h1 : (enl pp)[pp.idxOf i]? = some ((enl pp)[pp.idxOf i]) := List.getElem?_eq_getElem hl2
    obtain ⟨e1, e2⟩ := enl_get h1
    rw [List.getElem?_eq_getElem hl, List.getElem_idxOf] at e2
    rw [h1]
    exact congrArg some (Prod.ext e1 (Option.some.inj e2).symm)
  exact List.mem_map.mpr ⟨_, List.mem_of_getElem? e, rfl⟩
theorem word_ok : ∀ i : Pn, (((nm i).cps.toList.map fun c => decide (c ∈ ("abcdefghijklmnopqrstuvwxyz" : Str).cps.toList)).all id) = true ∧ 1 ≤ (nm i).length ∧ (nm i).length ≤ 8 ∧ (nm i).cps.toList.length ≤ 8 := by decide +kernel
def mPairs (pp : List Pn) : List (Pn × Pn) := pp.flatMap fun a => (pp.filter fun b => !decide (a = b)).map fun b => (a, b)
theorem pairs_len (pp : List Pn) : (mPairs pp).length ≤ pp.length * pp.length := by
  unfold mPairs
  rw [List.length_flatMap]
  have h : ∀ x ∈ (pp.map fun a => ((pp.filter fun b => !decide (a = b)).map fun b => (a, b)).length), x ≤ pp.length := by
    intro x hx
    obtain ⟨a, _, rfl⟩ := List.mem_map.mp hx
    rw [List.length_map]
    exact List.length_filter_le _ _
  have h2 : ∀ (l : List Nat) (n : Nat), (∀ x ∈ l, x ≤ n) → l.sum ≤ l.length * n := by
    intro l n hl
    induction l with
    | nil => simp
    | cons x l ih =>
      rw [List.sum_cons, List.length_cons, Nat.succ_mul]
      have h1 := hl x List.mem_cons_self
      have h2 := ih fun y hy => hl y (List.mem_cons_of_mem _ hy)
      omega
  have h3 := h2 _ _ h
  rwa [List.length_map] at h3
/-! ### the thing -/
def qCr (cC : Addr) : Rf Cr := fun c v H => c.ok ∧ ∃ p dx d, v = .ref p ∧ H p = some (.ins cC dx [("own_places", d), ("most", .int (c.most : Int))]) ∧ qDk qP qI (placesOf c.pp) d H
instance {cC : Addr} : Mo (qCr cC) := ⟨fun s ⟨o, p, dx, d, e, h, q⟩ => ⟨o, p, dx, d, e, s _ _ h, Mo.mo s q⟩⟩
section
variable {cC : Addr} {c : Cr}
theorem cr_places : Fld cC "own_places" (qCr cC) c (qDk qP qI) (placesOf c.pp) := fun v H ⟨o, p, dx, d, e, h, q⟩ => ⟨p, dx, _, d, e, h, rfl, q⟩
theorem cr_most : Fld cC "most" (qCr cC) c qNat c.most := fun v H ⟨o, p, dx, d, e, h, q⟩ => ⟨p, dx, _, _, e, h, rfl, rfl⟩
theorem cr_ins : ∀ v H, qCr cC c v H → ∃ p dx fs, v = .ref p ∧ H p = some (.ins cC dx fs) := fun v H ⟨o, p, dx, d, e, h, q⟩ => ⟨p, dx, _, e, h⟩
theorem cr_meth {m : Str} (h : List.lookup m [(("own_places" : Str), L2.V.non), ("most", L2.V.non)] = none) : Ins cC m (qCr cC) c := fun v H ⟨o, p, dx, d, e, hp, q⟩ => ⟨p, dx, _, e, hp, by
  simp only [List.lookup] at h ⊢
  split at h
  · cases h
  · split at h
    · cases h
    · rfl⟩
end
section
variable {P : Program} {w : World} {K : PySem.W.Frag} {mg : Str → Option Value} {base : Heap} {cC cR cS : Addr}
variable (F : Fx K mg cC cR cS)
include F
theorem ok_is_word : Gfn P w K mg base "is_word" 1 (sp1 qP (fun _ => True) qB (fun _ => true)) := by
  refine gfn1 F.d_is_word sc_is_word rfl fun f cdv A outer s H E v1 i V hr r1 hp => ?_
  obtain ⟨w1, w2, w3, w4⟩ := word_ok i
  have rs : qS (nm i) v1 V := r1
  refine go_if (et_w (ew_or (et_not (et_val (ev_isi F.m_isinstance tyd_S (by rfl) (ev_var (i := 0) rfl (.inl rfl) rfl rs) (by rfl) (by rfl) F.m_str PyProof.Rows.boot_str))) fun _ => ew_or1 (et_not (et_chain o_le o_le ev_int (ev_b1 (f_lenS (nm_len i)) (by rfl) F.m_len PySem.boot_len (ev_var (i := 0) rfl (.inl rfl) rfl rs)) (ev_cst F.v_MOST_SIGNS (by rfl)))))) (fun h => ?_) (fun h => ?_)
  · simp at h
    omega
  · refine go_nil (go_ret ((ev_b1 (f_all rfl) (by rfl) F.m_all PyProof.Rows.boot_all (ev_lcn (f := fun c => decide (c ∈ ("abcdefghijklmnopqrstuvwxyz" : Str).cps.toList)) 1 rfl sc_is_word.nd rfl (src_str (ev_var (i := 0) rfl (.inl rfl) rfl rs)) (by rw [sizeLine_eq]; omega)
      (blkOk_by (N := n_is_word) (sc := defScope s_is_word) (by decide +kernel)) (fun a v V' ha sv ra => fun _ _ _ _ _ => ev_cmp o_sign (ev_var (i := 1) rfl (.inl rfl) rfl ra) (ev_cstS F.v_LETTERS (by rfl))))).eq w1) fun V' v s r => r)
theorem ok_are_people : Gfn P w K mg base "are_people" 2 (sp1 (qL qP) (fun pp => pp.Nodup ∧ 1 ≤ pp.length ∧ pp.length ≤ 8) qB (fun _ => true)) := by
  refine gfn1 F.d_are_people sc_are_people rfl fun f cdv A outer s H E v1 pp V hr r1 hp => ?_
  obtain ⟨hnd, h1, h8⟩ := hp
  have cal := (ok_is_word (P := P) (w := w) (base := base) F)
  have hl : pp.length ≤ sizeLine := by rw [sizeLine_eq]; omega
  refine go_if (et_w (ew_or (et_not (et_val (ev_b2 (f_isiT tyd_L (by rfl)) (by rfl) F.m_isinstance PyProof.Rows.boot_isinstance (ev_var (i := 0) rfl (.inl rfl) rfl r1) (ev_tup2 (ev_ty (by rfl) F.m_list PyProof.Rows.boot_list) (ev_ty (by rfl) F.m_tuple PyProof.Rows.boot_tuple))))) fun _ =>
    ew_or1 (et_not (et_chain o_le o_le ev_int (ev_b1 f_lenL (by rfl) F.m_len PySem.boot_len (ev_var (i := 0) rfl (.inl rfl) rfl r1)) (ev_cst F.v_MOST_PEOPLE (by rfl)))))) (fun h => ?_) (fun h => ?_)
  · simp at h
    omega
  · refine go_nil (go_ret ((ev_and (ev_b1 (f_all rfl) (by rfl) F.m_all PyProof.Rows.boot_all (ev_lcn (f := fun _ => true) 1 rfl sc_are_people.nd rfl (src_list (ev_var (i := 0) rfl (.inl rfl) rfl r1)) hl (blkOk_by (N := n_are_people) (sc := defScope s_are_people) (by decide +kernel))
      (fun a v V' ha sv ra => fun s0 H1 C cl fp => ev_c1 (cal.cal (X := bl (bodyX P w K mg base n_are_people "are_people" s_are_people f cdv A outer s H E) _ s0 H1 C cl fp) hr (by rfl)) (ev_var (i := 1) rfl (.inl rfl) rfl ra) trivial))) fun _ =>
      ev_one (ev_cmp o_eqI (ev_b1 f_lenDk (by rfl) F.m_len PySem.boot_len (ev_dcn (f := fun i => (i, (1 : Int))) (RK := qP) (S := qI) 1 rfl sc_are_people.nd rfl (src_list (ev_var (i := 0) rfl (.inl rfl) rfl r1)) hl (blkOk_by (N := n_are_people) (sc := defScope s_are_people) (by decide +kernel))
        (fun a v V' ha sv ra => fun _ _ _ _ _ => ev_var (i := 1) rfl (.inl rfl) rfl ra) (fun a v V' ha sv ra => fun _ _ _ _ _ => ev_int)))
        (ev_b1 f_lenL (by rfl) F.m_len PySem.boot_len (ev_var (i := 0) rfl (.inl rfl) rfl r1)))).eq ?_) fun V' v s r => r)
    rw [dmk_nodup (by rw [List.map_map]; simpa [Function.comp_def] using hnd)]
    simp
theorem ok_Crowd_init : Mkr P w K mg base cC 3 (spI2 cC (qL qP) qNat (fun pp m => pp.Nodup ∧ 1 ≤ pp.length ∧ pp.length ≤ 8 ∧ 1 ≤ m ∧ m ≤ 10) (qCr cC) (fun pp m => ⟨pp, m⟩)) := by
  refine mkr2 F.d_Crowd_init sc_Crowd_init rfl fun f cdv A outer s H E x dx v1 v2 pp m V hr hx r1 r2 hp => ?_
  obtain ⟨hnd, h1, h8, hm1, hm2⟩ := hp
  have hl : pp.length ≤ sizeLine := by rw [sizeLine_eq]; omega
  refine go_if (et_not (et_val (ev_c1 ((ok_are_people (P := P) (w := w) (base := base) F).cal (X := bodyI P w K mg base n_Crowd_init "Crowd.__init__" s_Crowd_init f cdv A outer s H E) hr (by rfl)) (ev_var (i := 1) rfl (.inl rfl) rfl r1) ⟨hnd, h1, h8⟩))) (fun h => nomatch h) (fun _ => go_nil ?_)
  refine go_if (et_not (et_val (ev_c3 ((ok_is_count (P := P) (w := w) (base := base) F).cal (X := bodyI P w K mg base n_Crowd_init "Crowd.__init__" s_Crowd_init f cdv A outer s H E) hr (by rfl)) (ev_var (R := qI) (a := (m : Int)) (i := 2) rfl (.inl rfl) rfl r2) ev_int (ev_cst F.v_MOST_MARK (by rfl)) trivial))) (fun h => ?_) (fun _ => go_nil ?_)
  · simp at h
    omega
  refine go_fld F.c_cC F.n_cC_own_places (fun V' s1 => ev_var (i := 0) rfl (.inl rfl) rfl (show qA x () (.ref x) V' from rfl)) upd_same (by decide) (EvR.m (ev_dc (R := q2 qI qP) (f := fun z => (z.2, z.1)) (p := fun _ => true) (RK := qP) (S := qI) (own := [("at", 3), ("person", 4)]) rfl sc_Crowd_init.nd (src_en (by rfl) F.m_enumerate (ev_var (i := 1) rfl (.inl rfl) rfl r1))
    (by rw [enl_len]; exact hl) (blkOk_by (N := n_Crowd_init) (sc := defScope s_Crowd_init) (by decide +kernel)) (tgb_two (i := 3) (i' := 4) rfl sc_Crowd_init.nd rfl rfl (by decide)) ts_nil (fun a σ' V' at_ _ => ?_) (fun a σ' V' at_ _ => ?_))) fun V1 d s1 rd => ?_
  · obtain ⟨a1, b1, h1, h2, h3, h4, rfl⟩ := at_two (by decide) at_
    exact fun _ _ _ _ _ => ev_var (i := 4) rfl (.inl rfl) rfl h4
  · obtain ⟨a1, b1, h1, h2, h3, h4, rfl⟩ := at_two (by decide) at_
    exact fun _ _ _ _ _ => ev_var (i := 3) rfl (.inl rfl) rfl h3
  have rd : qDk qP qI (placesOf pp) d V1 := by
    have e : dmk (((enl pp).filter fun _ => true).map fun z => (z.2, z.1)) = placesOf pp := by
      rw [List.filter_eq_self.mpr (fun _ _ => rfl), dmk_nodup (by rw [List.map_map]; show ((enl pp).map (·.2)).Nodup; rw [enl_snd]; exact hnd)]
      rfl
    rwa [e] at rd
  refine go_fld F.c_cC F.n_cC_most (fun V' s2 => ev_var (i := 0) rfl (.inl rfl) rfl (show qA x () (.ref x) V' from rfl)) upd_same (show 1 < 1000 by decide) (EvR.m (ev_var (R := qNat) (a := m) (i := 2) rfl (.inl rfl) rfl r2)) fun V2 v s2 rv => ?_
  rw [upd_upd, upd_upd]
  refine go_nilO fun di => ⟨⟨hnd, h1, h8, hm1, hm2⟩, x, dx, d, rfl, ?_, Mo.mo jn_v (Mo.mo s2 rd)⟩
  rw [jn_at di upd_same, show v = _ from rv]
  rfl
theorem ok_Crowd_people : Prp P w K mg base cC "people" 1 (sp1 (qCr cC) (fun _ => True) (qL qP) (fun c => c.pp)) := by
  refine prp1 F.d_Crowd_people sc_Crowd_people rfl fun f cdv A outer s H E v1 c V hr r1 hp => ?_
  refine go_ret ((ev_t1 (f_listDk rfl (by rw [places_len, sizeLine_eq]; have := r1.1.hi; omega)) (by rfl) F.m_list PyProof.Rows.boot_list (ev_fld (ev_var (i := 0) rfl (.inl rfl) rfl r1) cr_places F.c_cC F.n_cC_own_places)).eq (places_fst c.pp)) fun V' v s r => r
theorem ok_Crowd_len : Mth P w K mg base cC "__len__" 1 (sp1 (qCr cC) (fun _ => True) qI (fun c => (c.pp.length : Int))) := by
  refine mth1 F.d_Crowd_len sc_Crowd_len rfl fun f cdv A outer s H E v1 c V hr r1 hp => ?_
  refine go_ret ((ev_b1 f_lenDk (by rfl) F.m_len PySem.boot_len (ev_fld (ev_var (i := 0) rfl (.inl rfl) rfl r1) cr_places F.c_cC F.n_cC_own_places)).eq (by rw [places_len])) fun V' v s r => r
theorem ok_Crowd_contains : Mth P w K mg base cC "__contains__" 2 (sp2 (qCr cC) qP (fun _ _ => True) qB (fun c i => decide (i ∈ c.pp))) := by
  refine mth2 F.d_Crowd_contains sc_Crowd_contains rfl fun f cdv A outer s H E v1 v2 c i V hr r1 r2 hp => ?_
  refine go_ret ((ev_and (ev_c1 ((ok_is_word (P := P) (w := w) (base := base) F).cal (X := bodyI P w K mg base n_Crowd_contains "Crowd.__contains__" s_Crowd_contains f cdv A outer s H E) hr (by rfl)) (ev_var (i := 1) rfl (.inl rfl) rfl r2) trivial) fun _ =>
    ev_one (ev_cmp (o_inDk (by have := hr.units; omega)) (ev_var (i := 1) rfl (.inl rfl) rfl r2) (ev_fld (ev_var (i := 0) rfl (.inl rfl) rfl r1) cr_places F.c_cC F.n_cC_own_places))).eq ?_) fun V' v s r => r
  rw [dg_isSome, places_fst]
  rfl
def ddC (cC : Addr) (fld : Str) {α : Type} : α → Vl → Hp → Addr → Obj → Nat → Prop := fun _ v H d _ _ => ∃ p dx fs, v = .ref p ∧ H p = some (.ins cC dx fs) ∧ fs.lookup fld = some (.ref d)
theorem ok_Crowd_iter : Itr_ P w K mg base cC 1 (qCr cC) (ddC cC "own_places") :=
  itr_of (x := "self") (fld := "own_places") F.d_Crowd_iter sc_Crowd_iter rfl F.m_iter F.c_cC F.n_cC_own_places (by rfl) (fun _ _ _ _ _ _ _ => .inl rfl) (fun _ _ _ _ _ _ _ => by rfl) (by decide) (by decide) rfl (fun a v H d od n _ h => h)
theorem ok_Crowd_place : Mth P w K mg base cC "place" 3 (sp2 (qCr cC) qP (fun c i => i ∈ c.pp) qI (fun c i => (c.pp.idxOf i : Int))) := by
  refine mth2 F.d_Crowd_place sc_Crowd_place rfl fun f cdv A outer s H E v1 v2 c i V hr r1 r2 hp => ?_
  refine go_if (et_cmp (op_own_notin (ok_Crowd_contains (P := P) (w := w) (base := base) F) hr cr_ins trivial) (ev_var (i := 1) rfl (.inl rfl) rfl r2) (ev_var (i := 0) rfl (.inl rfl) rfl r1)) (fun h => ?_) (fun _ => go_nil ?_)
  · simp [hp] at h
  · exact go_ret (ev_getK (by have := hr.units; omega) (ev_fld (ev_var (i := 0) rfl (.inl rfl) rfl r1) cr_places F.c_cC F.n_cC_own_places) (ev_var (i := 1) rfl (.inl rfl) rfl r2) (places_get r1.1.nd hp)) fun V' v s r => r
theorem ok_Crowd_pairs : Mth P w K mg base cC "pairs" 1 (sp1 (qCr cC) (fun _ => True) (qL (q2 qP qP)) (fun c => mPairs c.pp)) := by
  refine mth1 F.d_Crowd_pairs sc_Crowd_pairs rfl fun f cdv A outer s H E v1 c V hr r1 hp => ?_
  have h8 := r1.1.hi
  have e : ((((placesOf c.pp).map (·.1)).filter fun _ => true).flatMap fun a => (((fun _ : Pn => placesOf c.pp) a |>.map (·.1)).filter fun b => !decide (a = b)).map fun b => (a, b)) = mPairs c.pp := by
    rw [List.filter_eq_self.mpr (fun _ _ => rfl), places_fst]
    unfold mPairs
    simp only [places_fst]
  refine go_ret (R := qL (q2 qP qP)) ((ev_lc2 (R := qP) (S := qP) (T := q2 qP qP) (p := fun _ => true) (q := fun z => !decide (z.1 = z.2)) (f := fun z => z) (own := [("one", 1), ("other", 2)]) (vs1 := [2]) rfl sc_Crowd_pairs.nd (src_dk (ev_fld (ev_var (i := 0) rfl (.inr (.inl rfl)) rfl r1) cr_places F.c_cC F.n_cC_own_places)) ?_
    (blkOk_by (N := n_Crowd_pairs) (sc := defScope s_Crowd_pairs) (by decide +kernel)) (by decide) (tgb_in (i := 1) sc_Crowd_pairs.nd rfl) ts_nil (srcb_dk (S := qI) (kvs := fun _ => placesOf c.pp) fun a σ' V' at_ => ?_) (tgb_in (i := 2) sc_Crowd_pairs.nd rfl) (ts_one fun z σ' V' at_ => ?_) (fun z σ' V' at_ _ => ?_)).eq e) fun V' v s r => r
  · rw [show _ = _ from e, sizeLine_eq]
    have h1 := pairs_len c.pp
    have h2 := Nat.mul_le_mul h8 h8
    omega
  · obtain ⟨v, h1, h2, h3, rfl⟩ := at_one at_
    exact fun _ _ _ _ _ => ev_fld (ev_var (i := 0) rfl (.inr (.inl rfl)) rfl (Mo.mo h2 r1)) cr_places F.c_cC F.n_cC_own_places
  · obtain ⟨v, u, h1, h2, h3, h4, h5, rfl⟩ := at_both at_
    exact fun _ _ _ _ _ => et_cmp o_neP (ev_var (i := 1) rfl (.inl rfl) rfl h4) (ev_var (i := 2) rfl (.inl rfl) rfl h5)
  · obtain ⟨v, u, h1, h2, h3, h4, h5, rfl⟩ := at_both at_
    exact fun _ _ _ _ _ => ev_tup2 (ev_var (i := 1) rfl (.inl rfl) rfl h4) (ev_var (i := 2) rfl (.inl rfl) rfl h5)
theorem ok_Crowd_is_pair : Mth P w K mg base cC "is_pair" 3 (sp2 (qCr cC) (q2 qP qP) (fun _ _ => True) qB (fun c z => decide (z.1 ∈ c.pp) && (decide (z.2 ∈ c.pp) && !decide (z.1 = z.2)))) := by
  refine mth2 F.d_Crowd_is_pair sc_Crowd_is_pair rfl fun f cdv A outer s H E v1 v2 c z V hr r1 r2 hp => ?_
  have x0 := fun p => ev_var (X := bodyI P w K mg base n_Crowd_is_pair "Crowd.is_pair" s_Crowd_is_pair f cdv A outer s H E) (σ := start n_Crowd_is_pair [v1, v2]) (pos := p) (i := 0) rfl (.inl rfl) rfl r1
  have x1 := fun p => ev_var (X := bodyI P w K mg base n_Crowd_is_pair "Crowd.is_pair" s_Crowd_is_pair f cdv A outer s H E) (σ := start n_Crowd_is_pair [v1, v2]) (pos := p) (i := 1) rfl (.inl rfl) rfl r2
  have m0 := ok_Crowd_contains (P := P) (w := w) (base := base) F
  refine go_if (et_w (ew_or (et_not (et_val (ev_isi F.m_isinstance tyd_2 (by rfl) (x1 _) (by rfl) (by rfl) F.m_tuple PyProof.Rows.boot_tuple))) fun _ => ew_or1 (et_cmp o_neI (ev_b1 f_len2 (by rfl) F.m_len PySem.boot_len (x1 _)) ev_int))) (fun h => by simp at h) (fun _ => go_nil ?_)
  exact go_ret (ev_and (ev_cmp (op_own_in m0 hr cr_ins trivial) (ev_ix0 (x1 _)) (x0 _)) fun _ => ev_and (ev_cmp (op_own_in m0 hr cr_ins trivial) (ev_ix1 (x1 _)) (x0 _)) fun _ => ev_one (ev_cmp o_neP (ev_ix0 (x1 _)) (ev_ix1 (x1 _)))) fun V' v s r => r
theorem ok_check_crowd : Gfn P w K mg base "check_crowd" 1 (sp1 (qCr cC) (fun _ => True) qN (fun _ => ())) := by
  refine gfn1 F.d_check_crowd sc_check_crowd rfl fun f cdv A outer s H E v1 c V hr r1 hp => ?_
  refine go_if (et_not (et_val (ev_isiC F.m_isinstance (R := qCr cC) (a := c) (fun v V0 H0 l ⟨_, q, dx, d, e, hq, _⟩ => by rw [e]; exact F.t_cC (l.at hq)) F.k_cC (ev_var (i := 0) rfl (.inl rfl) rfl r1) (by rfl) (by rfl) F.g_cC))) (fun h => nomatch h) (fun _ => go_nil (go_nil rfl))
end
end Om
set_option maxHeartbeats 4000000
/-! Om, defs: rules. -/
namespace Om
open PySem PySem.Spec PyProof.Rows L2
section
variable {X : Cx} {σ : L2.St} {V M : Hp} {α : Type} {R : Rf α} {a : α} {e : Expr} {pos p : Pos} {x : Str} {P : Post} {rest : List Stmt}
theorem qL_ref {xs : List α} : ∀ x H, qL R xs x H → (!decide (x = .non)) = true := fun x H ⟨p, vs, e, _⟩ => by
  rw [e]
  rfl
theorem qL_nref {xs : List α} : ∀ x H, qL R xs x H → decide (x = .non) = false := fun x H ⟨p, vs, e, _⟩ => by
  rw [e]
  rfl
theorem go_retM (h : EvM X e σ V M R a) (k : ∀ V' v, Same V V' → R a v V' → P.rt v V' M) : Go X (.Return (some e) pos :: rest) σ V M P :=
  go_of (ps_ret pe_re) fun A D w f => h V A _ (Same.refl _) w fun V2 A2 v g r => f.rt v V2 M A2 g (k V2 v g.vv r)
end
/-! ### the mirror -/
def mFirst (pp one : List Pn) : Pn := (pp.filter fun i => decide (i ∈ one)).headD 0
def mRows (pp : List Pn) (ls : List (List Pn)) : List (List Pn) := pp.flatMap fun p => (ls.filter fun one => decide (p ∈ one) && decide (p = mFirst pp one)).map fun one => pp.filter fun i => decide (i ∈ one)
structure Ru where
  cr : Cr
  reads : List (Pn × Pn)
  ga : Ga
  trim : Nat
  rows : List (List Pn)
  prizes : Nat
structure Ru.ok (r : Ru) : Prop where
  t : r.trim ≤ 3
  n : r.reads.length ≤ 64
  nd : r.reads.Nodup
  row : ∀ i ∈ r.cr.pp, ∃ l ∈ r.rows, i ∈ l
def Ru.dict (r : Ru) : List ((Pn × Pn) × Int) := r.reads.map fun z => (z, 1)
theorem Ru.dict_fst (r : Ru) : r.dict.map (·.1) = r.reads := by
  unfold Ru.dict
  rw [List.map_map]
  simp [Function.comp_def]
def mReaders (r : Ru) (i : Pn) : List Pn := (r.reads.filter fun z => decide (z.2 = i)).map (·.1)
def mListOf (r : Ru) (i : Pn) : List Pn := (r.rows.filter fun l => decide (i ∈ l)).headD []
def mOwn (r : Ru) (i : Pn) : List (Pn × Pn) := r.reads.filter fun z => decide (z.1 = i) && decide (z.2 ∈ mListOf r i)
/-! ### the thing -/
abbrev ruF (c rp lr : Vl) (g : Ga) (t n : Nat) : List (Str × Vl) := [("crowd", c), ("turn", .str "plain"), ("gather", .str (gaS g)), ("trim", .int (t : Int)), ("read_pairs", rp), ("list_rows", lr), ("prizes", .int (n : Int))]
def qRu (cC cR : Addr) : Rf Ru := fun r v H => r.ok ∧ ∃ p dx c rp lr, v = .ref p ∧ H p = some (.ins cR dx (ruF c rp lr r.ga r.trim r.prizes)) ∧ qCr cC r.cr c H ∧ qDt (q2 qP qP) qI r.dict rp H ∧ qU (qU qP) r.rows lr H
instance {cC cR : Addr} : Mo (qRu cC cR) := ⟨fun s ⟨o, p, dx, c, rp, lr, e, h, q1, q2, q3⟩ => ⟨o, p, dx, c, rp, lr, e, s _ _ h, Mo.mo s q1, Mo.mo s q2, Mo.mo s q3⟩⟩
/-- .. as far as has_readers looks -/
def qRq (cR : Addr) : Rf (List (Pn × Pn) × Nat) := fun x v H => ∃ p dx fs rp, v = .ref p ∧ H p = some (.ins cR dx fs) ∧ fs.lookup ("read_pairs" : Str) = some rp ∧ qDt (q2 qP qP) qI (x.1.map fun z => (z, 1)) rp H ∧ fs.lookup ("trim" : Str) = some (.int (x.2 : Int)) ∧ fs.lookup ("has_readers" : Str) = none
instance {cR : Addr} : Mo (qRq cR) := ⟨fun s ⟨p, dx, fs, rp, e, h, l1, q, l2⟩ => ⟨p, dx, fs, rp, e, s _ _ h, l1, Mo.mo s q, l2⟩⟩
section
variable {cC cR : Addr} {r : Ru}
theorem ru_crowd : Fld cR "crowd" (qRu cC cR) r (qCr cC) r.cr := fun v H ⟨o, p, dx, c, rp, lr, e, h, q1, q2, q3⟩ => ⟨p, dx, _, c, e, h, rfl, q1⟩
theorem ru_turn : Fld cR "turn" (qRu cC cR) r qS "plain" := fun v H ⟨o, p, dx, c, rp, lr, e, h, q1, q2, q3⟩ => ⟨p, dx, _, _, e, h, rfl, rfl⟩
theorem ru_gather : Fld cR "gather" (qRu cC cR) r qG r.ga := fun v H ⟨o, p, dx, c, rp, lr, e, h, q1, q2, q3⟩ => ⟨p, dx, _, _, e, h, rfl, rfl⟩
theorem ru_trim : Fld cR "trim" (qRu cC cR) r qNat r.trim := fun v H ⟨o, p, dx, c, rp, lr, e, h, q1, q2, q3⟩ => ⟨p, dx, _, _, e, h, rfl, rfl⟩
theorem ru_reads : Fld cR "read_pairs" (qRu cC cR) r (qDt (q2 qP qP) qI) r.dict := fun v H ⟨o, p, dx, c, rp, lr, e, h, q1, q2, q3⟩ => ⟨p, dx, _, rp, e, h, rfl, q2⟩
theorem ru_rows : Fld cR "list_rows" (qRu cC cR) r (qU (qU qP)) r.rows := fun v H ⟨o, p, dx, c, rp, lr, e, h, q1, q2, q3⟩ => ⟨p, dx, _, lr, e, h, rfl, q3⟩
theorem ru_ins : ∀ v H, qRu cC cR r v H → ∃ p dx fs, v = .ref p ∧ H p = some (.ins cR dx fs) := fun v H ⟨o, p, dx, c, rp, lr, e, h, _⟩ => ⟨p, dx, _, e, h⟩
theorem ru_readers : Ins cR "readers" (qRu cC cR) r := fun v H ⟨o, p, dx, c, rp, lr, e, h, _⟩ => ⟨p, dx, _, e, h, rfl⟩
theorem ru_list_of : Ins cR "list_of" (qRu cC cR) r := fun v H ⟨o, p, dx, c, rp, lr, e, h, _⟩ => ⟨p, dx, _, e, h, rfl⟩
theorem cr_place_i {c : Cr} : Ins cC "place" (qCr cC) c := fun v H ⟨o, p, dx, d, e, hp, q⟩ => ⟨p, dx, _, e, hp, rfl⟩
theorem cr_pairs_i {c : Cr} : Ins cC "pairs" (qCr cC) c := fun v H ⟨o, p, dx, d, e, hp, q⟩ => ⟨p, dx, _, e, hp, rfl⟩
theorem cr_is_pair_i {c : Cr} : Ins cC "is_pair" (qCr cC) c := fun v H ⟨o, p, dx, d, e, hp, q⟩ => ⟨p, dx, _, e, hp, rfl⟩
end
section
variable {P : Program} {w : World} {K : PySem.W.Frag} {mg : Str → Option Value} {base : Heap} {cC cR cS : Addr}
variable (F : Fx K mg cC cR cS)
include F
def RdOk (pp : List Pn) (xs : List (Pn × Pn)) : Prop := xs.Nodup ∧ ∀ z ∈ xs, z.1 ∈ pp ∧ z.2 ∈ pp ∧ z.1 ≠ z.2
theorem ok_are_reads : Gfn P w K mg base "are_reads" 4 (sp2 (qCr cC) (qL (q2 qP qP)) (fun c xs => RdOk c.pp xs ∧ xs.length ≤ 64) qB (fun _ _ => true)) := by
  refine gfn2 F.d_are_reads sc_are_reads rfl fun f cdv A outer s H E v1 v2 c xs V hr r1 r2 hp => ?_
  obtain ⟨⟨hnd, hz⟩, h64⟩ := hp
  have hl : xs.length ≤ sizeLine := by rw [sizeLine_eq]; omega
  have m0 := ok_Crowd_is_pair (P := P) (w := w) (base := base) F
  refine go_if (et_w (ew_or (et_not (et_val (ev_b2 (f_isiT tyd_L (by rfl)) (by rfl) F.m_isinstance PyProof.Rows.boot_isinstance (ev_var (i := 1) rfl (.inl rfl) rfl r2) (ev_tup2 (ev_ty (by rfl) F.m_list PyProof.Rows.boot_list) (ev_ty (by rfl) F.m_tuple PyProof.Rows.boot_tuple))))) fun _ =>
    ew_or1 (et_not (et_val (ev_b1 (f_all rfl) (by rfl) F.m_all PyProof.Rows.boot_all (ev_lcn (f := fun (z : Pn × Pn) => decide (z.1 ∈ c.pp) && (decide (z.2 ∈ c.pp) && !decide (z.1 = z.2))) 2 rfl sc_are_reads.nd rfl (src_list (ev_var (i := 1) rfl (.inl rfl) rfl r2)) hl (blkOk_by (N := n_are_reads) (sc := defScope s_are_reads) (by decide +kernel))
      (fun a v V' ha sv ra => fun _ _ _ _ _ => EvR.eq (ev_m1 (ev_var (i := 0) rfl (.inr (.inl rfl)) rfl (Mo.mo sv r1)) (ev_var (i := 2) rfl (.inl rfl) rfl ra) F.c_cC m0 hr cr_is_pair_i trivial) rfl))))))) (fun h => ?_) (fun _ => go_nil ?_)
  · have e : (xs.map fun z => decide (z.1 ∈ c.pp) && (decide (z.2 ∈ c.pp) && !decide (z.1 = z.2))).all id = true := by
      rw [List.all_eq_true]
      intro b hb
      obtain ⟨z, hm, rfl⟩ := List.mem_map.mp hb
      obtain ⟨e1, e2, e3⟩ := hz z hm
      simp [e1, e2, e3]
    rw [e] at h
    cases h
  · refine go_ret ((ev_cmp o_eqI (ev_b1 (f_lenDt) (by rfl) F.m_len PySem.boot_len (ev_dcTn (f := fun (z : Pn × Pn) => (z, (1 : Int))) (RK := q2 qP qP) (S := qI) 2 (by have := hr.units; omega) rfl sc_are_reads.nd rfl (src_list (ev_var (i := 1) rfl (.inl rfl) rfl r2)) hl (blkOk_by (N := n_are_reads) (sc := defScope s_are_reads) (by decide +kernel))
        (fun a v V' ha sv ra => fun _ _ _ _ _ => ev_var (i := 2) rfl (.inl rfl) rfl ra) (fun a v V' ha sv ra => fun _ _ _ _ _ => ev_int)))
        (ev_b1 f_lenL (by rfl) F.m_len PySem.boot_len (ev_var (i := 1) rfl (.inl rfl) rfl r2))).eq ?_) fun V' v s r => r
    rw [dmk_nodup (by rw [List.map_map]; simpa [Function.comp_def] using hnd)]
    simp
def LsOk (pp : List Pn) (ls : List (List Pn)) : Prop := (∀ l ∈ ls, l ≠ []) ∧ ls.flatten.Nodup ∧ (∀ i, i ∈ ls.flatten ↔ i ∈ pp) ∧ ls.flatten.length = pp.length
theorem ok_are_lists : Gfn P w K mg base "are_lists" 4 (sp2 (qCr cC) (qL (qL qP)) (fun c ls => LsOk c.pp ls) qB (fun _ _ => true)) := by
  refine gfn2 F.d_are_lists sc_are_lists rfl fun f cdv A outer s H E v1 v2 c ls V hr r1 r2 hp => ?_
  obtain ⟨h1, h2, h3, h4⟩ := hp
  have h8 := r1.1.hi
  have hll : ls.length ≤ sizeLine := by
    obtain ⟨_, _, _, _, _, z⟩ := r2
    exact z
  have m0 := ok_Crowd_contains (P := P) (w := w) (base := base) F
  refine go_if (et_not (et_val (ev_b2 (f_isiT tyd_L (by rfl)) (by rfl) F.m_isinstance PyProof.Rows.boot_isinstance (ev_var (i := 1) rfl (.inl rfl) rfl r2) (ev_tup2 (ev_ty (by rfl) F.m_list PyProof.Rows.boot_list) (ev_ty (by rfl) F.m_tuple PyProof.Rows.boot_tuple))))) (fun h => ?_) (fun _ => go_nil ?_)
  · cases h
  refine go_if (et_not (et_val (ev_b1 (f_all rfl) (by rfl) F.m_all PyProof.Rows.boot_all (ev_lcn (f := fun (l : List Pn) => true && decide (0 < (l.length : Int))) 3 rfl sc_are_lists.nd rfl (src_list (ev_var (i := 1) rfl (.inl rfl) rfl r2)) hll (blkOk_by (N := n_are_lists) (sc := defScope s_are_lists) (by decide +kernel))
      (fun a v V' ha sv ra => fun _ _ _ _ _ => ev_and (ev_b2 (f_isiT tyd_L (by rfl)) (by rfl) F.m_isinstance PyProof.Rows.boot_isinstance (ev_var (i := 3) rfl (.inl rfl) rfl ra) (ev_tup2 (ev_ty (by rfl) F.m_list PyProof.Rows.boot_list) (ev_ty (by rfl) F.m_tuple PyProof.Rows.boot_tuple))) fun _ =>
        ev_one (ev_cmp o_gt (ev_b1 f_lenL (by rfl) F.m_len PySem.boot_len (ev_var (i := 3) rfl (.inl rfl) rfl ra)) ev_int)))))) (fun h => ?_) (fun _ => go_nil ?_)
  · have e : (ls.map fun l => true && decide (0 < (l.length : Int))).all id = true := by
      rw [List.all_eq_true]
      intro b hb
      obtain ⟨l, hm, rfl⟩ := List.mem_map.mp hb
      have := List.length_pos_iff.mpr (h1 l hm)
      simpa using this
    rw [e] at h
    cases h
  have efl : ((ls.filter fun _ => true).flatMap fun a => (((fun l : List Pn => l) a).filter fun b => true).map fun b => b) = ls.flatten := by
    simp [List.filter_eq_self.mpr, List.flatMap_id']
  have hln : ls.flatten.length ≤ sizeLine := by rw [h4, sizeLine_eq]; omega
  refine go_setLc2 (i := 2) (R := qL qP) (S := qP) (T := qP) (p := fun _ => true) (q := fun _ => true) (f := fun z => z.2) (ys := fun l => l) (own := [("one", 3), ("person", 4)]) (vs1 := [4]) rfl sc_are_lists.nd rfl rfl (sw_true rfl rfl rfl (by decide +kernel)) (src_list (ev_var (i := 1) rfl (.inl rfl) rfl r2)) (by rw [show _ = _ from efl]; exact hln)
    (blkOk_by (N := n_are_lists) (sc := defScope s_are_lists) (by decide +kernel)) (by decide) (tgb_in (i := 3) sc_are_lists.nd rfl) ts_nil (srcb_list fun a σ' V' at_ => ?_) (tgb_in (i := 4) sc_are_lists.nd rfl) ts_nil (fun z σ' V' at_ _ => ?_) (fun V1 m s1 rm => ?_)
  · obtain ⟨v, g1, g2, g3, rfl⟩ := at_one at_
    exact fun _ _ _ _ _ => ev_var (i := 3) rfl (.inl rfl) rfl g3
  · obtain ⟨v, u, g1, g2, g3, g4, g5, rfl⟩ := at_both at_
    exact fun _ _ _ _ _ => ev_var (i := 4) rfl (.inl rfl) rfl g5
  have rm : qL qP ls.flatten m V1 := by rwa [efl] at rm
  refine go_if (et_w (ew_or (et_not (et_val (ev_b1 (f_all rfl) (by rfl) F.m_all PyProof.Rows.boot_all (ev_lcn (f := fun (i : Pn) => decide (i ∈ c.pp)) 4 rfl sc_are_lists.nd rfl (src_list (ev_var (i := 2) rfl (.inl rfl) rfl rm)) hln (blkOk_by (N := n_are_lists) (sc := defScope s_are_lists) (by decide +kernel))
      (fun a v V' ha sv ra => fun _ _ _ _ _ => EvR.eq (ev_cmp (op_own_in m0 hr cr_ins trivial) (ev_var (i := 4) rfl (.inl rfl) rfl ra) (ev_var (i := 0) rfl (.inr (.inl rfl)) rfl (Mo.mo (s1.trans sv) r1))) rfl))))) fun _ =>
    ew_or1 (et_cmp o_neI (ev_b1 f_lenL (by rfl) F.m_len PySem.boot_len (ev_var (i := 2) rfl (.inl rfl) rfl rm)) (ev_b1 (f_own_len (ok_Crowd_len (P := P) (w := w) (base := base) F) hr cr_ins trivial (by omega) (by omega)) (by rfl) F.m_len PySem.boot_len (ev_var (i := 0) rfl (.inr (.inl rfl)) rfl (Mo.mo s1 r1)))))) (fun h => ?_) (fun _ => go_nil ?_)
  · have e : (ls.flatten.map fun i => decide (i ∈ c.pp)).all id = true := by
      rw [List.all_eq_true]
      intro b hb
      obtain ⟨i, hm, rfl⟩ := List.mem_map.mp hb
      simp [(h3 i).mp hm]
    rw [e] at h
    simp [h4] at h
  · refine go_ret ((ev_cmp o_eqI (ev_b1 f_lenDk (by rfl) F.m_len PySem.boot_len (ev_dcn (f := fun (i : Pn) => (i, (1 : Int))) (RK := qP) (S := qI) 4 rfl sc_are_lists.nd rfl (src_list (ev_var (i := 2) rfl (.inl rfl) rfl rm)) hln (blkOk_by (N := n_are_lists) (sc := defScope s_are_lists) (by decide +kernel))
        (fun a v V' ha sv ra => fun _ _ _ _ _ => ev_var (i := 4) rfl (.inl rfl) rfl ra) (fun a v V' ha sv ra => fun _ _ _ _ _ => ev_int)))
        (ev_b1 f_lenL (by rfl) F.m_len PySem.boot_len (ev_var (i := 2) rfl (.inl rfl) rfl rm))).eq ?_) fun V' v s r => r
    rw [dmk_nodup (by rw [List.map_map]; simpa [Function.comp_def] using h2), List.length_map]
    exact decide_eq_true rfl
end
end Om
set_option maxHeartbeats 4000000
/-! Om, defs: rules, further. -/
namespace Om
open PySem PySem.Spec PyProof.Rows L2
section
variable {P : Program} {w : World} {K : PySem.W.Frag} {mg : Str → Option Value} {base : Heap} {cC cR cS : Addr}
variable (F : Fx K mg cC cR cS)
include F
theorem ok_first_of : Gfn P w K mg base "first_of" 3 (sp2 (qCr cC) (qL qP) (fun c one => ∃ i ∈ c.pp, i ∈ one) qP (fun c one => mFirst c.pp one)) := by
  refine gfn2 F.d_first_of sc_first_of rfl fun f cdv A outer s H E v1 v2 c one V hr r1 r2 hp => ?_
  obtain ⟨i, h1, h2⟩ := hp
  have hm : i ∈ c.pp.filter fun i => decide (i ∈ one) := List.mem_filter.mpr ⟨h1, decide_eq_true h2⟩
  refine go_ret (ev_ixL (i := 0) (xs := c.pp.filter fun i => decide (i ∈ one)) (EvR.eq (ev_lcf (p := fun (i : Pn) => decide (i ∈ one)) (f := fun i => i) 2 rfl sc_first_of.nd rfl (src_list (ev_prop (ev_var (i := 0) rfl (.inl rfl) rfl r1) F.c_cC (ok_Crowd_people (P := P) (w := w) (base := base) F) hr cr_ins trivial)) (by have := r1.1.hi; rw [sizeLine_eq]; omega)
    (blkOk_by (N := n_first_of) (sc := defScope s_first_of) (by decide +kernel)) (fun a v V' ha sv ra => fun _ _ _ _ _ => et_cmp o_inP (ev_var (i := 2) rfl (.inl rfl) rfl ra) (ev_var (i := 1) rfl (.inr (.inl rfl)) rfl (Mo.mo sv r2))) (fun a v V' ha _ sv ra => fun _ _ _ _ _ => ev_var (i := 2) rfl (.inl rfl) rfl ra)) (List.map_id' _)) ev_int (a := mFirst c.pp one) ?_) fun V' v s r => r
  unfold mFirst
  cases e : c.pp.filter fun i => decide (i ∈ one) with
  | nil => rw [e] at hm; cases hm
  | cons x l => rfl
theorem mRows_take (pp : List Pn) (ls : List (List Pn)) {j : Nat} {x : Pn} (h : pp[j]? = some x) (G : Pn → List (List Pn)) : (pp.take (j + 1)).flatMap G = (pp.take j).flatMap G ++ G x := by
  rw [List.take_add_one, h]
  simp
theorem ok_lists_in_order : Gfn P w K mg base "lists_in_order" 4 (sp2 (qCr cC) (qL (qL qP)) (fun c ls => ls.length ≤ 8) (qU (qU qP)) (fun c ls => mRows c.pp ls)) := by
  refine gfn2 F.d_lists_in_order sc_lists_in_order rfl fun f cdv A outer s H E v1 v2 c ls V hr r1 r2 hp => ?_
  have h8 := r1.1.hi
  have people := ok_Crowd_people (P := P) (w := w) (base := base) F
  have cF := (ok_first_of (P := P) (w := w) (base := base) F).cal (X := bodyX P w K mg base n_lists_in_order "lists_in_order" s_lists_in_order f cdv A outer s H E) hr (by rfl)
  generalize hG : (fun p => (ls.filter fun one => decide (p ∈ one) && decide (p = mFirst c.pp one)).map fun one => c.pp.filter fun i => decide (i ∈ one)) = G
  have hGp : ∀ p, G p = (ls.filter fun one => decide (p ∈ one) && decide (p = mFirst c.pp one)).map fun one => c.pp.filter fun i => decide (i ∈ one) := fun p => by rw [← hG]
  have hGl : ∀ p, (G p).length ≤ 8 := fun p => by
    rw [hGp, List.length_map]
    exact Nat.le_trans (List.length_filter_le _ _) hp
  have hln : ∀ l : List Pn, (l.flatMap G).length ≤ 8 * l.length := fun l => by
    induction l with
    | nil => simp
    | cons x l ih =>
      rw [List.flatMap_cons, List.length_append, List.length_cons]
      have := hGl x
      omega
  refine go_newL (i := 2) (R := qU qP) (xs := []) sc_lists_in_order.nd rfl (.inl rfl) el_nil (Nat.zero_le _) fun V1 d vs0 s1 hd1 hd2 al0 => ?_
  have z0 : vs0 = [] := by cases al0; rfl
  subst z0
  refine go_for PassesOwn.never rfl (tg_name (i := 3) sc_lists_in_order.nd rfl (.inl rfl)) (src_list (R := qP) (xs := c.pp) (ev_prop (ev_var (i := 0) rfl (.inl rfl) rfl (Mo.mo s1 r1)) F.c_cC people hr cr_ins trivial))
    (fun j σ V' M' => ∃ vs y1 y2, σ = [some v1, some v2, some (.ref d), y1, y2, none] ∧ M' = upd H0 d (.lst vs) ∧ Al (qU qP) ((c.pp.take j).flatMap G) vs V') (fun V2 s2 => ⟨[], none, none, rfl, rfl, .nil⟩) ?_ ?_
  · rintro j x v σ' σ2 V0 V' M' hx ⟨vs, y1, y2, rfl, rfl, al⟩ s0 s2 rx rfl
    have hxm : x ∈ c.pp := List.mem_of_getElem? hx
    have r1' : qCr cC c v1 V' := Mo.mo ((s1.trans s0).trans s2) r1
    have r2' : qL (qL qP) ls v2 V' := Mo.mo ((s1.trans s0).trans s2) r2
    have hj : j < c.pp.length := (List.getElem?_eq_some_iff.mp hx).1
    refine go_for PassesOwn.never rfl (tg_name (i := 4) sc_lists_in_order.nd rfl (.inr rfl)) (src_list (ev_var (i := 1) rfl (.inl rfl) rfl r2'))
      (fun k σ V2 M2 => ∃ us y, σ = [some v1, some v2, some (.ref d), some v, y, none] ∧ M2 = upd H0 d (.lst us) ∧ Al (qU qP) ((c.pp.take j).flatMap G ++ ((ls.take k).filter fun one => decide (x ∈ one) && decide (x = mFirst c.pp one)).map fun one => c.pp.filter fun i => decide (i ∈ one)) us V2 ∧ (∀ k', k' ≤ k → True))
      (fun V2 s3 => ⟨vs, y2, rfl, rfl, by simpa using (al.mo s2).mo s3, fun _ _ => trivial⟩) ?_ ?_
    · rintro k one u σ3 σ4 V2 V3 M2 hone ⟨us, y, rfl, rfl, al2, _⟩ s3 s4 ro rfl
      have r1'' : qCr cC c v1 V3 := Mo.mo (s3.trans s4) r1'
      have rx'' : qP x v V3 := rx
      have tk : ls.take (k + 1) = ls.take k ++ [one] := by rw [List.take_add_one, hone]; rfl
      have hkl : k < ls.length := (List.getElem?_eq_some_iff.mp hone).1
      have lus : us.length ≤ 72 := by
        have h1 := al2.len
        rw [List.length_append, List.length_map] at h1
        have h2 := hln (c.pp.take j)
        have h3 := List.length_take_le j c.pp
        have h4 := List.length_filter_le (fun one => decide (x ∈ one) && decide (x = mFirst c.pp one)) (ls.take k)
        rw [List.length_take] at h2 h4
        omega
      refine go_if (et_w (ew_and (et_cmp o_inP (ev_var (i := 3) rfl (.inl rfl) rfl rx'') (ev_var (i := 4) rfl (.inr (.inl rfl)) rfl ro)) fun hin => ew_and1 (et_cmp o_eqP (ev_var (i := 3) rfl (.inl rfl) rfl rx'') (ev_c2 cF (ev_var (i := 0) rfl (.inl rfl) rfl r1'') (ev_var (i := 4) rfl (.inr (.inl rfl)) rfl ro) ⟨x, hxm, of_decide_eq_true hin⟩)))) (fun h => ?_) (fun h => ?_)
      · refine go_app (l := d) (vs := us) (ev_var (i := 2) rfl (.inl rfl) rfl (show qA d () (.ref d) _ from rfl)) upd_same (by rw [sizeLine_eq]; omega) (EvR.m (ev_t1 f_tupL (by rfl) F.m_tuple PyProof.Rows.boot_tuple (EvR.eq (ev_lcf (p := fun (i : Pn) => decide (i ∈ one)) (f := fun i => i) 5 rfl sc_lists_in_order.nd rfl (src_list (ev_prop (ev_var (i := 0) rfl (.inl rfl) rfl r1'') F.c_cC people hr cr_ins trivial)) (by rw [sizeLine_eq]; omega)
          (blkOk_by (N := n_lists_in_order) (sc := defScope s_lists_in_order) (by decide +kernel)) (fun a v V' ha sv ra => fun _ _ _ _ _ => et_cmp o_inP (ev_var (i := 5) rfl (.inl rfl) rfl ra) (ev_var (i := 4) rfl (.inr (.inl rfl)) rfl (Mo.mo sv ro))) (fun a v V' ha _ sv ra => fun _ _ _ _ _ => ev_var (i := 5) rfl (.inl rfl) rfl ra)) (List.map_id' _)))) fun V4 nv s5 rn => ?_
        rw [upd_upd]
        refine go_nil (go_nil ⟨us ++ [nv], some u, rfl, rfl, ?_, fun _ _ => trivial⟩)
        rw [tk, List.filter_append, List.filter_cons, h, if_pos rfl, List.filter_nil, List.map_append, ← List.append_assoc]
        exact (al2.mo (s4.trans s5)).app (.cons rn .nil)
      · refine go_nil (go_nil ⟨us, some u, rfl, rfl, ?_, fun _ _ => trivial⟩)
        rw [tk, List.filter_append, List.filter_cons, h]
        simpa using al2.mo s4
    · rintro σ3 V2 M2 ⟨us, y, rfl, rfl, al2, _⟩ s3
      refine go_nil ⟨us, some v, y, rfl, rfl, ?_⟩
      rw [List.take_length] at al2
      rw [mRows_take F c.pp ls hx G, hGp x]
      exact al2
  · rintro σ' V' M' ⟨vs, y1, y2, rfl, rfl, al⟩ s2
    rw [List.take_length] at al
    refine go_show fun hd => ?_
    have lvs : (c.pp.flatMap G).length ≤ sizeLine := by
      have := hln c.pp
      rw [sizeLine_eq]
      omega
    have sd : Same V' (upd V' d (.lst vs)) := fun b o e => by
      rw [upd_ne (fun z => by rw [z, hd] at e; cases e)]
      exact e
    refine go_ret (R := qU (qU qP)) (a := mRows c.pp ls) (EvR.eq (ev_t1 f_tupL (by rfl) F.m_tuple PyProof.Rows.boot_tuple (ev_var (i := 2) (R := qL (qU qP)) (a := c.pp.flatMap G) rfl (.inl rfl) rfl ⟨d, vs, rfl, upd_same, al.mo sd, lvs⟩)) ?_) fun V3 u s3 ru => ru
    rw [← hG]
    rfl
end
end Om
set_option maxHeartbeats 4000000
/-! Om, defs: rules, their reads. -/
namespace Om
open PySem PySem.Spec PyProof.Rows L2
abbrev pd (xs : List (Pn × Pn)) : List ((Pn × Pn) × Int) := xs.map fun z => (z, 1)
theorem pd_fst (xs : List (Pn × Pn)) : (pd xs).map (·.1) = xs := by
  rw [List.map_map]
  simp [Function.comp_def]
section
variable {cC cR : Addr} {x : List (Pn × Pn) × Nat}
theorem rq_reads : Fld cR "read_pairs" (qRq cR) x (qDt (q2 qP qP) qI) (pd x.1) := fun v H ⟨p, dx, fs, rp, e, h, l1, q, l2, l3⟩ => ⟨p, dx, fs, rp, e, h, l1, q⟩
theorem rq_trim : Fld cR "trim" (qRq cR) x qNat x.2 := fun v H ⟨p, dx, fs, rp, e, h, l1, q, l2, l3⟩ => ⟨p, dx, fs, _, e, h, l2, rfl⟩
theorem rq_meth : Ins cR "has_readers" (qRq cR) x := fun v H ⟨p, dx, fs, rp, e, h, l1, q, l2, l3⟩ => ⟨p, dx, fs, e, h, l3⟩
end
section
variable {P : Program} {w : World} {K : PySem.W.Frag} {mg : Str → Option Value} {base : Heap} {cC cR cS : Addr}
variable (F : Fx K mg cC cR cS)
include F
theorem ok_has_readers : Mth P w K mg base cR "has_readers" 1 (sp2 (qRq cR) qP (fun x _ => x.1.length ≤ 64 ∧ x.2 ≤ 3) qB (fun x i => decide (2 * (x.2 : Int) < ((x.1.filter fun z => decide (z.2 = i)).length : Int)))) := by
  refine mth2 F.d_Rule_has_readers sc_Rule_has_readers rfl fun f cdv A outer s H E v1 v2 x i V hr r1 r2 hp => ?_
  obtain ⟨h64, h3⟩ := hp
  refine go_ret (EvR.eq (ev_cmp o_gt (ev_b1 f_lenL (by rfl) F.m_len PySem.boot_len (ev_lcf (xs := (pd x.1).map (·.1)) (R := q2 qP qP) (S := qI) (p := fun (z : Pn × Pn) => decide (z.2 = i)) (f := fun _ => (1 : Int)) 2 rfl sc_Rule_has_readers.nd rfl
    (src_dt (ev_fld (ev_var (i := 0) rfl (.inl rfl) rfl r1) rq_reads F.c_cR F.n_cR_read_pairs)) (by rw [pd_fst, sizeLine_eq]; omega) (blkOk_by (N := n_Rule_has_readers) (sc := defScope s_Rule_has_readers) (by decide +kernel))
    (fun a v V' ha sv ra => fun _ _ _ _ _ => et_cmp o_eqP (ev_ix1 (ev_var (i := 2) rfl (.inl rfl) rfl ra)) (ev_var (i := 1) rfl (.inr (.inl rfl)) rfl r2)) (fun a v V' ha _ sv ra => fun _ _ _ _ _ => ev_int)))
    (ev_bin (o_mul (.inl (show Sm 2 from ⟨by decide, by decide⟩))) ev_int (ev_fld (ev_var (i := 0) rfl (.inl rfl) rfl r1) rq_trim F.c_cR F.n_cR_trim))) ?_) fun V' v s r => r
  rw [List.length_map, pd_fst]
theorem ok_Rule_iter : Itr_ P w K mg base cR 1 (qRu cC cR) (ddC cR "read_pairs") :=
  itr_of (x := "self") (fld := "read_pairs") F.d_Rule_iter sc_Rule_iter rfl F.m_iter F.c_cR F.n_cR_read_pairs (by rfl) (fun _ _ _ _ _ _ _ => .inl rfl) (fun _ _ _ _ _ _ _ => by rfl) (by decide) (by decide) rfl (fun a v H d od n _ h => h)
theorem ok_readers : Mth P w K mg base cR "readers" 3 (sp2 (qRu cC cR) qP (fun r i => i ∈ r.cr.pp) (qL qP) mReaders) := by
  refine mth2 F.d_Rule_readers sc_Rule_readers rfl fun f cdv A outer s H E v1 v2 r i V hr r1 r2 hp => ?_
  refine go_if (et_cmp (op_own_notin (ok_Crowd_contains (P := P) (w := w) (base := base) F) hr cr_ins trivial) (ev_var (i := 1) rfl (.inr (.inl rfl)) rfl r2) (ev_fld (ev_var (i := 0) rfl (.inl rfl) rfl r1) ru_crowd F.c_cR F.n_cR_crowd)) (fun h => ?_) (fun _ => go_nil ?_)
  · simp [hp] at h
  refine go_ret (EvR.eq (ev_lcf (xs := r.dict.map (·.1)) (R := q2 qP qP) (S := qP) (p := fun (z : Pn × Pn) => decide (z.2 = i)) (f := fun (z : Pn × Pn) => z.1) 2 rfl sc_Rule_readers.nd rfl
    (src_dt (ev_fld (ev_var (i := 0) rfl (.inl rfl) rfl r1) ru_reads F.c_cR F.n_cR_read_pairs)) (by rw [r.dict_fst, sizeLine_eq]; have := r1.1.n; omega) (blkOk_by (N := n_Rule_readers) (sc := defScope s_Rule_readers) (by decide +kernel))
    (fun a v V' ha sv ra => fun _ _ _ _ _ => et_cmp o_eqP (ev_ix1 (ev_var (i := 2) rfl (.inl rfl) rfl ra)) (ev_var (i := 1) rfl (.inr (.inl rfl)) rfl r2)) (fun a v V' ha _ sv ra => fun _ _ _ _ _ => ev_ix0 (ev_var (i := 2) rfl (.inl rfl) rfl ra))) ?_) fun V' v s r => r
  rw [r.dict_fst]
  rfl
theorem ok_list_of : Mth P w K mg base cR "list_of" 3 (sp2 (qRu cC cR) qP (fun r i => i ∈ r.cr.pp) (qL qP) mListOf) := by
  refine mth2 F.d_Rule_list_of sc_Rule_list_of rfl fun f cdv A outer s H E v1 v2 r i V hr r1 r2 hp => ?_
  refine go_if (et_cmp (op_own_notin (ok_Crowd_contains (P := P) (w := w) (base := base) F) hr cr_ins trivial) (ev_var (i := 1) rfl (.inr (.inl rfl)) rfl r2) (ev_fld (ev_var (i := 0) rfl (.inl rfl) rfl r1) ru_crowd F.c_cR F.n_cR_crowd)) (fun h => ?_) (fun _ => go_nil ?_)
  · simp [hp] at h
  have hl : r.rows.length ≤ sizeLine := by
    obtain ⟨_, _, _, _, _, _, _, _, _, _, _, _, _, _, _, z⟩ := r1
    exact z
  refine go_ret (ev_ixL (i := 0) (xs := r.rows.filter fun l => decide (i ∈ l)) (EvR.eq (ev_lcf (xs := r.rows) (R := qU qP) (S := qL qP) (p := fun (l : List Pn) => decide (i ∈ l)) (f := fun l => l) 2 rfl sc_Rule_list_of.nd rfl
    (src_tup (ev_fld (ev_var (i := 0) rfl (.inl rfl) rfl r1) ru_rows F.c_cR F.n_cR_list_rows)) hl (blkOk_by (N := n_Rule_list_of) (sc := defScope s_Rule_list_of) (by decide +kernel))
    (fun a v V' ha sv ra => fun _ _ _ _ _ => et_cmp o_inPU (ev_var (i := 1) rfl (.inr (.inl rfl)) rfl r2) (ev_var (i := 2) rfl (.inl rfl) rfl ra)) (fun a v V' ha _ sv ra => fun _ _ _ _ _ => ev_t1 f_listU (by rfl) F.m_list PyProof.Rows.boot_list (ev_var (i := 2) rfl (.inl rfl) rfl ra))) (List.map_id' _)) ev_int (a := mListOf r i) ?_) fun V' v s r => r
  obtain ⟨l, h1, h2⟩ := r1.1.row i hp
  have hm : l ∈ r.rows.filter fun l => decide (i ∈ l) := List.mem_filter.mpr ⟨h1, decide_eq_true h2⟩
  unfold mListOf
  cases e : r.rows.filter fun l => decide (i ∈ l) with
  | nil => rw [e] at hm; cases hm
  | cons x l => rfl
theorem ok_check_rule : Gfn P w K mg base "check_rule" 1 (sp1 (qRu cC cR) (fun _ => True) qN (fun _ => ())) := by
  refine gfn1 F.d_check_rule sc_check_rule rfl fun f cdv A outer s H E v1 c V hr r1 hp => ?_
  refine go_if (et_not (et_val (ev_isiC F.m_isinstance (R := qRu cC cR) (a := c) (fun v V0 H0 l ⟨_, p, dx, _, _, _, e, hq, _⟩ => by rw [e]; exact F.t_cR (l.at hq)) F.k_cR (ev_var (i := 0) rfl (.inl rfl) rfl r1) (by rfl) (by rfl) F.g_cR))) (fun h => nomatch h) (fun _ => go_nil (go_nil rfl))
theorem ok_check_person : Gfn P w K mg base "check_person" 3 (sp2 (qRu cC cR) qP (fun r i => i ∈ r.cr.pp) qN (fun _ _ => ())) := by
  refine gfn2 F.d_check_person sc_check_person rfl fun f cdv A outer s H E v1 v2 r i V hr r1 r2 hp => ?_
  refine go_if (et_cmp (op_own_notin (ok_Crowd_contains (P := P) (w := w) (base := base) F) hr cr_ins trivial) (ev_var (i := 1) rfl (.inl rfl) rfl r2) (ev_fld (ev_var (i := 0) rfl (.inl rfl) rfl r1) ru_crowd F.c_cR F.n_cR_crowd)) (fun h => ?_) (fun _ => go_nil (go_nil rfl))
  simp [hp] at h
theorem ok_own_reads : Gfn P w K mg base "own_reads" 4 (sp2 (qRu cC cR) qP (fun r i => i ∈ r.cr.pp) (qL (q2 qP qP)) mOwn) := by
  refine gfn2 F.d_own_reads sc_own_reads rfl fun f cdv A outer s H E v1 v2 r i V hr r1 r2 hp => ?_
  refine go_expr Sees.self (ev_c1 ((ok_check_rule (P := P) (w := w) (base := base) F).cal (X := bodyX P w K mg base n_own_reads "own_reads" s_own_reads f cdv A outer s H E) hr (by rfl)) (ev_var (i := 0) rfl (.inl rfl) rfl r1) trivial) ?_
  refine go_expr Sees.self (ev_c2 ((ok_check_person (P := P) (w := w) (base := base) F).cal (X := bodyX P w K mg base n_own_reads "own_reads" s_own_reads f cdv A outer s H E) hr (by rfl)) (ev_var (i := 0) rfl (.inl rfl) rfl r1) (ev_var (i := 1) rfl (.inr (.inl rfl)) rfl r2) hp) ?_
  refine go_set (i := 2) sc_own_reads.nd rfl (.inr rfl) (ev_m1 (ev_var (i := 0) rfl (.inl rfl) rfl r1) (ev_var (i := 1) rfl (.inr (.inl rfl)) rfl r2) F.c_cR (ok_list_of (P := P) (w := w) (base := base) F) hr ru_list_of hp) fun V1 m s1 rm => ?_
  refine go_ret (R := qL (q2 qP qP)) (a := mOwn r i) (EvR.eq (ev_lcf (xs := r.dict.map (·.1)) (R := q2 qP qP) (S := q2 qP qP) (p := fun (z : Pn × Pn) => decide (z.1 = i) && decide (z.2 ∈ mListOf r i)) (f := fun z => z) 3 rfl sc_own_reads.nd rfl
    (src_ownT (S := qI) (kvs := r.dict) (ev_var (i := 0) rfl (.inl rfl) rfl (Mo.mo s1 r1)) (ok_Rule_iter (P := P) (w := w) (base := base) F) hr (fun v H ⟨_, p, dx, c, rp, lr, e, hq, q1, ⟨d, od, ks, e1, e2, e3⟩, q3⟩ => ⟨p, dx, _, d, od, ks, e, hq, ⟨p, dx, _, e, hq, by rw [e1]; rfl⟩, e2, e3⟩)) (by rw [r.dict_fst, sizeLine_eq]; have := r1.1.n; omega)
    (blkOk_by (N := n_own_reads) (sc := defScope s_own_reads) (by decide +kernel))
    (fun a v V' ha sv ra => fun _ _ _ _ _ => et_w (ew_and (et_cmp o_eqP (ev_ix0 (ev_var (i := 3) rfl (.inl rfl) rfl ra)) (ev_var (i := 1) rfl (.inr (.inl rfl)) rfl r2)) fun _ => ew_and1 (et_cmp o_inP (ev_ix1 (ev_var (i := 3) rfl (.inl rfl) rfl ra)) (ev_var (i := 2) rfl (.inr (.inl rfl)) rfl (Mo.mo sv rm))))) (fun a v V' ha _ sv ra => fun _ _ _ _ _ => ev_var (i := 3) rfl (.inl rfl) rfl ra)) ?_) fun V' v s r => r
  rw [r.dict_fst, List.map_id']
  rfl
end
end Om
set_option maxHeartbeats 4000000
/-! Om, defs: Rule.__init__. -/
namespace Om
open PySem PySem.Spec PyProof.Rows L2
theorem pairs_nodup {pp : List Pn} (h : pp.Nodup) : (mPairs pp).Nodup := by
  unfold mPairs
  rw [List.flatMap_def]
  refine List.pairwise_flatten.mpr ⟨fun l hl => ?_, ?_⟩
  · obtain ⟨a, _, rfl⟩ := List.mem_map.mp hl
    rw [List.pairwise_map]
    exact (List.Pairwise.filter _ h).imp fun hne z => hne (Prod.ext_iff.mp z).2
  · rw [List.pairwise_map]
    refine List.Pairwise.imp ?_ h
    intro a b hab x h1 y h2 z
    obtain ⟨i, _, rfl⟩ := List.mem_map.mp h1
    obtain ⟨j, _, rfl⟩ := List.mem_map.mp h2
    exact hab (Prod.ext_iff.mp z).1
structure RuA where
  cr : Cr
  reads : List (Pn × Pn)
  ga : Ga
  trim : Nat
  lists : List (List Pn)
  prizes : Nat
def RuA.mk' (a : RuA) : Ru := ⟨a.cr, (mPairs a.cr.pp).filter fun z => decide (z ∈ a.reads), a.ga, a.trim, mRows a.cr.pp a.lists, a.prizes⟩

structure RuA.ok (a : RuA) : Prop where
  rd : RdOk a.cr.pp a.reads
  rn : a.reads.length ≤ 64
  t1 : a.ga = .trim → 1 ≤ a.trim
  t2 : a.ga ≠ .trim → a.trim = 0
  ls : LsOk a.cr.pp a.lists
  ln : a.lists.length ≤ 8
  hr : ∀ l ∈ mRows a.cr.pp a.lists, 1 < l.length → ∀ i ∈ l, 2 * (a.trim : Int) < ((a.mk'.reads.filter fun z => decide (z.2 = i)).length : Int)
  pz : a.prizes ≤ 8
  ru : a.mk'.ok
  rows : (mRows a.cr.pp a.lists).length ≤ 8
  rowl : ∀ l ∈ mRows a.cr.pp a.lists, l.length ≤ 8
/-- the rows of a rule in the making -/
def qRl (cR : Addr) : Rf (List (List Pn)) := fun x v H => ∃ p dx fs lr, v = .ref p ∧ H p = some (.ins cR dx fs) ∧ fs.lookup ("list_rows" : Str) = some lr ∧ qU (qU qP) x lr H
instance {cR : Addr} : Mo (qRl cR) := ⟨fun s ⟨p, dx, fs, lr, e, h, l1, q⟩ => ⟨p, dx, fs, lr, e, s _ _ h, l1, Mo.mo s q⟩⟩
theorem rl_rows {cR : Addr} {x : List (List Pn)} : Fld cR "list_rows" (qRl cR) x (qU (qU qP)) x := fun v H ⟨p, dx, fs, lr, e, h, l1, q⟩ => ⟨p, dx, fs, lr, e, h, l1, q⟩
def spIR (cC cR : Addr) : Sp := fun vs H Q _ => ∃ (x dx : Addr) (H1 : Hp) (v1 v2 v3 v4 v5 v6 v7 : Vl) (a : RuA) (V : Hp), vs = [.ref x, v1, v2, v3, v4, v5, v6, v7] ∧ Born cR x dx H1 H ∧ Le V H1 ∧ qCr cC a.cr v1 V ∧ v2 = .str "plain" ∧ qL (q2 qP qP) a.reads v3 V ∧ qG a.ga v4 V ∧ v5 = .int (a.trim : Int) ∧ qL (qL qP) a.lists v6 V ∧ v7 = .int (a.prizes : Int) ∧ a.ok ∧
  ∀ V' H', Grow V H1 V' H' → qRu cC cR a.mk' (.ref x) V' → Q .non H'
section
variable {P : Program} {w : World} {K : PySem.W.Frag} {mg : Str → Option Value} {base : Heap} {cC cR cS : Addr}
variable (F : Fx K mg cC cR cS)
include F
theorem rule_body (f : Addr) (cdv : Value) (A : Around) (outer : List Env) (s : Shared) (H : Hp) (E : XK) (x dx : Addr) (v1 v3 v4 v6 : Vl) (a : RuA) (V : Hp) (hr : Room 4 (bodyI P w K mg base n_Rule_init "Rule.__init__" s_Rule_init f cdv A outer s H E).A) (r1 : qCr cC a.cr v1 V) (r3 : qL (q2 qP qP) a.reads v3 V) (r4 : qG a.ga v4 V) (r6 : qL (qL qP) a.lists v6 V) (ok : a.ok) :
    Go (bodyI P w K mg base n_Rule_init "Rule.__init__" s_Rule_init f cdv A outer s H E) (defBody s_Rule_init) (start n_Rule_init [.ref x, v1, .str "plain", v3, v4, .int (a.trim : Int), v6, .int (a.prizes : Int)]) V (upd H0 x (.ins cR dx [])) (IniP (qRu cC cR) a.mk' x) := by
  have h8 := r1.1.hi
  have u65 : (bodyI P w K mg base n_Rule_init "Rule.__init__" s_Rule_init f cdv A outer s H E).A.units + 65 < cLine := by have := hr.un; omega
  have cOne := (ok_is_one_of (P := P) (w := w) (base := base) F).cal (X := bodyI P w K mg base n_Rule_init "Rule.__init__" s_Rule_init f cdv A outer s H E) hr (by rfl)
  have cCnt := (ok_is_count (P := P) (w := w) (base := base) F).cal (X := bodyI P w K mg base n_Rule_init "Rule.__init__" s_Rule_init f cdv A outer s H E) hr (by rfl)
  refine go_expr Sees.self (ev_c1 ((ok_check_crowd (P := P) (w := w) (base := base) F).cal (X := bodyI P w K mg base n_Rule_init "Rule.__init__" s_Rule_init f cdv A outer s H E) hr (by rfl)) (ev_var (i := 1) rfl (.inl rfl) rfl r1) trivial) ?_
  refine go_if (et_not (et_val (ev_c2 cOne (ev_var (R := qS) (a := "plain") (i := 2) rfl (.inl rfl) rfl rfl) (ev_cstT (xs := ["plain", "centred", "placed"]) F.v_TURNS (by rfl)) trivial))) (fun h => ?_) (fun _ => go_nil ?_)
  · exact absurd h (by decide +kernel)
  refine go_if (et_w (ew_and (et_cmp (o_notN qL_ref) (ev_var (i := 3) rfl (.inr (.inl rfl)) rfl r3) ev_non) fun _ => ew_and1 (et_not (et_val (ev_c2 ((ok_are_reads (P := P) (w := w) (base := base) F).cal (X := bodyI P w K mg base n_Rule_init "Rule.__init__" s_Rule_init f cdv A outer s H E) hr (by rfl)) (ev_var (i := 1) rfl (.inl rfl) rfl r1) (ev_var (i := 3) rfl (.inr (.inl rfl)) rfl r3) ⟨ok.rd, ok.rn⟩))))) (fun h => ?_) (fun _ => go_nil ?_)
  · cases h
  refine go_if (et_not (et_val (ev_c2 cOne (ev_var (R := qS) (a := gaS a.ga) (i := 4) rfl (.inl rfl) rfl r4) (ev_if (R := qK K) (a := ["sum", "mean", "median", "trim", "least", "greatest"]) (et_cmp o_eqS (ev_var (R := qS) (a := "plain") (i := 2) rfl (.inl rfl) rfl rfl) ev_str) (fun _ => ev_cstT (xs := ["sum", "mean", "median", "trim", "least", "greatest"]) F.v_GATHERS (by rfl)) (fun h => absurd h (by decide +kernel))) trivial))) (fun h => ?_) (fun _ => go_nil ?_)
  · have gm : ∀ g : Ga, decide (gaS g ∈ (["sum", "mean", "median", "trim", "least", "greatest"] : List Str)) = true := by
      intro g
      cases g <;> decide +kernel
    rw [gm] at h
    cases h
  refine go_if (et_not (et_val (ev_c3 cCnt (ev_var (R := qI) (a := (a.trim : Int)) (i := 5) rfl (.inl rfl) rfl rfl) (ev_if (R := qI) (a := if a.ga = .trim then 1 else 0) (et_cmp (o_eqG .trim) (ev_var (i := 4) rfl (.inl rfl) rfl r4) ev_str) (fun h => EvR.eq ev_int (by rw [if_pos (of_decide_eq_true h)])) (fun h => EvR.eq ev_int (by rw [if_neg (of_decide_eq_false h)])))
    (ev_if (R := qI) (a := if a.ga = .trim then 3 else 0) (et_cmp (o_eqG .trim) (ev_var (i := 4) rfl (.inl rfl) rfl r4) ev_str) (fun h => EvR.eq (ev_cst F.v_MOST_TRIM (by rfl)) (by rw [if_pos (of_decide_eq_true h)])) (fun h => EvR.eq ev_int (by rw [if_neg (of_decide_eq_false h)]))) trivial))) (fun h => ?_) (fun _ => go_nil ?_)
  · have t3 := ok.ru.t
    have t3 : a.trim ≤ 3 := t3
    by_cases e : a.ga = .trim
    · have := ok.t1 e
      rw [if_pos e, if_pos e] at h
      simp at h
      omega
    · have := ok.t2 e
      rw [if_neg e, if_neg e] at h
      simp at h
      omega
  refine go_if (et_w (ew_and (et_cmp (o_notN qL_ref) (ev_var (i := 6) rfl (.inl rfl) rfl r6) ev_non) fun _ => ew_and1 (et_not (et_val (ev_c2 ((ok_are_lists (P := P) (w := w) (base := base) F).cal (X := bodyI P w K mg base n_Rule_init "Rule.__init__" s_Rule_init f cdv A outer s H E) hr (by rfl)) (ev_var (i := 1) rfl (.inl rfl) rfl r1) (ev_var (i := 6) rfl (.inl rfl) rfl r6) ok.ls))))) (fun h => ?_) (fun _ => go_nil ?_)
  · cases h
  have me := fun V' p => ev_var (X := bodyI P w K mg base n_Rule_init "Rule.__init__" s_Rule_init f cdv A outer s H E) (σ := start n_Rule_init [.ref x, v1, .str "plain", v3, v4, .int (a.trim : Int), v6, .int (a.prizes : Int)]) (V := V') (pos := p) (R := qA x) (a := ()) (i := 0) rfl (.inr (.inl rfl)) rfl rfl
  refine go_fld F.c_cR F.n_cR_crowd (fun V' s1 => me V' _) upd_same (by decide) (EvR.m (ev_var (i := 1) rfl (.inl rfl) rfl r1)) fun V1 c s1 rc => ?_
  rw [upd_upd]
  refine go_fld F.c_cR F.n_cR_turn (fun V' s1 => me V' _) upd_same (show 1 < 1000 by decide) (EvR.m (ev_var (R := qS) (a := "plain") (i := 2) rfl (.inl rfl) rfl rfl)) fun V2 u2 s2 e2 => ?_
  rw [upd_upd]
  refine go_fld F.c_cR F.n_cR_gather (fun V' s1 => me V' _) upd_same (show 2 < 1000 by decide) (EvR.m (ev_var (R := qG) (a := a.ga) (i := 4) rfl (.inl rfl) rfl r4)) fun V3 u3 s3 e3 => ?_
  rw [upd_upd]
  refine go_fld F.c_cR F.n_cR_trim (fun V' s1 => me V' _) upd_same (show 3 < 1000 by decide) (EvR.m (ev_var (R := qI) (a := (a.trim : Int)) (i := 5) rfl (.inl rfl) rfl rfl)) fun V4 u4 s4 e4 => ?_
  rw [upd_upd]
  have s04 : Same V V4 := ((s1.trans s2).trans s3).trans s4
  have lp : (mPairs a.cr.pp).length ≤ 64 := Nat.le_trans (pairs_len _) (Nat.mul_le_mul h8 h8)
  refine go_fld F.c_cR F.n_cR_read_pairs (fun V' s1 => me V' _) upd_same (show 4 < 1000 by decide) (EvR.m (ev_dcTf (xs := mPairs a.cr.pp) (R := q2 qP qP) (RK := q2 qP qP) (S := qI) (p := fun (z : Pn × Pn) => decide (z ∈ a.reads)) (f := fun z => (z, (1 : Int))) 8 (by have := hr.units; omega) rfl sc_Rule_init.nd rfl
    (src_list (EvR.eq (ev_m0 (ev_var (i := 1) rfl (.inl rfl) rfl (Mo.mo s04 r1)) F.c_cC (ok_Crowd_pairs (P := P) (w := w) (base := base) F) hr cr_pairs_i trivial) rfl)) (by rw [sizeLine_eq]; omega) (blkOk_by (N := n_Rule_init) (sc := defScope s_Rule_init) (by decide +kernel))
    (fun z v V' hz sv rz => fun _ _ _ _ _ => EvT.eq (et_w (ew_or (et_cmp (o_isN qL_nref) (ev_var (i := 3) rfl (.inr (.inl rfl)) rfl (Mo.mo (s04.trans sv) r3)) ev_non) fun _ => ew_or1 (et_cmp (o_inD u65) (ev_var (i := 8) rfl (.inl rfl) rfl rz) (ev_var (i := 3) rfl (.inr (.inl rfl)) rfl (Mo.mo (s04.trans sv) r3))))) (by first | rfl | simp))
    (fun z v V' hz sv rz => fun _ _ _ _ _ => ev_var (i := 8) rfl (.inl rfl) rfl rz) (fun z v V' hz sv rz => fun _ _ _ _ _ => ev_int))) fun V5 rp s5 rrp => ?_
  rw [upd_upd]
  have nd := pairs_nodup r1.1.nd
  have rrp : qDt (q2 qP qP) qI a.mk'.dict rp V5 := by
    have e : dmk (((mPairs a.cr.pp).filter fun z => decide (z ∈ a.reads)).map fun z => (z, (1 : Int))) = a.mk'.dict := dmk_nodup (by rw [pd_fst]; exact nd.filter _)
    rwa [e] at rrp
  have s05 := s04.trans s5
  refine go_fld F.c_cR F.n_cR_list_rows (fun V' s1 => me V' _) upd_same (show 5 < 1000 by decide) (EvR.m (ev_c2 ((ok_lists_in_order (P := P) (w := w) (base := base) F).cal (X := bodyI P w K mg base n_Rule_init "Rule.__init__" s_Rule_init f cdv A outer s H E) hr (by rfl)) (ev_var (i := 1) rfl (.inl rfl) rfl (Mo.mo s05 r1))
    (ev_if (R := qL (qL qP)) (a := a.lists) (et_cmp (o_isN qL_nref) (ev_var (i := 6) rfl (.inl rfl) rfl (Mo.mo s05 r6)) ev_non) (fun h => nomatch h) (fun _ => ev_var (i := 6) rfl (.inl rfl) rfl (Mo.mo s05 r6))) ok.ln)) fun V6 lr s6 rlr => ?_
  rw [upd_upd]
  generalize hfs : (L2.putF "list_rows" lr (L2.putF "read_pairs" rp (L2.putF "trim" u4 (L2.putF "gather" u3 (L2.putF "turn" u2 (L2.putF "crowd" c [])))))) = fs
  have hf : fs = ([("crowd", c), ("turn", u2), ("gather", u3), ("trim", u4), ("read_pairs", rp), ("list_rows", lr)] : List (Str × Vl)) := by
    rw [← hfs]
    rfl
  refine go_di fun di => ?_
  have hx6 : jn V6 (upd H0 x (.ins cR dx fs)) x = some (.ins cR dx fs) := jn_at di upd_same
  have rq : qRq cR (a.mk'.reads, a.trim) (.ref x) (jn V6 (upd H0 x (.ins cR dx fs))) := ⟨x, dx, fs, rp, rfl, hx6, by rw [hf]; rfl, Mo.mo (s6.trans jn_v) rrp, by rw [hf, show u4 = _ from e4]; rfl, by rw [hf]; rfl⟩
  have rl : qRl cR (mRows a.cr.pp a.lists) (.ref x) (jn V6 (upd H0 x (.ins cR dx fs))) := ⟨x, dx, fs, lr, rfl, hx6, by rw [hf]; rfl, Mo.mo jn_v rlr⟩
  have hall : (((mRows a.cr.pp a.lists).filter fun l => decide (1 < (l.length : Int))).flatMap fun l => ((l.filter fun _ => true).map fun i => decide (2 * (a.trim : Int) < ((a.mk'.reads.filter fun z => decide (z.2 = i)).length : Int)))).all id = true := by
    rw [List.all_eq_true]
    intro b hb
    obtain ⟨l, hl, hb⟩ := List.mem_flatMap.mp hb
    obtain ⟨h1, h2⟩ := List.mem_filter.mp hl
    obtain ⟨i, hi, rfl⟩ := List.mem_map.mp hb
    have := ok.hr l h1 (by have := of_decide_eq_true h2; omega) i (List.mem_filter.mp hi).1
    exact decide_eq_true this
  have lsm : ∀ (ls : List (List Pn)) (g : Pn → Bool), (∀ l ∈ ls, l.length ≤ 8) → (ls.flatMap fun l => ((l.filter fun _ => true).map g)).length ≤ 8 * ls.length := fun ls g h => by
    induction ls with
    | nil => simp
    | cons l ls ih =>
      rw [List.flatMap_cons, List.length_append, List.length_cons, List.length_map]
      have h1 := h l List.mem_cons_self
      have h2 := List.length_filter_le (fun _ => true) l
      have h3 := ih fun x hx => h x (List.mem_cons_of_mem _ hx)
      omega
  have has := ok_has_readers (P := P) (w := w) (base := base) F
  refine go_if (hW := jn_sees) (EvT.eq (et_not (et_val (ev_b1 (f_all rfl) (by rfl) F.m_all PyProof.Rows.boot_all (ev_lc2 (R := qU qP) (S := qP) (T := qB) (xs := mRows a.cr.pp a.lists) (ys := fun l => l) (p := fun (l : List Pn) => decide (1 < (l.length : Int))) (q := fun _ => true) (f := fun z => decide (2 * (a.trim : Int) < ((a.mk'.reads.filter fun y => decide (y.2 = z.2)).length : Int)))
    (own := [("one", 9), ("person", 10)]) (vs1 := [10]) rfl sc_Rule_init.nd (src_tup (ev_fld (ev_var (i := 0) rfl (.inr (.inl rfl)) rfl rl) rl_rows F.c_cR F.n_cR_list_rows)) ?_ (blkOk_by (N := n_Rule_init) (sc := defScope s_Rule_init) (by decide +kernel)) (by decide) (tgb_in (i := 9) sc_Rule_init.nd rfl)
    (ts_one fun l σ' V' at_ => ?_) (srcb_tup fun l σ' V' at_ => ?_) (tgb_in (i := 10) sc_Rule_init.nd rfl) ts_nil (fun z σ' V' at_ _ => ?_))))) (b' := false) (by rw [hall]; rfl)) (fun h => nomatch h) (fun _ => go_nil ?_)
  · have h1 := lsm ((mRows a.cr.pp a.lists).filter fun l => decide (1 < (l.length : Int))) (fun i => decide (2 * (a.trim : Int) < ((a.mk'.reads.filter fun z => decide (z.2 = i)).length : Int))) (fun l hl => ok.rowl l (List.mem_filter.mp hl).1)
    have h2 := List.length_filter_le (fun l : List Pn => decide (1 < (l.length : Int))) (mRows a.cr.pp a.lists)
    have h3 := ok.rows
    rw [sizeLine_eq]
    refine Nat.le_trans h1 ?_
    omega
  · obtain ⟨v, g1, g2, g3, rfl⟩ := at_one at_
    exact fun _ _ _ _ _ => et_cmp o_gt (ev_b1 f_lenU (by rfl) F.m_len PySem.boot_len (ev_var (i := 9) rfl (.inl rfl) rfl g3)) ev_int
  · obtain ⟨v, g1, g2, g3, rfl⟩ := at_one at_
    exact fun _ _ _ _ _ => ev_var (i := 9) rfl (.inl rfl) rfl g3
  · obtain ⟨v, u, g1, g2, g3, g4, g5, rfl⟩ := at_both at_
    exact fun _ _ _ _ _ => EvR.eq (ev_m1 (ev_var (i := 0) rfl (.inr (.inl rfl)) rfl (Mo.mo g3 rq)) (ev_var (i := 10) rfl (.inl rfl) rfl g5) F.c_cR has hr rq_meth ⟨ok.ru.n, ok.ru.t⟩) rfl
  refine go_if (et_not (et_val (ev_c3 cCnt (ev_var (R := qI) (a := (a.prizes : Int)) (i := 7) rfl (.inl rfl) rfl rfl) ev_int (ev_cst F.v_MOST_PRIZES (by rfl)) trivial))) (fun h => ?_) (fun _ => go_nil ?_)
  · have := ok.pz
    simp at h
    omega
  refine go_fld F.c_cR F.n_cR_prizes (fun V' s1 => me V' _) upd_same (by rw [hf]; exact (by decide : 6 < 1000)) (EvR.m (ev_var (R := qI) (a := (a.prizes : Int)) (i := 7) rfl (.inl rfl) rfl rfl)) fun V7 u7 s7 e7 => ?_
  rw [upd_upd]
  refine go_nilO fun di => ⟨ok.ru, x, dx, c, rp, lr, rfl, ?_, ?_, Mo.mo ((s6.trans s7).trans jn_v) rrp, Mo.mo (s7.trans jn_v) rlr⟩
  · rw [jn_at di upd_same, hf, show u2 = _ from e2, show u3 = _ from e3, show u4 = _ from e4, show u7 = _ from e7]
    rfl
  · exact Mo.mo ((((((s2.trans s3).trans s4).trans s5).trans s6).trans s7).trans jn_v) rc
theorem ok_Rule_init : ∃ f fd g gV, Mk K cR f ∧ KBn K fd ["self", "crowd", "turn", "reads", "gather", "trim", "lists", "prizes"] 2 ["turn", "reads", "gather", "trim", "lists", "prizes"] g gV ∧ (∀ vs zs, vs.length = 2 → zs.length = 6 → gV vs zs = vs ++ zs) ∧
    FnOk P w K mg base CX0 5 f fd ["self", "crowd", "turn", "reads", "gather", "trim", "lists", "prizes"] (spIR cC cR) := by
  obtain ⟨f, fd, g, gV, FD, mk, kb, hg⟩ := F.d_Rule_init.ex
  refine ⟨f, fd, g, gV, mk, kb, hg, FD.ok sc_Rule_init (fun vs H Q E h => ?_) (fun cdv A outer s H vs Q E hr hsp => ?_)⟩
  · obtain ⟨x, dx, H1, v1, v2, v3, v4, v5, v6, v7, a, V, rfl, _⟩ := h
    rfl
  · obtain ⟨x, dx, H1, v1, v2, v3, v4, v5, v6, v7, a, V, rfl, bo, l, r1, rfl, r3, r4, rfl, r6, rfl, ok, q⟩ := hsp
    exact ⟨_, PSs.nox pss_rs, rule_body F f cdv A outer s H E x dx v1 v3 v4 v6 a V hr r1 r3 r4 r6 ok H _ (bo.ow l) ⟨fun σ' V' M' A' s hS => q _ A' (bo.grow l s) hS, fun _ _ _ _ _ z => z.elim, fun _ _ _ _ _ z => z.elim, fun _ _ _ _ _ z => z.elim⟩⟩
end
end Om
set_option maxHeartbeats 4000000
/-! Om, the mathematics, part 3: bunches. -/
namespace Om
def mLast (one : List Int) : Int := one.getLast?.getD 0
def mBun (most : Nat) : Nat → List (List Int)
  | 0 => [[]]
  | n + 1 => (mBun most n).flatMap fun one => (rgl (mLast one) ((most : Int) + 1 - mLast one).toNat).map fun m => one ++ [m]
theorem rgl_mem {lo : Int} {n : Nat} {a : Int} : a ∈ rgl lo n ↔ lo ≤ a ∧ a < lo + (n : Int) := by
  constructor
  · intro h
    obtain ⟨i, hi⟩ := List.mem_iff_getElem?.mp h
    obtain ⟨h1, h2⟩ := rgl_get hi
    omega
  · rintro ⟨h1, h2⟩
    unfold rgl
    refine List.mem_map.mpr ⟨(a - lo).toNat, List.mem_range.mpr (by omega), by omega⟩
/-- the bunches: so many marks, each at least the one before -/
theorem mBun_mem {most : Nat} : ∀ {n : Nat} {ms : List Int}, ms ∈ mBun most n ↔ ms.length = n ∧ ms.Pairwise (· ≤ ·) ∧ ∀ m ∈ ms, 0 ≤ m ∧ m ≤ (most : Int)
  | 0, ms => by
    unfold mBun
    rw [List.mem_singleton]
    constructor
    · rintro rfl
      exact ⟨rfl, .nil, fun _ h => nomatch h⟩
    · rintro ⟨h, _⟩
      exact List.length_eq_zero_iff.mp h
  | n + 1, ms => by
    unfold mBun
    rw [List.mem_flatMap]
    constructor
    · rintro ⟨one, ho, hm⟩
      obtain ⟨m, hr, rfl⟩ := List.mem_map.mp hm
      obtain ⟨h1, h2, h3⟩ := mBun_mem.mp ho
      obtain ⟨r1, r2⟩ := rgl_mem.mp hr
      have l0 : 0 ≤ mLast one ∧ (∀ x ∈ one, x ≤ mLast one) := by
        unfold mLast
        rcases List.eq_nil_or_concat one with rfl | ⟨ys, y, rfl⟩
        · exact ⟨Int.le_refl _, fun _ h => nomatch h⟩
        · rw [List.concat_eq_append] at h2 h3 ⊢
          rw [List.getLast?_concat]
          refine ⟨(h3 y (by simp)).1, fun x hx => ?_⟩
          rcases List.mem_append.mp hx with h | h
          · exact (List.pairwise_append.mp h2).2.2 x h y (by simp)
          · have : x = y := by simpa using h
            rw [this]
            exact Int.le_refl _
      refine ⟨by simp [h1], List.pairwise_append.mpr ⟨h2, by simp, fun x hx y hy => ?_⟩, fun x hx => ?_⟩
      · have : y = m := by simpa using hy
        have := l0.2 x hx
        omega
      · rcases List.mem_append.mp hx with h | h
        · exact h3 x h
        · have : x = m := by simpa using h
          omega
    · rintro ⟨h1, h2, h3⟩
      rcases List.eq_nil_or_concat ms with rfl | ⟨ys, y, rfl⟩
      · cases h1
      · rw [List.concat_eq_append] at h1 h2 h3 ⊢
        obtain ⟨p1, _, p3⟩ := List.pairwise_append.mp h2
        refine ⟨ys, mBun_mem.mpr ⟨by simpa using h1, p1, fun m hm => h3 m (List.mem_append_left _ hm)⟩, List.mem_map.mpr ⟨y, rgl_mem.mpr ?_, rfl⟩⟩
        have hy := h3 y (by simp)
        have hl : mLast ys ≤ y := by
          unfold mLast
          rcases List.eq_nil_or_concat ys with rfl | ⟨zs, z, rfl⟩
          · exact hy.1
          · rw [List.concat_eq_append, List.getLast?_concat]
            exact p3 z (by simp) y (by simp)
        omega
theorem mLast_nn {most n : Nat} {ms : List Int} (h : ms ∈ mBun most n) : 0 ≤ mLast ms ∧ mLast ms ≤ (most : Int) := by
  obtain ⟨h1, h2, h3⟩ := mBun_mem.mp h
  unfold mLast
  rcases List.eq_nil_or_concat ms with rfl | ⟨ys, y, rfl⟩
  · exact ⟨Int.le_refl _, by simp⟩
  · rw [List.concat_eq_append, List.getLast?_concat]
    exact h3 y (by rw [List.concat_eq_append]; simp)
theorem flat_len {α β : Type} {l : List α} {f : α → List β} {k : Nat} (h : ∀ x ∈ l, (f x).length ≤ k) : (l.flatMap f).length ≤ l.length * k := by
  induction l with
  | nil => simp
  | cons x l ih =>
    rw [List.flatMap_cons, List.length_append, List.length_cons, Nat.succ_mul]
    have h1 := h x List.mem_cons_self
    have h2 := ih fun y hy => h y (List.mem_cons_of_mem _ hy)
    omega
theorem mBun_len {most : Nat} : ∀ n : Nat, (mBun most n).length ≤ (most + 1) ^ n
  | 0 => by simp [mBun]
  | n + 1 => by
    unfold mBun
    rw [Nat.pow_succ]
    refine Nat.le_trans (flat_len (k := most + 1) fun one ho => ?_) (Nat.mul_le_mul_right _ (mBun_len n))
    rw [List.length_map, rgl_len]
    have := mLast_nn ho
    omega
theorem mBun_small {most n : Nat} (h1 : most ≤ 3) (h2 : n ≤ 6) : (mBun most n).length ≤ 4096 := by
  refine Nat.le_trans (mBun_len n) (Nat.le_trans (Nat.pow_le_pow_left (show most + 1 ≤ 4 by omega) n) ?_)
  exact Nat.le_trans (Nat.pow_le_pow_right (by omega) h2) (by decide)
end Om
set_option maxHeartbeats 4000000
/-! Om, defs: swings, part 1. -/
namespace Om
open PySem PySem.Spec PyProof.Rows L2
section
variable {X : Cx} {σ : L2.St} {V M : Hp} {α β : Type} {R : Rf α} {a : α} {e tg : Expr} {pos p : Pos} {x : Str} {P : Post} {rest : List Stmt} {up : L2.St → Vl → Hp → L2.St → Prop}
/-- x, y = e -/
theorem go_unp (ht : Tgt X tg R up) (h : EvR X e σ V R a) (k : ∀ V' v σ', Same V V' → R a v V' → up σ v V' σ' → Go X rest σ' V' M P) (hs : swapsWithSole [tg] e pos.line X.env = pure false := by rfl) (hw : swappedStores [tg] e X.env = pure none := by rfl)
    (h1 : (assignEach [tg] X.env).map (·.2) = [assign tg X.env] := by rfl) : Go X (.Assign [tg] e pos :: rest) σ V M P := by
  obtain ⟨g, hg, hk⟩ := ht
  exact go_of (ps_asg pe_re hg hs hw h1) fun A D w f => h V A _ (Same.refl _) w.va fun V2 A2 v g2 r => hk a v σ V2 A2 _ g2.va r fun σ' u => go_next f (g2.stp w) (k V2 v σ' g2.vv r u)
/-- [elt for x in iter if ..] where the target is two names -/
theorem at_pair {γ δ : Type} {Y : Rf γ} {Z : Rf δ} {i j : Nat} {z : γ × δ} {σ' : L2.St} {v : Vl} {V' : Hp} (r : q2 Y Z z v V') (u : ∃ p a b, v = .ref p ∧ V' p = some (.tup [a, b]) ∧ σ' = (σ.set i (some a)).set j (some b)) :
    ∃ a b, Y z.1 a V' ∧ Z z.2 b V' ∧ σ' = (σ.set i (some a)).set j (some b) := by
  obtain ⟨p, a, b, rfl, hp, r1, r2⟩ := r
  obtain ⟨p', a', b', e, hp', rfl⟩ := u
  cases e
  rw [hp] at hp'
  cases hp'
  exact ⟨a, b, r1, r2, rfl⟩
end
section
variable {X : Cx} {κ β : Type} [DecidableEq κ] {S : Rf β} {kvs : List (Int × β)}
/-- sorted(d) of whole numbers -/
theorem f_sortedDk (hc : X.calm = true) (hl : kvs.length < 64) : Fn1 X (.builtin "sorted") (qDk qI S) kvs (qL qI) (mSort (kvs.map (·.1))) :=
  ⟨_, call_sortedDI hc, fun V1 A x Q l ⟨d, od, ks, ev, hd, pr⟩ q => ⟨d, ks, kvs.map (·.1), by rw [ev], .inr ⟨od, l.at hd⟩, by rw [pr.keys, List.map_map]; rfl, by rw [List.length_map]; exact hl, fun ys t h1 h2 ht => by
    have e : ys = mSort (kvs.map (·.1)) := PySem.W.ksm_same (h1.trans (mSort_perm _).symm) h2 (mSort_pw _)
    subst e
    have gn : Grow V1 A _ _ := Grow.new (o := .lst ((mSort (kvs.map (·.1))).map L2.V.int)) l ht
    exact q _ _ _ gn ⟨t, _, rfl, upd_same, al_ints, by rw [mSort_len, List.length_map, sizeLine_eq]; omega⟩⟩⟩
end
/-! ### the mirror -/
def mCommon (xs : List Fr) : Int := xs.foldl (fun c z => c / mGcd c z.2 * z.2) 1
def mKeys (xs : List Fr) : List (Int × Int) := dmk (xs.map fun z => (z.1 * (mCommon xs / z.2), 1))
def mInOrder (xs : List Fr) : List Fr := (mSort ((mKeys xs).map (·.1))).map fun n => mFrac n (mCommon xs)
/-- fractions whose bottoms are small -/
structure Fine (xs : List Fr) : Prop where
  b : ∀ z ∈ xs, 0 < z.2 ∧ z.2 ∣ 420
  t : ∀ z ∈ xs, 0 ≤ z.1 ∧ z.1 ≤ 1000
  n : xs.length ≤ 8192
  k : (mKeys xs).length < 64
theorem lcm_step {c b : Int} (hc : 0 < c) (hb : 0 < b) : c / mGcd c b * b = (Int.lcm c b : Int) := by
  obtain ⟨n, rfl⟩ := Int.eq_ofNat_of_zero_le (Int.le_of_lt hc)
  obtain ⟨m, rfl⟩ := Int.eq_ofNat_of_zero_le (Int.le_of_lt hb)
  have hn : 0 < n := by omega
  have key : ∀ g k : Nat, 0 < g → (g * k) / g * m = (g * k) * m / g := fun g k hg => by
    rw [Nat.mul_div_cancel_left _ hg, Nat.mul_assoc, Nat.mul_div_cancel_left _ hg]
  have e : n / n.gcd m * m = n * m / n.gcd m := by
    obtain ⟨k, hk⟩ := Nat.gcd_dvd_left n m
    have gp : 0 < n.gcd m := Nat.gcd_pos_of_pos_left m hn
    have := key (n.gcd m) k gp
    rwa [← hk] at this
  show ((n / n.gcd m * m : Nat) : Int) = ((n * m / n.gcd m : Nat) : Int)
  rw [e]
theorem common_dvd : ∀ {xs : List Fr} {c : Int}, (0 < c ∧ c ∣ 420) → (∀ z ∈ xs, 0 < z.2 ∧ z.2 ∣ 420) → (0 < xs.foldl (fun c z => c / mGcd c z.2 * z.2) c ∧ xs.foldl (fun c z => c / mGcd c z.2 * z.2) c ∣ 420) ∧ c ∣ xs.foldl (fun c z => c / mGcd c z.2 * z.2) c ∧ ∀ z ∈ xs, z.2 ∣ xs.foldl (fun c z => c / mGcd c z.2 * z.2) c
  | [], c, h, _ => ⟨h, Int.dvd_refl _, fun _ hz => nomatch hz⟩
  | x :: xs, c, h, hx => by
    obtain ⟨b1, b2⟩ := hx x List.mem_cons_self
    have e := lcm_step h.1 b1
    have l1 : c ∣ c / mGcd c x.2 * x.2 := by rw [e]; exact Int.dvd_lcm_left _ _
    have l2 : x.2 ∣ c / mGcd c x.2 * x.2 := by rw [e]; exact Int.dvd_lcm_right _ _
    have l3 : c / mGcd c x.2 * x.2 ∣ 420 := by rw [e]; exact Int.coe_lcm_dvd h.2 b2
    have l4 : 0 < c / mGcd c x.2 * x.2 := by
      rw [e]
      have := Int.lcm_pos (m := c) (n := x.2) (by omega) (by omega)
      omega
    obtain ⟨r1, r2, r3⟩ := common_dvd (c := c / mGcd c x.2 * x.2) ⟨l4, l3⟩ fun z hz => hx z (List.mem_cons_of_mem _ hz)
    rw [List.foldl_cons]
    refine ⟨r1, Int.dvd_trans l1 r2, fun z hz => ?_⟩
    rcases List.mem_cons.mp hz with rfl | hz
    · exact Int.dvd_trans l2 r2
    · exact r3 z hz
theorem mCommon_ok {xs : List Fr} (h : ∀ z ∈ xs, 0 < z.2 ∧ z.2 ∣ 420) : (0 < mCommon xs ∧ mCommon xs ∣ 420) ∧ ∀ z ∈ xs, z.2 ∣ mCommon xs := by
  obtain ⟨a, _, b⟩ := common_dvd (c := 1) (xs := xs) ⟨by decide, by decide⟩ h
  exact ⟨a, b⟩
theorem le420 {c : Int} (h : 0 < c ∧ c ∣ 420) : 0 < c ∧ c ≤ 420 := ⟨h.1, Int.le_of_dvd (by decide) h.2⟩
section
variable {P : Program} {w : World} {K : PySem.W.Frag} {mg : Str → Option Value} {base : Heap} {cC cR cS : Addr}
variable (F : Fx K mg cC cR cS)
include F
theorem ok_in_order : Gfn P w K mg base "in_order" 3 (sp1 (qL qF) Fine (qL qF) mInOrder) := by
  refine gfn1 F.d_in_order sc_in_order rfl fun f cdv A outer s H E v1 xs V hr r1 hf => ?_
  have cC := (gx_common (P := P) (w := w) (base := base) F).cal (X := bodyX P w K mg base n_in_order "in_order" s_in_order f cdv A outer s H E) hr (by rfl)
  obtain ⟨m1, m2⟩ := mCommon_ok hf.b
  obtain ⟨k1, k2⟩ := le420 m1
  refine go_set (i := 1) sc_in_order.nd rfl (.inr rfl) ev_int fun V1 u s1 ru => ?_
  refine go_for PassesOwn.never rfl (tg_two (Z := qI) (Y := qI) (i := 3) (j := 4) rfl sc_in_order.nd rfl rfl (.inl rfl) (.inl rfl)) (src_list (ev_var (i := 0) rfl (.inl rfl) rfl (Mo.mo s1 r1)))
    (fun j σ V' M' => ∃ y1 y2, σ = [some v1, some (.int ((xs.take j).foldl (fun c z => c / mGcd c z.2 * z.2) 1)), none, y1, y2, none]) (fun V2 s2 => ⟨none, none, by rw [show u = _ from ru]; rfl⟩) ?_ ?_
  · rintro j z v σ' σ2 V0 V' M' hz ⟨y1, y2, rfl⟩ s0 s2 rz uz
    obtain ⟨a, b, ra, rb, rfl⟩ := at_pair rz uz
    have hzm := List.mem_of_getElem? hz
    have tk : (xs.take (j + 1)).foldl (fun c z => c / mGcd c z.2 * z.2) 1 = (xs.take j).foldl (fun c z => c / mGcd c z.2 * z.2) 1 / mGcd ((xs.take j).foldl (fun c z => c / mGcd c z.2 * z.2) 1) z.2 * z.2 := by
      rw [List.take_add_one, hz, List.foldl_append]
      rfl
    obtain ⟨b1, b2⟩ := hf.b z hzm
    obtain ⟨⟨c1, c2⟩, _⟩ := common_dvd (c := 1) (xs := xs.take j) ⟨by decide, by decide⟩ fun z hz => hf.b z (List.mem_of_mem_take hz)
    generalize (xs.take j).foldl (fun c z => c / mGcd c z.2 * z.2) 1 = c at *
    have g1 := mGcd_pos (t := c) b1
    have g2 := mGcd_le (t := c) b1
    have l420 := le420 ⟨c1, c2⟩
    have b420 := le420 ⟨b1, b2⟩
    have q0 : 0 ≤ c / mGcd c z.2 := Int.ediv_nonneg (by omega) (by omega)
    have q1 : c / mGcd c z.2 ≤ c := Int.ediv_le_self _ (by omega)
    refine go_set (i := 1) sc_in_order.nd rfl (.inr rfl) (ev_bin (o_mul (.inl (show Sm (c / mGcd c z.2) from ⟨by omega, by omega⟩))) (ev_bin (o_fdiv ⟨g1, by omega⟩) (ev_var (R := qI) (a := c) (i := 1) rfl (.inr (.inl rfl)) rfl rfl)
      (ev_c2 cC (ev_var (R := qI) (a := c) (i := 1) rfl (.inr (.inl rfl)) rfl rfl) (ev_var (i := 4) rfl (.inl rfl) rfl rb) ⟨by omega, by omega⟩)) (ev_var (i := 4) rfl (.inl rfl) rfl rb)) fun V3 u3 s3 r3 => go_nil ⟨some a, some b, ?_⟩
    rw [tk, show u3 = _ from r3]
    rfl
  · rintro σ' V' M' ⟨y1, y2, rfl⟩ s2
    rw [List.take_length]
    have r1' : qL qF xs v1 V' := Mo.mo (s1.trans s2) r1
    have hln : xs.length ≤ sizeLine := by rw [sizeLine_eq]; have := hf.n; omega
    have hkey : ∀ z ∈ xs, 0 < z.2 ∧ z.2 ≤ 420 ∧ 0 ≤ mCommon xs / z.2 ∧ mCommon xs / z.2 ≤ 420 := fun z hz => by
      obtain ⟨b1, b2⟩ := le420 (hf.b z hz)
      exact ⟨b1, b2, Int.ediv_nonneg (by omega) (by omega), Int.le_trans (Int.ediv_le_self _ (by omega)) k2⟩
    refine go_set (i := 2) (R := qL qI) (a := mSort ((mKeys xs).map (·.1))) sc_in_order.nd rfl (.inl rfl) (ev_b1 (f_sortedDk rfl hf.k) (by rfl) F.m_sorted PyProof.Rows.boot_sorted (EvR.eq (ev_dc (R := q2 qI qI) (xs := xs) (f := fun z => (z.1 * (mCommon xs / z.2), (1 : Int))) (p := fun _ => true) (RK := qI) (S := qI) (own := [("top", 3), ("bottom", 4)]) rfl sc_in_order.nd
      (src_list (ev_var (i := 0) rfl (.inl rfl) rfl r1')) hln (blkOk_by (N := n_in_order) (sc := defScope s_in_order) (by decide +kernel)) (tgb_two (i := 3) (i' := 4) rfl sc_in_order.nd rfl rfl (by decide)) ts_nil (fun z σ' V' at_ _ => ?_) (fun z σ' V' at_ _ => fun _ _ _ _ _ => ev_int)) (by unfold mKeys; rw [List.filter_eq_self.mpr (fun _ _ => rfl)]))) fun V3 nv s3 rn => ?_
    · obtain ⟨a, b, h1, h2, h3, h4, rfl⟩ := at_two (by decide) at_
      obtain ⟨b1, b2, d1, d2⟩ := hkey z h1
      exact fun _ _ _ _ _ => ev_t1 f_intI (by rfl) F.m_int PyProof.Rows.boot_int (ev_bin (o_mul (.inr (show Sm (mCommon xs / z.2) from ⟨by omega, by omega⟩))) (ev_var (i := 3) rfl (.inl rfl) rfl h3) (ev_bin (o_fdiv ⟨b1, by omega⟩) (ev_var (R := qI) (a := mCommon xs) (i := 1) rfl (.inr (.inl rfl)) rfl rfl) (ev_var (i := 4) rfl (.inl rfl) rfl h4)))
    · refine go_ret (ev_lcn (f := fun n => mFrac n (mCommon xs)) 5 rfl sc_in_order.nd rfl (src_list (ev_var (i := 2) rfl (.inl rfl) rfl rn)) (by rw [mSort_len, List.length_map, sizeLine_eq]; have := hf.k; omega) (blkOk_by (N := n_in_order) (sc := defScope s_in_order) (by decide +kernel))
        (fun a v V' ha sv ra => fun s0 H1 C cl fp => ev_c2 ((gx_fraction (P := P) (w := w) (base := base) F).cal (X := bl (bodyX P w K mg base n_in_order "in_order" s_in_order f cdv A outer s H E) _ s0 H1 C cl fp) hr (by rfl)) (ev_var (i := 5) rfl (.inl rfl) rfl ra) (ev_var (R := qI) (a := mCommon xs) (i := 1) rfl (.inr (.inl rfl)) rfl rfl) ⟨by omega, by omega⟩)) fun V' v s r => r
theorem ok_check_plain : Gfn P w K mg base "check_plain" 2 (sp1 (qRu cC cR) (fun _ => True) qN (fun _ => ())) := by
  refine gfn1 F.d_check_plain sc_check_plain rfl fun f cdv A outer s H E v1 r V hr r1 hp => ?_
  refine go_expr Sees.self (ev_c1 ((ok_check_rule (P := P) (w := w) (base := base) F).cal (X := bodyX P w K mg base n_check_plain "check_plain" s_check_plain f cdv A outer s H E) hr (by rfl)) (ev_var (i := 0) rfl (.inl rfl) rfl r1) trivial) ?_
  exact go_if (et_cmp o_neS (ev_fld (ev_var (i := 0) rfl (.inl rfl) rfl r1) ru_turn F.c_cR F.n_cR_turn) ev_str) (fun h => absurd h (by decide +kernel)) (fun _ => go_nil (go_nil rfl))
theorem ok_bunches : Gfn P w K mg base "bunches" 1 (sp2 qNat qNat (fun n m => n ≤ 6 ∧ m ≤ 3) (qL (qU qI)) (fun n m => mBun m n)) := by
  refine gfn2 F.d_bunches sc_bunches rfl fun f cdv A outer s H E v1 v2 n m V hr r1 r2 hp => ?_
  obtain ⟨hn, hm⟩ := hp
  refine go_set (i := 2) (R := qL (qU qI)) (a := [[]]) sc_bunches.nd rfl (.inl rfl) (ev_lst (el_cons (ev_tupU el_nil (Nat.zero_le _)) el_nil) (by decide)) fun V1 u s1 ru => ?_
  refine go_for PassesOwn.never rfl (tg_name (i := 3) sc_bunches.nd rfl (.inl rfl)) (src_range1 (j := (n : Int)) (by rfl) F.m_range (ev_var (R := qI) (a := (n : Int)) (i := 0) rfl (.inl rfl) rfl r1) (by omega) (by omega))
    (fun j σ V' M' => ∃ u y, j ≤ n ∧ σ = [some v1, some v2, some u, y, none, none] ∧ qL (qU qI) (mBun m j) u V') (fun V2 s2 => ⟨u, none, Nat.zero_le _, rfl, Mo.mo s2 ru⟩) ?_ ?_
  · rintro j x v σ' σ2 V0 V' M' hx ⟨u, y, hj, rfl, rb⟩ s0 s2 rx rfl
    obtain ⟨hjn, rfl⟩ := rgl_get hx
    rw [Int.toNat_natCast] at hjn
    have b0 := mBun_small (n := j) hm (by omega)
    have b1 := mBun_small (n := j + 1) hm (by omega)
    have e : (((mBun m j).filter fun _ => true).flatMap fun a => (((fun one : List Int => rgl (mLast one) ((m : Int) + 1 - mLast one).toNat) a).filter fun b => true).map fun b => a ++ [b]) = mBun m (j + 1) := by
      rw [List.filter_eq_self.mpr (fun _ _ => rfl)]
      show _ = (mBun m j).flatMap _
      simp only [List.filter_eq_self.mpr (fun _ _ => rfl)]
    refine go_setLc2 (i := 2) (R := qU qI) (S := qI) (T := qU qI) (xs := mBun m j) (ys := fun one => rgl (mLast one) ((m : Int) + 1 - mLast one).toNat) (p := fun _ => true) (q := fun _ => true) (f := fun z => z.1 ++ [z.2]) (own := [("one", 4), ("mark", 5)]) (vs1 := [5]) rfl sc_bunches.nd rfl rfl (sw_true rfl rfl rfl (by decide +kernel)) (src_list (ev_var (i := 2) rfl (.inl rfl) rfl (Mo.mo s2 rb))) (by rw [show _ = _ from e, sizeLine_eq]; omega)
      (blkOk_by (N := n_bunches) (sc := defScope s_bunches) (by decide +kernel)) (by decide) (tgb_in (i := 4) sc_bunches.nd rfl) ts_nil (srcb_range2 (lo := fun one => mLast one) (hi := fun one => (m : Int) + 1) (fun _ _ _ _ _ => by rfl) F.m_range (fun one σ' V' at_ => ?_) (fun one σ' V' at_ => ?_) (fun one σ' V' at_ => ?_)) (tgb_in (i := 5) sc_bunches.nd rfl) ts_nil (fun z σ' V' at_ _ => ?_) (fun V3 u3 s3 r3 => ?_)
    · obtain ⟨v', g1, g2, g3, rfl⟩ := at_one at_
      refine fun _ _ _ _ _ => ev_if (et_cmp (o_neD (b := []) (by have := hr.units; show (bodyX P w K mg base n_bunches "bunches" s_bunches f cdv A outer s H E).A.units + 64 < cLine; omega)) (ev_var (i := 4) rfl (.inl rfl) rfl g3) (ev_tupU el_nil (Nat.zero_le _))) (fun h => ?_) (fun h => ?_)
      · have h0 : one ≠ [] := by simpa using h
        refine ev_last (ev_var (i := 4) rfl (.inl rfl) rfl g3) ?_
        unfold mLast
        cases q : one.getLast? with
        | none => exact absurd (List.getLast?_eq_none_iff.mp q) h0
        | some w => rfl
      · have h0 : one = [] := by simpa using h
        subst h0
        exact ev_int
    · exact fun _ _ _ _ _ => ev_bin o_add (ev_var (R := qI) (a := (m : Int)) (i := 1) (by rfl) (.inr (.inl rfl)) (by obtain ⟨v', g1, g2, g3, rfl⟩ := at_one at_; rfl) r2) ev_int
    · obtain ⟨v', g1, g2, g3, rfl⟩ := at_one at_
      have := mLast_nn g1
      omega
    · obtain ⟨v', u', g1, g2, g3, g4, g5, rfl⟩ := at_both at_
      refine fun _ _ _ _ _ => ev_tupU (el_star (ev_var (i := 4) rfl (.inl rfl) rfl g4) (el_cons (ev_var (i := 5) rfl (.inl rfl) rfl g5) el_nil)) ?_
      have := (mBun_mem.mp g1).1
      rw [List.length_append, this, sizeLine_eq]
      simp
      omega
    · refine go_nil ⟨u3, _, hjn, rfl, ?_⟩
      rw [← e]
      exact r3
  · rintro σ' V' M' ⟨u, y, hj, rfl, rb⟩ s2
    rw [rgl_len, Int.toNat_natCast] at rb
    exact go_ret (ev_var (i := 2) rfl (.inl rfl) rfl rb) fun V' v s r => r
end
end Om
set_option maxHeartbeats 4000000
/-! Om, defs: swings, part 2. -/
namespace Om
open PySem PySem.Spec PyProof.Rows L2
section
variable {X : Cx} {σ : L2.St} {V M : Hp} {e : Expr} {P : Post} {rest : List Stmt}
theorem ev_nat {i : Int} {t : Nat} (h : EvR X e σ V qI i) (z : i = (t : Int)) : EvR X e σ V qNat t := by
  subst z
  exact h
/-- the one owned thing is locked for good, and shown -/
theorem go_lock {d : Addr} {u : HO} (mu : Mut (some u)) (h : ∀ od, V d = none → Go X rest σ (upd V d (.frz od u)) H0 P) : Go X rest σ V (upd H0 d u) P := go_di fun di => by
  refine go_fix upd_same mu fun od => ?_
  have e : (fun b => if b = d then none else upd H0 d u b) = H0 := funext fun b => by
    by_cases hb : b = d
    · rw [if_pos hb]
    · rw [if_neg hb, upd_ne hb]
  rw [e]
  exact h od (di d (by rw [upd_same]; exact fun z => nomatch z))
theorem same_upd {H : Hp} {d : Addr} {u : HO} (h : H d = none) : Same H (upd H d u) := fun b o e => by
  rw [upd_ne (ne_of_none e h)]
  exact e
end
/-! ### the mirror -/
theorem mFrac_bd {t b : Int} (h0 : 0 ≤ t) (hb : 0 < b) : 0 ≤ (mFrac t b).1 ∧ (mFrac t b).1 ≤ t ∧ 0 < (mFrac t b).2 ∧ (mFrac t b).2 ≤ b := by
  have g := mGcd_pos (t := t) hb
  have gd : mGcd t b ∣ b := by unfold mGcd; exact Int.gcd_dvd_right t b
  unfold mFrac
  refine ⟨Int.ediv_nonneg h0 (by omega), Int.ediv_le_self _ h0, ?_, Int.ediv_le_self _ (by omega)⟩
  exact Int.ediv_pos_of_pos_of_dvd hb (by omega) gd
theorem sort_bd {ms : List Int} (h : ∀ m ∈ ms, 0 ≤ m ∧ m ≤ 10) : ∀ m ∈ mSort ms, 0 ≤ m ∧ m ≤ 10 := fun m hm => h m ((mSort_perm ms).mem_iff.mp hm)
theorem mGath_bd {g : Ga} {t : Nat} {ms : List Int} (h : Mks ms) : 0 ≤ (mGath g t ms).1 ∧ (mGath g t ms).1 ≤ 100 ∧ 0 < (mGath g t ms).2 ∧ (mGath g t ms).2 ≤ 10 := by
  obtain ⟨h1, h2, h3⟩ := h
  have hs := mks_sum h3
  have hp := List.length_pos_iff.mpr h1
  have sb := sort_bd h3
  have gd : ∀ i, i < ms.length → 0 ≤ (mSort ms).getD i 0 ∧ (mSort ms).getD i 0 ≤ 10 := fun i hi => sb _ (getD_mem' (by rw [mSort_len]; exact hi))
  cases g with
  | sum => exact ⟨hs.1, by show ms.sum ≤ 100; omega, by show (0 : Int) < 1; decide, by show (1 : Int) ≤ 10; decide⟩
  | mean =>
    obtain ⟨a, b, c, d⟩ := mFrac_bd (t := ms.sum) (b := (ms.length : Int)) hs.1 (by omega)
    exact ⟨a, by show (mFrac ms.sum (ms.length : Int)).1 ≤ 100; omega, c, by show (mFrac ms.sum (ms.length : Int)).2 ≤ 10; omega⟩
  | median =>
    have a1 := gd ((ms.length - 1) / 2) (by omega)
    have a2 := gd (ms.length / 2) (by omega)
    obtain ⟨a, b, c, d⟩ := mFrac_bd (t := (mSort ms).getD ((ms.length - 1) / 2) 0 + (mSort ms).getD (ms.length / 2) 0) (b := 2) (by omega) (by omega)
    exact ⟨a, by show (mMed ms).1 ≤ 100; unfold mMed; omega, c, by show (mMed ms).2 ≤ 10; unfold mMed; omega⟩
  | trim =>
    have kb : ∀ m ∈ mKept t ms, 0 ≤ m ∧ m ≤ 10 := fun m hm => by
      unfold mKept at hm
      split at hm
      · exact sb m (List.mem_of_mem_drop (List.mem_of_mem_take hm))
      · exact sb m hm
    have ks := mks_sum kb
    have k1 := mKept_pos (t := t) h1
    have k2 := mKept_le t ms
    obtain ⟨a, b, c, d⟩ := mFrac_bd (t := (mKept t ms).sum) (b := ((mKept t ms).length : Int)) ks.1 (by omega)
    exact ⟨a, by show (mTrm t ms).1 ≤ 100; unfold mTrm; omega, c, by show (mTrm t ms).2 ≤ 10; unfold mTrm; omega⟩
  | least =>
    have := gd 0 hp
    exact ⟨this.1, by show mMin ms ≤ 100; unfold mMin; omega, by show (0 : Int) < 1; decide, by show (1 : Int) ≤ 10; decide⟩
  | greatest =>
    have := gd (ms.length - 1) (by omega)
    exact ⟨this.1, by show mMax ms ≤ 100; unfold mMax; omega, by show (0 : Int) < 1; decide, by show (1 : Int) ≤ 10; decide⟩
theorem mks_bun {most n : Nat} {ms : List Int} (h : ms ∈ mBun most n) (h1 : 0 < n) (h2 : n ≤ 10) (h3 : most ≤ 10) : Mks ms := by
  obtain ⟨a, _, c⟩ := mBun_mem.mp h
  exact ⟨fun z => by rw [z] at a; simp at a; omega, by omega, fun m hm => by have := c m hm; omega⟩
theorem mks_cons {most n : Nat} {ms : List Int} {x : Int} (h : ms ∈ mBun most n) (h2 : n ≤ 9) (h3 : most ≤ 10) (hx : 0 ≤ x ∧ x ≤ 10) : Mks (x :: ms) := by
  obtain ⟨a, _, c⟩ := mBun_mem.mp h
  refine ⟨List.cons_ne_nil _ _, by rw [List.length_cons]; omega, fun m hm => ?_⟩
  rcases List.mem_cons.mp hm with rfl | hm
  · exact hx
  · have := c m hm
    omega
def mScore (r : Ru) (ms : List Int) : Fr := mGath r.ga r.trim ms
def mFirsts (r : Ru) (n : Nat) : List (Fr × List Int) := (if 0 < n then mBun r.cr.most n else []).foldl (fun acc ms => dsetd acc (mScore r ms) ms) []
def addS (acc : List Fr2) (z : Fr2) : List Fr2 := if z ∈ acc then acc else acc ++ [z]
def mLo (r : Ru) (ms : List Int) : Fr := mScore r (0 :: ms)
def mHi (r : Ru) (ms : List Int) : Fr := mScore r ((r.cr.most : Int) :: ms)
def mSpans (r : Ru) (n : Nat) : List Fr2 := (mBun r.cr.most (n - 1)).foldl (fun acc ms => if mLess (mLo r ms) (mHi r ms) then addS acc (mLo r ms, mHi r ms) else acc) []
def mDec (z : Fr2) (w : Fr) (early : Bool) : Bool := if early then !mLess w z.1 && mLess w z.2 else mLess z.1 w && !mLess z.2 w
theorem setN_fst (xs : Es) (z : Fr2) (a b : Addr) : (setN xs z a b).map (·.1) = addS (xs.map (·.1)) z := by
  unfold setN addS
  split
  · rfl
  · rw [List.map_append]
    rfl
theorem dsetd_len {κ β : Type} [DecidableEq κ] (l : List (κ × β)) (k : κ) (b : β) : (dsetd l k b).length ≤ l.length + 1 := by
  unfold dsetd
  split
  · omega
  · rw [List.length_append]
    simp
section
variable {P : Program} {w : World} {K : PySem.W.Frag} {mg : Str → Option Value} {base : Heap} {cC cR cS : Addr}
variable (F : Fx K mg cC cR cS)
include F
theorem ok_score_of_marks : Gfn P w K mg base "score_of_marks" 6 (sp2 (qRu cC cR) (qU qI) (fun _ ms => Mks ms) qF mScore) := by
  refine gfn2 F.d_score_of_marks sc_score_of_marks rfl fun f cdv A outer s H E v1 v2 r ms V hr r1 r2 hm => ?_
  have ht := r1.1.t
  have hl := hm.2.1
  refine go_ret (EvR.eq (ev_c3 ((ok_gathered (P := P) (w := w) (base := base) F).cal (X := bodyX P w K mg base n_score_of_marks "score_of_marks" s_score_of_marks f cdv A outer s H E) hr (by rfl)) (ev_fld (ev_var (i := 0) rfl (.inl rfl) rfl r1) ru_gather F.c_cR F.n_cR_gather) (ev_fld (ev_var (i := 0) rfl (.inl rfl) rfl r1) ru_trim F.c_cR F.n_cR_trim)
    (ev_lcn (f := fun (m : Int) => (m, (1 : Int))) (S := qF) 2 rfl sc_score_of_marks.nd rfl (src_tup (ev_var (i := 1) rfl (.inl rfl) rfl r2)) (by rw [sizeLine_eq]; omega) (blkOk_by (N := n_score_of_marks) (sc := defScope s_score_of_marks) (by decide +kernel)) (fun a v V' ha sv ra => fun _ _ _ _ _ => ev_tup2 (ev_var (i := 2) rfl (.inl rfl) rfl ra) ev_int))
    ⟨by omega, ms, rfl, hm⟩) ?_) fun V' v s r => r
  show mGath r.ga r.trim ((told ms).map (·.1)) = _
  rw [told_fst]
  rfl
theorem ok_bunch_scores : Gfn P w K mg base "bunch_scores" 7 (sp2 (qRu cC cR) qNat (fun r n => n ≤ 6 ∧ r.cr.most ≤ 3) (qDt qF (qU qI)) mFirsts) := by
  refine gfn2 F.d_bunch_scores sc_bunch_scores rfl fun f cdv A outer s H E v1 v2 r n V hr r1 r2 hp => ?_
  obtain ⟨hn, hm⟩ := hp
  have cS := (ok_score_of_marks (P := P) (w := w) (base := base) F).cal (X := bodyX P w K mg base n_bunch_scores "bunch_scores" s_bunch_scores f cdv A outer s H E) hr (by rfl)
  have hb := mBun_small (n := n) hm hn
  have hu : (bodyX P w K mg base n_bunch_scores "bunch_scores" s_bunch_scores f cdv A outer s H E).A.units + 1 < cLine := by have := hr.units; omega
  refine go_newT (i := 2) sc_bunch_scores.nd rfl (.inl rfl) fun d hd1 hd2 => ?_
  refine go_for PassesOwn.never rfl (tg_name (i := 3) sc_bunch_scores.nd rfl (.inl rfl)) (src_list (R := qU qI) (xs := if 0 < n then mBun r.cr.most n else []) (ev_if (et_cmp o_gt (ev_var (R := qI) (a := (n : Int)) (i := 1) rfl (.inl rfl) rfl r2) ev_int)
      (fun h => EvR.eq (ev_c2 ((ok_bunches (P := P) (w := w) (base := base) F).cal (X := bodyX P w K mg base n_bunch_scores "bunch_scores" s_bunch_scores f cdv A outer s H E) hr (by rfl)) (ev_var (R := qNat) (a := n) (i := 1) rfl (.inl rfl) rfl r2) (ev_fld (ev_fld (ev_var (i := 0) rfl (.inl rfl) rfl r1) ru_crowd F.c_cR F.n_cR_crowd) cr_most F.c_cC F.n_cC_most) ⟨hn, hm⟩) (by rw [if_pos (by have := of_decide_eq_true h; omega)]))
      (fun h => EvR.eq (ev_lst el_nil (Nat.zero_le _)) (by rw [if_neg (by have := of_decide_eq_false h; omega)]))))
    (fun j σ V' M' => ∃ ks y, σ = [some v1, some v2, some (.ref d), y] ∧ M' = upd H0 d (.dT ks) ∧ Pr (KeyT.enc qF) (qU qI) (((if 0 < n then mBun r.cr.most n else []).take j).foldl (fun acc ms => dsetd acc (mScore r ms) ms) []) ks V' ∧ ks.length ≤ j) (fun V2 s2 => ⟨[], none, rfl, rfl, .nil, Nat.le_refl _⟩) ?_ ?_
  · rintro j ms v σ' σ2 V0 V' M' hx ⟨ks, y, rfl, rfl, pr, hk⟩ s0 s2 rx rfl
    have hj : j < (if 0 < n then mBun r.cr.most n else []).length := (List.getElem?_eq_some_iff.mp hx).1
    have hmk : Mks ms := by
      have hm0 := List.mem_of_getElem? hx
      by_cases h0 : 0 < n
      · rw [if_pos h0] at hm0
        exact mks_bun hm0 h0 (by omega) (by omega)
      · rw [if_neg h0] at hm0
        cases hm0
    have hj2 : j < 4096 := by
      by_cases h0 : 0 < n
      · rw [if_pos h0] at hj
        omega
      · rw [if_neg h0] at hj
        cases hj
    have tk : ((if 0 < n then mBun r.cr.most n else []).take (j + 1)).foldl (fun acc ms => dsetd acc (mScore r ms) ms) [] = dsetd (((if 0 < n then mBun r.cr.most n else []).take j).foldl (fun acc ms => dsetd acc (mScore r ms) ms) []) (mScore r ms) ms := by
      rw [List.take_add_one, hx, List.foldl_append]
      rfl
    refine go_setd (R := qF) (S := qU qI) (k := mScore r ms) (b := ms) hu (fun V3 s3 => ev_var (i := 2) rfl (.inl rfl) rfl (show qA d () (.ref d) V3 from rfl)) (ev_c2 cS (ev_var (i := 0) rfl (.inl rfl) rfl (Mo.mo (s0.trans s2) r1)) (ev_var (i := 3) rfl (.inl rfl) rfl rx) hmk) (fun V3 s3 => ev_var (i := 3) rfl (.inl rfl) rfl (Mo.mo s3 rx)) upd_same (by rw [sizeLine_eq]; omega) (pr.mo s2)
      (fun V3 ks' s3 pr' hk' => ?_) ⟨by rfl, by rfl, by rfl, by rfl⟩
    rw [upd_upd]
    refine go_nil ⟨ks', _, rfl, rfl, ?_, by omega⟩
    rw [tk]
    exact pr'
  · rintro σ' V' M' ⟨ks, y, rfl, rfl, pr, hk⟩ s2
    rw [List.take_length] at pr
    refine go_lock trivial fun od hV => ?_
    exact go_ret (R := qDt qF (qU qI)) (a := mFirsts r n) (ev_var (i := 2) rfl (.inl rfl) rfl ⟨d, od, ks, rfl, upd_same, pr.mo (same_upd hV)⟩) fun V' v s r => r
theorem ok_decides : Gfn P w K mg base "decides" 2 (sp3 qF2 qF qB (fun z w _ => Sm z.1.1 ∧ Sm z.2.1 ∧ Sm w.1) qB mDec) := by
  refine gfn3 F.d_decides sc_decides rfl fun f cdv A outer s H E v1 v2 v3 z wo ea V hr r1 r2 r3 hp => ?_
  obtain ⟨h1, h2, h3⟩ := hp
  have cL := (gx_less (P := P) (w := w) (base := base) F).cal (X := bodyX P w K mg base n_decides "decides" s_decides f cdv A outer s H E) hr (by rfl)
  refine go_unp (tg_two (Z := qF) (Y := qF) (i := 3) (j := 4) rfl sc_decides.nd rfl rfl (.inl rfl) (.inl rfl)) (ev_var (i := 0) rfl (.inl rfl) rfl r1) fun V1 v σ' s1 rz uz => ?_
  obtain ⟨a, b, ra, rb, rfl⟩ := at_pair rz uz
  refine go_if (hW := Sees.self) (et_val (ev_var (V := V1) (R := qB) (a := ea) (i := 2) rfl (.inl rfl) rfl r3)) (fun h => ?_) (fun h => go_nil ?_)
  · subst h
    exact go_ret (R := qB) (a := mDec z wo true) (ev_and (ev_not (ev_c2 cL (ev_var (i := 1) rfl (.inl rfl) rfl (Mo.mo s1 r2)) (ev_var (i := 3) rfl (.inl rfl) rfl ra) ⟨h3, h1⟩)) fun _ => ev_one (ev_c2 cL (ev_var (i := 1) rfl (.inl rfl) rfl (Mo.mo s1 r2)) (ev_var (i := 4) rfl (.inl rfl) rfl rb) ⟨h3, h2⟩)) fun V' v s r => r
  · subst h
    exact go_ret (R := qB) (a := mDec z wo false) (ev_and (ev_c2 cL (ev_var (i := 3) rfl (.inl rfl) rfl ra) (ev_var (i := 1) rfl (.inl rfl) rfl (Mo.mo s1 r2)) ⟨h1, h3⟩) fun _ => ev_one (ev_not (ev_c2 cL (ev_var (i := 4) rfl (.inl rfl) rfl rb) (ev_var (i := 1) rfl (.inl rfl) rfl (Mo.mo s1 r2)) ⟨h2, h3⟩))) fun V' v s r => r
end
end Om
set_option maxHeartbeats 4000000
/-! Om, defs: swings, part 3. -/
namespace Om
open PySem PySem.Spec PyProof.Rows L2
section
variable {X : Cx} {σ : L2.St} {V M : Hp} {o : Expr} {pos p px : Pos} {P : Post} {rest : List Stmt}
/-- o.f = {}, o owned -/
theorem go_fldK {C x dx : Addr} {fs : List (Str × Vl)} {f : Str} (c : Cls X.K C) (n : NoAttr X.K C f) (ho : ∀ V', Same V V' → EvR X o σ V' (qA x) ()) (hM : M x = some (.ins C dx fs)) (hl : fs.length < 1000)
    (k : ∀ D, M D = none → D ≠ x → V D = none → Go X rest σ V (upd (upd M D (.dK [])) x (.ins C dx (putF f (.ref D) fs))) P) (hs : swapsWith (.Dict [] [] p) (some (.Attribute o f px)) pos.line X.env = pure false := by rfl) : Go X (.Assign [.Attribute o f px] (.Dict [] [] p) pos :: rest) σ V M P :=
  go_of (ps_fld pe_re pe_dnewK hs) fun A D0 w fi D hD => by
    have s1 := Stp.make (o := .dK []) w hD
    have hne : D ≠ x := fun z => by
      rw [z, w.ma x _ hM] at hD
      cases hD
    have hMD : M D = none := by
      cases q : M D with
      | none => rfl
      | some u => rw [w.ma D u q] at hD; cases hD
    refine ho V (Same.refl _) V _ _ (Same.refl _) s1.ow.va fun V3 A3 y g3 ry => ?_
    have s3 := s1.trans (Stp.gar s1.ow g3)
    have hM2 : upd M D (.dK []) x = some (.ins C dx fs) := by
      rw [upd_ne (Ne.symm hne)]
      exact hM
    exact ⟨x, C, dx, fs, ry, s3.ow.ma x _ hM2, c, n, hl, go_next fi (s3.trans (Stp.set s3.ow hM2)) (k D hMD hne (w.va.free hD))⟩
end
theorem sm100 {i : Int} (h1 : 0 ≤ i) (h2 : i ≤ 100) : Sm i := ⟨by omega, by omega⟩
/-! ### the mirror -/
structure Sw where
  r : Ru
  i : Pn
def Sw.size (s : Sw) (m : Pn) : Nat := (mReaders s.r m).length
def Sw.firsts (s : Sw) : List (Fr × List Int) := mFirsts s.r (s.size s.i)
def Sw.worths (s : Sw) : List Fr := mInOrder (s.firsts.map (·.1))
def Sw.members (s : Sw) : List Pn := (mOwn s.r s.i).map (·.2)
structure Sw.ok (s : Sw) : Prop where
  i : s.i ∈ s.r.cr.pp
  m3 : s.r.cr.most ≤ 3
  ni : s.size s.i ≤ 6
  nm : ∀ m ∈ s.members, m ∈ s.r.cr.pp ∧ 1 ≤ s.size m ∧ s.size m ≤ 6
  fine : Fine (s.firsts.map (·.1))
  w : ∀ z ∈ s.worths, 0 ≤ z.1 ∧ z.1 ≤ 1000
  fn : s.firsts.length ≤ 8192
def Sw.early (s : Sw) (m : Pn) : Bool := decide ((s.r.cr.pp.idxOf s.i : Int) < (s.r.cr.pp.idxOf m : Int))
def Sw.at_ (s : Sw) (w : Fr) (m : Pn) : Option Unit := if (mSpans s.r (s.size m)).any (fun z => mDec z w (s.early m)) then some () else none
def Sw.decided (s : Sw) (w : Fr) : List Pn := s.members.filter fun m => (s.at_ w m).isSome
def Sw.step (s : Sw) (f : Option Fr) (w : Fr) : Option Fr := match f with
  | none => some w
  | some g => if (s.decided w).length > (s.decided g).length then some w else some g
def Sw.best (s : Sw) : Option Fr := s.worths.foldl s.step none
def Sw.lift (s : Sw) : Int := match s.best with
  | none => 0
  | some w => ((s.decided w).length : Int)
/-! ### the thing -/
def qSw (P : Program) (w : World) (cC cR cS : Addr) : Rf Sw := fun s v H => s.ok ∧ ∃ p dx ru fi wo me so, v = .ref p ∧ H p = some (.ins cS dx [("own_rule", ru), ("person", .str (nm s.i)), ("firsts", fi), ("worths", wo), ("members", me), ("span_of", so)]) ∧ qRu cC cR s.r ru H ∧ qL qF s.worths wo H ∧ qL qP s.members me H ∧
  ∃ kvs : List (Int × List Fr2), (∀ m ∈ s.members, dg kvs (s.size m : Int) = some (mSpans s.r (s.size m))) ∧ qDk qI (qSp P w) kvs so H
instance {P : Program} {w : World} {cC cR cS : Addr} : Mo (qSw P w cC cR cS) := ⟨fun s ⟨o, p, dx, ru, fi, wo, me, so, e, h, q1, q2, q3, kvs, h4, q4⟩ => ⟨o, p, dx, ru, fi, wo, me, so, e, s _ _ h, Mo.mo s q1, Mo.mo s q2, Mo.mo s q3, kvs, h4, Mo.mo s q4⟩⟩
section
variable {P : Program} {w : World} {cC cR cS : Addr} {s : Sw}
theorem sw_rule : Fld cS "own_rule" (qSw P w cC cR cS) s (qRu cC cR) s.r := fun v H ⟨o, p, dx, ru, fi, wo, me, so, e, h, q1, q2, q3, q4⟩ => ⟨p, dx, _, ru, e, h, rfl, q1⟩
theorem sw_person : Fld cS "person" (qSw P w cC cR cS) s qP s.i := fun v H ⟨o, p, dx, ru, fi, wo, me, so, e, h, q1, q2, q3, q4⟩ => ⟨p, dx, _, _, e, h, rfl, rfl⟩
theorem sw_worths : Fld cS "worths" (qSw P w cC cR cS) s (qL qF) s.worths := fun v H ⟨o, p, dx, ru, fi, wo, me, so, e, h, q1, q2, q3, q4⟩ => ⟨p, dx, _, wo, e, h, rfl, q2⟩
theorem sw_members : Fld cS "members" (qSw P w cC cR cS) s (qL qP) s.members := fun v H ⟨o, p, dx, ru, fi, wo, me, so, e, h, q1, q2, q3, q4⟩ => ⟨p, dx, _, me, e, h, rfl, q3⟩
/-- the spans by size -/
def qSo (P : Program) (w : World) (s : Sw) : Rf Unit := fun _ v H => ∃ kvs : List (Int × List Fr2), (∀ m ∈ s.members, dg kvs (s.size m : Int) = some (mSpans s.r (s.size m))) ∧ qDk qI (qSp P w) kvs v H
instance : Mo (qSo P w s) := ⟨fun s ⟨kvs, h, q⟩ => ⟨kvs, h, Mo.mo s q⟩⟩
theorem sw_spans : Fld cS "span_of" (qSw P w cC cR cS) s (qSo P w s) () := fun v H ⟨o, p, dx, ru, fi, wo, me, so, e, h, q1, q2, q3, q4⟩ => ⟨p, dx, _, so, e, h, rfl, q4⟩
theorem sw_i1 : Ins cS "is_earlier" (qSw P w cC cR cS) s := fun v H ⟨o, p, dx, ru, fi, wo, me, so, e, h, _⟩ => ⟨p, dx, _, e, h, rfl⟩
theorem sw_i2 : Ins cS "marks_at" (qSw P w cC cR cS) s := fun v H ⟨o, p, dx, ru, fi, wo, me, so, e, h, _⟩ => ⟨p, dx, _, e, h, rfl⟩
theorem sw_i3 : Ins cS "decided_at" (qSw P w cC cR cS) s := fun v H ⟨o, p, dx, ru, fi, wo, me, so, e, h, _⟩ => ⟨p, dx, _, e, h, rfl⟩
theorem sw_i4 : Ins cS "best" (qSw P w cC cR cS) s := fun v H ⟨o, p, dx, ru, fi, wo, me, so, e, h, _⟩ => ⟨p, dx, _, e, h, rfl⟩
theorem sw_i5 : Ins cS "lift" (qSw P w cC cR cS) s := fun v H ⟨o, p, dx, ru, fi, wo, me, so, e, h, _⟩ => ⟨p, dx, _, e, h, rfl⟩
end
section
variable {P : Program} {w : World} {K : PySem.W.Frag} {mg : Str → Option Value} {base : Heap} {cC cR cS : Addr}
variable (F : Fx K mg cC cR cS)
include F
theorem ok_spans : Gfn P w K mg base "spans" 7 (sp2 (qRu cC cR) qNat (fun r n => 1 ≤ n ∧ n ≤ 6 ∧ r.cr.most ≤ 3) (qSp P w) mSpans) := by
  refine gfn2 F.d_spans sc_spans rfl fun f cdv A outer s H E v1 v2 r n V hr r1 r2 hp => ?_
  obtain ⟨h1, hn, hm⟩ := hp
  have cS := (ok_score_of_marks (P := P) (w := w) (base := base) F).cal (X := bodyX P w K mg base n_spans "spans" s_spans f cdv A outer s H E) hr (by rfl)
  have cL := (gx_less (P := P) (w := w) (base := base) F).cal (X := bodyX P w K mg base n_spans "spans" s_spans f cdv A outer s H E) hr (by rfl)
  have hb := mBun_small (n := n - 1) hm (by omega)
  have hu : (bodyX P w K mg base n_spans "spans" s_spans f cdv A outer s H E).A.units + 9 < cLine := by have := hr.units; omega
  refine go_newN (i := 2) sc_spans.nd rfl (.inl rfl) fun d => ?_
  refine go_for PassesOwn.never rfl (tg_name (i := 3) sc_spans.nd rfl (.inl rfl)) (src_list (R := qU qI) (xs := mBun r.cr.most (n - 1)) (EvR.eq (ev_c2 (a := n - 1) (b := r.cr.most) ((ok_bunches (P := P) (w := w) (base := base) F).cal (X := bodyX P w K mg base n_spans "spans" s_spans f cdv A outer s H E) hr (by rfl)) (ev_nat (ev_bin o_sub (ev_var (R := qI) (a := (n : Int)) (i := 1) rfl (.inl rfl) rfl r2) ev_int) (by omega))
      (ev_fld (ev_fld (ev_var (i := 0) rfl (.inl rfl) rfl r1) ru_crowd F.c_cR F.n_cR_crowd) cr_most F.c_cC F.n_cC_most) ⟨by omega, hm⟩) rfl))
    (fun j σ V' M' => ∃ xs y1 y2 y3, σ = [some v1, some v2, some (.ref d), y1, y2, y3] ∧ M' = upd H0 d (spO P w d xs) ∧ KeysN V' xs ∧ xs.map (·.1) = ((mBun r.cr.most (n - 1)).take j).foldl (fun acc ms => if mLess (mLo r ms) (mHi r ms) then addS acc (mLo r ms, mHi r ms) else acc) [] ∧ xs.length ≤ j)
    (fun V2 s2 => ⟨[], none, none, none, rfl, rfl, fun _ h => (nomatch h), rfl, Nat.le_refl _⟩) ?_ ?_
  · rintro j ms v σ' σ2 V0 V' M' hx ⟨xs, y1, y2, y3, rfl, rfl, hk, hz, hl⟩ s0 s2 rx rfl
    have hj : j < (mBun r.cr.most (n - 1)).length := (List.getElem?_eq_some_iff.mp hx).1
    have hmm := List.mem_of_getElem? hx
    have mk0 : Mks (0 :: ms) := mks_cons hmm (by omega) (by omega) ⟨by decide, by decide⟩
    have mk1 : Mks ((r.cr.most : Int) :: ms) := mks_cons hmm (by omega) (by omega) ⟨by omega, by omega⟩
    have lms : ms.length ≤ 6 := by have := (mBun_mem.mp hmm).1; omega
    obtain ⟨b1, b2, _⟩ := mGath_bd (g := r.ga) (t := r.trim) mk0
    obtain ⟨b3, b4, _⟩ := mGath_bd (g := r.ga) (t := r.trim) mk1
    have tk : ((mBun r.cr.most (n - 1)).take (j + 1)).foldl (fun acc ms => if mLess (mLo r ms) (mHi r ms) then addS acc (mLo r ms, mHi r ms) else acc) [] = if mLess (mLo r ms) (mHi r ms) then addS (xs.map (·.1)) (mLo r ms, mHi r ms) else xs.map (·.1) := by
      rw [List.take_add_one, hx, List.foldl_append, hz]
      rfl
    have r1' : qRu cC cR r v1 V' := Mo.mo (s0.trans s2) r1
    refine go_set (i := 4) (R := qF) (a := mLo r ms) sc_spans.nd rfl (.inl rfl) (ev_c2 (b := 0 :: ms) cS (ev_var (i := 0) rfl (.inl rfl) rfl r1') (EvR.eq (ev_tupU (el_cons ev_int (el_star (ev_var (i := 3) rfl (.inl rfl) rfl rx) el_nil)) (by simp; rw [sizeLine_eq]; omega)) (by rw [List.append_nil])) mk0) fun V3 lo s3 rlo => ?_
    refine go_set (i := 5) (R := qF) (a := mHi r ms) sc_spans.nd rfl (.inl rfl) (ev_c2 (b := (r.cr.most : Int) :: ms) cS (ev_var (i := 0) rfl (.inl rfl) rfl (Mo.mo s3 r1')) (EvR.eq (ev_tupU (el_cons (ev_fld (ev_fld (ev_var (i := 0) rfl (.inl rfl) rfl (Mo.mo s3 r1')) ru_crowd F.c_cR F.n_cR_crowd) (R := qCr cC) (a := r.cr) (S := qI) (b := (r.cr.most : Int)) cr_most F.c_cC F.n_cC_most) (el_star (ev_var (i := 3) rfl (.inl rfl) rfl (Mo.mo s3 rx)) el_nil)) (by simp; rw [sizeLine_eq]; omega)) (by rw [List.append_nil])) mk1) fun V4 hi s4 rhi => ?_
    have rlo' : qF (mLo r ms) lo V4 := Mo.mo s4 rlo
    refine go_if (hW := Sees.self) (et_val (ev_c2 cL (ev_var (i := 4) rfl (.inl rfl) rfl rlo') (ev_var (i := 5) rfl (.inl rfl) rfl rhi) ⟨sm100 b1 b2, sm100 b3 b4⟩)) (fun h => ?_) (fun h => ?_)
    · refine go_setdN (z := (mLo r ms, mHi r ms)) (S := qU qI) (b := ms) hu (fun V5 s5 => ev_var (i := 2) rfl (.inl rfl) rfl (show qA d () (.ref d) V5 from rfl)) (ev_tup2 (ev_var (i := 4) rfl (.inl rfl) rfl rlo') (ev_var (i := 5) rfl (.inl rfl) rfl rhi)) (fun V5 s5 => ev_var (i := 3) rfl (.inl rfl) rfl (Mo.mo ((s3.trans s4).trans s5) rx))
        (fun v H ⟨p, vs, e, _⟩ => ⟨p, e⟩) upd_same (by rw [sizeLine_eq]; omega) (fun x hx => Mo.mo ((s2.trans s3).trans s4) (hk x hx)) (fun V5 a c s5 hk5 => ?_) ⟨by rfl, by rfl, by rfl, by rfl⟩
      rw [upd_upd]
      refine go_nil (go_nil ⟨setN xs (mLo r ms, mHi r ms) a c, _, _, _, rfl, rfl, hk5, ?_, ?_⟩)
      · rw [setN_fst, tk, if_pos h]
      · unfold setN
        split
        · omega
        · rw [List.length_append]
          simp
          omega
    · refine go_nil (go_nil ⟨xs, _, _, _, rfl, rfl, fun x hx => Mo.mo ((s2.trans s3).trans s4) (hk x hx), ?_, by omega⟩)
      rw [tk, if_neg (by rw [h]; exact Bool.false_ne_true)]
  · rintro σ' V' M' ⟨xs, y1, y2, y3, rfl, rfl, hk, hz, hl⟩ s2
    rw [List.take_length] at hz
    refine go_lock trivial fun od hV => ?_
    exact go_ret (R := qSp P w) (a := mSpans r n) (ev_var (i := 2) rfl (.inl rfl) rfl ⟨d, od, xs, rfl, upd_same, fun x hx => Mo.mo (same_upd hV) (hk x hx), hz⟩) fun V' v s r => r
end
end Om
set_option maxHeartbeats 4000000
/-! Om, defs: swings, part 4: Swings.__init__. -/
namespace Om
open PySem PySem.Spec PyProof.Rows L2
theorem noPl_ins {x C dx : Addr} {fs : List (Str × Vl)} : NoPl (upd H0 x (.ins C dx fs)) := fun b o e hp => by
  by_cases hb : b = x
  · subst hb
    rw [upd_same] at e
    cases e
    exact hp
  · rw [upd_ne hb] at e
    cases e
/-- one field of one object -/
def qFl {β : Type} (x C dx : Addr) (fs : List (Str × Vl)) (u : Vl) (S : Rf β) (b : β) : Rf Unit := fun _ v H => v = .ref x ∧ H x = some (.ins C dx fs) ∧ S b u H
instance {β : Type} {x C dx : Addr} {fs : List (Str × Vl)} {u : Vl} {S : Rf β} {b : β} [Mo S] : Mo (qFl x C dx fs u S b) := ⟨fun s ⟨e, h, r⟩ => ⟨e, s _ _ h, Mo.mo s r⟩⟩
theorem fl_fld {β : Type} {x C dx : Addr} {fs : List (Str × Vl)} {u : Vl} {S : Rf β} {b : β} {f : Str} (hl : fs.lookup f = some u) : Fld C f (qFl x C dx fs u S b) () S b := fun v H ⟨e, h, r⟩ => ⟨x, dx, fs, u, e, h, hl, r⟩
/-- the spans of the sizes seen -/
def SpOk (s : Sw) (ms : List Pn) (kvs : List (Int × List Fr2)) : Prop := (∀ k b, dg kvs k = some b → ∃ m ∈ s.members, k = (s.size m : Int) ∧ b = mSpans s.r (s.size m)) ∧ ∀ m ∈ ms, (dg kvs (s.size m : Int)).isSome
theorem dg_put {κ β : Type} [DecidableEq κ] {l : List (κ × β)} {k k' : κ} {b : β} (h : dg l k = none) : dg (dput l k b) k' = if k' = k then some b else dg l k' := by
  have hk : k ∉ l.map (·.1) := fun z => by
    have e := dg_isSome (l := l) (k := k)
    rw [h, decide_eq_true z] at e
    cases e
  rw [dput_new hk]
  unfold dg at h ⊢
  rw [List.find?_append]
  by_cases e : k' = k
  · subst e
    rw [if_pos rfl, Option.map_eq_none_iff.mp h]
    simp
  · rw [if_neg e]
    have e2 : ¬ k = k' := fun z => e z.symm
    cases q : l.find? fun x => decide (x.1 = k') with
    | some y => rfl
    | none => simp [e2]
theorem SpOk.dg {s : Sw} {ms : List Pn} {kvs : List (Int × List Fr2)} (h : SpOk s ms kvs) {m : Pn} (hm : m ∈ ms) : dg kvs (s.size m : Int) = some (mSpans s.r (s.size m)) := by
  cases q : Om.dg kvs (s.size m : Int) with
  | none =>
    have := h.2 m hm
    rw [q] at this
    cases this
  | some b =>
    obtain ⟨m', _, e1, e2⟩ := h.1 _ b q
    rw [e2]
    have : s.size m = s.size m' := by omega
    rw [this]
theorem SpOk.put {s : Sw} {ms : List Pn} {kvs : List (Int × List Fr2)} (h : SpOk s ms kvs) {m : Pn} (hm : m ∈ s.members) (hn : Om.dg kvs (s.size m : Int) = none) : SpOk s (ms ++ [m]) (dput kvs (s.size m : Int) (mSpans s.r (s.size m))) := by
  refine ⟨fun k b e => ?_, fun x hx => ?_⟩
  · rw [dg_put hn] at e
    split at e
    · rename_i hk
      cases e
      exact ⟨m, hm, hk, rfl⟩
    · exact h.1 k b e
  · rw [dg_put hn]
    split
    · rfl
    · rename_i hk
      rcases List.mem_append.mp hx with hx | hx
      · exact h.2 x hx
      · have : x = m := by simpa using hx
        subst this
        exact absurd rfl hk
theorem SpOk.skip {s : Sw} {ms : List Pn} {kvs : List (Int × List Fr2)} (h : SpOk s ms kvs) {m : Pn} (hn : (Om.dg kvs (s.size m : Int)).isSome = true) : SpOk s (ms ++ [m]) kvs := by
  refine ⟨h.1, fun x hx => ?_⟩
  rcases List.mem_append.mp hx with hx | hx
  · exact h.2 x hx
  · have : x = m := by simpa using hx
    subst this
    exact hn
instance {κ β : Type} [DecidableEq κ] {R : Rf κ} [KeyK R] {S : Rf β} [Mo S] : Mo (qDo R S) := ⟨fun s ⟨d, ks, e, h, r⟩ => ⟨d, ks, e, h.elim (fun z => .inl (s _ _ z)) (fun ⟨o, z⟩ => .inr ⟨o, s _ _ z⟩), r.mo s⟩⟩
section
variable {P : Program} {w : World} {K : PySem.W.Frag} {mg : Str → Option Value} {base : Heap} {cC cR cS : Addr}
variable (F : Fx K mg cC cR cS)
include F
theorem ok_Swings_init : Mkr P w K mg base cS 8 (spI2 cS (qRu cC cR) qP (fun r i => (⟨r, i⟩ : Sw).ok) (qSw P w cC cR cS) (fun r i => ⟨r, i⟩)) := by
  refine mkr2 F.d_Swings_init sc_Swings_init rfl fun f cdv A outer s H E x dx v1 v2 r i V hr hx r1 r2 hp => ?_
  generalize hsw : (⟨r, i⟩ : Sw) = sw at hp ⊢
  have e1 : sw.r = r := by rw [← hsw]
  have e2 : sw.i = i := by rw [← hsw]
  have h8 := r1.2
  have hX : ∀ V', Same V V' → EvR (bodyI P w K mg base n_Swings_init "Swings.__init__" s_Swings_init f cdv A outer s H E) (.Name "self" ⟨0, 0, 0, 0⟩) (start n_Swings_init [.ref x, v1, v2]) V' (qA x) () := fun V' _ => ev_var (i := 0) rfl (.inl rfl) rfl rfl
  have me := fun V' p => ev_var (X := bodyI P w K mg base n_Swings_init "Swings.__init__" s_Swings_init f cdv A outer s H E) (σ := start n_Swings_init [.ref x, v1, v2]) (V := V') (pos := p) (R := qA x) (a := ()) (i := 0) rfl (.inl rfl) rfl rfl
  have rds := ok_readers (P := P) (w := w) (base := base) F
  have hu : (bodyI P w K mg base n_Swings_init "Swings.__init__" s_Swings_init f cdv A outer s H E).A.units + 1 < cLine := by have := hr.units; omega
  have hi : i ∈ r.cr.pp := by rw [← e1, ← e2]; exact hp.i
  have hm3 : r.cr.most ≤ 3 := by rw [← e1]; exact hp.m3
  have hni : (mReaders r i).length ≤ 6 := by
    have := hp.ni
    unfold Sw.size at this
    rwa [e1, e2] at this
  have hF : sw.firsts = mFirsts r (mReaders r i).length := by unfold Sw.firsts Sw.size; rw [e1, e2]
  refine go_fld F.c_cS F.n_cS_own_rule (fun V' s1 => me V' _) upd_same (by decide) (EvR.m (ev_var (i := 1) rfl (.inl rfl) rfl r1)) fun V1 ru s1 rru => ?_
  rw [upd_upd]
  refine go_fld F.c_cS F.n_cS_person (fun V' s1 => me V' _) upd_same (show 1 < 1000 by decide) (EvR.m (ev_var (R := qP) (a := i) (i := 2) rfl (.inl rfl) rfl r2)) fun V2 pe s2 rpe => ?_
  rw [upd_upd]
  have s02 := s1.trans s2
  have s12 := s2
  refine go_fld F.c_cS F.n_cS_firsts (fun V' s1 => me V' _) upd_same (show 2 < 1000 by decide) (EvR.m (ev_c2 (a := r) (b := (mReaders r i).length) ((ok_bunch_scores (P := P) (w := w) (base := base) F).cal (X := bodyI P w K mg base n_Swings_init "Swings.__init__" s_Swings_init f cdv A outer s H E) hr (by rfl)) (ev_var (i := 1) rfl (.inl rfl) rfl (Mo.mo s02 r1))
    (ev_nat (ev_b1 f_lenL (by rfl) F.m_len PySem.boot_len (ev_m1 (ev_var (i := 1) rfl (.inl rfl) rfl (Mo.mo s02 r1)) (ev_var (i := 2) rfl (.inl rfl) rfl (show qP i v2 V2 from r2)) F.c_cR rds hr ru_readers hi)) rfl) ⟨hni, hm3⟩)) fun V3 fi s3 rfi => ?_
  rw [upd_upd]
  rw [← hF] at rfi
  have hfl : sw.firsts.length ≤ sizeLine := by rw [sizeLine_eq]; have := hp.fn; omega
  generalize hfs : L2.putF "firsts" fi (L2.putF "person" pe (L2.putF "own_rule" ru [])) = fs3
  have hf3 : fs3 = ([("own_rule", ru), ("person", pe), ("firsts", fi)] : List (Str × Vl)) := by
    rw [← hfs]
    rfl
  refine go_di fun di3 => ?_
  have rself : qFl x cS dx fs3 fi (qDt qF (qU qI)) sw.firsts () (.ref x) (jn V3 (upd H0 x (.ins cS dx fs3))) := ⟨rfl, jn_at di3 upd_same, Mo.mo jn_v rfi⟩
  have cI := (ok_in_order (P := P) (w := w) (base := base) F).cal (X := bodyI P w K mg base n_Swings_init "Swings.__init__" s_Swings_init f cdv A outer s H E) hr (by rfl)
  refine go_fld F.c_cS F.n_cS_worths (fun V' s1 => me V' _) upd_same (by rw [hf3]; exact (by decide : 3 < 1000)) (R := qL qF) (a := mInOrder (sw.firsts.map (fun x => x.1))) (EvR.w (ev_c1 cI (ev_t1 (f_listDt (kvs := sw.firsts) rfl hfl) (by rfl) F.m_list PyProof.Rows.boot_list
    (ev_fld (ev_var (i := 0) rfl (.inl rfl) rfl rself) (fl_fld (by rw [hf3]; rfl)) F.c_cS F.n_cS_firsts)) hp.fine) noPl_ins) fun V4 wo s4 rwo => ?_
  rw [upd_upd]
  generalize hfs4 : L2.putF "worths" wo fs3 = fs4
  have hf4 : fs4 = ([("own_rule", ru), ("person", pe), ("firsts", fi), ("worths", wo)] : List (Str × Vl)) := by
    rw [← hfs4, hf3]
    rfl
  have s24 := s3.trans s4
  have s04 := s02.trans s24
  have cO := (ok_own_reads (P := P) (w := w) (base := base) F).cal (X := bodyI P w K mg base n_Swings_init "Swings.__init__" s_Swings_init f cdv A outer s H E) hr (by rfl)
  have hMem : (mOwn r i).map (fun z => z.2) = sw.members := by unfold Sw.members; rw [e1, e2]
  have hOl : (mOwn r i).length ≤ 64 := Nat.le_trans (List.length_filter_le _ _) r1.1.n
  refine go_fld F.c_cS F.n_cS_members (fun V' s1 => me V' _) upd_same (by rw [hf4]; exact (by decide : 4 < 1000)) (R := qL qP) (a := (mOwn r i).map (fun z => z.2)) (EvR.m (ev_lcn (xs := mOwn r i) (R := q2 qP qP) (f := fun (z : Pn × Pn) => z.2) 5 rfl sc_Swings_init.nd rfl (src_list (ev_c2 cO (ev_var (i := 1) rfl (.inl rfl) rfl (Mo.mo s04 r1)) (ev_var (i := 2) rfl (.inl rfl) rfl (show qP i v2 V4 from r2)) hi)) (by rw [sizeLine_eq]; omega)
    (blkOk_by (N := n_Swings_init) (sc := defScope s_Swings_init) (by decide +kernel)) (fun a v V' ha sv ra => fun _ _ _ _ _ => ev_ix1 (ev_var (i := 5) rfl (.inl rfl) rfl ra)))) fun V5 mb s5 rmb => ?_
  rw [upd_upd]
  rw [hMem] at rmb
  generalize hfs5 : L2.putF "members" mb fs4 = fs5
  have hf5 : fs5 = ([("own_rule", ru), ("person", pe), ("firsts", fi), ("worths", wo), ("members", mb)] : List (Str × Vl)) := by
    rw [← hfs5, hf4]
    rfl
  refine go_fldK F.c_cS F.n_cS_span_of (fun V' s1 => me V' _) upd_same (by rw [hf5]; exact (by decide : 5 < 1000)) fun D hD1 hD2 hD3 => ?_
  generalize hfs6 : L2.putF "span_of" (L2.V.ref D) fs5 = fs6
  have hf6 : fs6 = ([("own_rule", ru), ("person", pe), ("firsts", fi), ("worths", wo), ("members", mb), ("span_of", .ref D)] : List (Str × Vl)) := by
    rw [← hfs6, hf5]
    rfl
  -- the object is shown, the dict stays owned
  refine go_di fun di5 => ?_
  have nx5 : V5 x = none := di5 x (by rw [upd_same]; exact fun z => nomatch z)
  refine go_pub (V1 := upd V5 x (.ins cS dx fs6)) (M1 := upd H0 D (.dK [])) ?_ (same_upd nx5) (fun b o e => ?_) (fun b o e => ?_)
  rotate_left
  · by_cases hb : b = x
    · subst hb
      rw [upd_same] at e ⊢
      exact .inr e
    · rw [upd_ne hb] at e
      exact .inl e
  · by_cases hb : b = D
    · subst hb
      rw [upd_same] at e
      rw [upd_ne hD2, upd_same, upd_ne hD2]
      exact ⟨e, hD3⟩
    · rw [upd_ne hb] at e
      cases e
  have hV6 : Same V5 (upd V5 x (.ins cS dx fs6)) := same_upd nx5
  generalize hV6e : upd V5 x (.ins cS dx fs6) = V6 at hV6
  have hx6 : V6 x = some (.ins cS dx fs6) := by rw [← hV6e, upd_same]
  have rmb6 : qL qP sw.members mb V6 := Mo.mo hV6 rmb
  have hml : sw.members.length ≤ 64 := by rw [← hMem, List.length_map]; exact hOl
  have s06 : Same V V6 := (s04.trans s5).trans hV6
  have cSp := (ok_spans (P := P) (w := w) (base := base) F).cal (X := bodyI P w K mg base n_Swings_init "Swings.__init__" s_Swings_init f cdv A outer s H E) hr (by rfl)
  have fm : ∀ V' σ p p', Same V6 V' → σ[0]? = some (some (.ref x)) → EvR (bodyI P w K mg base n_Swings_init "Swings.__init__" s_Swings_init f cdv A outer s H E) (.Attribute (.Name "self" p) "members" p') σ V' (qL qP) sw.members := fun V' σ p p' sv h0 =>
    ev_fld (ev_var (i := 0) rfl (.inl rfl) h0 (show qFl x cS dx fs6 mb (qL qP) sw.members () (.ref x) V' from ⟨rfl, sv _ _ hx6, Mo.mo sv rmb6⟩)) (fl_fld (by rw [hf6]; rfl)) F.c_cS F.n_cS_members
  refine go_for PassesOwn.never rfl (tg_name (i := 3) sc_Swings_init.nd rfl (.inl rfl)) (src_list (fm V6 _ _ _ (Same.refl _) rfl))
    (fun j σ V' M' => ∃ ks y1 y2 kvs, σ = [some (.ref x), some v1, some v2, y1, y2, none] ∧ M' = upd H0 D (.dK ks) ∧ Pr (KeyK.enc qI) (qSp P w) kvs ks V' ∧ SpOk sw (sw.members.take j) kvs ∧ ks.length ≤ j) (fun V2 s2 => ⟨[], none, none, [], rfl, rfl, .nil, ⟨fun k b e => (nomatch e), fun m hm => (nomatch hm)⟩, Nat.le_refl _⟩) ?_ ?_
  · rintro j m v σ' σ2 V0 V' M' hmj ⟨ks, y1, y2, kvs, rfl, rfl, pr, so, hk⟩ s0 s2 rm rfl
    have hj : j < sw.members.length := (List.getElem?_eq_some_iff.mp hmj).1
    have hmm := List.mem_of_getElem? hmj
    have tk : sw.members.take (j + 1) = sw.members.take j ++ [m] := by rw [List.take_add_one, hmj]; rfl
    obtain ⟨p1, p2, p3⟩ := hp.nm m hmm
    rw [e1] at p1
    have hsz : (mReaders r m).length = sw.size m := by unfold Sw.size; rw [e1]
    have sV' : Same V V' := (s06.trans s0).trans s2
    have hxV : V' x = some (.ins cS dx fs6) := (s0.trans s2) _ _ hx6
    refine go_set (i := 4) (R := qI) (a := (sw.size m : Int)) sc_Swings_init.nd rfl (.inl rfl) (EvR.eq (ev_b1 f_lenL (by rfl) F.m_len PySem.boot_len (ev_m1 (ev_var (i := 1) rfl (.inl rfl) rfl (Mo.mo sV' r1)) (ev_var (i := 3) rfl (.inl rfl) rfl rm) F.c_cR rds hr ru_readers p1)) (by rw [hsz])) fun V3 zv s3 rz => ?_
    refine go_di fun di => ?_
    have hD3 : jn V3 (upd H0 D (.dK ks)) D = some (.dK ks) := jn_at di upd_same
    have sx3 : ∀ W, Same V3 W → W x = some (.ins cS dx fs6) := fun W sw3 => sw3 _ _ (s3 _ _ hxV)
    have pr3 : Pr (KeyK.enc qI) (qSp P w) kvs ks V3 := pr.mo (s2.trans s3)
    have slf : qFl x cS dx fs6 (.ref D) (qDo qI (qSp P w)) kvs () (.ref x) (jn V3 (upd H0 D (.dK ks))) := ⟨rfl, sx3 _ jn_v, D, ks, rfl, .inl hD3, pr3.mo jn_v⟩
    refine go_if (hW := jn_sees) (et_cmp (o_ninDo hu) (ev_var (V := jn V3 (upd H0 D (.dK ks))) (R := qI) (a := (sw.size m : Int)) (i := 4) rfl (.inl rfl) rfl rz) (ev_fld (ev_var (i := 0) rfl (.inl rfl) rfl slf) (fl_fld (by rw [hf6]; rfl)) F.c_cS F.n_cS_span_of)) (fun h => ?_) (fun h => ?_)
    · have hnone : Om.dg kvs (sw.size m : Int) = none := by
        cases q : Om.dg kvs (sw.size m : Int) with
        | none => rfl
        | some b => rw [q] at h; cases h
      refine go_putK (d := D) (kvs := ks) (key := .inl (sw.size m : Int)) hu (fun V' sv => ev_fld (ev_var (i := 0) rfl (.inl rfl) rfl (show qFl x cS dx fs6 (.ref D) (qA D) () () (.ref x) (jn V' (upd H0 D (.dK ks))) from ⟨rfl, sx3 _ (sv.trans jn_v), rfl⟩)) (fl_fld (by rw [hf6]; rfl)) F.c_cS F.n_cS_span_of)
        (fun V' sv => EvR.conv (ev_var (R := qI) (a := (sw.size m : Int)) (i := 4) rfl (.inl rfl) rfl rz) (fun v V' _ rr => rr)) upd_same (by rw [sizeLine_eq]; omega)
        (EvR.m (R := qSp P w) (a := mSpans r (mReaders r m).length) (ev_c2 cSp (ev_var (i := 1) rfl (.inl rfl) rfl (Mo.mo (sV'.trans s3) r1)) (ev_var (R := qNat) (a := (mReaders r m).length) (i := 4) rfl (.inl rfl) rfl (by rw [hsz]; exact rz)) ⟨by omega, by omega, hm3⟩)) fun V4 nv s4 rn => ?_
      rw [upd_upd]
      refine go_nil (go_nil ⟨_, _, _, dput kvs (sw.size m : Int) (mSpans sw.r (sw.size m)), rfl, rfl, ?_, ?_, ?_⟩)
      · have : mSpans r (mReaders r m).length = mSpans sw.r (sw.size m) := by rw [hsz, e1]
        rw [this] at rn
        exact (pr3.mo s4).put (KeyK.inj (R := qI)) rn
      · rw [tk]
        exact so.put hmm hnone
      · exact Nat.le_trans (length_putK ks _ nv) (by omega)
    · refine go_nil (go_nil ⟨ks, _, _, kvs, rfl, rfl, pr3, ?_, by omega⟩)
      rw [tk]
      exact so.skip (by simpa using h)
  · rintro σ' V' M' ⟨ks, y1, y2, kvs, rfl, rfl, pr, so, hk⟩ s2
    rw [List.take_length] at so
    refine go_lock trivial fun od hV => ?_
    have sl : Same V' (upd V' D (.frz od (.dK ks))) := same_upd hV
    have sj : Same V' (jn (upd V' D (.frz od (.dK ks))) H0) := sl.trans jn_v
    refine go_nil ⟨hp, x, dx, ru, fi, wo, mb, .ref D, rfl, ?_, ?_, ?_, ?_, kvs, fun m hm => so.dg hm, D, od, ks, rfl, jn_v _ _ upd_same, pr.mo sj⟩
    · rw [(s2.trans sj) _ _ hx6, hf6, show pe = _ from rpe, e2]
    · rw [e1]
      exact Mo.mo (((((s12.trans s24).trans s5).trans hV6).trans s2).trans sj) rru
    · exact Mo.mo (((s5.trans hV6).trans s2).trans sj) rwo
    · exact Mo.mo (s2.trans sj) rmb6
end
end Om
set_option maxHeartbeats 4000000
/-! Om, defs: swings, part 5. -/
namespace Om
open PySem PySem.Spec PyProof.Rows L2
theorem qO_not {α : Type} {R : Rf α} (hR : ∀ a v H, R a v H → v ≠ .non) (c : Option α) : ∀ v H, qO R c v H → (!decide (v = .non)) = c.isSome := fun v H r => by
  cases c with
  | none =>
    rw [show v = _ from r]
    rfl
  | some a =>
    have := hR a v H r
    simp [this]
theorem qO_is {α : Type} {R : Rf α} (hR : ∀ a v H, R a v H → v ≠ .non) (c : Option α) : ∀ v H, qO R c v H → decide (v = .non) = !c.isSome := fun v H r => by
  cases c with
  | none =>
    rw [show v = _ from r]
    rfl
  | some a =>
    have := hR a v H r
    simp [this]
theorem mSpans_bd {r : Ru} {n : Nat} (hn : 1 ≤ n) (h6 : n ≤ 6) (hm : r.cr.most ≤ 3) : ∀ z ∈ mSpans r n, Sm z.1.1 ∧ Sm z.2.1 := by
  unfold mSpans
  have key : ∀ (l : List (List Int)) (acc : List Fr2), (∀ ms ∈ l, ms ∈ mBun r.cr.most (n - 1)) → (∀ z ∈ acc, Sm z.1.1 ∧ Sm z.2.1) → ∀ z ∈ l.foldl (fun acc ms => if mLess (mLo r ms) (mHi r ms) then addS acc (mLo r ms, mHi r ms) else acc) acc, Sm z.1.1 ∧ Sm z.2.1 := by
    intro l
    induction l with
    | nil => intro acc _ h; exact h
    | cons ms l ih =>
      intro acc hl h
      have step : ∀ z ∈ (if mLess (mLo r ms) (mHi r ms) = true then addS acc (mLo r ms, mHi r ms) else acc), Sm z.1.1 ∧ Sm z.2.1 := by
        split
        · unfold addS
          split
          · exact h
          · intro z hz
            rcases List.mem_append.mp hz with hz | hz
            · exact h z hz
            · have e : z = (mLo r ms, mHi r ms) := by simpa using hz
              subst e
              have hmm := hl ms List.mem_cons_self
              have b1 := mGath_bd (g := r.ga) (t := r.trim) (mks_cons hmm (by omega) (by omega) (x := 0) ⟨by decide, by decide⟩)
              have b2 := mGath_bd (g := r.ga) (t := r.trim) (mks_cons hmm (by omega) (by omega) (x := (r.cr.most : Int)) ⟨by omega, by omega⟩)
              exact ⟨sm100 b1.1 b1.2.1, sm100 b2.1 b2.2.1⟩
        · exact h
      exact ih _ (fun x hx => hl x (List.mem_cons_of_mem _ hx)) step
  exact key _ [] (fun _ h => h) (fun _ h => nomatch h)
section
variable {P : Program} {w : World} {K : PySem.W.Frag} {mg : Str → Option Value} {base : Heap} {cC cR cS : Addr}
variable (F : Fx K mg cC cR cS)
include F
theorem ok_is_earlier : Mth P w K mg base cS "is_earlier" 4 (sp2 (qSw P w cC cR cS) qP (fun s m => m ∈ s.r.cr.pp) qB Sw.early) := by
  refine mth2 F.d_Swings_is_earlier sc_Swings_is_earlier rfl fun f cdv A outer s H E v1 v2 sw m V hr r1 r2 hp => ?_
  have pl := ok_Crowd_place (P := P) (w := w) (base := base) F
  have x0 := fun p => ev_var (X := bodyI P w K mg base n_Swings_is_earlier "Swings.is_earlier" s_Swings_is_earlier f cdv A outer s H E) (σ := start n_Swings_is_earlier [v1, v2]) (pos := p) (i := 0) rfl (.inl rfl) rfl r1
  have cr := fun p p' p'' => ev_fld (pos := p'') (ev_fld (pos := p') (x0 p) sw_rule F.c_cS F.n_cS_own_rule) ru_crowd F.c_cR F.n_cR_crowd
  exact go_ret (R := qB) (a := sw.early m) (EvR.eq (ev_cmp o_lt (EvR.eq (ev_m1 (cr _ _ _) (ev_fld (x0 _) sw_person F.c_cS F.n_cS_person) F.c_cC pl hr cr_place_i r1.1.i) rfl) (EvR.eq (ev_m1 (cr _ _ _) (ev_var (i := 1) rfl (.inl rfl) rfl r2) F.c_cC pl hr cr_place_i hp) rfl)) rfl) fun V' v s r => r
theorem ok_marks_at : Mth P w K mg base cS "marks_at" 5 (sp3 (qSw P w cC cR cS) qF qP (fun s z m => m ∈ s.members ∧ Sm z.1) (qO qRef) Sw.at_) := by
  refine mth3 F.d_Swings_marks_at sc_Swings_marks_at rfl fun f cdv A outer s H E v1 v2 v3 sw z m V hr r1 r2 r3 hp => ?_
  obtain ⟨hm, hz⟩ := hp
  obtain ⟨p1, p2, p3⟩ := r1.1.nm m hm
  have hm3 := r1.1.m3
  have hu : (bodyI P w K mg base n_Swings_marks_at "Swings.marks_at" s_Swings_marks_at f cdv A outer s H E).A.units + 9 < cLine := by have := hr.units; omega
  have x0 := fun p => ev_var (X := bodyI P w K mg base n_Swings_marks_at "Swings.marks_at" s_Swings_marks_at f cdv A outer s H E) (σ := start n_Swings_marks_at [v1, v2, v3]) (pos := p) (i := 0) rfl (.inl rfl) rfl r1
  have hso : Ent (.inl (sw.size m : Int)) (qSo P w sw) () (qSp P w) (mSpans sw.r (sw.size m)) := fun v H ⟨kvs, h, d, od, ks, ev, hd, pr⟩ => by
    obtain ⟨u, h1, h2⟩ := pr.get (KeyK.inj (R := qI)) (h m hm)
    exact ⟨d, ks, u, ev, .inr ⟨od, hd⟩, h1, h2⟩
  refine go_set (i := 3) (R := qSp P w) (a := mSpans sw.r (sw.size m)) sc_Swings_marks_at.nd rfl (.inl rfl) (ev_get (key := .inl (sw.size m : Int)) (by omega) (ev_fld (x0 _) sw_spans F.c_cS F.n_cS_span_of) (EvR.conv (ev_b1 f_lenL (by rfl) F.m_len PySem.boot_len (ev_m1 (ev_fld (x0 _) sw_rule F.c_cS F.n_cS_own_rule) (ev_var (i := 2) rfl (.inl rfl) rfl r3) F.c_cR (ok_readers (P := P) (w := w) (base := base) F) hr ru_readers p1)) (fun v V' _ rr => rr)) hso) fun V1 kn s1 rk => ?_
  have bd := mSpans_bd (r := sw.r) p2 p3 hm3
  refine go_for PassesOwn.never rfl (tg_name (i := 4) sc_Swings_marks_at.nd rfl (.inl rfl)) (src_sp (ev_var (i := 3) rfl (.inl rfl) rfl rk))
    (fun j σ V' M' => ∃ y, σ = [some v1, some v2, some v3, some kn, y] ∧ ((mSpans sw.r (sw.size m)).take j).any (fun q => mDec q z (sw.early m)) = false) (fun V2 s2 => ⟨none, rfl, rfl⟩) ?_ ?_
  · rintro j q v σ' σ2 V0 V' M' hq ⟨y, rfl, hno⟩ s0 s2 rq rfl
    have hqm := List.mem_of_getElem? hq
    obtain ⟨b1, b2⟩ := bd q hqm
    have sV : Same V V' := (s1.trans s0).trans s2
    have tk : ((mSpans sw.r (sw.size m)).take (j + 1)) = (mSpans sw.r (sw.size m)).take j ++ [q] := by rw [List.take_add_one, hq]; rfl
    refine go_if (hW := Sees.self) (et_val (ev_c3 ((ok_decides (P := P) (w := w) (base := base) F).cal (X := bodyI P w K mg base n_Swings_marks_at "Swings.marks_at" s_Swings_marks_at f cdv A outer s H E) hr (by rfl)) (ev_var (i := 4) rfl (.inl rfl) rfl rq) (ev_var (i := 1) rfl (.inl rfl) rfl (Mo.mo sV r2))
      (ev_m1 (ev_var (i := 0) rfl (.inl rfl) rfl (Mo.mo sV r1)) (ev_var (i := 2) rfl (.inl rfl) rfl (show qP m v3 V' from r3)) F.c_cS (ok_is_earlier F) hr sw_i1 p1) ⟨b1, b2, hz⟩)) (fun h => ?_) (fun h => ?_)
    · refine go_ret (ev_getSp hu (ev_var (i := 3) rfl (.inl rfl) rfl (Mo.mo (s0.trans s2) rk)) (ev_var (i := 4) rfl (.inl rfl) rfl rq) hqm) fun V3 u s3 ru => ?_
      have : sw.at_ z m = some () := by
        unfold Sw.at_
        rw [if_pos (List.any_eq_true.mpr ⟨q, hqm, h⟩)]
      show qO qRef (sw.at_ z m) u V3
      rw [this]
      exact ru
    · refine go_nil (go_nil ⟨some v, rfl, ?_⟩)
      rw [tk, List.any_append, hno]
      simp [h]
  · rintro σ' V' M' ⟨y, rfl, hno⟩ s2
    rw [List.take_length] at hno
    refine go_ret ev_non fun V3 u s3 ru => ?_
    have : sw.at_ z m = none := by
      unfold Sw.at_
      rw [if_neg (by rw [hno]; exact Bool.false_ne_true)]
    show qO qRef (sw.at_ z m) u V3
    rw [this]
    exact ru
theorem ok_decided_at : Mth P w K mg base cS "decided_at" 6 (sp2 (qSw P w cC cR cS) qF (fun _ z => Sm z.1) (qL qP) Sw.decided) := by
  refine mth2 F.d_Swings_decided_at sc_Swings_decided_at rfl fun f cdv A outer s H E v1 v2 sw z V hr r1 r2 hp => ?_
  have hl : sw.members.length ≤ sizeLine := by
    obtain ⟨_, _, _, _, _, _, _, _, _, _, _, _, ⟨_, _, _, _, _, z⟩, _⟩ := r1
    exact z
  refine go_ret (EvR.eq (ev_lcf (xs := sw.members) (R := qP) (S := qP) (p := fun m => (sw.at_ z m).isSome) (f := fun m => m) 2 rfl sc_Swings_decided_at.nd rfl (src_list (ev_fld (ev_var (i := 0) rfl (.inr (.inl rfl)) rfl r1) sw_members F.c_cS F.n_cS_members)) hl (blkOk_by (N := n_Swings_decided_at) (sc := defScope s_Swings_decided_at) (by decide +kernel))
    (fun a v V' ha sv ra => fun _ _ _ _ _ => et_cmp (R := qO qRef) (a := sw.at_ z a) (o_notN (qO_not (fun _ v H ⟨c, e⟩ => by rw [e]; exact fun q => nomatch q) _)) (ev_m2 (ev_var (i := 0) rfl (.inr (.inl rfl)) rfl (Mo.mo sv r1)) (ev_var (i := 1) rfl (.inr (.inl rfl)) rfl (Mo.mo sv r2)) (ev_var (i := 2) rfl (.inl rfl) rfl ra) F.c_cS (ok_marks_at F) hr sw_i2 ⟨ha, hp⟩) ev_non)
    (fun a v V' ha _ sv ra => fun _ _ _ _ _ => ev_var (i := 2) rfl (.inl rfl) rfl ra)) (List.map_id' _)) fun V' v s r => r
theorem ok_best : Mth P w K mg base cS "best" 7 (sp1 (qSw P w cC cR cS) (fun _ => True) (qO qF) Sw.best) := by
  refine mth1 F.d_Swings_best sc_Swings_best rfl fun f cdv A outer s H E v1 sw V hr r1 hp => ?_
  have dec := ok_decided_at (P := P) (w := w) (base := base) F
  have nn : ∀ (a : Fr) (v : Vl) (H : Hp), qF a v H → v ≠ .non := fun a v H ⟨p, _, _, e, _⟩ => by rw [e]; exact fun q => nomatch q
  have bd : ∀ z ∈ sw.worths, Sm z.1 := fun z hz => by
    have := r1.1.w z hz
    exact ⟨by omega, by omega⟩
  refine go_set (i := 1) (R := qN) (a := ()) sc_Swings_best.nd rfl (.inl rfl) ev_non fun V1 u s1 ru => ?_
  refine go_for PassesOwn.never rfl (tg_name (i := 2) sc_Swings_best.nd rfl (.inl rfl)) (src_list (ev_fld (ev_var (i := 0) rfl (.inl rfl) rfl (Mo.mo s1 r1)) sw_worths F.c_cS F.n_cS_worths))
    (fun j σ V' M' => ∃ u y, σ = [some v1, some u, y] ∧ qO qF ((sw.worths.take j).foldl sw.step none) u V' ∧ ∀ g, (sw.worths.take j).foldl sw.step none = some g → g ∈ sw.worths) (fun V2 s2 => ⟨u, none, rfl, ru, fun g h => nomatch h⟩) ?_ ?_
  · rintro j z v σ' σ2 V0 V' M' hz ⟨u, y, rfl, ru, hg⟩ s0 s2 rz rfl
    have hzm := List.mem_of_getElem? hz
    have r1' : qSw P w cC cR cS sw v1 V' := Mo.mo ((s1.trans s0).trans s2) r1
    have ru' : qO qF ((sw.worths.take j).foldl sw.step none) u V' := Mo.mo s2 ru
    have tk : (sw.worths.take (j + 1)).foldl sw.step none = sw.step ((sw.worths.take j).foldl sw.step none) z := by
      rw [List.take_add_one, hz, List.foldl_append]
      rfl
    generalize (sw.worths.take j).foldl sw.step none = c at *
    cases c with
    | none =>
      have ru0 : qO qF (none : Option Fr) u V' := ru'
      refine go_if (hW := Sees.self) (et_w (ew_or (c := false) (et_cmp (R := qO qF) (a := (none : Option Fr)) (o_isN (k := true) (qO_is nn none)) (ev_var (i := 1) rfl (.inl rfl) rfl ru0) ev_non) (fun h => nomatch h))) (fun _ => ?_) (fun h => nomatch h)
      refine go_set (i := 1) (R := qF) (a := z) sc_Swings_best.nd rfl (.inl rfl) (ev_var (i := 2) rfl (.inl rfl) rfl rz) fun V3 u3 s3 r3 => go_nil (go_nil ⟨u3, some v, rfl, ?_, fun g h => ?_⟩)
      · rw [tk]
        exact r3
      · rw [tk] at h
        cases h
        exact hzm
    | some g0 =>
      have ru0 : qF g0 u V' := ru'
      refine go_if (hW := Sees.self) (et_w (ew_or (et_cmp (R := qO qF) (a := some g0) (o_isN (k := false) (qO_is nn (some g0))) (ev_var (i := 1) rfl (.inl rfl) rfl ru0) ev_non) (fun _ => ew_or1 (et_cmp o_gt (ev_b1 f_lenL (by rfl) F.m_len PySem.boot_len (ev_m1 (ev_var (i := 0) rfl (.inl rfl) rfl r1') (ev_var (i := 2) rfl (.inl rfl) rfl rz) F.c_cS dec hr sw_i3 (bd z hzm))) (ev_b1 f_lenL (by rfl) F.m_len PySem.boot_len (ev_m1 (ev_var (i := 0) rfl (.inl rfl) rfl r1') (ev_var (i := 1) rfl (.inl rfl) rfl ru0) F.c_cS dec hr sw_i3 (bd g0 (hg g0 rfl)))))))) (fun h => ?_) (fun h => ?_)
      · have e : sw.step (some g0) z = some z := by
          unfold Sw.step
          exact if_pos (by simpa using h)
        refine go_set (i := 1) (R := qF) (a := z) sc_Swings_best.nd rfl (.inl rfl) (ev_var (i := 2) rfl (.inl rfl) rfl rz) fun V3 u3 s3 r3 => go_nil (go_nil ⟨u3, some v, rfl, ?_, fun g h => ?_⟩)
        · rw [tk, e]
          exact r3
        · rw [tk, e] at h
          cases h
          exact hzm
      · have e : sw.step (some g0) z = some g0 := by
          unfold Sw.step
          exact if_neg (by simpa using h)
        refine go_nil (go_nil ⟨u, some v, rfl, ?_, fun g h => ?_⟩)
        · rw [tk, e]
          exact ru0
        · rw [tk, e] at h
          cases h
          exact hg g0 rfl
  · rintro σ' V' M' ⟨u, y, rfl, ru, hg⟩ s2
    rw [List.take_length] at ru
    exact go_ret (R := qO qF) (a := sw.best) (ev_var (i := 1) rfl (.inl rfl) rfl ru) fun V' v s r => r
theorem ok_Swings_lift : Mth P w K mg base cS "lift" 8 (sp1 (qSw P w cC cR cS) (fun _ => True) qI Sw.lift) := by
  refine mth1 F.d_Swings_lift sc_Swings_lift rfl fun f cdv A outer s H E v1 sw V hr r1 hp => ?_
  have x0 := fun p => ev_var (X := bodyI P w K mg base n_Swings_lift "Swings.lift" s_Swings_lift f cdv A outer s H E) (σ := start n_Swings_lift [v1]) (pos := p) (i := 0) rfl (.inl rfl) rfl r1
  have hb : ∀ (l : List Fr) (c : Option Fr), c.isSome = true ∨ l ≠ [] → ∃ g, l.foldl sw.step c = some g ∧ (g ∈ l ∨ c = some g) := by
    intro l
    induction l with
    | nil =>
      intro c h
      rcases h with h | h
      · obtain ⟨g, rfl⟩ := Option.isSome_iff_exists.mp h
        exact ⟨g, rfl, .inr rfl⟩
      · exact absurd rfl h
    | cons z l ih =>
      intro c _
      have hs : sw.step c z = some z ∨ sw.step c z = c ∧ c.isSome = true := by
        cases c with
        | none => exact .inl rfl
        | some g =>
          unfold Sw.step
          dsimp only
          split
          · exact .inl rfl
          · exact .inr ⟨rfl, rfl⟩
      rw [List.foldl_cons]
      obtain ⟨g, h1, h2⟩ := ih (sw.step c z) (by
        rcases hs with e | ⟨e, h⟩
        · rw [e]; exact .inl rfl
        · rw [e]; exact .inl h)
      refine ⟨g, h1, ?_⟩
      rcases h2 with h2 | h2
      · exact .inl (List.mem_cons_of_mem _ h2)
      · rcases hs with e | ⟨e, _⟩
        · rw [e] at h2
          cases h2
          exact .inl List.mem_cons_self
        · exact .inr (e ▸ h2)
  refine go_ret (R := qI) (a := sw.lift) (ev_if (et_cmp (o_eqD (R := qL qF) (b := []) (by have := hr.units; omega)) (ev_fld (x0 _) sw_worths F.c_cS F.n_cS_worths) (ev_lst el_nil (Nat.zero_le _))) (fun h => ?_) (fun h => ?_)) fun V' v s r => r
  · have h0 : sw.worths = [] := by simpa using h
    have e : sw.lift = 0 := by
      unfold Sw.lift Sw.best
      rw [h0]
      rfl
    rw [e]
    exact ev_int
  · have h0 : sw.worths ≠ [] := by simpa using h
    obtain ⟨g, h1, h2⟩ := hb sw.worths none (.inr h0)
    have hg : g ∈ sw.worths := by
      rcases h2 with h2 | h2
      · exact h2
      · cases h2
    have e : sw.lift = ((sw.decided g).length : Int) := by
      unfold Sw.lift Sw.best
      rw [h1]
    rw [e]
    have eb : sw.best = some g := h1
    refine ev_b1 f_lenL (by rfl) F.m_len PySem.boot_len (ev_m1 (R := qSw P w cC cR cS) (S := qF) (a := sw) (b := g) (x0 _) (EvR.conv (ev_m0 (x0 _) F.c_cS (ok_best F) hr sw_i4 trivial) fun v V' _ rr => ?_) F.c_cS (ok_decided_at F) hr sw_i3 ?_)
    · rw [eb] at rr
      exact rr
    · have := r1.1.w g hg
      exact ⟨by omega, by omega⟩
theorem ok_lift : Gfn P w K mg base "lift" 10 (sp2 (qRu cC cR) qP (fun r i => (⟨r, i⟩ : Sw).ok) qI (fun r i => (⟨r, i⟩ : Sw).lift)) := by
  refine gfn2 F.d_lift sc_lift rfl fun f cdv A outer s H E v1 v2 r i V hr r1 r2 hp => ?_
  refine go_expr Sees.self (ev_c1 ((ok_check_plain (P := P) (w := w) (base := base) F).cal (X := bodyX P w K mg base n_lift "lift" s_lift f cdv A outer s H E) hr (by rfl)) (ev_var (i := 0) rfl (.inl rfl) rfl r1) trivial) ?_
  refine go_expr Sees.self (ev_c2 ((ok_check_person (P := P) (w := w) (base := base) F).cal (X := bodyX P w K mg base n_lift "lift" s_lift f cdv A outer s H E) hr (by rfl)) (ev_var (i := 0) rfl (.inl rfl) rfl r1) (ev_var (i := 1) rfl (.inl rfl) rfl r2) hp.i) ?_
  exact go_ret (R := qI) (a := (⟨r, i⟩ : Sw).lift) (EvR.eq (ev_m0 (EvR.eq (ev_mk2 (ok_Swings_init F) hr (by rfl) F.g_cS (ev_var (i := 0) rfl (.inl rfl) rfl r1) (ev_var (i := 1) rfl (.inl rfl) rfl r2) hp) rfl) F.c_cS (ok_Swings_lift F) hr sw_i5 trivial) rfl) fun V' v s r => r
def mLifts (r : Ru) : List (Pn × Int) := r.cr.pp.map fun i => (i, (⟨r, i⟩ : Sw).lift)
theorem ok_lifts : Gfn P w K mg base "lifts" 10 (sp1 (qRu cC cR) (fun r => ∀ i ∈ r.cr.pp, (⟨r, i⟩ : Sw).ok) (qDk qP qI) mLifts) := by
  refine gfn1 F.d_lifts sc_lifts rfl fun f cdv A outer s H E v1 r V hr r1 hp => ?_
  refine go_expr Sees.self (ev_c1 ((ok_check_plain (P := P) (w := w) (base := base) F).cal (X := bodyX P w K mg base n_lifts "lifts" s_lifts f cdv A outer s H E) hr (by rfl)) (ev_var (i := 0) rfl (.inr (.inl rfl)) rfl r1) trivial) ?_
  obtain ⟨hnd, h8⟩ : r.cr.pp.Nodup ∧ r.cr.pp.length ≤ 8 := by
    obtain ⟨_, _, _, _, _, _, _, _, q, _⟩ := r1
    exact ⟨q.1.nd, q.1.hi⟩
  refine go_ret (R := qDk qP qI) (a := mLifts r) (EvR.eq (ev_dcn (xs := (placesOf r.cr.pp).map (·.1)) (R := qP) (RK := qP) (S := qI) (f := fun i => (i, (⟨r, i⟩ : Sw).lift)) 1 rfl sc_lifts.nd rfl
    (src_ownK (S := qI) (kvs := placesOf r.cr.pp) (ev_fld (ev_var (i := 0) rfl (.inr (.inl rfl)) rfl r1) ru_crowd F.c_cR F.n_cR_crowd) (ok_Crowd_iter (P := P) (w := w) (base := base) F) hr (fun v H ⟨_, p, dx, dv, e, hq, d, od, ks, e1, e2, e3⟩ => ⟨p, dx, _, d, od, ks, e, hq, ⟨p, dx, _, e, hq, by rw [e1]; rfl⟩, e2, e3⟩)) (by rw [places_fst, sizeLine_eq]; omega)
    (blkOk_by (N := n_lifts) (sc := defScope s_lifts) (by decide +kernel)) (fun a v V' ha sv ra => fun _ _ _ _ _ => ev_var (i := 1) rfl (.inl rfl) rfl ra)
    (fun a v V' ha sv ra => fun _ _ _ _ _ => EvR.eq (ev_m0 (EvR.eq (ev_mk2 (ok_Swings_init F) hr (by rfl) F.g_cS (ev_var (i := 0) rfl (.inr (.inl rfl)) rfl (Mo.mo sv r1)) (ev_var (i := 1) rfl (.inl rfl) rfl ra) (hp a (by rw [places_fst] at ha; exact ha))) rfl) F.c_cS (ok_Swings_lift F) hr sw_i5 trivial) rfl)) ?_) fun V' v s r => r
  rw [places_fst, dmk_nodup (by rw [List.map_map]; simpa [Function.comp_def] using hnd)]
  rfl
end
end Om
set_option maxHeartbeats 4000000
/-! Om, the law's defs: the pool. -/
namespace Om
open PySem PySem.Spec PyProof.Rows L2
/-- a pool: two whole numbers, whichever -/
def poolAt (p : Addr) : Heap → Prop := fun h => ∃ (a b : Int) (t1 t2 : Tok) (n : Nat), 0 ≤ a ∧ 0 ≤ b ∧ b < 2147483647 ∧ h.get? p = some { cls := .type "list", data := .seq #[.int a t1, .int b t2] n }
abbrev poO (p : Addr) : HO := .ext (poolAt p)
def qPo : Rf Unit := fun _ v H => ∃ p, v = .ref p ∧ H p = some (poO p)
instance : Mo qPo := ⟨fun s ⟨p, e, h⟩ => ⟨p, e, s _ _ h⟩⟩
/-- something below n -/
def qDr : Rf Int := fun n v _ => ∃ d : Int, 0 ≤ d ∧ d < n ∧ v = .int d
instance : Mo qDr := ⟨fun _ h => h⟩
instance : Lt qDr := ⟨fun _ h => h⟩
theorem pool_ok {P : Program} {w : World} {H : Hp} {h : Heap} {p : Addr} (r : poolAt p h) : ObjOk P w H h p (poO p) := by
  obtain ⟨a, b, t1, t2, n, _, _, _, e⟩ := id r
  refine ⟨r, ⟨_, e⟩, fun h1 h2 f k => ?_⟩
  obtain ⟨a', b', t1', t2', n', x1, x2, x3, e'⟩ := f
  exact ⟨a', b', t1', t2', n', x1, x2, x3, k _ e'⟩
theorem pool_of {P : Program} {w : World} {H : Hp} {h : Heap} {p : Addr} {a b : Int} (h1 : 0 ≤ a) (h2 : 0 ≤ b) (h3 : b < 2147483647) (x : ObjOk P w H h p (.lst [.int a, .int b])) : poolAt p h := by
  obtain ⟨_, its, n, r, e⟩ := x
  obtain ⟨u1, u2, rfl, ⟨t1, rfl⟩, ⟨t2, rfl⟩⟩ := r.two
  exact ⟨a, b, t1, t2, n, h1, h2, h3, e⟩
section
variable {X : Cx} {σ : L2.St} {V M : Hp} {α : Type} {R : Rf α} {a : α} {e o i : Expr} {pos p px : Pos} {x : Str} {P : Post} {rest : List Stmt}
/-- a flat value, by reads of owned things -/
class Fl {α : Type} (R : Rf α) : Prop where
  fl : ∀ {a : α} {v : Vl} {H H' : Hp}, R a v H → R a v H'
instance : Fl qI := ⟨fun h => h⟩
instance : Fl qB := ⟨fun h => h⟩
instance : Fl qS := ⟨fun h => h⟩
instance : Fl qP := ⟨fun h => h⟩
instance : Fl qG := ⟨fun h => h⟩
instance : Fl qN := ⟨fun h => h⟩
instance : Fl qDr := ⟨fun h => h⟩
instance : Fl qNat := ⟨fun h => h⟩
theorem EvR.wf [Fl R] (h : EvR X e σ (jn V M) R a) : EvM X e σ V M R a := fun V1 A Q s w q =>
  h (jn V1 M) A Q (jn_mono s w.di) (jn_sees.le w) fun W2 A2 v g r => q V1 A2 v (Stp.gar w g) (Fl.fl r)
/-- o[i] = e, o an owned list -/
theorem go_putL {l : Addr} {vs : List Vl} {j : Nat} (ho : ∀ V', Same V V' → EvR X o σ (jn V' M) (qA l) ()) (hi : ∀ V', Same V V' → EvR X i σ (jn V' M) qI (j : Int)) (hM : M l = some (.lst vs)) (hj : j < vs.length) (hjj : j < 2 ^ 62) (h : EvM X e σ V M R a)
    (k : ∀ V' v, Same V V' → R a v V' → Go X rest σ V' (upd M l (.lst (vs.set j v))) P) (hs : swapsWithSole [.Subscript o i px] e pos.line X.env = pure false := by rfl) (hw : swappedStores [.Subscript o i px] e X.env = pure none := by rfl)
    (h1 : (assignEach [.Subscript o i px] X.env).map (·.2) = [assign (.Subscript o i px) X.env] := by rfl)
    (ha : ∀ v, assign (.Subscript o i px) X.env v = (do
      let ov ← holding [v] (eval o X.env)
      let iv ← holding [v, ov] (eval i X.env)
      standAt px
      holding [v, ov, iv] (setItem ov iv v)
      release [v, ov, iv] []) := by intro _; rfl) : Go X (.Assign [.Subscript o i px] e pos :: rest) σ V M P :=
  go_of (ps_asg pe_re (pg_sub pe_re pe_re set_list ha) hs hw h1) fun A D w fi => h V A _ (Same.refl _) w fun V2 A2 v s2 r => ho V2 s2.vv _ A2 _ (Same.refl _) (jn_sees.le s2.ow) fun V3 A3 y g3 ry => by
    have s3 := s2.trans (Stp.gar s2.ow g3)
    refine hi V2 s2.vv _ A3 _ (Same.refl _) (jn_sees.le s3.ow) fun V4 A4 z g4 rz => ?_
    have s4 := s3.trans (Stp.gar s3.ow g4)
    refine ⟨l, vs, (j : Int), j, ry, rz, s4.ow.ma l _ hM, ?_, go_next fi (s4.trans (Stp.set s4.ow hM)) (k V2 v s2.vv r)⟩
    simp [ixN, hj]
end
/-! ### the walk of a draw, the pool a list -/
section
variable {P : Program} {w : World} {K : PySem.W.Frag} {mg : Str → Option Value} {base : Heap} {cC cR cS : Addr}
variable (F : Fx K mg cC cR cS)
include F
/-- what is left: the pool, anew -/
def DrP (p : Addr) (n : Int) : Post := { nx := fun _ _ _ => False, rt := fun v _ M' => ∃ (d a b : Int), v = .int d ∧ 0 ≤ d ∧ d < n ∧ 0 ≤ a ∧ 0 ≤ b ∧ b < 2147483647 ∧ M' = upd H0 p (.lst [.int a, .int b]) }
theorem draw_body (f : Addr) (cdv : Value) (A : Around) (outer : List Env) (s : Shared) (H : Hp) (E : XK) (p : Addr) (a b n : Int) (V : Hp) (ha : 0 ≤ a) (hb : 0 ≤ b) (hb2 : b < 2147483647) (hn : 0 < n) (hn2 : n < 1073741824) :
    Go (bodyX P w K mg base n_W_draw "_law_draw" s_W_draw f cdv A outer s H E) (defBody s_W_draw) (start n_W_draw [.ref p, .int n]) V (upd H0 p (.lst [.int a, .int b])) (DrP p n) := by
  refine go_di fun di => ?_
  have pool : ∀ (V' : Hp) (a b : Int), (∀ c, upd H0 p (.lst [.int a, .int b]) c ≠ none → V' c = none) → qL qI [a, b] (.ref p) (jn V' (upd H0 p (.lst [.int a, .int b]))) := fun V' a b d => ⟨p, _, rfl, jn_at d upd_same, .cons rfl (.cons rfl .nil), (by decide : 2 ≤ sizeLine)⟩
  have rp := pool V a b di
  have np : NoPl (upd H0 p (.lst [.int a, .int b])) ∨ True := .inr trivial
  refine go_if (hW := jn_sees) (et_cmp o_gt (ev_ixL (i := 0) (ev_var (i := 0) rfl (.inl rfl) rfl rp) ev_int rfl) ev_int) (fun h => ?_) (fun h => go_nil ?_)
  · have ha2 : 0 < a := of_decide_eq_true h
    refine go_setF (i := 2) (R := qI) (a := a % n) (u := .int (a % n)) sc_W_draw.nd rfl (.inl rfl) jn_sees (ev_bin (o_mod hn) (ev_t1 f_intI (by rfl) F.m_int PyProof.Rows.boot_int (ev_ixL (i := 0) (ev_var (i := 0) rfl (.inl rfl) rfl rp) ev_int rfl)) (ev_var (R := qI) (a := n) (i := 1) rfl (.inl rfl) rfl rfl)) (fun v H r => r) ?_
    refine go_putL (l := p) (j := 0) (R := qI) (a := a / n) (fun V' _ => ev_var (i := 0) rfl (.inl rfl) rfl rfl) (fun V' _ => ev_int) upd_same (show 0 < 2 by decide) (by decide) (EvR.wf (ev_bin (o_fdiv ⟨hn, hn2⟩) (ev_ixL (i := 0) (ev_var (i := 0) rfl (.inl rfl) rfl rp) ev_int rfl) (ev_var (R := qI) (a := n) (i := 1) rfl (.inl rfl) rfl rfl))) fun V' v sv r => ?_
    rw [upd_upd, show v = _ from r]
    exact go_retF (u := .int (a % n)) jn_sees (ev_var (R := qI) (a := a % n) (i := 2) rfl (.inl rfl) rfl rfl) (fun v H r => r) ⟨a % n, a / n, b, rfl, Int.emod_nonneg _ (by omega), Int.emod_lt_of_pos _ hn, Int.ediv_nonneg (by omega) (by omega), hb, hb2, rfl⟩
  · have sb : Sm b := ⟨by omega, by omega⟩
    refine go_putL (l := p) (j := 1) (R := qI) (a := (b * 39373 + 7) % 2147483647) (fun V' _ => ev_var (i := 0) rfl (.inl rfl) rfl rfl) (fun V' _ => ev_int) upd_same (show 1 < 2 by decide) (by decide) (EvR.wf (ev_bin (o_mod (by decide)) (ev_t1 f_intI (by rfl) F.m_int PyProof.Rows.boot_int (ev_bin o_add (ev_bin (o_mul (.inl sb)) (ev_ixL (i := 1) (ev_var (i := 0) rfl (.inl rfl) rfl rp) ev_int rfl) ev_int) ev_int)) ev_int)) fun V' v sv r => ?_
    rw [upd_upd, show v = _ from r]
    have c0 : 0 ≤ (b * 39373 + 7) % 2147483647 := Int.emod_nonneg _ (by decide)
    have c1 : (b * 39373 + 7) % 2147483647 < 2147483647 := Int.emod_lt_of_pos _ (by decide)
    generalize (b * 39373 + 7) % 2147483647 = c at *
    refine go_di fun di2 => ?_
    have rp2 := pool V' a c di2
    have g0 : 0 ≤ c * c % 2147483629 / 32 := Int.ediv_nonneg (Int.emod_nonneg _ (by decide)) (by decide)
    exact go_retF (u := .int (c * c % 2147483629 / 32 % n)) (R := qI) (a := c * c % 2147483629 / 32 % n) jn_sees (ev_bin (o_mod hn) (ev_bin (o_fdiv ⟨by decide, by decide⟩) (ev_bin (o_mod (by decide)) (ev_t1 f_intI (by rfl) F.m_int PyProof.Rows.boot_int (ev_bin (o_mul (.inl ⟨by omega, by omega⟩)) (ev_ixL (i := 1) (ev_var (i := 0) rfl (.inl rfl) rfl rp2) ev_int rfl) (ev_ixL (i := 1) (ev_var (i := 0) rfl (.inl rfl) rfl rp2) ev_int rfl))) ev_int) ev_int) (ev_var (R := qI) (a := n) (i := 1) rfl (.inl rfl) rfl rfl)) (fun v H r => r)
      ⟨c * c % 2147483629 / 32 % n, a, c, rfl, Int.emod_nonneg _ (by omega), Int.emod_lt_of_pos _ hn, ha, c0, c1, rfl⟩
/-- the promise: some number below n; nothing that is seen has changed -/
theorem ok_draw : Gfn P w K mg base "_law_draw" 1 (sp2 qPo qI (fun _ n => 0 < n ∧ n < 1073741824) qDr (fun _ n => n)) := by
  obtain ⟨f, fd, FD, hm, bn⟩ := F.d_W_draw.ex
  refine ⟨f, fd, _, FD.ok sc_W_draw (fun vs H Q E h => ?_) (fun cdv A outer s H vs Q E hr hsp => ?_), hm, FD.kp, bn⟩
  · obtain ⟨v1, v2, a, b, V, rfl, _⟩ := h
    rfl
  · obtain ⟨v1, v2, u, n, V, rfl, l, ⟨p, e1, hp⟩, e2, ⟨hn, hn2⟩, q⟩ := hsp
    subst e1
    cases e2
    refine ⟨_, PSs.nox pss_rs, ?_⟩
    intro pins s1 I
    have hA : H p = some (poO p) := l.at hp
    obtain ⟨⟨a, b, t1, t2, k, ha, hb, hb2, e⟩, _, _⟩ := (show ObjOk _ _ H s1.heap p (poO p) from I.hok p _ hA)
    have new : ObjOk (bodyX P w K mg base n_W_draw "_law_draw" s_W_draw f cdv A outer s H E).prog (bodyX P w K mg base n_W_draw "_law_draw" s_W_draw f cdv A outer s H E).w (upd H p (.lst [.int a, .int b])) s1.heap p (.lst [.int a, .int b]) := ⟨(by decide : 2 ≤ sizeLine), [.int a t1, .int b t2], k, .cons ⟨t1, rfl⟩ (.cons ⟨t2, rfl⟩ .nil), e⟩
    have I2 := I.write (x := p) (e := p) (h' := s1.heap) (t' := s1.toks) (by rw [hA]; trivial) (.inl rfl) (fun _ _ _ z => z) ⟨_, e⟩ new
    have V0 : ∀ c o, (fun c => if c = p then none else V c) c = some o → c ≠ p ∧ V c = some o := fun c o z => by
      by_cases hc : c = p
      · simp [hc] at z
      · simp [hc] at z
        exact ⟨hc, z⟩
    have w0 : Ow (fun c => if c = p then none else V c) (upd H0 p (.lst [.int a, .int b])) (upd H p (.lst [.int a, .int b])) := by
      refine ⟨fun c o z => ?_, fun c o z => ?_, fun c z => ?_, fun c xs z => ?_⟩
      · obtain ⟨hc, h1⟩ := V0 c o z
        rw [show ∀ u, upd H p u c = H c from fun u => upd_ne hc]
        exact l c o h1
      · by_cases hc : c = p
        · subst hc
          rw [upd_same] at z ⊢
          exact z
        · rw [upd_ne hc] at z
          cases z
      · by_cases hc : c = p
        · simp [hc]
        · rw [upd_ne hc] at z
          exact absurd rfl z
      · by_cases hc : c = p
        · subst hc
          rw [upd_same] at z
          cases z
        · rw [upd_ne hc] at z
          cases z
    have run := draw_body (P := P) (w := w) (base := base) F f cdv A outer s H E p a b n _ ha hb hb2 hn hn2 (upd H p (.lst [.int a, .int b])) { nx := fun _ _ => False, rt := fun v A' => ∃ V' M', Stp (fun c => if c = p then none else V c) (upd H0 p (.lst [.int a, .int b])) (upd H p (.lst [.int a, .int b])) V' M' A' ∧ (DrP p n).rt v V' M' } w0
      ⟨fun _ _ _ _ _ z => z.elim, fun v V' M' A' st z => ⟨V', M', st, z⟩, fun _ _ _ _ _ z => z.elim, fun _ _ _ _ _ z => z.elim⟩ pins s1 I2
    refine wpAny_mono run (fun fl s2 hs => ?_) fun _ _ z => z
    cases fl with
    | next => exact hs.elim fun _ z => z.elim fun _ z => z.2.elim
    | brk => exact hs.elim fun _ z => z.elim fun _ z => z.2.elim
    | cont => exact hs.elim fun _ z => z.elim fun _ z => z.2.elim
    | ret u0 =>
      obtain ⟨v, σ', A', I3, rv, V', M', st, d, a', b', rfl, d0, d1, a0, b0, b1, rfl⟩ := hs
      have hA' : A' p = some (.lst [.int a', .int b']) := st.ow.ma p _ upd_same
      have x3 := pool_of a0 b0 b1 (I3.hok p _ hA')
      obtain ⟨_, _, _, _, _, _, _, _, e3⟩ := id x3
      have I4 := I3.write (x := p) (e := p) (h' := s2.heap) (t' := s2.toks) (o := poO p) (by rw [hA']; trivial) (.inl rfl) (fun _ _ _ z => z) ⟨_, e3⟩ (pool_ok x3)
      refine ⟨.int d, σ', upd A' p (poO p), I4, rv, q V _ _ ⟨Same.refl _, fun c o z => ?_, ?_, fun c z _ _ => z⟩ ⟨d, d0, d1, rfl⟩⟩
      · by_cases hc : c = p
        · rw [hc] at z ⊢
          rw [hA] at z
          rw [upd_same]
          exact z
        · rw [upd_ne hc]
          exact st.aa c o (by rw [upd_ne hc]) (by rw [upd_ne hc]; exact z)
      · refine l.post fun c o z => ?_
        by_cases hc : c = p
        · rw [hc] at z ⊢
          rw [hA] at z
          rw [upd_same]
          exact z
        · rw [upd_ne hc]
          exact st.aa c o (by rw [upd_ne hc]) (by rw [upd_ne hc]; exact z)
end
end Om
set_option maxHeartbeats 4000000
/-! Om, the law's defs: opened, pick, people, pairs, unlike. -/
namespace Om
open PySem PySem.Spec PyProof.Rows L2
/-- the script -/
def qScr (K : PySem.W.Frag) : Rf (List Int) := fun ns v H => ∃ p, v = .ref p ∧ SqL K H p (ns.map L2.V.int) ∧ ns.length ≤ 63
theorem sqL_mo {K : PySem.W.Frag} {V H : Hp} {p : Addr} {xs : List Vl} (s : Same V H) (h : SqL K V p xs) : SqL K H p xs := by
  rcases h with (h | ⟨o, h⟩) | h
  · exact .inl (.inl (s _ _ h))
  · exact .inl (.inr ⟨o, s _ _ h⟩)
  · exact .inr h
theorem sqL_le {K : PySem.W.Frag} {V H : Hp} {p : Addr} {xs : List Vl} (l : Le V H) (h : SqL K V p xs) : SqL K H p xs := by
  rcases h with (h | ⟨o, h⟩) | h
  · exact .inl (.inl (l.at h))
  · exact .inl (.inr ⟨o, l.at h⟩)
  · exact .inr h
instance {K : PySem.W.Frag} : Mo (qScr K) := ⟨fun s ⟨p, e, h, l⟩ => ⟨p, e, sqL_mo s h, l⟩⟩
section
variable {X : Cx} {σ : L2.St} {V M : Hp} {α : Type} {R : Rf α} {a : α} {e e1 e2 : Expr} {pos p : Pos} {P : Post} {rest : List Stmt}
theorem ev_ixS {ns : List Int} {i : Nat} {k : Int} (h1 : EvR X e1 σ V (qScr X.K) ns) (h2 : EvR X e2 σ V qI (i : Int)) (hx : ns[i]? = some k) (hs : PlainIx e2 := by exact fun _ _ => rfl) : EvR X (.Subscript e1 e2 pos) σ V qI k :=
  ev_of (pe_ix ix_list pe_re pe_re hs) fun V1 A Q s l q => h1 V1 A _ s l fun V2 A2 v g ⟨p, ev, hp, _⟩ => h2 V2 A2 _ (s.trans g.vv) g.va fun V3 A3 u g3 r2 => by
    have hv : (ns.map L2.V.int)[i]? = some (.int k) := by rw [List.getElem?_map, hx]; rfl
    exact ⟨p, _, i, .int k, ev, r2, sqL_le g3.va (sqL_mo g3.vv hp), atI_nat hv, q V3 A3 _ (g.trans g3) rfl⟩
theorem f_lenScr {ns : List Int} : Fn1 X (.builtin "len") (qScr X.K) ns qI (ns.length : Int) :=
  ⟨_, call_len_seq, fun V1 A x Q l ⟨p, ev, hp, _⟩ q => ⟨p, _, by rw [ev], .inl (sqL_le l hp), q V1 A _ (.refl l) (by rw [List.length_map])⟩⟩
theorem f_intB {b : Bool} : Fn1 X (.type "int") qB b qI (if b then 1 else 0) :=
  ⟨_, call_int1, fun V1 A v Q l r q => .inr ⟨b, by rw [show v = _ from r], q V1 A _ (.refl l) rfl⟩⟩
/-- return [e1, e2]: a pool -/
theorem go_retPool {i j : Int} (h1 : EvR X e1 σ V qI i) (h2 : EvR X e2 σ V qI j) (hi : 0 ≤ i) (hj : 0 ≤ j) (hj2 : j < 2147483647) (k : ∀ V' v, Same V V' → qPo () v V' → P.rt v V' M)
    (he : starEach [e1, e2] X.env = (false, eval e1 X.env) :: starEach [e2] X.env := by rfl) (he2 : starEach [e2] X.env = (false, eval e2 X.env) :: starEach [] X.env := by rfl) : Go X (.Return (some (.List [e1, e2] p)) pos :: rest) σ V M P :=
  go_of (ps_ret pe_re) fun A D w f => by
    have step : RE X (.List [e1, e2] p) σ A (fun v A' => ∃ d, v = .ref d ∧ A' d = some (.lst [.int i, .int j]) ∧ D.rt v (upd A' d (poO d))) := by
      refine re_of (pe_lst (pa_cons pe_re (pa_cons pe_re pa_nil he2) he)) (h1 V A _ (Same.refl _) w.va fun V2 A2 x g rx => h2 V2 A2 _ g.vv g.va fun V3 A3 y g3 ry => ⟨by show 2 ≤ sizeLine; decide, fun d hd => ?_⟩)
      refine ⟨d, rfl, by rw [upd_same, show x = _ from rx, show y = _ from ry], ?_⟩
      rw [upd_upd]
      have gn : Grow V3 A3 _ _ := Grow.new (o := poO d) g3.va hd
      have g' := (g.trans g3).trans gn
      exact f.rt _ _ M _ (g'.stp w) (k _ _ g'.vv ⟨d, rfl, upd_same⟩)
    intro pins s I
    refine thn (step pins s I) fun v s1 ⟨x, A1, I1, rv, d, ex, hd, q⟩ => ?_
    have x3 := pool_of hi hj hj2 (I1.hok d _ hd)
    obtain ⟨_, _, _, _, _, _, _, _, e3⟩ := id x3
    have I4 := I1.write (x := d) (e := d) (h' := s1.heap) (t' := s1.toks) (o := poO d) (by rw [hd]; trivial) (.inl rfl) (fun _ _ _ z => z) ⟨_, e3⟩ (pool_ok x3)
    exact ⟨x, _, I4, rv, q⟩
theorem ev_un1 {j : Int} {c} (p' : Pos) : EvR X (.UnaryOp .USub (.Constant (.int j) c p') p) σ V qI (-j) :=
  ev_of (pe_un un_neg pe_int) fun V1 A Q s l q => ⟨j, rfl, q V1 A _ (.refl l) rfl⟩
/-- one of them -/
def qAny (R : Rf α) : Rf (List α) := fun xs v V => ∃ x ∈ xs, R x v V
instance [Mo R] : Mo (qAny R) := ⟨fun s ⟨x, h, r⟩ => ⟨x, h, Mo.mo s r⟩⟩
theorem ev_ixE [Mo R] {xs : List α} {n : Int} (h1 : EvR X e1 σ V (qL R) xs) (h2 : EvR X e2 σ V qDr n) (hx : n = (xs.length : Int)) (hs : PlainIx e2 := by exact fun _ _ => rfl) : EvR X (.Subscript e1 e2 pos) σ V (qAny R) xs :=
  ev_of (pe_ix ix_list pe_re pe_re hs) fun V1 A Q s l q => h1 V1 A _ s l fun V2 A2 v g ⟨p, vs, ev, hp, al, _⟩ => h2 V2 A2 _ (s.trans g.vv) g.va fun V3 A3 u g3 ⟨d, d0, d1, ed⟩ => by
    have hd : d.toNat < xs.length := by omega
    obtain ⟨w, hw, rw'⟩ := al.get (List.getElem?_eq_getElem hd)
    refine ⟨p, vs, d, w, ev, ed, SqL.of (g3.aa _ _ (g.va.at hp)), ?_, q V3 A3 w (g.trans g3) ⟨_, List.getElem_mem hd, Mo.mo g3.vv rw'⟩⟩
    have := atI_nat hw
    rwa [Int.toNat_of_nonneg d0] at this
end
section
variable {P : Program} {w : World} {K : PySem.W.Frag} {mg : Str → Option Value} {base : Heap} {cC cR cS : Addr}
variable (F : Fx K mg cC cR cS)
include F
theorem ok_opened : Gfn P w K mg base "_law_opened" 1 (sp2 (qScr K) qNat (fun _ k => k ≤ 63) qPo (fun _ _ => ())) := by
  refine gfn2 F.d_W_opened sc_W_opened rfl fun f cdv A outer s H E v1 v2 ns k V hr r1 r2 hk => ?_
  have xk := fun p => ev_var (X := bodyX P w K mg base n_W_opened "_law_opened" s_W_opened f cdv A outer s H E) (σ := start n_W_opened [v1, v2]) (V := V) (pos := p) (R := qI) (a := (k : Int)) (i := 1) rfl (.inl rfl) rfl r2
  refine go_set (i := 2) (R := qI) (a := ns.getD k 5) sc_W_opened.nd rfl (.inl rfl) (ev_if (et_cmp o_lt (xk _) (ev_b1 f_lenScr (by rfl) F.m_len PySem.boot_len (ev_var (i := 0) rfl (.inl rfl) rfl r1))) (fun h => ?_) (fun h => ?_)) fun V1 c s1 rc => ?_
  · have hl : k < ns.length := by have := of_decide_eq_true h; omega
    refine ev_ixS (i := k) (ev_var (i := 0) rfl (.inl rfl) rfl r1) (xk _) ?_
    rw [List.getD_eq_getElem?_getD, List.getElem?_eq_getElem hl]
    rfl
  · have hl : ¬ k < ns.length := by have := of_decide_eq_false h; omega
    have e : ns.getD k 5 = 5 := by
      rw [List.getD_eq_getElem?_getD, List.getElem?_eq_none (by omega)]
      rfl
    rw [e]
    exact ev_int
  generalize ns.getD k 5 = z at rc
  have xc := fun p => ev_var (X := bodyX P w K mg base n_W_opened "_law_opened" s_W_opened f cdv A outer s H E) (σ := (start n_W_opened [v1, v2]).set 2 (some c)) (V := V1) (pos := p) (i := 2) rfl (.inl rfl) rfl rc
  refine go_set (i := 3) sc_W_opened.nd rfl (.inl rfl) (ev_b2 (f_max2 rfl) (by rfl) F.m_max PyProof.Rows.boot_max (ev_t1 f_intI (by rfl) F.m_int PyProof.Rows.boot_int (xc _)) (ev_t1 f_intI (by rfl) F.m_int PyProof.Rows.boot_int (ev_bin o_sub (ev_un1 _) (xc _)))) fun V2 g s2 rg => ?_
  have g0 : 0 ≤ (if -1 - z > z then -1 - z else z) := by split <;> omega
  generalize (if -1 - z > z then -1 - z else z) = t at rg g0
  have xg := fun p => ev_var (X := bodyX P w K mg base n_W_opened "_law_opened" s_W_opened f cdv A outer s H E) (σ := ((start n_W_opened [v1, v2]).set 2 (some c)).set 3 (some g)) (V := V2) (pos := p) (i := 3) rfl (.inl rfl) rfl rg
  have xk2 := fun p => ev_var (X := bodyX P w K mg base n_W_opened "_law_opened" s_W_opened f cdv A outer s H E) (σ := ((start n_W_opened [v1, v2]).set 2 (some c)).set 3 (some g)) (V := V2) (pos := p) (R := qI) (a := (k : Int)) (i := 1) rfl (.inl rfl) rfl r2
  have m0 : 0 ≤ t % 2147483629 := Int.emod_nonneg _ (by decide)
  have m1 : t % 2147483629 < 2147483629 := Int.emod_lt_of_pos _ (by decide)
  refine go_retPool (ev_bin (o_mul (.inr (by split <;> exact ⟨by decide, by decide⟩))) (xg _) (ev_t1 f_intB (by rfl) F.m_int PyProof.Rows.boot_int (ev_cmp o_ge (xg _) (ev_bin (o_pow ⟨by decide, by decide, by decide⟩) ev_int ev_int))))
    (ev_bin (o_mod (by decide)) (ev_t1 f_intI (by rfl) F.m_int PyProof.Rows.boot_int (ev_bin (o_mul (.inr ⟨by decide, by decide⟩)) (ev_bin o_add (ev_bin o_add (ev_bin (o_mod (by decide)) (xg _) ev_int) (ev_bin (o_mul (.inl ⟨by decide, by decide⟩)) ev_int (xk2 _))) ev_int) ev_int)) ev_int)
    ?_ (Int.emod_nonneg _ (by decide)) (Int.emod_lt_of_pos _ (by decide)) fun V' v s r => r
  split
  · omega
  · omega
theorem ok_pick {α : Type} (R : Rf α) [Mo R] : Gfn P w K mg base "_law_pick" 2 (sp2 qPo (qL R) (fun _ xs => xs ≠ [] ∧ xs.length < 1073741824) (qAny R) (fun _ xs => xs)) := by
  refine gfn2 F.d_W_pick sc_W_pick rfl fun f cdv A outer s H E v1 v2 u xs V hr r1 r2 hp => ?_
  have hl := List.length_pos_iff.mpr hp.1
  exact go_ret (ev_ixE (n := (xs.length : Int)) (ev_var (i := 1) rfl (.inl rfl) rfl r2) (EvR.eq (ev_c2 ((ok_draw (P := P) (w := w) (base := base) F).cal (X := bodyX P w K mg base n_W_pick "_law_pick" s_W_pick f cdv A outer s H E) hr (by rfl)) (ev_var (i := 0) rfl (.inl rfl) rfl r1) (ev_b1 f_lenL (by rfl) F.m_len PySem.boot_len (ev_var (i := 1) rfl (.inl rfl) rfl r2)) ⟨by omega, by omega⟩) rfl) rfl) fun V' v s r => r
end
end Om
set_option maxHeartbeats 4000000
/-! Om, the law's defs: people, pairs, unlike. -/
namespace Om
open PySem PySem.Spec PyProof.Rows L2
def qPpl : Rf Int := fun n v V => ∃ pp : List Pn, pp.Nodup ∧ (pp.length : Int) = n ∧ qL qP pp v V
instance : Mo qPpl := ⟨fun s ⟨pp, h1, h2, r⟩ => ⟨pp, h1, h2, Mo.mo s r⟩⟩
abbrev nmV (xs : List Pn) : List Vl := xs.map fun i => L2.V.str (nm i)
theorem al_nmV {H : Hp} : ∀ xs : List Pn, Al qP xs (nmV xs) H
  | [] => .nil
  | _ :: xs => .cons rfl (al_nmV xs)
section
variable {X : Cx} {σ : L2.St} {V M : Hp} {α β : Type} {R : Rf α} {S : Rf β} {a : α} {e e1 e2 : Expr} {pos p : Pos} {P : Post} {rest : List Stmt} {x y : Str}
/-- x, y = [..], [..], both owned -/
theorem go_par2L [Mo R] [Mo S] {i j : Nat} {es fs : List Expr} {px py p1 p2 q1 q2 : Pos} {k1 k2} {xs : List α} {ys : List β} (hc : X.calm = true) (hN : X.N.Nodup) (hi : X.N[i]? = some x) (hj : X.N[j]? = some y) (hij : i ≠ j) (hx : X.env.scope.names.lookup x = some .local) (hy : X.env.scope.names.lookup y = some .local)
    (h1 : EvL X es σ V R xs) (l1 : xs.length ≤ sizeLine) (h2 : EvL X fs σ V S ys) (l2 : ys.length ≤ sizeLine) (k : ∀ V' d d' vs us, Same V V' → d' ≠ d → Al R xs vs V' → Al S ys us V' → Go X rest ((σ.set i (some (.ref d))).set j (some (.ref d'))) V' (upd (upd M d (.lst vs)) d' (.lst us)) P)
    (hw : swappedStores [.Tuple [.Name x px, .Name y py] k1 p1] (.Tuple [.List es q1, .List fs q2] k2 p2) X.env = pure (some [x, y])) (hs : swapsWithSole [.Tuple [.Name x px, .Name y py] k1 p1] (.Tuple [.List es q1, .List fs q2] k2 p2) pos.line X.env = pure false := by rfl)
    (he : starEach [.List es q1, .List fs q2] X.env = (false, eval (.List es q1) X.env) :: starEach [.List fs q2] X.env := by rfl) (he2 : starEach [.List fs q2] X.env = (false, eval (.List fs q2) X.env) :: starEach [] X.env := by rfl) :
    Go X (.Assign [.Tuple [.Name x px, .Name y py] k1 p1] (.Tuple [.List es q1, .List fs q2] k2 p2) pos :: rest) σ V M P :=
  go_of (ps_par hc hN hi hj hij hx hy (pa_cons (pe_lst pa_ra) (pa_cons (pe_lst pa_ra) pa_nil he2) he) hw hs) fun A D w f => h1 V A _ (Same.refl _) w.va fun V2 A2 vs g al => ⟨by rw [← al.len]; exact l1, fun d hd => by
    have s2 := (g.stp w).trans (Stp.make (o := .lst vs) (g.stp w).ow hd)
    refine h2 V2 _ _ g.vv s2.ow.va fun V3 A3 us g3 al3 => ⟨by rw [← al3.len]; exact l2, fun d' hd' => ?_⟩
    have s3 := s2.trans (g3.stp s2.ow)
    have s4 := s3.trans (Stp.make (o := .lst us) s3.ow hd')
    have hne : d' ≠ d := fun z => by
      have := g3.aa d _ upd_same
      rw [← z, hd'] at this
      cases this
    exact ⟨_, _, rfl, go_next f s4 (k V3 d d' vs us (g.vv.trans g3.vv) hne (al.mo g3.vv) al3)⟩⟩
/-- l.append(m.pop(e)), both owned, e below the length -/
theorem go_appPop {l m : Addr} {vs ms : List Vl} {o o2 : Expr} {px p2 p2x : Pos} {n : Int} (ho : EvR X o σ (jn V M) (qA l) ()) (ho2 : ∀ V', Same V V' → EvR X o2 σ (jn V' M) (qA m) ()) (hl : M l = some (.lst vs)) (hm : M m = some (.lst ms)) (hlm : l ≠ m) (hvs : vs.length < sizeLine) (h : EvM X e σ V M qDr n) (hn : n = (ms.length : Int)) (hb : ms.length < 2 ^ 62)
    (k : ∀ V' d v, Same V V' → d < ms.length → ms[d]? = some v → Go X rest σ V' (upd (upd M m (.lst (ms.eraseIdx d))) l (.lst (vs ++ [v]))) P) (hs : swapsWith (.Call (.Attribute o "append" p) [.Call (.Attribute o2 "pop" p2) [e] [] p2x] [] px) none pos.line X.env = pure false := by rfl)
    (b1 : attributeBase o "append" X.env (eval o X.env) = eval o X.env := by rfl) (b2 : attributeBase o2 "pop" X.env (eval o2 X.env) = eval o2 X.env := by rfl) (n1 : (p.endLine == px.line) = true := by rfl) (n2 : (p2.endLine == p2x.line) = true := by rfl)
    (t1 : starEach [.Call (.Attribute o2 "pop" p2) [e] [] p2x] X.env = (false, eval (.Call (.Attribute o2 "pop" p2) [e] [] p2x) X.env) :: starEach [] X.env := by rfl) (t2 : starEach [e] X.env = (false, eval e X.env) :: starEach [] X.env := by rfl)
    (f1 : ((backTo px (starEach [.Call (.Attribute o2 "pop" p2) [e] [] p2x] X.env)).all (fun x => !x.1) && (backToKw px (keywordEach [] X.env)).all (fun x => x.1.isSome) && decide (([.Call (.Attribute o2 "pop" p2) [e] [] p2x] : List Expr).length + ([] : List Keyword).length + (if ([] : List Keyword).isEmpty then 0 else 1) < 30)) = true := by rfl)
    (f2 : ((backTo p2x (starEach [e] X.env)).all (fun x => !x.1) && (backToKw p2x (keywordEach [] X.env)).all (fun x => x.1.isSome) && decide (([e] : List Expr).length + ([] : List Keyword).length + (if ([] : List Keyword).isEmpty then 0 else 1) < 30)) = true := by rfl) :
    Go X (.Expr (.Call (.Attribute o "append" p) [.Call (.Attribute o2 "pop" p2) [e] [] p2x] [] px) pos :: rest) σ V M P :=
  go_of (ps_expr (pe_bm (PySem.F.plainAttrs_list) PySem.F.slot_list_append PySem.F.type_list_append mt_append pe_re (pa_cons (pe_bm (PySem.F.plainAttrs_list) PySem.F.slot_list_pop PySem.F.type_list_pop mt_popAt pe_re (pa_cons pe_re pa_nil t2) b2 f2 n2 t2 rfl) pa_nil t1) b1 f1 n1 t1 rfl) hs) fun A D w f => ho _ A _ (Same.refl _) (jn_sees.le w) fun V2 A2 x g2 rx => by
    have s2 := Stp.gar w g2
    rw [show x = .ref l from rx]
    refine ⟨.inl ⟨rfl, vs, SqL.of (s2.ow.ma l _ hl)⟩, ho2 V (Same.refl _) _ A2 _ (Same.refl _) (jn_sees.le s2.ow) fun V3 A3 y g3 ry => ?_⟩
    have s3 := s2.trans (Stp.gar s2.ow g3)
    rw [show y = .ref m from ry]
    refine ⟨.inl ⟨rfl, ms, SqL.of (s3.ow.ma m _ hm)⟩, h V A3 _ (Same.refl _) s3.ow fun V4 A4 z s4 ⟨d, d0, d1, ez⟩ => ?_⟩
    have s5 := s3.trans s4
    have hd : d.toNat < ms.length := by omega
    have hv : ms[d.toNat]? = some ms[d.toNat] := List.getElem?_eq_getElem hd
    refine ⟨m, ms, d, d.toNat, ms[d.toNat], rfl, by rw [ez], s5.ow.ma m _ hm, by omega, by omega, ?_, hv, ?_⟩
    · unfold seqIndex?
      simp [d0]
      omega
    · have s6 := s5.trans (Stp.set (o' := .lst (ms.eraseIdx d.toNat)) s5.ow hm)
      have hl6 : upd M m (.lst (ms.eraseIdx d.toNat)) l = some (.lst vs) := by
        rw [upd_ne hlm]
        exact hl
      exact ⟨l, vs, ms[d.toNat], rfl, rfl, s6.ow.ma l _ hl6, hvs, go_next f (s6.trans (Stp.set s6.ow hl6)) (k V4 d.toNat _ s4.vv hd hv)⟩
end
section
variable {P : Program} {w : World} {K : PySem.W.Frag} {mg : Str → Option Value} {base : Heap} {cC cR cS : Addr}
variable (F : Fx K mg cC cR cS)
include F
theorem ok_law_pairs : Gfn P w K mg base "_law_pairs" 1 (sp1 (qL qP) (fun pp => pp.length ≤ 8) (qL (q2 qP qP)) mPairs) := by
  refine gfn1 F.d_W_pairs sc_W_pairs rfl fun f cdv A outer s H E v1 pp V hr r1 h8 => ?_
  have hle : ∀ j, ((pp.take j).flatMap fun a => (pp.filter fun b => !decide (a = b)).map fun b => (a, b)).length ≤ 64 := fun j => by
    refine Nat.le_trans (flat_len (k := 8) fun a _ => ?_) ?_
    · rw [List.length_map]
      exact Nat.le_trans (List.length_filter_le _ _) h8
    · rw [List.length_take]
      omega
  refine go_set (i := 1) (R := qL (q2 qP qP)) (a := []) sc_W_pairs.nd rfl (.inl rfl) (ev_lst el_nil (Nat.zero_le _)) fun V1 u s1 ru => ?_
  refine go_for PassesOwn.never rfl (tg_name (i := 2) sc_W_pairs.nd rfl (.inr rfl)) (src_list (ev_var (i := 0) rfl (.inl rfl) rfl (Mo.mo s1 r1)))
    (fun j σ V' M' => ∃ u y, σ = [some v1, some u, y, none] ∧ qL (q2 qP qP) ((pp.take j).flatMap fun a => (pp.filter fun b => !decide (a = b)).map fun b => (a, b)) u V') (fun V2 s2 => ⟨u, none, rfl, Mo.mo s2 ru⟩) ?_ ?_
  · rintro j a v σ' σ2 V0 V' M' hx ⟨u, y, rfl, ru⟩ s0 s2 rx rfl
    have tk : ((pp.take (j + 1)).flatMap fun a => (pp.filter fun b => !decide (a = b)).map fun b => (a, b)) = ((pp.take j).flatMap fun a => (pp.filter fun b => !decide (a = b)).map fun b => (a, b)) ++ (pp.filter fun b => !decide (a = b)).map fun b => (a, b) := by
      rw [List.take_add_one, hx]
      simp
    have hf : (pp.filter fun b => !decide (b = a)) = pp.filter fun b => !decide (a = b) := by
      congr 1
      funext b
      by_cases h : a = b
      · subst h; rfl
      · rw [decide_eq_false h, decide_eq_false (fun z => h z.symm)]
    have l2 : ((pp.filter fun b => !decide (b = a)).map fun b => (a, b)).length ≤ 8 := by
      rw [List.length_map]
      exact Nat.le_trans (List.length_filter_le _ _) h8
    refine go_set (i := 1) sc_W_pairs.nd rfl (.inl rfl) (ev_bin (o_cat (ys := (pp.filter fun b => !decide (b = a)).map fun b => (a, b)) (by have := hle j; rw [sizeLine_eq]; omega)) (ev_var (i := 1) rfl (.inl rfl) rfl (Mo.mo s2 ru))
      (ev_lcf (xs := pp) (R := qP) (S := q2 qP qP) (p := fun b => !decide (b = a)) (f := fun b => (a, b)) 3 rfl sc_W_pairs.nd rfl (src_list (ev_var (i := 0) rfl (.inl rfl) rfl (Mo.mo ((s1.trans s0).trans s2) r1))) (by rw [sizeLine_eq]; omega) (blkOk_by (N := n_W_pairs) (sc := defScope s_W_pairs) (by decide +kernel))
        (fun b w' V'' hb sv rb => fun _ _ _ _ _ => et_cmp o_neP (ev_var (i := 3) rfl (.inl rfl) rfl rb) (ev_var (i := 2) rfl (.inr (.inl rfl)) rfl (show qP a v V'' from rx)))
        (fun b w' V'' hb _ sv rb => fun _ _ _ _ _ => ev_tup2 (ev_var (i := 2) rfl (.inr (.inl rfl)) rfl (show qP a v V'' from rx)) (ev_var (i := 3) rfl (.inl rfl) rfl rb)))) fun V3 u3 s3 r3 => go_nil ⟨u3, some v, rfl, ?_⟩
    rw [tk, ← hf]
    exact r3
  · rintro σ' V' M' ⟨u, y, rfl, ru⟩ s2
    rw [List.take_length] at ru
    exact go_ret (R := qL (q2 qP qP)) (a := mPairs pp) (ev_var (i := 1) rfl (.inl rfl) rfl ru) fun V' v s r => r
def mUnlike (xs : List Int) : List Int := ((enl xs).filter fun z => !decide (z.2 ∈ cut xs none (some z.1))).map (·.2)
theorem ok_law_unlike : Gfn P w K mg base "_law_unlike" 1 (sp1 (qL qI) (fun xs => xs.length ≤ 100) (qL qI) mUnlike) := by
  refine gfn1 F.d_W_unlike sc_W_unlike rfl fun f cdv A outer s H E v1 xs V hr r1 hp => ?_
  refine go_ret (R := qL qI) (a := mUnlike xs) (ev_lc (R := q2 qI qI) (S := qI) (xs := enl xs) (p := fun z => !decide (z.2 ∈ cut xs none (some z.1))) (f := fun z => z.2) (own := [("_law_at", 1), ("_law_one", 2)]) rfl sc_W_unlike.nd (src_en (by rfl) F.m_enumerate (ev_var (i := 0) rfl (.inr (.inl rfl)) rfl r1)) (by rw [enl_len, sizeLine_eq]; omega)
    (blkOk_by (N := n_W_unlike) (sc := defScope s_W_unlike) (by decide +kernel)) (tgb_two (i := 1) (i' := 2) rfl sc_W_unlike.nd rfl rfl (by decide)) (ts_one fun z σ' V' at_ => ?_) (fun z σ' V' at_ _ => ?_)) fun V' v s r => r
  · obtain ⟨a, b, h1, h2, h3, h4, rfl⟩ := at_two (by decide) at_
    exact fun _ _ _ _ _ => et_cmp o_ninI (ev_var (i := 2) rfl (.inl rfl) rfl h4) (ev_sl (ev_var (i := 0) rfl (.inr (.inl rfl)) rfl (Mo.mo h2 r1)) ep_none (ep_some (ev_var (i := 1) rfl (.inl rfl) rfl h3)))
  · obtain ⟨a, b, h1, h2, h3, h4, rfl⟩ := at_two (by decide) at_
    exact fun _ _ _ _ _ => ev_var (i := 2) rfl (.inl rfl) rfl h4
end
end Om
set_option maxHeartbeats 4000000
/-! Om, the law's defs: people, parted, readers, list. -/
namespace Om
open PySem PySem.Spec PyProof.Rows L2
/-- something from lo on, below hi -/
def qRn : Rf (Int × Int) := fun x v _ => ∃ d : Int, x.1 ≤ d ∧ d < x.2 ∧ v = .int d
instance : Mo qRn := ⟨fun _ h => h⟩
instance : Lt qRn := ⟨fun _ h => h⟩
instance : Fl qRn := ⟨fun h => h⟩
section
variable {X : Cx} {σ : L2.St} {V M : Hp} {α β : Type} {R : Rf α} {S : Rf β} {a : α} {e e1 e2 : Expr} {pos p : Pos} {P : Post} {rest : List Stmt} {x y : Str}
theorem o_addE {i n : Int} : Op2 X (binaryOp .Add) qI i qDr n qRn (i, i + n) :=
  ⟨_, op_add, fun V1 A x y Q l rx ⟨d, d0, d1, ry⟩ q => ⟨i, d, rx, ry, q V1 A _ (.refl l) ⟨i + d, by show i ≤ i + d; omega, by show i + d < i + n; omega, rfl⟩⟩⟩
theorem ev_nm {z : Str} {c} (i : Pn) (h : nm i = z := by decide +kernel) : EvR X (.Constant (.str z) c pos) σ V qP i := EvR.conv ev_str fun v V' _ r => by
  rw [show v = _ from r, ← h]
/-- x, y = e, [..], the list owned -/
theorem go_par1L [Mo R] [Mo S] {i j : Nat} {fs : List Expr} {px py p1 p2 q2 : Pos} {k1 k2} {ys : List β} (hc : X.calm = true) (hN : X.N.Nodup) (hi : X.N[i]? = some x) (hj : X.N[j]? = some y) (hij : i ≠ j) (hx : X.env.scope.names.lookup x = some .local ∨ X.env.scope.names.lookup x = some .cell) (hy : X.env.scope.names.lookup y = some .local)
    (h1 : EvR X e σ V R a) (h2 : EvL X fs σ V S ys) (l2 : ys.length ≤ sizeLine) (k : ∀ V' v d us, Same V V' → R a v V' → Al S ys us V' → Go X rest ((σ.set i (some v)).set j (some (.ref d))) V' (upd M d (.lst us)) P)
    (hl : X.env.scope.names.lookup x = some .local) (hw : swappedStores [.Tuple [.Name x px, .Name y py] k1 p1] (.Tuple [e, .List fs q2] k2 p2) X.env = pure (some [x, y])) (hs : swapsWithSole [.Tuple [.Name x px, .Name y py] k1 p1] (.Tuple [e, .List fs q2] k2 p2) pos.line X.env = pure false := by rfl)
    (he : starEach [e, .List fs q2] X.env = (false, eval e X.env) :: starEach [.List fs q2] X.env := by rfl) (he2 : starEach [.List fs q2] X.env = (false, eval (.List fs q2) X.env) :: starEach [] X.env := by rfl) :
    Go X (.Assign [.Tuple [.Name x px, .Name y py] k1 p1] (.Tuple [e, .List fs q2] k2 p2) pos :: rest) σ V M P :=
  go_of (ps_par hc hN hi hj hij hl hy (pa_cons pe_re (pa_cons (pe_lst pa_ra) pa_nil he2) he) hw hs) fun A D w f => h1 V A _ (Same.refl _) w.va fun V2 A2 v g r => by
    have s2 := g.stp w
    refine h2 V2 _ _ g.vv s2.ow.va fun V3 A3 us g3 al3 => ⟨by rw [← al3.len]; exact l2, fun d' hd' => ?_⟩
    have s3 := s2.trans (g3.stp s2.ow)
    have s4 := s3.trans (Stp.make (o := .lst us) s3.ow hd')
    exact ⟨_, _, rfl, go_next f s4 (k V3 v d' us (g.vv.trans g3.vv) (Mo.mo g3.vv r) al3)⟩
theorem al_dr {H : Hp} : ∀ {ns : List Int} {vs : List Vl}, Al qDr ns vs H → ∃ ws : List Int, Al qI ws vs H ∧ ws.length = ns.length ∧ ∀ (i : Nat) (w : Int), ws[i]? = some w → ∃ n, ns[i]? = some n ∧ 0 ≤ w ∧ w < n
  | _, _, .nil => ⟨[], .nil, rfl, fun i w h => by simp at h⟩
  | _, _, .cons ⟨d, d0, d1, e⟩ t => by
    obtain ⟨ws, h1, h2, h3⟩ := al_dr t
    refine ⟨d :: ws, .cons e h1, by simp [h2], fun i w h => ?_⟩
    cases i with
    | zero =>
      simp at h
      subst h
      exact ⟨_, rfl, d0, d1⟩
    | succ i =>
      obtain ⟨n, e1, e2⟩ := h3 i w (by simpa using h)
      exact ⟨n, by simpa using e1, e2⟩
end
theorem erase_map {α β : Type} (f : α → β) : ∀ (l : List α) (i : Nat), (l.map f).eraseIdx i = (l.eraseIdx i).map f
  | [], _ => rfl
  | _ :: _, 0 => rfl
  | x :: l, i + 1 => by
    rw [List.map_cons, List.eraseIdx_cons_succ, List.eraseIdx_cons_succ, List.map_cons, erase_map f l i]
theorem erase_perm {α : Type} : ∀ (l : List α) (i : Nat) (h : i < l.length), (l[i] :: l.eraseIdx i).Perm l
  | x :: l, 0, _ => List.Perm.refl _
  | x :: l, i + 1, h => by
    rw [List.eraseIdx_cons_succ, List.getElem_cons_succ]
    exact (List.Perm.swap x _ _).trans ((erase_perm l i (by simpa using h)).cons x)
def mParts (pp : List Pn) (ws : List Int) : List (List Pn) := (mUnlike ws).map fun c => ((enl pp).filter fun z => decide (ws.getD z.1.toNat 0 = c)).map (·.2)
def qPart : Rf (List Pn) := fun pp v V => ∃ ws : List Int, ws.length = pp.length ∧ (∀ x ∈ ws, 0 ≤ x ∧ x < 3) ∧ qL (qL qP) (mParts pp ws) v V
instance : Mo qPart := ⟨fun s ⟨ws, h1, h2, r⟩ => ⟨ws, h1, h2, Mo.mo s r⟩⟩
/-! ### the plan, seen in part -/
def qPR : Rf (List Pn × List (Pn × Pn)) := fun x v H => ∃ d ks u1 u2, v = .ref d ∧ Rd H d (.dK ks) ∧ valV ks (.inr "people") = some u1 ∧ qL qP x.1 u1 H ∧ valV ks (.inr "reads") = some u2 ∧ qL (q2 qP qP) x.2 u2 H
def qPL : Rf (List (List Pn)) := fun x v H => ∃ d ks u, v = .ref d ∧ Rd H d (.dK ks) ∧ valV ks (.inr "lists") = some u ∧ qL (qL qP) x u H
theorem rd_mo {H H' : Hp} {d : Addr} {u : HO} (s : Same H H') (h : Rd H d u) : Rd H' d u := h.elim (fun z => .inl (s _ _ z)) fun ⟨o, z⟩ => .inr ⟨o, s _ _ z⟩
instance : Mo qPR := ⟨fun s ⟨d, ks, u1, u2, e, h, l1, r1, l2, r2⟩ => ⟨d, ks, u1, u2, e, rd_mo s h, l1, Mo.mo s r1, l2, Mo.mo s r2⟩⟩
instance : Mo qPL := ⟨fun s ⟨d, ks, u, e, h, l1, r1⟩ => ⟨d, ks, u, e, rd_mo s h, l1, Mo.mo s r1⟩⟩
theorem pr_people {x : List Pn × List (Pn × Pn)} : Ent (.inr "people") qPR x (qL qP) x.1 := fun v H ⟨d, ks, u1, u2, e, h, l1, r1, l2, r2⟩ => ⟨d, ks, u1, e, h, l1, r1⟩
theorem pr_reads {x : List Pn × List (Pn × Pn)} : Ent (.inr "reads") qPR x (qL (q2 qP qP)) x.2 := fun v H ⟨d, ks, u1, u2, e, h, l1, r1, l2, r2⟩ => ⟨d, ks, u2, e, h, l2, r2⟩
theorem pl_lists {x : List (List Pn)} : Ent (.inr "lists") qPL x (qL (qL qP)) x := fun v H ⟨d, ks, u, e, h, l1, r1⟩ => ⟨d, ks, u, e, h, l1, r1⟩
section
variable {X : Cx} {σ : L2.St} {V : Hp} {α β : Type} {Z : Rf α} {S : Rf β} {a : α} {b : β} {e : Expr} {pos p : Pos} {c} {key : Str}
/-- d["key"] -/
theorem ev_gets [Mo Z] (hu : X.A.units + 1 < cLine) (h : EvR X e σ V Z a) (hE : Ent (.inr key) Z a S b) (hs : NoSl (.Constant (.str key) c p) := by exact fun _ _ => rfl) : EvR X (.Subscript e (.Constant (.str key) c p) pos) σ V S b :=
  ev_get (key := .inr key) hu h (EvR.conv ev_str fun v V' _ r => r) hE hs
end
def mWho (x : List Pn × List (Pn × Pn)) (i : Pn) : List Pn := x.1.filter fun j => decide ((j, i) ∈ x.2)
def mLst (ls : List (List Pn)) (i : Pn) : List Pn := (ls.filter fun l => decide (i ∈ l)).headD []
section
variable {P : Program} {w : World} {K : PySem.W.Frag} {mg : Str → Option Value} {base : Heap} {cC cR cS : Addr}
variable (F : Fx K mg cC cR cS)
include F
theorem ok_law_people : Gfn P w K mg base "_law_people" 2 (sp2 qPo qI (fun _ n => 0 ≤ n ∧ n ≤ 8) qPpl (fun _ n => n)) := by
  refine gfn2 F.d_W_people sc_W_people rfl fun f cdv A outer s H E v1 v2 u n V hr r1 r2 hn => ?_
  have cD := (ok_draw (P := P) (w := w) (base := base) F).cal (X := bodyX P w K mg base n_W_people "_law_people" s_W_people f cdv A outer s H E) hr (by rfl)
  refine go_par2L (i := 3) (j := 4) (R := qP) (S := qP) (xs := [0, 1, 2, 3, 4, 5, 6, 7]) (ys := []) rfl sc_W_people.nd rfl rfl (by decide) rfl rfl (el_cons (ev_nm 0) (el_cons (ev_nm 1) (el_cons (ev_nm 2) (el_cons (ev_nm 3) (el_cons (ev_nm 4) (el_cons (ev_nm 5) (el_cons (ev_nm 6) (el_cons (ev_nm 7) el_nil)))))))) (by decide) el_nil (Nat.zero_le _) (fun V1 m l vs us s1 hne al al2 => ?_) rfl
  have e0 : vs = nmV [0, 1, 2, 3, 4, 5, 6, 7] := al_flatP al
  have e1 : us = [] := by cases al2; rfl
  subst e0
  subst e1
  refine go_for PassesOwn.never rfl (tg_name (i := 2) sc_W_people.nd rfl (.inl rfl)) (src_range1 (by rfl) F.m_range (ev_var (R := qI) (a := n) (i := 1) rfl (.inl rfl) rfl r2) (by omega) (by omega))
    (fun j σ V' M' => ∃ (fs rs : List Pn) (y : Option Vl), σ = [some v1, some v2, y, some (.ref m), some (.ref l)] ∧ M' = upd (upd H0 m (.lst (nmV rs))) l (.lst (nmV fs)) ∧ (fs ++ rs).Nodup ∧ fs.length = j ∧ rs.length + j = 8) (fun V2 s2 => ⟨[], [0, 1, 2, 3, 4, 5, 6, 7], none, rfl, rfl, by decide, rfl, rfl⟩) ?_ ?_
  · rintro j x v σ' σ2 V0 V' M' hx ⟨fs, rs, y, rfl, rfl, nd, hf, hrs⟩ s0 s2 rx rfl
    obtain ⟨hj, _⟩ := rgl_get hx
    have hrp : 0 < rs.length := by omega
    have lm : upd (upd H0 m (.lst (nmV rs))) l (.lst (nmV fs)) l = some (.lst (nmV fs)) := upd_same
    have mm : upd (upd H0 m (.lst (nmV rs))) l (.lst (nmV fs)) m = some (.lst (nmV rs)) := by
      rw [upd_ne (Ne.symm hne), upd_same]
    refine go_di fun di => ?_
    have rmenu : qL qP rs (.ref m) (jn V' (upd (upd H0 m (.lst (nmV rs))) l (.lst (nmV fs)))) := ⟨m, _, rfl, jn_at di mm, al_nmV rs, by rw [sizeLine_eq]; omega⟩
    have rpo : qPo () v1 V' := Mo.mo ((s1.trans s0).trans s2) r1
    refine go_appPop (l := l) (m := m) (vs := nmV fs) (ms := nmV rs) (n := (rs.length : Int)) (ev_var (i := 4) rfl (.inl rfl) rfl rfl) (fun V3 _ => ev_var (i := 3) rfl (.inl rfl) rfl rfl) lm mm hne (by rw [List.length_map, sizeLine_eq]; omega)
      (EvR.wf (EvR.eq (ev_c2 cD (ev_var (i := 0) rfl (.inl rfl) rfl (Mo.mo jn_v rpo)) (ev_b1 f_lenL (by rfl) F.m_len PySem.boot_len (ev_var (i := 3) rfl (.inl rfl) rfl rmenu)) ⟨by omega, by omega⟩) rfl)) (by rw [List.length_map]) (by rw [List.length_map]; omega) fun V3 d w' s3 hd hw => ?_
    rw [List.length_map] at hd
    rw [List.getElem?_map, List.getElem?_eq_getElem hd] at hw
    cases hw
    have em : (nmV rs).eraseIdx d = nmV (rs.eraseIdx d) := by
      exact erase_map _ rs d
    refine go_nil ⟨fs ++ [rs[d]], rs.eraseIdx d, _, rfl, ?_, ?_, by rw [List.length_append]; simp [hf], by rw [List.length_eraseIdx_of_lt hd]; omega⟩
    · funext c
      by_cases h1 : c = l
      · subst h1
        rw [upd_same, upd_same]
        simp [nmV]
      · rw [upd_ne h1, upd_ne h1]
        by_cases h2 : c = m
        · subst h2
          rw [upd_same, upd_same, em]
        · rw [upd_ne h2, upd_ne h1, upd_ne h2, upd_ne h2]
    · have perm : (fs ++ [rs[d]] ++ rs.eraseIdx d).Perm (fs ++ rs) := by
        rw [List.append_assoc]
        refine List.Perm.append_left fs ?_
        exact erase_perm rs d hd
      exact perm.nodup_iff.mpr nd
  · rintro σ' V' M' ⟨fs, rs, y, rfl, rfl, nd, hf, hrs⟩ s2
    rw [rgl_len] at hf
    refine go_di fun di => ?_
    have hl : V' l = none := di l (by rw [upd_same]; exact fun z => nomatch z)
    refine go_pub (V1 := upd V' l (.lst (nmV fs))) (M1 := H0) (go_ret (R := qPpl) (a := n) (ev_var (i := 4) rfl (.inl rfl) rfl ⟨fs, (List.nodup_append.mp nd).1, by omega, l, _, rfl, upd_same, al_nmV fs, by rw [sizeLine_eq]; omega⟩) fun V' v s r => r) (same_upd hl) (fun b o e => ?_) (fun b o e => nomatch e)
    by_cases hb : b = l
    · subst hb
      rw [upd_same] at e ⊢
      exact .inr e
    · rw [upd_ne hb] at e
      exact .inl e
theorem ok_law_readers : Gfn P w K mg base "_law_readers" 1 (sp2 qPR qP (fun x _ => x.1.length ≤ 8) (qL qP) mWho) := by
  refine gfn2 F.d_W_readers sc_W_readers rfl fun f cdv A outer s H E v1 v2 x i V hr r1 r2 h8 => ?_
  have hu : (bodyX P w K mg base n_W_readers "_law_readers" s_W_readers f cdv A outer s H E).A.units + 65 < cLine := by have := hr.un; omega
  refine go_ret (R := qL qP) (a := mWho x i) (EvR.eq (ev_lcf (xs := x.1) (R := qP) (S := qP) (p := fun j => decide ((j, i) ∈ x.2)) (f := fun j => j) 2 rfl sc_W_readers.nd rfl (src_list (ev_gets (by omega) (ev_var (i := 0) rfl (.inr (.inl rfl)) rfl r1) pr_people)) (by rw [sizeLine_eq]; omega) (blkOk_by (N := n_W_readers) (sc := defScope s_W_readers) (by decide +kernel))
    (fun a v V' ha sv ra => fun s0 H1 C cl fp => EvT.eq (et_cmp (o_inD (X := bl (bodyX P w K mg base n_W_readers "_law_readers" s_W_readers f cdv A outer s H E) _ s0 H1 C cl fp) (R := q2 qP qP) hu) (ev_tup2 (ev_var (i := 2) rfl (.inl rfl) rfl ra) (ev_var (i := 1) rfl (.inr (.inl rfl)) rfl (show qP i v2 V' from r2))) (ev_gets (show (bodyX P w K mg base n_W_readers "_law_readers" s_W_readers f cdv A outer s H E).A.units + 1 < cLine by omega) (ev_var (i := 0) rfl (.inr (.inl rfl)) rfl (Mo.mo sv r1)) pr_reads)) (decide_eq_decide.mpr Iff.rfl))
    (fun a v V' ha _ sv ra => fun _ _ _ _ _ => ev_var (i := 2) rfl (.inl rfl) rfl ra)) (List.map_id' _)) fun V' v s r => r
theorem ok_law_list : Gfn P w K mg base "_law_list" 1 (sp2 qPL qP (fun ls i => (∃ l ∈ ls, i ∈ l) ∧ ls.length ≤ 8) (qL qP) mLst) := by
  refine gfn2 F.d_W_list sc_W_list rfl fun f cdv A outer s H E v1 v2 ls i V hr r1 r2 hp => ?_
  obtain ⟨⟨l, h1, h2⟩, h8⟩ := hp
  have hm : l ∈ ls.filter fun l => decide (i ∈ l) := List.mem_filter.mpr ⟨h1, decide_eq_true h2⟩
  refine go_ret (ev_ixL (i := 0) (xs := ls.filter fun l => decide (i ∈ l)) (EvR.eq (ev_lcf (xs := ls) (R := qL qP) (S := qL qP) (p := fun (l : List Pn) => decide (i ∈ l)) (f := fun l => l) 2 rfl sc_W_list.nd rfl (src_list (ev_gets (by have := hr.units; omega) (ev_var (i := 0) rfl (.inl rfl) rfl r1) pl_lists)) (by rw [sizeLine_eq]; omega) (blkOk_by (N := n_W_list) (sc := defScope s_W_list) (by decide +kernel))
    (fun a v V' ha sv ra => fun _ _ _ _ _ => et_cmp o_inP (ev_var (i := 1) rfl (.inr (.inl rfl)) rfl (show qP i v2 V' from r2)) (ev_var (i := 2) rfl (.inl rfl) rfl ra)) (fun a v V' ha _ sv ra => fun _ _ _ _ _ => ev_var (i := 2) rfl (.inl rfl) rfl ra)) (List.map_id' _)) ev_int (a := mLst ls i) ?_) fun V' v s r => r
  unfold mLst
  cases e : ls.filter fun l => decide (i ∈ l) with
  | nil => rw [e] at hm; cases hm
  | cons x l => rfl
end
end Om
set_option maxHeartbeats 4000000
/-! Om, the law's defs: parted. -/
namespace Om
open PySem PySem.Spec PyProof.Rows L2
section
variable {X : Cx} {σ : L2.St} {V M : Hp} {α β : Type} {R : Rf α} {S : Rf β} {a : α} {e : Expr} {pos p : Pos} {P : Post} {rest : List Stmt} {x y : Str}
/-- x, y = e, [..], by way of a tuple; the list owned -/
theorem go_unp1L [Mo R] [Mo S] {i j : Nat} {fs : List Expr} {px py p1 p2 q2 : Pos} {k1 k2} {ys : List β} (hc : X.calm = true) (hN : X.N.Nodup) (hi : X.N[i]? = some x) (hj : X.N[j]? = some y) (hx : Loc X.env.scope x) (hy : Loc X.env.scope y)
    (h1 : EvR X e σ V R a) (h2 : EvL X fs σ V S ys) (l2 : ys.length ≤ sizeLine) (k : ∀ V' v d us, Same V V' → R a v V' → Al S ys us V' → Go X rest ((σ.set i (some v)).set j (some (.ref d))) V' (upd M d (.lst us)) P)
    (hf : X.fn x = true ∨ X.env.scope.names.lookup x = some .local := by first | exact .inl rfl | exact .inr rfl) (hf2 : X.fn y = true ∨ X.env.scope.names.lookup y = some .local := by first | exact .inl rfl | exact .inr rfl)
    (hw : swappedStores [.Tuple [.Name x px, .Name y py] k1 p1] (.Tuple [e, .List fs q2] k2 p2) X.env = pure none := by rfl) (hs : swapsWithSole [.Tuple [.Name x px, .Name y py] k1 p1] (.Tuple [e, .List fs q2] k2 p2) pos.line X.env = pure false := by rfl)
    (h0 : (assignEach [.Tuple [.Name x px, .Name y py] k1 p1] X.env).map (·.2) = [assign (.Tuple [.Name x px, .Name y py] k1 p1) X.env] := by rfl) (hn : (assignEach [.Name x px, .Name y py] X.env).length = 2 := by rfl) (hst : (assignEach [.Name x px, .Name y py] X.env).findIdx? (·.1) = none := by rfl)
    (he : starEach [e, .List fs q2] X.env = (false, eval e X.env) :: starEach [.List fs q2] X.env := by rfl) (he2 : starEach [.List fs q2] X.env = (false, eval (.List fs q2) X.env) :: starEach [] X.env := by rfl) :
    Go X (.Assign [.Tuple [.Name x px, .Name y py] k1 p1] (.Tuple [e, .List fs q2] k2 p2) pos :: rest) σ V M P :=
  go_of (ps_asg (pe_tup (pa_cons pe_re (pa_cons (pe_lst pa_ra) pa_nil he2) he)) (pg_tup hc (pgs_cons (pg_name hN hi hx hf) (pgs_cons (pg_name hN hj hy hf2) pgs_nil)) hn hst) hs hw h0) fun A D w f => h1 V A _ (Same.refl _) w.va fun V2 A2 v g r => by
    have s2 := g.stp w
    refine h2 V2 _ _ g.vv s2.ow.va fun V3 A3 us g3 al3 => ⟨by rw [← al3.len]; exact l2, fun d hd => ⟨by show 2 ≤ sizeLine; decide, fun t ht => ?_⟩⟩
    have s3 := s2.trans (g3.stp s2.ow)
    have s4 := s3.trans (Stp.make (o := .lst us) s3.ow hd)
    have g5 : Grow V3 (upd A3 d (.lst us)) _ _ := Grow.new (o := .tup [v, .ref d]) s4.ow.va ht
    have s5 := s4.trans (g5.drop.stp s4.ow)
    exact ⟨t, [v, .ref d], rfl, SqT.of upd_same, rfl, v, [.ref d], rfl, .ref d, [], rfl, rfl, go_next f s5 (k V3 v d us (g.vv.trans g3.vv) (Mo.mo g3.vv r) al3)⟩
end
theorem unlike_len (xs : List Int) : (mUnlike xs).length ≤ xs.length := by
  unfold mUnlike
  rw [List.length_map]
  refine Nat.le_trans (List.length_filter_le _ _) ?_
  rw [enl_len]
  exact Nat.le_refl _
section
variable {P : Program} {w : World} {K : PySem.W.Frag} {mg : Str → Option Value} {base : Heap} {cC cR cS : Addr}
variable (F : Fx K mg cC cR cS)
include F
theorem ok_law_parted : Gfn P w K mg base "_law_parted" 2 (sp2 qPo (qL qP) (fun _ pp => pp.length ≤ 8) qPart (fun _ pp => pp)) := by
  refine gfn2 F.d_W_parted sc_W_parted rfl fun f cdv A outer s H E v1 v2 u pp V hr r1 r2 h8 => ?_
  have dr := ok_draw (P := P) (w := w) (base := base) F
  have cD := dr.cal (X := bodyX P w K mg base n_W_parted "_law_parted" s_W_parted f cdv A outer s H E) hr (by rfl)
  have hln : pp.length ≤ sizeLine := by rw [sizeLine_eq]; omega
  refine go_unp1L (i := 4) (j := 5) (R := qRn) (a := (1, 1 + 3)) (S := qL qP) (ys := []) rfl sc_W_parted.nd rfl rfl (.inr rfl) (.inl rfl) (ev_bin o_addE ev_int (EvR.eq (ev_c2 cD (ev_var (i := 0) rfl (.inr (.inl rfl)) rfl r1) ev_int ⟨by decide, by decide⟩) rfl)) el_nil (Nat.zero_le _) (fun V1 mv l us s1 rm al => ?_)
  have e1 : us = [] := by cases al; rfl
  subst e1
  obtain ⟨m, hm1, hm2, rfl⟩ := rm
  dsimp only at hm1 hm2
  have rpo : qPo () v1 V1 := Mo.mo s1 r1
  have rpp : qL qP pp v2 V1 := Mo.mo s1 r2
  refine go_set (i := 2) (R := qL qDr) (a := pp.map fun _ => m) sc_W_parted.nd rfl (.inr rfl) (ev_lcn (xs := pp) (R := qP) (S := qDr) (f := fun _ => m) 6 rfl sc_W_parted.nd rfl (src_list (ev_var (i := 1) rfl (.inl rfl) rfl rpp)) hln (blkOk_by (N := n_W_parted) (sc := defScope s_W_parted) (by decide +kernel))
    (fun a v V' ha sv ra => fun s0 H1 C cl fp => EvR.eq (ev_c2 (dr.cal (X := bl (bodyX P w K mg base n_W_parted "_law_parted" s_W_parted f cdv A outer s H E) _ s0 H1 C cl fp) hr (by rfl)) (ev_var (i := 0) rfl (.inr (.inl rfl)) rfl (Mo.mo sv rpo)) (ev_var (R := qI) (a := m) (i := 4) rfl (.inr (.inl rfl)) rfl rfl) ⟨by omega, by omega⟩) rfl)) fun V2 wv s2 rw0 => ?_
  obtain ⟨q, vs, rfl, hq, alq, lq⟩ := rw0
  obtain ⟨ws, alw, hwl, hws⟩ := al_dr alq
  rw [List.length_map] at hwl
  have rws : qL qI ws (.ref q) V2 := ⟨q, vs, rfl, hq, alw, by rw [hwl]; omega⟩
  have hw3 : ∀ x ∈ ws, 0 ≤ x ∧ x < 3 := fun x hx => by
    obtain ⟨i, hi⟩ := List.mem_iff_getElem?.mp hx
    obtain ⟨n, h1, h2, h3⟩ := hws i x hi
    rw [List.getElem?_map] at h1
    obtain ⟨_, _, rfl⟩ := Option.map_eq_some_iff.mp h1
    omega
  have hul := unlike_len ws
  refine go_for PassesOwn.never rfl (tg_name (i := 3) sc_W_parted.nd rfl (.inr rfl)) (src_list (ev_c1 ((ok_law_unlike (P := P) (w := w) (base := base) F).cal (X := bodyX P w K mg base n_W_parted "_law_parted" s_W_parted f cdv A outer s H E) hr (by rfl)) (ev_var (i := 2) rfl (.inr (.inl rfl)) rfl rws) (by omega)))
    (fun j σ V' M' => ∃ fs y, σ = [some v1, some v2, some (.ref q), y, some (.int m), some (.ref l), none, none] ∧ M' = upd H0 l (.lst fs) ∧ Al (qL qP) (((mUnlike ws).take j).map fun c => ((enl pp).filter fun z => decide (ws.getD z.1.toNat 0 = c)).map (·.2)) fs V' ∧ fs.length ≤ j)
    (fun V3 s3 => ⟨[], none, rfl, rfl, .nil, Nat.le_refl _⟩) ?_ ?_
  · rintro j c v σ' σ2 V0 V' M' hx ⟨fs, y, rfl, rfl, alf, hfl⟩ s0 s3 rc rfl
    have hj : j < (mUnlike ws).length := (List.getElem?_eq_some_iff.mp hx).1
    have tk : (mUnlike ws).take (j + 1) = (mUnlike ws).take j ++ [c] := by rw [List.take_add_one, hx]; rfl
    have rpp' : qL qP pp v2 V' := Mo.mo ((s2.trans s0).trans s3) rpp
    have rws' : qL qI ws (.ref q) V' := Mo.mo (s0.trans s3) rws
    refine go_app (l := l) (vs := fs) (ev_var (i := 5) rfl (.inl rfl) rfl rfl) upd_same (by rw [sizeLine_eq]; omega) (EvR.m (ev_lc (R := q2 qI qP) (S := qP) (xs := enl pp) (p := fun z => decide (ws.getD z.1.toNat 0 = c)) (f := fun z => z.2) (own := [("_law_at", 7), ("_law_person", 6)]) rfl sc_W_parted.nd (src_en (by rfl) F.m_enumerate (ev_var (i := 1) rfl (.inl rfl) rfl rpp')) (by rw [enl_len]; exact hln)
      (blkOk_by (N := n_W_parted) (sc := defScope s_W_parted) (by decide +kernel)) (tgb_two (i := 7) (i' := 6) rfl sc_W_parted.nd rfl rfl (by decide)) (ts_one fun z σ' V'' at_ => ?_) (fun z σ' V'' at_ _ => ?_))) fun V3 nv s4 rn => ?_
    · obtain ⟨a, b, h1, h2, h3, h4, rfl⟩ := at_two (by decide) at_
      obtain ⟨i, hi⟩ := List.mem_iff_getElem?.mp h1
      obtain ⟨g1, g2⟩ := enl_get hi
      have hil : i < ws.length := by rw [hwl]; exact (List.getElem?_eq_some_iff.mp g2).1
      have h3' : qI (i : Int) a V'' := by rw [← g1]; exact h3
      refine fun _ _ _ _ _ => EvT.eq (et_cmp o_eqI (ev_ixL (i := i) (a := ws.getD i 0) (ev_var (i := 2) rfl (.inr (.inl rfl)) rfl (Mo.mo h2 rws')) (ev_var (i := 7) rfl (.inl rfl) rfl h3') ?_) (ev_var (R := qI) (a := c) (i := 3) rfl (.inr (.inl rfl)) rfl rc)) (by rw [g1]; simp)
      rw [List.getD_eq_getElem?_getD, List.getElem?_eq_getElem hil]
      rfl
    · obtain ⟨a, b, h1, h2, h3, h4, rfl⟩ := at_two (by decide) at_
      exact fun _ _ _ _ _ => ev_var (i := 6) rfl (.inl rfl) rfl h4
    · rw [upd_upd]
      refine go_nil ⟨fs ++ [nv], some v, rfl, rfl, ?_, by rw [List.length_append]; simp; omega⟩
      rw [tk, List.map_append]
      exact (alf.mo (s3.trans s4)).app (.cons rn .nil)
  · rintro σ' V' M' ⟨fs, y, rfl, rfl, alf, hfl⟩ s3
    rw [List.take_length] at alf
    refine go_show fun hd => ?_
    have sd : Same V' (upd V' l (.lst fs)) := same_upd hd
    refine go_ret (R := qPart) (a := pp) (ev_var (i := 5) rfl (.inl rfl) rfl ⟨ws, hwl, hw3, l, fs, rfl, upd_same, alf.mo sd, ?_⟩) fun V' v s r => r
    unfold mParts
    rw [List.length_map, sizeLine_eq]
    omega
end
end Om
set_option maxHeartbeats 4000000
/-! Om, the law's defs: ratio, add, less, by_worth, bunches. -/
namespace Om
open PySem PySem.Spec PyProof.Rows L2
section
variable {P : Program} {w : World} {K : PySem.W.Frag} {mg : Str → Option Value} {base : Heap} {cC cR cS : Addr}
variable (F : Fx K mg cC cR cS)
include F
theorem ok_ratio : Gfn P w K mg base "_law_ratio" 1 (sp2 qI qI (fun _ b => 0 < b ∧ b ≤ 300) qF mFrac) := by
  refine gfn2 F.d_W_ratio sc_W_ratio rfl fun f cdv A outer s H E v1 v2 a b V hr r1 r2 hp => ?_
  obtain ⟨hb, hb2⟩ := hp
  refine go_par (i := 3) (j := 4) (R := qI) (S := qI) (a := mAbs a) (b := b) rfl sc_W_ratio.nd rfl rfl (by decide) rfl rfl (ev_b2 (f_max2 rfl) (by rfl) F.m_max PyProof.Rows.boot_max (ev_t1 f_intI (by rfl) F.m_int PyProof.Rows.boot_int (ev_var (i := 0) rfl (.inl rfl) rfl r1)) (ev_t1 f_intI (by rfl) F.m_int PyProof.Rows.boot_int (ev_bin o_sub ev_int (ev_var (i := 0) rfl (.inl rfl) rfl r1))))
    (ev_t1 f_intI (by rfl) F.m_int PyProof.Rows.boot_int (ev_var (i := 1) rfl (.inl rfl) rfl r2)) (fun V1 v u s1 r3 r4 => ?_) rfl
  have done : ∀ (V' M' : Hp) (y : Option Vl), Go (bodyX P w K mg base n_W_ratio "_law_ratio" s_W_ratio f cdv A outer s H E) ((defBody s_W_ratio).drop 2) [some v1, some v2, y, some (.int (mGcd a b)), some (.int 0)] V' M' (RetP qF (mFrac a b)) := fun V' M' y => by
    have h1 := mGcd_pos (t := a) hb
    have h2 := mGcd_le (t := a) hb
    have cd : ∀ i, CDiv i (mGcd a b) := fun i => ⟨h1, by omega⟩
    exact go_ret (ev_tup2 (ev_bin (o_fdiv (cd _)) (ev_var (R := qI) (a := a) (i := 0) rfl (.inl rfl) rfl r1) (ev_var (R := qI) (a := mGcd a b) (i := 3) rfl (.inl rfl) rfl rfl)) (ev_bin (o_fdiv (cd _)) (ev_var (R := qI) (a := b) (i := 1) rfl (.inl rfl) rfl r2) (ev_var (R := qI) (a := mGcd a b) (i := 3) rfl (.inl rfl) rfl rfl))) fun V2 v s2 r => r
  refine go_for PassesOwn.never rfl (tg_name (i := 2) sc_W_ratio.nd rfl (.inl rfl)) (src_range1 (j := 400) (by rfl) F.m_range ev_int (by decide) (by decide))
    (fun j σ V' M' => ∃ i k y, σ = [some v1, some v2, y, some (.int i), some (.int k)] ∧ 0 ≤ i ∧ 0 ≤ k ∧ mGcd i k = mGcd a b ∧ k + (j : Int) ≤ b) (fun V2 s2 => ⟨mAbs a, b, none, by rw [show v = _ from r3, show u = _ from r4]; rfl, mAbs_nn a, by omega, mAbs_gcd a b, by simp⟩) ?_ ?_
  · rintro j x v' σ' σ2 V0 V' M' hx ⟨i, k, y, rfl, hi, hk, hg, hkj⟩ s0 s2 rx rfl
    refine go_if (hW := Sees.self) (et_cmp o_eqI (ev_var (V := V') (R := qI) (a := k) (i := 4) rfl (.inl rfl) rfl rfl) ev_int) (fun h => ?_) (fun h => go_nil ?_)
    · have h0 : k = 0 := of_decide_eq_true h
      subst h0
      rw [mGcd_zero hi] at hg
      subst hg
      exact go_break (done V' M' (some v'))
    · have h0 : k ≠ 0 := of_decide_eq_false h
      refine go_par (i := 3) (j := 4) (R := qI) (S := qI) (a := k) (b := i % k) rfl sc_W_ratio.nd rfl rfl (by decide) rfl rfl (ev_var (R := qI) (a := k) (i := 4) rfl (.inl rfl) rfl rfl) (ev_bin (o_mod (by omega)) (ev_var (R := qI) (a := i) (i := 3) rfl (.inl rfl) rfl rfl) (ev_var (R := qI) (a := k) (i := 4) rfl (.inl rfl) rfl rfl)) (fun V2 v u s2 r3 r4 => ?_) rfl
      have h1 := Int.emod_lt_of_pos i (show 0 < k by omega)
      have h2 := Int.emod_nonneg i h0
      refine go_nil ⟨k, i % k, some v', by rw [show v = _ from r3, show u = _ from r4]; rfl, hk, h2, ?_, by push_cast; omega⟩
      rw [mGcd_step hi (by omega), hg]
  · rintro σ' V' M' ⟨i, k, y, rfl, hi, hk, hg, hkj⟩ s2
    rw [rgl_len] at hkj
    simp at hkj
    omega
theorem ok_law_less : Gfn P w K mg base "_law_less" 1 (sp2 qF qF (fun a b => Sm a.1 ∧ Sm b.1) qB mLess) := by
  refine gfn2 F.d_W_less sc_W_less rfl fun f cdv A outer s H E v1 v2 a b V hr r1 r2 hp => ?_
  exact go_ret (ev_cmp o_lt (ev_bin (o_mul (.inl hp.1)) (ev_ix0 (ev_var (i := 0) rfl (.inl rfl) rfl r1)) (ev_ix1 (ev_var (i := 1) rfl (.inl rfl) rfl r2)))
    (ev_bin (o_mul (.inl hp.2)) (ev_ix0 (ev_var (i := 1) rfl (.inl rfl) rfl r2)) (ev_ix1 (ev_var (i := 0) rfl (.inl rfl) rfl r1)))) fun V' v s r => r
theorem ok_law_add : Gfn P w K mg base "_law_add" 2 (sp2 qF qF (fun a b => (0 ≤ a.1 ∧ a.1 ≤ 1000 ∧ a.2 = 1) ∧ 0 ≤ b.1 ∧ b.1 ≤ 1000 ∧ b.2 = 1) qF mPlus) := by
  refine gfn2 F.d_W_add sc_W_add rfl fun f cdv A outer s H E v1 v2 a b V hr r1 r2 hp => ?_
  obtain ⟨⟨a1, a2, a3⟩, b1, b2, b3⟩ := hp
  have c := (ok_ratio (P := P) (w := w) (base := base) F).cal (X := bodyX P w K mg base n_W_add "_law_add" s_W_add f cdv A outer s H E) hr (by rfl)
  have x1 := fun p => ev_var (X := bodyX P w K mg base n_W_add "_law_add" s_W_add f cdv A outer s H E) (σ := start n_W_add [v1, v2]) (pos := p) (i := 0) rfl (.inl rfl) rfl r1
  have x2 := fun p => ev_var (X := bodyX P w K mg base n_W_add "_law_add" s_W_add f cdv A outer s H E) (σ := start n_W_add [v1, v2]) (pos := p) (i := 1) rfl (.inl rfl) rfl r2
  exact go_ret (R := qF) (a := mPlus a b) (EvR.eq (ev_c2 c (ev_bin o_add (ev_bin (o_mul (.inl (sm_of a1 a2))) (ev_ix0 (x1 _)) (ev_ix1 (x2 _))) (ev_bin (o_mul (.inl (sm_of b1 b2))) (ev_ix0 (x2 _)) (ev_ix1 (x1 _))))
    (ev_bin (o_mul (i := a.2) (j := b.2) (.inl (show Sm a.2 from sm_of (by omega) (by omega)))) (ev_ix1 (x1 _)) (ev_ix1 (x2 _))) (show 0 < a.2 * b.2 ∧ a.2 * b.2 ≤ 300 by rw [a3, b3]; decide)) rfl) fun V' v s r => r
/-- sorted by worth: the same fractions -/
def qSame : Rf (List Fr) := fun xs v V => ∃ ys : List Fr, ((∀ z, z ∈ ys ↔ z ∈ xs) ∧ ys.length ≤ 8192) ∧ qL qF ys v V
instance : Mo qSame := ⟨fun s ⟨ys, h, r⟩ => ⟨ys, h, Mo.mo s r⟩⟩
theorem ok_by_worth : Gfn P w K mg base "_law_by_worth" 2 (sp1 (qL qF) (fun xs => (∀ z ∈ xs, Sm z.1) ∧ xs.length ≤ 8192) qSame (fun xs => xs)) := by
  refine gfn1 F.d_W_by_worth sc_W_by_worth rfl fun f cdv A outer s H E v1 xs V hr r1 hp => ?_
  obtain ⟨hs, hl⟩ := hp
  have hu : (bodyX P w K mg base n_W_by_worth "_law_by_worth" s_W_by_worth f cdv A outer s H E).A.units + 65 < cLine := by have := hr.un; omega
  refine go_newL (i := 1) (R := qF) (xs := []) sc_W_by_worth.nd rfl (.inl rfl) el_nil (Nat.zero_le _) fun V1 d vs0 s1 hd1 hd2 al0 => ?_
  have z0 : vs0 = [] := by cases al0; rfl
  subst z0
  refine go_for PassesOwn.never rfl (tg_name (i := 2) sc_W_by_worth.nd rfl (.inr rfl)) (src_list (ev_var (i := 0) rfl (.inl rfl) rfl (Mo.mo s1 r1)))
    (fun j σ V' M' => ∃ ys vs y1 y2, σ = [some v1, some (.ref d), y1, y2, none] ∧ M' = upd H0 d (.lst vs) ∧ Al qF ys vs V' ∧ (∀ z, z ∈ ys ↔ z ∈ xs.take j) ∧ ys.length ≤ j) (fun V2 s2 => ⟨[], [], none, none, rfl, rfl, .nil, fun z => by simp, Nat.le_refl _⟩) ?_ ?_
  · rintro j z v σ' σ2 V0 V' M' hz ⟨ys, vs, y1, y2, rfl, rfl, al, hys, hyl⟩ s0 s2 rz rfl
    have hj : j < xs.length := (List.getElem?_eq_some_iff.mp hz).1
    have hzm := List.mem_of_getElem? hz
    have tk : xs.take (j + 1) = xs.take j ++ [z] := by rw [List.take_add_one, hz]; rfl
    have al' : Al qF ys vs V' := al.mo s2
    have hlv : vs.length ≤ j := by rw [← al.len]; exact hyl
    refine go_di fun di => ?_
    have rf : ∀ W, Same (jn V' (upd H0 d (.lst vs))) W → qL qF ys (.ref d) W := fun W sw => ⟨d, vs, rfl, sw _ _ (jn_at di upd_same), (al'.mo jn_v).mo sw, by rw [sizeLine_eq]; omega⟩
    refine go_if (hW := jn_sees) (et_cmp (o_ninD (R := qF) hu) (ev_var (V := jn V' (upd H0 d (.lst vs))) (i := 2) rfl (.inr (.inl rfl)) rfl (Mo.mo jn_v rz)) (ev_var (i := 1) rfl (.inl rfl) rfl (rf _ (Same.refl _)))) (fun h => ?_) (fun h => ?_)
    · refine go_setM (i := 3) (R := qI) (a := ((ys.filter fun o => mLess o z).length : Int)) sc_W_by_worth.nd rfl (.inl rfl) (EvR.wf (EvR.eq (ev_b1 f_lenL (by rfl) F.m_len PySem.boot_len (ev_lcf (xs := ys) (R := qF) (S := qF) (p := fun o => mLess o z) (f := fun o => o) 4 rfl sc_W_by_worth.nd rfl (src_list (ev_var (i := 1) rfl (.inl rfl) rfl (rf _ (Same.refl _)))) (by rw [sizeLine_eq]; omega)
        (blkOk_by (N := n_W_by_worth) (sc := defScope s_W_by_worth) (by decide +kernel))
        (fun a v V'' ha sv ra => fun s0 H1 C cl fp => et_val (ev_c2 ((ok_law_less (P := P) (w := w) (base := base) F).cal (X := bl (bodyX P w K mg base n_W_by_worth "_law_by_worth" s_W_by_worth f cdv A outer s H E) _ s0 H1 C cl fp) hr (by rfl)) (ev_var (i := 4) rfl (.inl rfl) rfl ra) (ev_var (i := 2) rfl (.inr (.inl rfl)) rfl (Mo.mo (jn_v.trans sv) rz)) ⟨hs a (List.mem_of_mem_take ((hys a).mp ha)), hs z hzm⟩))
        (fun a v V'' ha _ sv ra => fun _ _ _ _ _ => ev_var (i := 4) rfl (.inl rfl) rfl ra))) (by rw [List.map_id']))) fun V3 av s3 ra => ?_
      have hfl := List.length_filter_le (fun o => mLess o z) ys
      generalize (ys.filter fun o => mLess o z).length = k at *
      refine go_ins (l := d) (vs := vs) (j := k) (ev_var (i := 1) rfl (.inl rfl) rfl rfl) upd_same (by rw [sizeLine_eq]; omega) (ev_var (R := qI) (a := (k : Int)) (i := 3) rfl (.inl rfl) rfl ra) (by omega) (ev_var (i := 2) rfl (.inr (.inl rfl)) rfl (Mo.mo s3 rz)) fun V4 nv s4 rn => ?_
      rw [upd_upd]
      refine go_nil (go_nil ⟨ys.take k ++ [z] ++ ys.drop k, _, _, _, rfl, rfl, ((((al'.mo (s3.trans s4)).take k).app (.cons rn .nil)).app ((al'.mo (s3.trans s4)).drop k)), fun q => ?_, ?_⟩)
      · have e : q ∈ ys ↔ q ∈ ys.take k ∨ q ∈ ys.drop k := by
          conv => lhs; rw [← List.take_append_drop k ys]
          exact List.mem_append
        rw [tk, List.mem_append, List.mem_append, List.mem_append, ← hys q, e]
        constructor
        · rintro ((h | h) | h)
          · exact .inl (.inl h)
          · exact .inr h
          · exact .inl (.inr h)
        · rintro ((h | h) | h)
          · exact .inl (.inl h)
          · exact .inr h
          · exact .inl (.inr h)
      · rw [List.length_append, List.length_append, List.length_take, List.length_drop]
        simp
        omega
    · have hin : z ∈ ys := by simpa using h
      refine go_nil (go_nil ⟨ys, vs, _, _, rfl, rfl, al', fun q => ?_, by omega⟩)
      rw [tk, List.mem_append, ← hys q]
      constructor
      · exact .inl
      · rintro (h | h)
        · exact h
        · have : q = z := by simpa using h
          rw [this]
          exact hin
  · rintro σ' V' M' ⟨ys, vs, y1, y2, rfl, rfl, al, hys, hyl⟩ s2
    rw [List.take_length] at hys
    refine go_show fun hd => ?_
    exact go_ret (R := qSame) (a := xs) (ev_var (i := 1) rfl (.inl rfl) rfl ⟨ys, ⟨hys, by omega⟩, d, vs, rfl, upd_same, al.mo (same_upd hd), by rw [sizeLine_eq]; omega⟩) fun V' v s r => r
end
end Om
set_option maxHeartbeats 4000000
/-! Om, the law's defs: the plan as a whole; gathered, bunches, marks_score. -/
namespace Om
open PySem PySem.Spec PyProof.Rows L2
structure Pl where
  pp : List Pn
  most : Nat
  lists : List (List Pn)
  reads : List (Pn × Pn)
  ga : Ga
  trim : Nat
  prizes : Nat
def qPl : Rf Pl := fun x v H => ∃ d ks u1 u2 u3, v = .ref d ∧ Rd H d (.dK ks) ∧ valV ks (.inr "people") = some u1 ∧ qL qP x.pp u1 H ∧ valV ks (.inr "lists") = some u2 ∧ qL (qL qP) x.lists u2 H ∧ valV ks (.inr "reads") = some u3 ∧ qL (q2 qP qP) x.reads u3 H ∧
  valV ks (.inr "most") = some (.int (x.most : Int)) ∧ valV ks (.inr "turn") = some (.str "plain") ∧ valV ks (.inr "gather") = some (.str (gaS x.ga)) ∧ valV ks (.inr "trim") = some (.int (x.trim : Int)) ∧ valV ks (.inr "prizes") = some (.int (x.prizes : Int))
instance : Mo qPl := ⟨fun s ⟨d, ks, u1, u2, u3, e, h, l1, r1, l2, r2, l3, r3, rest⟩ => ⟨d, ks, u1, u2, u3, e, rd_mo s h, l1, Mo.mo s r1, l2, Mo.mo s r2, l3, Mo.mo s r3, rest⟩⟩
section
variable {x : Pl}
theorem pl_pp : Ent (.inr "people") qPl x (qL qP) x.pp := fun v H ⟨d, ks, u1, u2, u3, e, h, l1, r1, _⟩ => ⟨d, ks, u1, e, h, l1, r1⟩
theorem pl_ls : Ent (.inr "lists") qPl x (qL (qL qP)) x.lists := fun v H ⟨d, ks, u1, u2, u3, e, h, l1, r1, l2, r2, _⟩ => ⟨d, ks, u2, e, h, l2, r2⟩
theorem pl_rd : Ent (.inr "reads") qPl x (qL (q2 qP qP)) x.reads := fun v H ⟨d, ks, u1, u2, u3, e, h, l1, r1, l2, r2, l3, r3, _⟩ => ⟨d, ks, u3, e, h, l3, r3⟩
theorem pl_most : Ent (.inr "most") qPl x qNat x.most := fun v H ⟨d, ks, u1, u2, u3, e, h, l1, r1, l2, r2, l3, r3, l4, l5, l6, l7, l8⟩ => ⟨d, ks, _, e, h, l4, rfl⟩
theorem pl_turn : Ent (.inr "turn") qPl x qS "plain" := fun v H ⟨d, ks, u1, u2, u3, e, h, l1, r1, l2, r2, l3, r3, l4, l5, l6, l7, l8⟩ => ⟨d, ks, _, e, h, l5, rfl⟩
theorem pl_ga : Ent (.inr "gather") qPl x qG x.ga := fun v H ⟨d, ks, u1, u2, u3, e, h, l1, r1, l2, r2, l3, r3, l4, l5, l6, l7, l8⟩ => ⟨d, ks, _, e, h, l6, rfl⟩
theorem pl_trim : Ent (.inr "trim") qPl x qNat x.trim := fun v H ⟨d, ks, u1, u2, u3, e, h, l1, r1, l2, r2, l3, r3, l4, l5, l6, l7, l8⟩ => ⟨d, ks, _, e, h, l7, rfl⟩
theorem pl_prizes : Ent (.inr "prizes") qPl x qNat x.prizes := fun v H ⟨d, ks, u1, u2, u3, e, h, l1, r1, l2, r2, l3, r3, l4, l5, l6, l7, l8⟩ => ⟨d, ks, _, e, h, l8, rfl⟩
theorem pl_PR {v : Vl} {H : Hp} (h : qPl x v H) : qPR (x.pp, x.reads) v H := let ⟨d, ks, u1, u2, u3, e, h, l1, r1, l2, r2, l3, r3, _⟩ := h; ⟨d, ks, u1, u3, e, h, l1, r1, l3, r3⟩
theorem pl_PL {v : Vl} {H : Hp} (h : qPl x v H) : qPL x.lists v H := let ⟨d, ks, u1, u2, u3, e, h, l1, r1, l2, r2, _⟩ := h; ⟨d, ks, u2, e, h, l2, r2⟩
end
theorem foldl_max_le : ∀ (ms : List Int) (a c : Int), a ≤ c → (∀ m ∈ ms, m ≤ c) → ms.foldl max a ≤ c
  | [], _, _, h, _ => h
  | m :: ms, a, c, h, hm => by
    rw [List.foldl_cons]
    exact foldl_max_le ms (max a m) c (by have := hm m List.mem_cons_self; omega) fun x hx => hm x (List.mem_cons_of_mem _ hx)
theorem max_last {most n : Nat} {ms : List Int} (h : ms ∈ mBun most n) : ms.foldl max 0 = mLast ms := by
  obtain ⟨_, h2, h3⟩ := mBun_mem.mp h
  unfold mLast
  rcases List.eq_nil_or_concat ms with rfl | ⟨ys, y, rfl⟩
  · rfl
  · rw [List.concat_eq_append] at h2 h3 ⊢
    rw [List.getLast?_concat, List.foldl_append]
    have hy := h3 y (by simp)
    have := foldl_max_le ys 0 y hy.1 fun x hx => (List.pairwise_append.mp h2).2.2 x hx y (by simp)
    show max (ys.foldl max 0) y = y
    omega
section
variable {P : Program} {w : World} {K : PySem.W.Frag} {mg : Str → Option Value} {base : Heap} {cC cR cS : Addr}
variable (F : Fx K mg cC cR cS)
include F
theorem ok_law_bunches : Gfn P w K mg base "_law_bunches" 1 (sp2 qNat qNat (fun n m => n ≤ 6 ∧ m ≤ 3) (qL (qU qI)) (fun n m => mBun m n)) := by
  refine gfn2 F.d_W_bunches sc_W_bunches rfl fun f cdv A outer s H E v1 v2 n m V hr r1 r2 hp => ?_
  obtain ⟨hn, hm⟩ := hp
  refine go_set (i := 2) (R := qL (qU qI)) (a := [[]]) sc_W_bunches.nd rfl (.inl rfl) (ev_lst (el_cons (ev_tupU el_nil (Nat.zero_le _)) el_nil) (by decide)) fun V1 u s1 ru => ?_
  refine go_for PassesOwn.never rfl (tg_name (i := 3) sc_W_bunches.nd rfl (.inl rfl)) (src_range1 (j := (n : Int)) (by rfl) F.m_range (ev_var (R := qI) (a := (n : Int)) (i := 0) rfl (.inl rfl) rfl r1) (by omega) (by omega))
    (fun j σ V' M' => ∃ u y z t, j ≤ n ∧ σ = [some v1, some v2, some u, y, z, t, none] ∧ qL (qU qI) (mBun m j) u V') (fun V2 s2 => ⟨u, none, none, none, Nat.zero_le _, rfl, Mo.mo s2 ru⟩) ?_ ?_
  · rintro j x v σ' σ2 V0 V' M' hx ⟨u, y, z, t, hj, rfl, rb⟩ s0 s2 rx rfl
    obtain ⟨hjn, rfl⟩ := rgl_get hx
    rw [Int.toNat_natCast] at hjn
    have b0 := mBun_small (n := j) hm (by omega)
    have b1 := mBun_small (n := j + 1) hm (by omega)
    have hle : ∀ i, (((mBun m j).take i).flatMap fun one => (rgl (mLast one) ((m : Int) + 1 - mLast one).toNat).map fun k => one ++ [k]).length ≤ 16384 := fun i => by
      refine Nat.le_trans (flat_len (k := 4) fun one ho => ?_) ?_
      · rw [List.length_map, rgl_len]
        have := mLast_nn (List.mem_of_mem_take ho)
        omega
      · rw [List.length_take]
        omega
    refine go_set (i := 4) (R := qL (qU qI)) (a := []) sc_W_bunches.nd rfl (.inl rfl) (ev_lst el_nil (Nat.zero_le _)) fun V3 lv s3 rl => ?_
    refine go_for PassesOwn.never rfl (tg_name (i := 5) sc_W_bunches.nd rfl (.inr rfl)) (src_list (ev_var (i := 2) rfl (.inl rfl) rfl (Mo.mo (s2.trans s3) rb)))
      (fun i σ V4 M4 => ∃ lv t, σ = [some v1, some v2, some u, some v, some lv, t, none] ∧ qL (qU qI) (((mBun m j).take i).flatMap fun one => (rgl (mLast one) ((m : Int) + 1 - mLast one).toNat).map fun k => one ++ [k]) lv V4) (fun V4 s4 => ⟨lv, t, rfl, Mo.mo s4 rl⟩) ?_ ?_
    · rintro i one w' σ3 σ4 V4 V5 M4 hone ⟨lv, t, rfl, rl⟩ s4 s5 ro rfl
      have hom := List.mem_of_getElem? hone
      have hll := mLast_nn hom
      have hlen := (mBun_mem.mp hom).1
      have tk : (((mBun m j).take (i + 1)).flatMap fun one => (rgl (mLast one) ((m : Int) + 1 - mLast one).toNat).map fun k => one ++ [k]) = (((mBun m j).take i).flatMap fun one => (rgl (mLast one) ((m : Int) + 1 - mLast one).toNat).map fun k => one ++ [k]) ++ (rgl (mLast one) ((m : Int) + 1 - mLast one).toNat).map fun k => one ++ [k] := by
        rw [List.take_add_one, hone]
        simp
      have hl1 := hle i
      refine go_set (i := 4) sc_W_bunches.nd rfl (.inl rfl) (ev_bin (o_cat (ys := (rgl (mLast one) ((m : Int) + 1 - mLast one).toNat).map fun k => one ++ [k]) (by rw [List.length_map, rgl_len, sizeLine_eq]; omega)) (ev_var (i := 4) rfl (.inl rfl) rfl (Mo.mo s5 rl))
        (ev_lcn (f := fun k => one ++ [k]) (S := qU qI) 6 rfl sc_W_bunches.nd rfl (src_range2 (i := mLast one) (j := (m : Int) + 1) (by rfl) F.m_range (EvR.eq (ev_b1 (f_maxU (n := 0) (ns := one) rfl (by have := hr.units; omega)) (by rfl) F.m_max PyProof.Rows.boot_max (ev_bin (o_catU (xs := [0]) (by rw [hlen, sizeLine_eq]; simp; omega)) (ev_tupU (el_cons ev_int el_nil) (by decide)) (ev_var (i := 5) rfl (.inr (.inl rfl)) rfl ro))) (max_last hom))
          (ev_bin o_add (ev_var (R := qI) (a := (m : Int)) (i := 1) rfl (.inl rfl) rfl r2) ev_int) (by omega) (by omega) (by omega) (by omega)) (by rw [rgl_len, sizeLine_eq]; omega) (blkOk_by (N := n_W_bunches) (sc := defScope s_W_bunches) (by decide +kernel))
          (fun k v'' V'' hk sv rk => fun _ _ _ _ _ => ev_bin (o_catU (by rw [hlen, sizeLine_eq]; simp; omega)) (ev_var (i := 5) rfl (.inr (.inl rfl)) rfl (Mo.mo sv ro)) (ev_tupU (el_cons (ev_var (i := 6) rfl (.inl rfl) rfl rk) el_nil) (show 1 ≤ sizeLine by decide))))) fun V6 l6 s6 r6 => go_nil ⟨l6, some w', rfl, ?_⟩
      rw [tk]
      exact r6
    · rintro σ3 V4 M4 ⟨lv, t, rfl, rl⟩ s4
      rw [List.take_length] at rl
      exact go_set (i := 2) sc_W_bunches.nd rfl (.inl rfl) (ev_var (i := 4) rfl (.inl rfl) rfl rl) fun V6 l6 s6 r6 => go_nil ⟨l6, _, _, _, hjn, rfl, r6⟩
  · rintro σ' V' M' ⟨u, y, z, t, hj, rfl, rb⟩ s2
    rw [rgl_len, Int.toNat_natCast] at rb
    exact go_ret (ev_var (i := 2) rfl (.inl rfl) rfl rb) fun V' v s r => r
end
end Om
set_option maxHeartbeats 4000000
/-! Om, the law's defs: gathered, marks_score. -/
namespace Om
open PySem PySem.Spec PyProof.Rows L2
instance : Dt qF := inferInstanceAs (Dt (q2 qI qI))
/-- what gathered keeps of the sorted marks -/
def mRow (g : Ga) (t : Nat) (ms : List Int) : List Int := match g with
  | .least => (mSort ms).take 1
  | .greatest => (mSort ms).drop (ms.length - 1)
  | .median => ((mSort ms).drop ((ms.length - 1) / 2)).take (ms.length / 2 + 1 - (ms.length - 1) / 2)
  | _ => mKept t ms
theorem drop_one {l : List Int} {i : Nat} (h : i < l.length) : (l.drop i).take 1 = [l.getD i 0] := by
  rw [List.drop_eq_getElem_cons h, List.getD_eq_getElem?_getD, List.getElem?_eq_getElem h]
  rfl
theorem drop_two {l : List Int} {i : Nat} (h : i + 1 < l.length) : (l.drop i).take 2 = [l.getD i 0, l.getD (i + 1) 0] := by
  rw [List.drop_eq_getElem_cons (by omega), List.drop_eq_getElem_cons h, List.getD_eq_getElem?_getD, List.getD_eq_getElem?_getD, List.getElem?_eq_getElem h, List.getElem?_eq_getElem (show i < l.length by omega)]
  rfl
theorem row_frac {g : Ga} {t : Nat} {ms : List Int} (h : ms ≠ []) (h1 : g ≠ .sum) (h2 : g ≠ .mean) : mFrac (mRow g t ms).sum ((mRow g t ms).length : Int) = mGath g t ms ∧ 0 < (mRow g t ms).length ∧ (mRow g t ms).length ≤ ms.length := by
  have hp := List.length_pos_iff.mpr h
  have hl := mSort_len ms
  cases g with
  | sum => exact absurd rfl h1
  | mean => exact absurd rfl h2
  | trim => exact ⟨rfl, mKept_pos h, mKept_le t ms⟩
  | least =>
    have e : mRow .least t ms = [mMin ms] := by
      show (mSort ms).take 1 = _
      have := drop_one (l := mSort ms) (i := 0) (by omega)
      rwa [List.drop_zero] at this
    rw [e]
    refine ⟨?_, by simp, by simp; omega⟩
    show mFrac ([mMin ms].sum) 1 = (mMin ms, 1)
    rw [mFrac_one]
    simp
  | greatest =>
    have e : mRow .greatest t ms = [mMax ms] := by
      show (mSort ms).drop (ms.length - 1) = _
      have := drop_one (l := mSort ms) (i := ms.length - 1) (by omega)
      rw [List.take_of_length_le (by rw [List.length_drop]; omega)] at this
      exact this
    rw [e]
    refine ⟨?_, by simp, by simp; omega⟩
    show mFrac ([mMax ms].sum) 1 = (mMax ms, 1)
    rw [mFrac_one]
    simp
  | median =>
    rcases Nat.mod_two_eq_zero_or_one ms.length with ev | od
    · have e : mRow .median t ms = [(mSort ms).getD ((ms.length - 1) / 2) 0, (mSort ms).getD (ms.length / 2) 0] := by
        show ((mSort ms).drop ((ms.length - 1) / 2)).take (ms.length / 2 + 1 - (ms.length - 1) / 2) = _
        have e1 : ms.length / 2 + 1 - (ms.length - 1) / 2 = 2 := by omega
        have e2 : ms.length / 2 = (ms.length - 1) / 2 + 1 := by omega
        rw [e1, drop_two (by omega), ← e2]
      rw [e]
      refine ⟨?_, by simp, by simp; omega⟩
      show mFrac _ 2 = mMed ms
      unfold mMed
      simp
    · have e : mRow .median t ms = [(mSort ms).getD (ms.length / 2) 0] := by
        show ((mSort ms).drop ((ms.length - 1) / 2)).take (ms.length / 2 + 1 - (ms.length - 1) / 2) = _
        have e1 : ms.length / 2 + 1 - (ms.length - 1) / 2 = 1 := by omega
        have e2 : (ms.length - 1) / 2 = ms.length / 2 := by omega
        rw [e1, e2, drop_one (by omega)]
      rw [e]
      refine ⟨?_, by simp, by simp; omega⟩
      show mFrac _ 1 = mMed ms
      unfold mMed
      have e2 : (ms.length - 1) / 2 = ms.length / 2 := by omega
      rw [e2, mFrac_one]
      generalize (mSort ms).getD (ms.length / 2) 0 = k
      have e3 : mGcd (k + k) 2 = 2 := by
        unfold mGcd
        have : (k + k) = k * 2 := by omega
        rw [this]
        unfold Int.gcd
        rw [Int.natAbs_mul]
        have e4 : Nat.gcd (k.natAbs * 2) 2 = 2 := Nat.gcd_eq_right (Nat.dvd_mul_left 2 k.natAbs)
        show ((Nat.gcd (k.natAbs * 2) 2 : Nat) : Int) = 2
        rw [e4]
        rfl
      unfold mFrac
      rw [e3]
      have : (k + k) / 2 = k := by omega
      rw [this]
      simp
theorem pl_gaS {x : Pl} : Ent (.inr "gather") qPl x qS (gaS x.ga) := pl_ga
section
variable {P : Program} {w : World} {K : PySem.W.Frag} {mg : Str → Option Value} {base : Heap} {cC cR cS : Addr}
variable (F : Fx K mg cC cR cS)
include F
theorem ok_law_gathered : Gfn P w K mg base "_law_gathered" 3 (sp2 qPl (qL qF) (fun x xs => x.trim ≤ 3 ∧ ∃ ms, xs = told ms ∧ Mks ms) qF (fun x xs => mGath x.ga x.trim (xs.map (·.1)))) := by
  refine gfn2 F.d_W_gathered sc_W_gathered rfl fun f cdv A outer s H E v1 v2 x xs V hr r1 r2 hp => ?_
  obtain ⟨ht, ms, rfl, hm⟩ := hp
  rw [told_fst]
  have hn := hm.2.1
  have hpos := List.length_pos_iff.mpr hm.1
  have hu : (bodyX P w K mg base n_W_gathered "_law_gathered" s_W_gathered f cdv A outer s H E).A.units + 1 < cLine := by have := hr.units; omega
  have cR := (ok_ratio (P := P) (w := w) (base := base) F).cal (X := bodyX P w K mg base n_W_gathered "_law_gathered" s_W_gathered f cdv A outer s H E) hr (by rfl)
  have cA := (ok_law_add (P := P) (w := w) (base := base) F).cal (X := bodyX P w K mg base n_W_gathered "_law_gathered" s_W_gathered f cdv A outer s H E) hr (by rfl)
  refine go_if (et_cmp (o_eqD (R := qL qF) (b := []) (by have := hr.units; omega)) (ev_var (i := 1) rfl (.inl rfl) rfl r2) (ev_lst el_nil (Nat.zero_le _))) (fun h => ?_) (fun _ => go_nil ?_)
  · have := of_decide_eq_true h
    simp [told] at this
    exact absurd this hm.1
  refine go_if (et_cmp (o_inS (xs := ["sum", "mean"])) (ev_gets hu (ev_var (i := 0) rfl (.inl rfl) rfl r1) pl_gaS) (ev_tupU (el_cons ev_str (el_cons ev_str el_nil)) (show 2 ≤ sizeLine by decide))) (fun h => ?_) (fun h => go_nil ?_)
  · have hg : x.ga = .sum ∨ x.ga = .mean := by
      have h := of_decide_eq_true h
      revert h
      cases x.ga <;> first | (intro _; exact .inl rfl) | (intro _; exact .inr rfl) | (intro h; exact absurd h (by decide +kernel))
    refine go_set (i := 2) (R := qF) (a := (0, 1)) sc_W_gathered.nd rfl (.inl rfl) (ev_tup2 ev_int ev_int) fun V1 u s1 ru => ?_
    refine go_for PassesOwn.never rfl (tg_name (i := 3) sc_W_gathered.nd rfl (.inl rfl)) (src_list (ev_var (i := 1) rfl (.inl rfl) rfl (Mo.mo s1 r2)))
      (fun j σ V' M' => ∃ u y, σ = [some v1, some v2, some u, y, none, none] ∧ qF ((ms.take j).sum, 1) u V') (fun V2 s2 => ⟨u, none, rfl, Mo.mo s2 ru⟩) ?_ ?_
    · rintro j z v σ' σ2 V0 V' M' hx ⟨u, y, rfl, h1⟩ s0 s2 rz rfl
      rw [List.getElem?_map] at hx
      obtain ⟨m, hmj, rfl⟩ := Option.map_eq_some_iff.mp hx
      obtain ⟨hjl, hje⟩ := List.getElem?_eq_some_iff.mp hmj
      have hb := hm.2.2 m (List.mem_of_getElem? hmj)
      have hsum := mks_sum (ms := ms.take j) fun z hz => hm.2.2 z (List.mem_of_mem_take hz)
      rw [List.length_take] at hsum
      refine go_set (i := 2) sc_W_gathered.nd rfl (.inl rfl) (ev_c2 cA (ev_var (i := 2) rfl (.inl rfl) rfl (Mo.mo s2 h1)) (ev_var (i := 3) rfl (.inl rfl) rfl rz) ⟨⟨by simp only; omega, by simp only; omega, rfl⟩, by simp only; omega, by simp only; omega, rfl⟩) fun V3 u3 s3 r3 => ?_
      have e2 : mPlus ((ms.take j).sum, 1) (m, 1) = ((ms.take (j + 1)).sum, 1) := by
        unfold mPlus
        simp only [Int.mul_one]
        rw [mFrac_one, sum_take hmj]
      rw [e2] at r3
      exact go_nil ⟨u3, _, rfl, r3⟩
    · rintro σ' V' M' ⟨u, y, rfl, h1⟩ s2
      rw [List.length_map, List.take_length] at h1
      have r1' : qPl x v1 V' := Mo.mo (s1.trans s2) r1
      have r2' : qL qF (told ms) v2 V' := Mo.mo (s1.trans s2) r2
      refine go_ret (R := qF) (a := mGath x.ga x.trim ms) (ev_if (et_cmp (o_eqG .sum) (ev_gets hu (ev_var (i := 0) rfl (.inl rfl) rfl r1') pl_ga) ev_str) (fun h3 => ?_) (fun h3 => ?_)) fun V' v s r => r
      · have e := of_decide_eq_true h3
        rw [e]
        exact ev_var (i := 2) rfl (.inl rfl) rfl h1
      · have e : x.ga = .mean := hg.resolve_left (of_decide_eq_false h3)
        rw [e]
        exact EvR.eq (ev_c2 cR (ev_ix0 (ev_var (i := 2) rfl (.inl rfl) rfl h1)) (ev_bin (o_mul (.inl ⟨by decide, by decide⟩)) (ev_ix1 (ev_var (i := 2) rfl (.inl rfl) rfl h1)) (ev_b1 f_lenL (by rfl) F.m_len PySem.boot_len (ev_var (i := 1) rfl (.inl rfl) rfl r2'))) ⟨by rw [List.length_map]; omega, by rw [List.length_map]; omega⟩) (by rw [List.length_map, Int.one_mul]; rfl)
  · have hg1 : x.ga ≠ .sum := fun z => by rw [z] at h; exact absurd h (by decide +kernel)
    have hg2 : x.ga ≠ .mean := fun z => by rw [z] at h; exact absurd h (by decide +kernel)
    obtain ⟨q1, q2, q3⟩ := row_frac (t := x.trim) hm.1 hg1 hg2
    refine go_par (i := 4) (j := 5) (R := qL qI) (S := qNat) (a := mSort ms) (b := x.trim) rfl sc_W_gathered.nd rfl rfl (by decide) rfl rfl (ev_b1 (f_sorted (mSort_perm ms) (mSort_pw ms)) (by rfl) F.m_sorted PyProof.Rows.boot_sorted (EvR.eq (ev_lcn (xs := told ms) (R := qF) (f := fun (z : Fr) => z.1) (S := qI) 3 rfl sc_W_gathered.nd rfl (src_list (ev_var (i := 1) rfl (.inl rfl) rfl r2)) (by rw [List.length_map, sizeLine_eq]; omega) (blkOk_by (N := n_W_gathered) (sc := defScope s_W_gathered) (by decide +kernel))
      (fun a v V' ha sv ra => fun _ _ _ _ _ => ev_t1 f_intI (by rfl) F.m_int PyProof.Rows.boot_int (ev_ix0 (ev_var (i := 3) rfl (.inl rfl) rfl ra)))) (told_fst ms))) (ev_gets hu (ev_var (i := 0) rfl (.inl rfl) rfl r1) pl_trim) (fun V1 rv tv s1 rr rt => ?_) rfl
    have r1' : qPl x v1 V1 := Mo.mo s1 r1
    have hln := mSort_len ms
    have fin : ∀ (V' : Hp) (rv : Vl), qL qI (mRow x.ga x.trim ms) rv V' → Go (bodyX P w K mg base n_W_gathered "_law_gathered" s_W_gathered f cdv A outer s H E) ((defBody s_W_gathered).drop 4) [some v1, some v2, none, none, some rv, some tv] V' H0 (RetP qF (mGath x.ga x.trim ms)) := fun V' rv rr' => by
      refine go_ret (R := qF) (a := mGath x.ga x.trim ms) (EvR.eq (ev_c2 cR (ev_b1 (f_sum rfl) (by rfl) F.m_sum PyProof.Rows.boot_sum (ev_var (i := 4) rfl (.inl rfl) rfl rr')) (ev_b1 f_lenL (by rfl) F.m_len PySem.boot_len (ev_var (i := 4) rfl (.inl rfl) rfl rr')) ⟨by omega, by omega⟩) q1) fun V' v s r => r
    have xg := fun p p' p'' => ev_gets (X := bodyX P w K mg base n_W_gathered "_law_gathered" s_W_gathered f cdv A outer s H E) (pos := p) (p := p') (c := 0) hu (ev_var (σ := [some v1, some v2, none, none, some rv, some tv]) (pos := p'') (i := 0) rfl (.inl rfl) rfl r1') pl_ga
    have xr := fun p => ev_var (X := bodyX P w K mg base n_W_gathered "_law_gathered" s_W_gathered f cdv A outer s H E) (σ := [some v1, some v2, none, none, some rv, some tv]) (pos := p) (i := 4) rfl (.inl rfl) rfl rr
    have xl := fun p p' p'' => ev_b1 (X := bodyX P w K mg base n_W_gathered "_law_gathered" s_W_gathered f cdv A outer s H E) (pos := p) (p := p') f_lenL (by rfl) F.m_len PySem.boot_len (xr p'')
    refine go_if (hW := Sees.self) (et_cmp (o_eqG .least) (xg _ _ _) ev_str) (fun h1 => ?_) (fun h1 => ?_)
    · have e := of_decide_eq_true h1
      refine go_set (i := 4) (R := qL qI) (a := mRow x.ga x.trim ms) sc_W_gathered.nd rfl (.inl rfl) (EvR.eq (ev_sl (xr _) ep_none (ep_some ev_int)) ?_) fun V2 v s2 r => go_nil (fin V2 v r)
      rw [e]
      exact cut_take (n := 1)
    refine go_if (hW := Sees.self) (et_cmp (o_eqG .greatest) (xg _ _ _) ev_str) (fun h2 => ?_) (fun h2 => ?_)
    · have e := of_decide_eq_true h2
      refine go_set (i := 4) (R := qL qI) (a := mRow x.ga x.trim ms) sc_W_gathered.nd rfl (.inl rfl) (EvR.eq (ev_sl (xr _) (ep_some (ev_bin o_sub (xl _ _ _) ev_int)) ep_none) ?_) fun V2 v s2 r => go_nil (go_nil (fin V2 v r))
      rw [e]
      have e2 : ((mSort ms).length : Int) - 1 = ((ms.length - 1 : Nat) : Int) := by omega
      rw [e2]
      exact cut_drop
    refine go_if (hW := Sees.self) (et_cmp (o_eqG .median) (xg _ _ _) ev_str) (fun h3 => ?_) (fun h3 => ?_)
    · have e := of_decide_eq_true h3
      refine go_set (i := 4) (R := qL qI) (a := mRow x.ga x.trim ms) sc_W_gathered.nd rfl (.inl rfl) (EvR.eq (ev_sl (xr _) (ep_some (ev_bin (o_fdiv (by constructor <;> decide)) (ev_bin o_sub (xl _ _ _) ev_int) ev_int)) (ep_some (ev_bin o_add (ev_bin (o_fdiv (by constructor <;> decide)) (xl _ _ _) ev_int) ev_int))) ?_) fun V2 v s2 r => go_nil (go_nil (go_nil (fin V2 v r)))
      rw [e]
      have e2 : (((mSort ms).length : Int) - 1) / 2 = (((ms.length - 1) / 2 : Nat) : Int) := by omega
      have e3 : ((mSort ms).length : Int) / 2 + 1 = ((ms.length / 2 + 1 : Nat) : Int) := by omega
      rw [e2, e3, cut_mid (by omega)]
      rfl
    have hgt : x.ga = .trim := by
      have a1 := of_decide_eq_false h1
      have a2 := of_decide_eq_false h2
      have a3 := of_decide_eq_false h3
      revert hg1 hg2 a1 a2 a3
      cases x.ga <;> simp
    have ek : mRow x.ga x.trim ms = mKept x.trim ms := by rw [hgt]; rfl
    have xt := fun p => ev_var (X := bodyX P w K mg base n_W_gathered "_law_gathered" s_W_gathered f cdv A outer s H E) (σ := [some v1, some v2, none, none, some rv, some tv]) (V := V1) (pos := p) (R := qI) (a := (x.trim : Int)) (i := 5) rfl (.inl rfl) rfl rt
    refine go_if (hW := Sees.self) (et_cmp o_gt (xl _ _ _) (ev_bin (o_mul (.inl (show Sm 2 from ⟨by decide, by decide⟩))) ev_int (xt _))) (fun h4 => ?_) (fun h4 => ?_)
    · have h4' : 2 * x.trim < ms.length := by have := of_decide_eq_true h4; omega
      refine go_set (i := 4) (R := qL qI) (a := mRow x.ga x.trim ms) sc_W_gathered.nd rfl (.inl rfl) (EvR.eq (ev_sl (xr _) (ep_some (xt _)) (ep_some (ev_bin o_sub (xl _ _ _) (xt _)))) ?_) fun V2 v s2 r => go_nil (go_nil (go_nil (go_nil (fin V2 v r))))
      rw [ek]
      have e2 : ((mSort ms).length : Int) - (x.trim : Int) = ((ms.length - x.trim : Nat) : Int) := by omega
      rw [e2, cut_mid (by omega)]
      unfold mKept
      rw [if_pos h4']
    · have h4' : ¬ 2 * x.trim < ms.length := by have := of_decide_eq_false h4; omega
      refine go_nil (go_nil (go_nil (go_nil (fin V1 rv ?_))))
      rw [ek]
      unfold mKept
      rw [if_neg h4']
      exact rr
theorem ok_marks_score : Gfn P w K mg base "_law_marks_score" 4 (sp2 qPl (qU qI) (fun x ms => x.trim ≤ 3 ∧ Mks ms) qF (fun x ms => mGath x.ga x.trim ms)) := by
  refine gfn2 F.d_W_marks_score sc_W_marks_score rfl fun f cdv A outer s H E v1 v2 x ms V hr r1 r2 hp => ?_
  have hl := hp.2.2.1
  refine go_ret (R := qF) (a := mGath x.ga x.trim ms) (EvR.eq (ev_c2 ((ok_law_gathered (P := P) (w := w) (base := base) F).cal (X := bodyX P w K mg base n_W_marks_score "_law_marks_score" s_W_marks_score f cdv A outer s H E) hr (by rfl)) (ev_var (i := 0) rfl (.inl rfl) rfl r1)
    (ev_lcn (f := fun (m : Int) => (m, (1 : Int))) (S := qF) 2 rfl sc_W_marks_score.nd rfl (src_tup (ev_var (i := 1) rfl (.inl rfl) rfl r2)) (by rw [sizeLine_eq]; omega) (blkOk_by (N := n_W_marks_score) (sc := defScope s_W_marks_score) (by decide +kernel)) (fun a v V' ha sv ra => fun _ _ _ _ _ => ev_tup2 (ev_var (i := 2) rfl (.inl rfl) rfl ra) ev_int))
    ⟨hp.1, ms, rfl, hp.2⟩) ?_) fun V' v s r => r
  show mGath x.ga x.trim ((told ms).map (·.1)) = _
  rw [told_fst]
end
end Om
set_option maxHeartbeats 4000000
/-! Om, the law's defs: own, worths, decides, decided, lift. -/
namespace Om
open PySem PySem.Spec PyProof.Rows L2
/-- a plan that is small -/
structure Pl.ok (x : Pl) : Prop where
  nd : x.pp.Nodup
  p2 : 2 ≤ x.pp.length
  p8 : x.pp.length ≤ 7
  m1 : 1 ≤ x.most
  m3 : x.most ≤ 3
  t3 : x.trim ≤ 3
  ll : x.lists.length ≤ 3
  rl : x.reads.length ≤ 64
  inl : ∀ i ∈ x.pp, ∃ l ∈ x.lists, i ∈ l
  rn : ∀ i, (mWho (x.pp, x.reads) i).length ≤ 6
def Pl.n (x : Pl) (i : Pn) : Nat := (mWho (x.pp, x.reads) i).length
def Pl.own (x : Pl) (i : Pn) : List (Pn × Pn) := x.reads.filter fun z => decide (z.1 = i) && decide (z.2 ∈ mLst x.lists i)
def Pl.score (x : Pl) (ms : List Int) : Fr := mGath x.ga x.trim ms
def Pl.wor (x : Pl) (i : Pn) : List Fr := ((mBun x.most (x.n i)).filter fun _ => decide (0 < (x.n i : Int))).map x.score
section
variable {P : Program} {w : World} {K : PySem.W.Frag} {mg : Str → Option Value} {base : Heap} {cC cR cS : Addr}
variable (F : Fx K mg cC cR cS)
include F
theorem ok_law_own : Gfn P w K mg base "_law_own" 2 (sp2 qPl qP (fun x i => x.ok ∧ i ∈ x.pp) (qL (q2 qP qP)) Pl.own) := by
  refine gfn2 F.d_W_own sc_W_own rfl fun f cdv A outer s H E v1 v2 x i V hr r1 r2 hp => ?_
  obtain ⟨ok, hi⟩ := hp
  have hu : (bodyX P w K mg base n_W_own "_law_own" s_W_own f cdv A outer s H E).A.units + 1 < cLine := by have := hr.units; omega
  refine go_ret (R := qL (q2 qP qP)) (a := x.own i) (EvR.eq (ev_lcf (xs := x.reads) (R := q2 qP qP) (S := q2 qP qP) (p := fun (z : Pn × Pn) => decide (z.1 = i) && decide (z.2 ∈ mLst x.lists i)) (f := fun z => z) 2 rfl sc_W_own.nd rfl (src_list (ev_gets hu (ev_var (i := 0) rfl (.inr (.inl rfl)) rfl r1) pl_rd)) (by rw [sizeLine_eq]; have := ok.rl; omega) (blkOk_by (N := n_W_own) (sc := defScope s_W_own) (by decide +kernel))
    (fun a v V' ha sv ra => fun s0 H1 C cl fp => et_w (ew_and (et_cmp o_eqP (ev_ix0 (ev_var (i := 2) rfl (.inl rfl) rfl ra)) (ev_var (i := 1) rfl (.inr (.inl rfl)) rfl (show qP i v2 V' from r2))) fun _ => ew_and1 (et_cmp o_inP (ev_ix1 (ev_var (i := 2) rfl (.inl rfl) rfl ra))
      (ev_c2 ((ok_law_list (P := P) (w := w) (base := base) F).cal (X := bl (bodyX P w K mg base n_W_own "_law_own" s_W_own f cdv A outer s H E) _ s0 H1 C cl fp) hr (by rfl)) (EvR.conv (ev_var (i := 0) rfl (.inr (.inl rfl)) rfl (Mo.mo sv r1)) fun v V' _ rr => pl_PL rr) (ev_var (i := 1) rfl (.inr (.inl rfl)) rfl (show qP i v2 V' from r2)) ⟨ok.inl i hi, by have := ok.ll; omega⟩))))
    (fun a v V' ha _ sv ra => fun _ _ _ _ _ => ev_var (i := 2) rfl (.inl rfl) rfl ra)) (List.map_id' _)) fun V' v s r => r
theorem ok_worths : Gfn P w K mg base "_law_worths" 5 (sp2 qPl qP (fun x _ => x.ok) qSame Pl.wor) := by
  refine gfn2 F.d_W_worths sc_W_worths rfl fun f cdv A outer s H E v1 v2 x i V hr r1 r2 ok => ?_
  have hn := ok.rn i
  have hm := ok.m3
  have hb := mBun_small (n := x.n i) hm hn
  have hu : (bodyX P w K mg base n_W_worths "_law_worths" s_W_worths f cdv A outer s H E).A.units + 1 < cLine := by have := hr.units; omega
  refine go_set (i := 2) (R := qI) (a := (x.n i : Int)) sc_W_worths.nd rfl (.inr rfl) (ev_b1 f_lenL (by rfl) F.m_len PySem.boot_len (ev_c2 (a := (x.pp, x.reads)) (b := i) ((ok_law_readers (P := P) (w := w) (base := base) F).cal (X := bodyX P w K mg base n_W_worths "_law_worths" s_W_worths f cdv A outer s H E) hr (by rfl)) (EvR.conv (ev_var (i := 0) rfl (.inr (.inl rfl)) rfl r1) fun v V' _ rr => pl_PR rr) (ev_var (i := 1) rfl (.inl rfl) rfl r2) (by have := ok.p8; show x.pp.length ≤ 8; omega))) fun V1 nv s1 rn => ?_
  have sm : ∀ z ∈ x.wor i, Sm z.1 := fun z hz => by
    obtain ⟨ms, h1, rfl⟩ := List.mem_map.mp hz
    obtain ⟨h2, h3⟩ := List.mem_filter.mp h1
    have b := mGath_bd (g := x.ga) (t := x.trim) (mks_bun h2 (by have := of_decide_eq_true h3; omega) (by have : x.n i ≤ 6 := hn; omega) (by omega))
    exact sm100 b.1 b.2.1
  refine go_ret (R := qSame) (a := x.wor i) (EvR.eq (ev_c1 ((ok_by_worth (P := P) (w := w) (base := base) F).cal (X := bodyX P w K mg base n_W_worths "_law_worths" s_W_worths f cdv A outer s H E) hr (by rfl)) (ev_lcf (xs := mBun x.most (x.n i)) (R := qU qI) (S := qF) (p := fun _ => decide (0 < (x.n i : Int))) (f := x.score) 3 rfl sc_W_worths.nd rfl
    (src_list (EvR.eq (ev_c2 (a := x.n i) (b := x.most) ((ok_law_bunches (P := P) (w := w) (base := base) F).cal (X := bodyX P w K mg base n_W_worths "_law_worths" s_W_worths f cdv A outer s H E) hr (by rfl)) (ev_var (R := qNat) (a := x.n i) (i := 2) rfl (.inr (.inl rfl)) rfl rn) (ev_gets hu (ev_var (i := 0) rfl (.inr (.inl rfl)) rfl (Mo.mo s1 r1)) pl_most) ⟨hn, hm⟩) rfl)) (by rw [sizeLine_eq]; omega) (blkOk_by (N := n_W_worths) (sc := defScope s_W_worths) (by decide +kernel))
    (fun a v V' ha sv ra => fun _ _ _ _ _ => et_cmp o_gt (ev_var (R := qI) (a := (x.n i : Int)) (i := 2) rfl (.inr (.inl rfl)) rfl rn) ev_int)
    (fun a v V' ha hp sv ra => fun s0 H1 C cl fp => EvR.eq (ev_c2 ((ok_marks_score (P := P) (w := w) (base := base) F).cal (X := bl (bodyX P w K mg base n_W_worths "_law_worths" s_W_worths f cdv A outer s H E) _ s0 H1 C cl fp) hr (by rfl)) (ev_var (i := 0) rfl (.inr (.inl rfl)) rfl (Mo.mo (s1.trans sv) r1)) (ev_var (i := 3) rfl (.inl rfl) rfl ra) ⟨ok.t3, mks_bun ha (by have := of_decide_eq_true hp; omega) (by have : x.n i ≤ 6 := hn; omega) (by omega)⟩) rfl)) ⟨sm, ?_⟩) rfl) fun V' v s r => r
  have := List.length_filter_le (fun _ => decide (0 < (x.n i : Int))) (mBun x.most (x.n i))
  rw [List.length_map]
  omega
end
end Om
set_option maxHeartbeats 4000000
/-! Om, the law's defs: decides, decided, lift. -/
namespace Om
open PySem PySem.Spec PyProof.Rows L2
section
variable {X : Cx} {σ : L2.St} {V : Hp} {e e2 : Expr} {pos p px : Pos}
/-- l.index(i) -/
theorem ev_idx {pp : List Pn} {i : Pn} (h : EvR X e σ V (qL qP) pp) (h2 : EvR X e2 σ V qP i) (hi : i ∈ pp)
    (hbase : attributeBase e "index" X.env (eval e X.env) = eval e X.env := by rfl) (hline : (p.endLine == px.line) = true := by rfl) (hst : starEach [e2] X.env = (false, eval e2 X.env) :: starEach [] X.env := by rfl)
    (hfew : ((backTo px (starEach [e2] X.env)).all (fun x => !x.1) && (backToKw px (keywordEach [] X.env)).all (fun x => x.1.isSome) && decide (([e2] : List Expr).length + ([] : List Keyword).length + (if ([] : List Keyword).isEmpty then 0 else 1) < 30)) = true := by rfl) :
    EvR X (.Call (.Attribute e "index" p) [e2] [] px) σ V qI (pp.idxOf i : Int) :=
  ev_of (pe_bm (PySem.F.plainAttrs_list) PySem.F.slot_list_index PySem.F.type_list_index mt_index pe_re (pa_cons pe_re pa_nil hst) hbase hfew hline hst rfl) fun V1 A Q s l q => h V1 A _ s l fun V2 A2 v g ⟨a, vs, ev, ha, al, _⟩ => by
    have e1 := al_flatP al
    subst e1
    rw [ev]
    refine ⟨.inl ⟨rfl, _, SqL.of (g.va.at ha)⟩, h2 V2 A2 _ (s.trans g.vv) g.va fun V3 A3 u g3 ru => ?_⟩
    have hl := List.idxOf_lt_length_iff.mpr hi
    refine ⟨a, _, u, pp.idxOf i, .str (nm i), rfl, rfl, SqL.of (g3.va.at (g3.vv _ _ ha)), by rw [show u = _ from ru]; rfl, flat_P pp, ?_, ?_, fun m z' hm hz => ?_, q V3 A3 _ (g.trans g3) rfl⟩
    · rw [List.getElem?_map, List.getElem?_eq_getElem hl, List.getElem_idxOf]
      rfl
    · rw [show u = _ from ru]
      show decide (nm i = nm i) = true
      exact decide_eq_true rfl
    · rw [List.getElem?_map] at hz
      obtain ⟨k, hk, rfl⟩ := Option.map_eq_some_iff.mp hz
      obtain ⟨hml, hke⟩ := List.getElem?_eq_some_iff.mp hk
      rw [show u = _ from ru]
      show decide (nm k = nm i) = false
      refine decide_eq_false fun z => ?_
      have hki := (nm_inj k i).mp z
      have := List.not_of_lt_findIdx (p := (· == i)) (xs := pp) hm
      rw [hke, hki] at this
      simp at this
end
def Pl.early (x : Pl) (p o : Pn) : Bool := decide ((x.pp.idxOf p : Int) < (x.pp.idxOf o : Int))
def Pl.dec1 (x : Pl) (e : Bool) (w : Fr) (row : List Int) : Bool := (e && (!mLess w (x.score (0 :: row)) && mLess w (x.score ((x.most : Int) :: row)))) || (!e && (mLess (x.score (0 :: row)) w && !mLess (x.score ((x.most : Int) :: row)) w))
def Pl.decides (x : Pl) (p o : Pn) (w : Fr) : Bool := (mBun x.most (x.n o - 1)).any (x.dec1 (x.early p o) w)
section
variable {P : Program} {w : World} {K : PySem.W.Frag} {mg : Str → Option Value} {base : Heap} {cC cR cS : Addr}
variable (F : Fx K mg cC cR cS)
include F
theorem ok_law_decides : Gfn P w K mg base "_law_decides" 5 (sp4 qPl qP qP qF (fun x p o z => x.ok ∧ p ∈ x.pp ∧ o ∈ x.pp ∧ 1 ≤ x.n o ∧ Sm z.1) qB Pl.decides) := by
  refine gfn4 F.d_W_decides sc_W_decides rfl fun f cdv A outer s H E v1 v2 v3 v4 x p o z V hr r1 r2 r3 r4 hp => ?_
  obtain ⟨ok, hpp, hop, h1, hz⟩ := hp
  have hn : x.n o ≤ 6 := ok.rn o
  have hm := ok.m3
  have hu : (bodyX P w K mg base n_W_decides "_law_decides" s_W_decides f cdv A outer s H E).A.units + 1 < cLine := by have := hr.units; omega
  have cS := (ok_marks_score (P := P) (w := w) (base := base) F).cal (X := bodyX P w K mg base n_W_decides "_law_decides" s_W_decides f cdv A outer s H E) hr (by rfl)
  have cL := (ok_law_less (P := P) (w := w) (base := base) F).cal (X := bodyX P w K mg base n_W_decides "_law_decides" s_W_decides f cdv A outer s H E) hr (by rfl)
  have x0 := fun p => ev_var (X := bodyX P w K mg base n_W_decides "_law_decides" s_W_decides f cdv A outer s H E) (σ := start n_W_decides [v1, v2, v3, v4]) (pos := p) (i := 0) rfl (.inl rfl) rfl r1
  refine go_set (i := 4) (R := qB) (a := x.early p o) sc_W_decides.nd rfl (.inl rfl) (ev_cmp o_lt (ev_idx (ev_gets hu (x0 _) pl_pp) (ev_var (i := 1) rfl (.inl rfl) rfl r2) hpp) (ev_idx (ev_gets hu (x0 _) pl_pp) (ev_var (i := 2) rfl (.inl rfl) rfl r3) hop)) fun V1 ev s1 re => ?_
  generalize hE : x.early p o = ea at re
  refine go_for PassesOwn.never rfl (tg_name (i := 5) sc_W_decides.nd rfl (.inl rfl)) (src_list (EvR.eq (ev_c2 (a := x.n o - 1) (b := x.most) ((ok_law_bunches (P := P) (w := w) (base := base) F).cal (X := bodyX P w K mg base n_W_decides "_law_decides" s_W_decides f cdv A outer s H E) hr (by rfl))
      (ev_nat (ev_bin o_sub (ev_b1 f_lenL (by rfl) F.m_len PySem.boot_len (ev_c2 (a := (x.pp, x.reads)) (b := o) ((ok_law_readers (P := P) (w := w) (base := base) F).cal (X := bodyX P w K mg base n_W_decides "_law_decides" s_W_decides f cdv A outer s H E) hr (by rfl)) (EvR.conv (ev_var (i := 0) rfl (.inl rfl) rfl (Mo.mo s1 r1)) fun v V' _ rr => pl_PR rr) (ev_var (R := qP) (a := o) (i := 2) rfl (.inl rfl) rfl r3) (by have := ok.p8; show x.pp.length ≤ 8; omega))) ev_int) (show ((x.n o : Nat) : Int) - 1 = ((x.n o - 1 : Nat) : Int) by omega))
      (ev_gets hu (ev_var (i := 0) rfl (.inl rfl) rfl (Mo.mo s1 r1)) pl_most) ⟨by omega, hm⟩) (show (fun n m => mBun m n) (x.n o - 1) x.most = mBun x.most (x.n o - 1) from rfl)))
    (fun j σ V' M' => ∃ y1 y2 y3, σ = [some v1, some v2, some v3, some v4, some (.bl ea), y1, y2, y3] ∧ ((mBun x.most (x.n o - 1)).take j).any (x.dec1 ea z) = false) (fun V2 s2 => ⟨none, none, none, by rw [show ev = _ from re]; rfl, rfl⟩) ?_ ?_
  · rintro j row v σ' σ2 V0 V' M' hx ⟨y1, y2, y3, rfl, hno⟩ s0 s2 rx rfl
    have hmm := List.mem_of_getElem? hx
    have sV : Same V V' := (s1.trans s0).trans s2
    have mk0 : Mks (0 :: row) := mks_cons hmm (by omega) (by omega) ⟨by decide, by decide⟩
    have mk1 : Mks ((x.most : Int) :: row) := mks_cons hmm (by omega) (by omega) ⟨by omega, by omega⟩
    have lrow : row.length ≤ 6 := by have := (mBun_mem.mp hmm).1; omega
    have b0 := mGath_bd (g := x.ga) (t := x.trim) mk0
    have b1 := mGath_bd (g := x.ga) (t := x.trim) mk1
    have tk : (mBun x.most (x.n o - 1)).take (j + 1) = (mBun x.most (x.n o - 1)).take j ++ [row] := by rw [List.take_add_one, hx]; rfl
    have r1' : qPl x v1 V' := Mo.mo sV r1
    have r4' : qF z v4 V' := Mo.mo sV r4
    refine go_par (i := 6) (j := 7) (R := qF) (S := qF) (a := x.score (0 :: row)) (b := x.score ((x.most : Int) :: row)) rfl sc_W_decides.nd rfl rfl (by decide) rfl rfl
      (EvR.eq (ev_c2 (b := 0 :: row) cS (ev_var (i := 0) rfl (.inl rfl) rfl r1') (ev_bin (o_catU (xs := [0]) (by rw [sizeLine_eq]; simp; omega)) (ev_tupU (el_cons ev_int el_nil) (show 1 ≤ sizeLine by decide)) (ev_var (i := 5) rfl (.inl rfl) rfl rx)) ⟨ok.t3, mk0⟩) rfl)
      (EvR.eq (ev_c2 (b := (x.most : Int) :: row) cS (ev_var (i := 0) rfl (.inl rfl) rfl r1') (ev_bin (o_catU (xs := [(x.most : Int)]) (by rw [sizeLine_eq]; simp; omega)) (ev_tupU (el_cons (ev_gets (S := qI) (b := (x.most : Int)) hu (ev_var (i := 0) rfl (.inl rfl) rfl r1') pl_most) el_nil) (show 1 ≤ sizeLine by decide)) (ev_var (i := 5) rfl (.inl rfl) rfl rx)) ⟨ok.t3, mk1⟩) rfl)
      (fun V3 lo hi s3 rlo rhi => ?_) rfl
    have r4'' : qF z v4 V3 := Mo.mo s3 r4'
    have t0 : Sm (x.score (0 :: row)).1 := sm100 b0.1 b0.2.1
    have t1 : Sm (x.score ((x.most : Int) :: row)).1 := sm100 b1.1 b1.2.1
    have rlo' : qF (x.score (0 :: row)) lo V3 := rlo
    have hit : x.dec1 ea z row = true → x.decides p o z = true := fun h => by
      unfold Pl.decides
      rw [hE]
      exact List.any_eq_true.mpr ⟨row, hmm, h⟩
    refine go_if (hW := Sees.self) (et_w (ew_and (et_val (ev_var (V := V3) (R := qB) (a := ea) (i := 4) rfl (.inl rfl) rfl rfl)) fun _ => ew_and (et_not (et_val (ev_c2 cL (ev_var (i := 3) rfl (.inl rfl) rfl r4'') (ev_var (i := 6) rfl (.inl rfl) rfl rlo') ⟨hz, t0⟩))) fun _ => ew_and1 (et_val (ev_c2 cL (ev_var (i := 3) rfl (.inl rfl) rfl r4'') (ev_var (i := 7) rfl (.inl rfl) rfl rhi) ⟨hz, t1⟩)))) (fun h => ?_) (fun h => go_nil ?_)
    · refine go_ret ev_bl fun V4 u s4 ru => ?_
      show qB (x.decides p o z) u V4
      rw [hit (by unfold Pl.dec1; rw [h]; rfl)]
      exact ru
    refine go_if (hW := Sees.self) (et_w (ew_and (et_not (et_val (ev_var (V := V3) (R := qB) (a := ea) (i := 4) rfl (.inl rfl) rfl rfl))) fun _ => ew_and (et_val (ev_c2 cL (ev_var (i := 6) rfl (.inl rfl) rfl rlo') (ev_var (i := 3) rfl (.inl rfl) rfl r4'') ⟨t0, hz⟩)) fun _ => ew_and1 (et_not (et_val (ev_c2 cL (ev_var (i := 7) rfl (.inl rfl) rfl rhi) (ev_var (i := 3) rfl (.inl rfl) rfl r4'') ⟨t1, hz⟩))))) (fun h2 => ?_) (fun h2 => go_nil (go_nil ⟨_, _, _, rfl, ?_⟩))
    · refine go_ret ev_bl fun V4 u s4 ru => ?_
      show qB (x.decides p o z) u V4
      rw [hit (by unfold Pl.dec1; rw [h2, Bool.or_true])]
      exact ru
    · rw [tk, List.any_append, hno]
      have : x.dec1 ea z row = false := by unfold Pl.dec1; rw [h, h2]; rfl
      simp [this]
  · rintro σ' V' M' ⟨y1, y2, y3, rfl, hno⟩ s2
    rw [List.take_length] at hno
    refine go_ret ev_bl fun V3 u s3 ru => ?_
    have : x.decides p o z = false := by unfold Pl.decides; rw [hE]; exact hno
    show qB (x.decides p o z) u V3
    rw [this]
    exact ru
end
end Om
set_option maxHeartbeats 4000000
/-! Om, the law's defs: decided, lift. -/
namespace Om
open PySem PySem.Spec PyProof.Rows L2
def Pl.decided (x : Pl) (p : Pn) (w : Fr) : List Pn := ((x.own p).filter fun z => x.decides p z.2 w).map (·.2)
/-- own reads are of people who have readers -/
def Pl.okOwn (x : Pl) (p : Pn) : Prop := p ∈ x.pp ∧ ∀ z ∈ x.own p, z.2 ∈ x.pp ∧ 1 ≤ x.n z.2
/-- the most that is decided at one of the worths -/
def Pl.isLift (x : Pl) (p : Pn) (k : Int) : Prop := (∃ ws : List Fr, (∀ z, z ∈ ws ↔ z ∈ x.wor p) ∧ (k ∈ (0 :: ws.map fun w => ((x.decided p w).length : Int)) ∧ ∀ y ∈ (0 :: ws.map fun w => ((x.decided p w).length : Int)), y ≤ k))
def qLift (p : Pn) : Rf Pl := fun x v _ => ∃ k : Int, x.isLift p k ∧ v = .int k
theorem max_ex : ∀ (l : List Int) (a : Int), ∃ k, k ∈ (a :: l) ∧ ∀ y ∈ (a :: l), y ≤ k
  | [], a => ⟨a, by simp, by simp⟩
  | b :: l, a => by
    obtain ⟨k, h1, h2⟩ := max_ex l b
    by_cases h : a ≤ k
    · exact ⟨k, List.mem_cons_of_mem _ h1, fun y hy => by
        rcases List.mem_cons.mp hy with rfl | hy
        · exact h
        · exact h2 y hy⟩
    · refine ⟨a, List.mem_cons_self, fun y hy => ?_⟩
      rcases List.mem_cons.mp hy with rfl | hy
      · exact Int.le_refl _
      · have := h2 y hy
        omega
/-- one of those that are so -/
def qH {α : Type} (Φ : α → Prop) (R : Rf α) : Rf Unit := fun _ v V => ∃ a, Φ a ∧ R a v V
instance {α : Type} {Φ : α → Prop} {R : Rf α} [Mo R] : Mo (qH Φ R) := ⟨fun s ⟨a, h, r⟩ => ⟨a, h, Mo.mo s r⟩⟩
section
variable {X : Cx} {scope : Scope} {σ : L2.St} {V : Hp} {α β : Type} {R : Rf α} {S : Rf β} {Φ : List α → Prop} {iter elt : Expr} {pos px : Pos} {x : Str} {f : α → β}
/-- [elt for x in iter], iter a list that is not known whole -/
theorem ev_lcnH [Mo R] [Mo S] (i : Nat) (hc : X.calm = true) (hN : X.N.Nodup) (hi : X.N[i]? = some x) (h : EvR X iter σ V (qH Φ (qL R)) ()) (hn : ∀ xs, Φ xs → xs.length ≤ sizeLine) (ok : BlkOk X.N X.env.scope scope [(x, i)])
    (he : ∀ a v V', (∃ xs, Φ xs ∧ a ∈ xs) → Same V V' → R a v V' → EvRb X scope elt (σ.set i (some v)) V' S (f a)) (hx : ∀ s H C cl fp, Loc (bl X scope s H C cl fp).env.scope x := by first | exact fun _ _ _ _ _ => .inl rfl | exact fun _ _ _ _ _ => .inr rfl)
    (hf : ∀ s H C cl fp, (bl X scope s H C cl fp).fn x = true ∨ (bl X scope s H C cl fp).env.scope.names.lookup x = some .local := by first | exact fun _ _ _ _ _ => .inr rfl | exact fun _ _ _ _ _ => .inl rfl)
    (hs : ∀ x, foldedSetIterable iter X.env x = pure x := by intro _; rfl) : EvR X (.ListComp elt [⟨.Name x px, iter, [], 0⟩] scope pos) σ V (qH (fun zs => ∃ xs, Φ xs ∧ zs = xs.map f) (qL S)) () := by
  obtain ⟨g, hpg, hg⟩ := tgb_name (scope := scope) (px := px) (R := R) hN hi hx hf
  refine ev_of (pe_lc hc hN (pi_list (tg := .Name x px) pe_re) ok hpg (fun s H C cl fp => pts_nil) (fun s H C cl fp => pe_reb (scope := scope) (e := elt)) hs) fun V1 A Q s l q => h V1 A _ s l fun V2 A2 v g2 ⟨xs, hΦ, p, vs, ev, hp, al, _⟩ => ⟨p, ev, ⟨vs, SqL.of (g2.va.at hp)⟩, fun D hD => ?_⟩
  have sv := s.trans g2.vv
  exact lc_read (S := S) (p := fun _ => true) (f := f) (A1 := A2) (walks_lst (X := X) (v := v) hp al) g2.va (hn xs hΦ) hg (fun a σ' V' _ A Q l q => q A (.refl l)) (fun a σ' V' at_ _ => by
    obtain ⟨w', h1, h2, h3, rfl⟩ := at_name (up := fun _ _ _ _ => True) at_
    exact he a w' V' ⟨xs, hΦ, h1⟩ (sv.trans h2) h3) (fun V3 A3 u g3 r => q V3 A3 u (g2.trans g3) ⟨_, ⟨xs, hΦ, rfl⟩, by rwa [List.filter_eq_self.mpr (fun _ _ => rfl)] at r⟩) hD
theorem o_catH {ys : List α} (h : ∀ xs, Φ xs → ys.length + xs.length ≤ sizeLine) [Mo R] : Op2 X (binaryOp .Add) (qL R) ys (qH Φ (qL R)) () (qH (fun zs => ∃ xs, Φ xs ∧ zs = ys ++ xs) (qL R)) () :=
  ⟨_, op_cat, fun V1 A x y Q l ⟨p, vs, e1, hp, al, _⟩ ⟨xs, hΦ, p', us, e2, hp', al', _⟩ q => ⟨p, p', vs, us, e1, e2, l.at hp, l.at hp', by rw [← al.len, ← al'.len]; exact h xs hΦ, fun t ht => by
    have gn : Grow V1 A _ _ := Grow.new (o := .lst (vs ++ us)) l ht
    exact q _ _ _ gn ⟨_, ⟨xs, hΦ, rfl⟩, t, _, rfl, upd_same, (al.mo gn.vv).app (al'.mo gn.vv), by rw [List.length_append]; exact h xs hΦ⟩⟩⟩
theorem f_maxH {Ψ : List Int → Prop} (hc : X.calm = true) (hne : ∀ ns, Ψ ns → ns ≠ []) : Fn1 X (.builtin "max") (qH Ψ (qL qI)) () (qH (fun k => ∃ ns, Ψ ns ∧ k ∈ ns ∧ ∀ y ∈ ns, y ≤ k) qI) () :=
  ⟨_, cr_max hc, fun V1 A x Q l ⟨ns, hΨ, p, vs, ev, hp, al, _⟩ q => ⟨p, ns, by rw [ev], SqL.of (by rw [← al.ints]; exact l.at hp), List.length_pos_iff.mpr (hne ns hΨ), fun k hk hle => q V1 A _ (.refl l) ⟨k, ⟨ns, hΨ, hk, hle⟩, rfl⟩⟩⟩
end
section
variable {P : Program} {w : World} {K : PySem.W.Frag} {mg : Str → Option Value} {base : Heap} {cC cR cS : Addr}
variable (F : Fx K mg cC cR cS)
include F
theorem ok_law_decided : Gfn P w K mg base "_law_decided" 6 (sp3 qPl qP qF (fun x p z => x.ok ∧ x.okOwn p ∧ Sm z.1) (qL qP) Pl.decided) := by
  refine gfn3 F.d_W_decided sc_W_decided rfl fun f cdv A outer s H E v1 v2 v3 x p z V hr r1 r2 r3 hp => ?_
  obtain ⟨ok, ⟨hpp, ho⟩, hz⟩ := hp
  have hol : (x.own p).length ≤ 64 := Nat.le_trans (List.length_filter_le _ _) ok.rl
  refine go_ret (R := qL qP) (a := x.decided p z) (ev_lcf (xs := x.own p) (R := q2 qP qP) (S := qP) (p := fun (q : Pn × Pn) => x.decides p q.2 z) (f := fun (q : Pn × Pn) => q.2) 3 rfl sc_W_decided.nd rfl
    (src_list (ev_c2 ((ok_law_own (P := P) (w := w) (base := base) F).cal (X := bodyX P w K mg base n_W_decided "_law_decided" s_W_decided f cdv A outer s H E) hr (by rfl)) (ev_var (i := 0) rfl (.inr (.inl rfl)) rfl r1) (ev_var (i := 1) rfl (.inr (.inl rfl)) rfl r2) ⟨ok, hpp⟩)) (by rw [sizeLine_eq]; omega) (blkOk_by (N := n_W_decided) (sc := defScope s_W_decided) (by decide +kernel))
    (fun a v V' ha sv ra => fun s0 H1 C cl fp => et_val (EvR.eq (ev_c4 ((ok_law_decides (P := P) (w := w) (base := base) F).cal (X := bl (bodyX P w K mg base n_W_decided "_law_decided" s_W_decided f cdv A outer s H E) _ s0 H1 C cl fp) hr (by rfl)) (ev_var (i := 0) rfl (.inr (.inl rfl)) rfl (Mo.mo sv r1)) (ev_var (i := 1) rfl (.inr (.inl rfl)) rfl (show qP p v2 V' from r2)) (ev_ix1 (ev_var (i := 3) rfl (.inl rfl) rfl ra)) (ev_var (i := 2) rfl (.inr (.inl rfl)) rfl (Mo.mo sv r3)) ⟨ok, hpp, (ho a ha).1, (ho a ha).2, hz⟩) rfl))
    (fun a v V' ha _ sv ra => fun _ _ _ _ _ => ev_ix1 (ev_var (i := 3) rfl (.inl rfl) rfl ra))) fun V' v s r => r
theorem ok_law_lift : Gfn P w K mg base "_law_lift" 7 (sp2 qPl qP (fun x p => x.ok ∧ x.okOwn p) (fun (z : Pl × Pn) v V => qLift z.2 z.1 v V) (fun x p => (x, p))) := by
  refine gfn2 F.d_W_lift sc_W_lift rfl fun f cdv A outer s H E v1 v2 x p V hr r1 r2 hp => ?_
  obtain ⟨ok, oo⟩ := hp
  have hn : x.n p ≤ 6 := ok.rn p
  have sm : ∀ z ∈ x.wor p, Sm z.1 := fun z hz => by
    obtain ⟨ms, h1, rfl⟩ := List.mem_map.mp hz
    obtain ⟨h2, h3⟩ := List.mem_filter.mp h1
    have b := mGath_bd (g := x.ga) (t := x.trim) (mks_bun h2 (by have := of_decide_eq_true h3; omega) (by omega) (by have := ok.m3; omega))
    exact sm100 b.1 b.2.1
  have hM : ∀ ns : List Int, (∃ xs, (∃ ws : List Fr, ((∀ z, z ∈ ws ↔ z ∈ x.wor p) ∧ ws.length ≤ 8192) ∧ xs = ws.map fun w => ((x.decided p w).length : Int)) ∧ ns = [(0 : Int)] ++ xs) → ns ≠ [] := fun ns ⟨xs, _, e⟩ => by rw [e]; simp
  refine go_ret (EvR.conv (b := (x, p)) (S := fun (z : Pl × Pn) v V => qLift z.2 z.1 v V) (ev_b1 (f_maxH rfl hM) (by rfl) F.m_max PyProof.Rows.boot_max (ev_bin (o_catH (ys := [(0 : Int)]) (fun xs ⟨ws, ⟨_, hl⟩, e⟩ => by rw [e, List.length_map, sizeLine_eq]; simp; omega)) (ev_lst (el_cons ev_int el_nil) (show 1 ≤ sizeLine by decide))
    (ev_lcnH (R := qF) (S := qI) (Φ := fun ws => (∀ z, z ∈ ws ↔ z ∈ x.wor p) ∧ ws.length ≤ 8192) (f := fun w => ((x.decided p w).length : Int)) 2 rfl sc_W_lift.nd rfl (EvR.conv (ev_c2 ((ok_worths (P := P) (w := w) (base := base) F).cal (X := bodyX P w K mg base n_W_lift "_law_lift" s_W_lift f cdv A outer s H E) hr (by rfl)) (ev_var (i := 0) rfl (.inr (.inl rfl)) rfl r1) (ev_var (i := 1) rfl (.inr (.inl rfl)) rfl r2) ok) fun v V' _ r => r) (fun xs h => by rw [sizeLine_eq]; have := h.2; omega)
      (blkOk_by (N := n_W_lift) (sc := defScope s_W_lift) (by decide +kernel)) (fun a v V' ⟨xs, h1, h2⟩ sv ra => fun s0 H1 C cl fp => ev_b1 f_lenL (by rfl) F.m_len PySem.boot_len (ev_c3 ((ok_law_decided (P := P) (w := w) (base := base) F).cal (X := bl (bodyX P w K mg base n_W_lift "_law_lift" s_W_lift f cdv A outer s H E) _ s0 H1 C cl fp) hr (by rfl)) (ev_var (i := 0) rfl (.inr (.inl rfl)) rfl (Mo.mo sv r1)) (ev_var (i := 1) rfl (.inr (.inl rfl)) rfl (show qP p v2 V' from r2)) (ev_var (i := 2) rfl (.inl rfl) rfl ra) ⟨ok, oo, sm a ((h1.1 a).mp h2)⟩)))))
    fun v V' _ ⟨k, ⟨ns, ⟨xs, ⟨ws, ⟨h1, h2⟩, e1⟩, e2⟩, h3, h4⟩, rk⟩ => ⟨k, ⟨ws, h1, by subst e1; subst e2; exact h3, by subst e1; subst e2; exact h4⟩, rk⟩) fun V' v s r => r
end
end Om
set_option maxHeartbeats 4000000
/-! Om, the law's defs: turned, passes, rank. -/
namespace Om
open PySem PySem.Spec PyProof.Rows L2
/-- what is known: each member's score, if any -/
def qKn : Rf (List (Pn × Option Fr)) := qDk qP (qO qF)
instance : Mo qKn := inferInstanceAs (Mo (qDk qP (qO qF)))
def kv (kn : List (Pn × Option Fr)) (p : Pn) : Fr := ((dg kn p).getD none).getD (0, 1)
/-- one stands ahead of other -/
def mPass (pp : List Pn) (a b : Fr) (one other : Pn) : Bool := if a = b then decide ((pp.idxOf one : Int) < (pp.idxOf other : Int)) else mLess b a
def Kno (kn : List (Pn × Option Fr)) (p : Pn) : Prop := dg kn p = some (some (kv kn p)) ∧ Sm (kv kn p).1
section
variable {P : Program} {w : World} {K : PySem.W.Frag} {mg : Str → Option Value} {base : Heap} {cC cR cS : Addr}
variable (F : Fx K mg cC cR cS)
include F
theorem ok_turned : Gfn P w K mg base "_law_turned" 1 (sp2 qS (qL qI) (fun y ms => y = "plain" ∧ ms.length ≤ 8) (qL qF) (fun _ ms => told ms)) := by
  refine gfn2 F.d_W_turned sc_W_turned rfl fun f cdv A outer s H E v1 v2 y ms V hr r1 r2 hp => ?_
  obtain ⟨rfl, hl⟩ := hp
  refine go_if (et_cmp (o_eqS) (ev_var (i := 0) rfl (.inl rfl) rfl r1) ev_str) (fun _ => ?_) (fun h => ?_)
  · exact go_ret (R := qL qF) (a := told ms) (ev_lcn (f := fun (m : Int) => (m, (1 : Int))) (S := qF) 2 rfl sc_W_turned.nd rfl (src_list (ev_var (i := 1) rfl (.inr (.inl rfl)) rfl r2)) (by rw [sizeLine_eq]; omega) (blkOk_by (N := n_W_turned) (sc := defScope s_W_turned) (by decide +kernel)) (fun a v V' ha sv ra => fun _ _ _ _ _ => ev_tup2 (ev_var (i := 2) rfl (.inl rfl) rfl ra) ev_int)) fun V' v s r => r
  · exact absurd h (by decide)
theorem ok_passes : Gfn P w K mg base "_law_passes" 2 (sp4 qPl qKn qP qP (fun x kn i j => i ∈ x.pp ∧ j ∈ x.pp ∧ Kno kn i ∧ Kno kn j) qB (fun x kn i j => mPass x.pp (kv kn i) (kv kn j) i j)) := by
  refine gfn4 F.d_W_passes sc_W_passes rfl fun f cdv A outer s H E v1 v2 v3 v4 x kn i j V hr r1 r2 r3 r4 hp => ?_
  obtain ⟨hi, hj, ⟨ki, si⟩, kj, sj⟩ := hp
  have hu : (bodyX P w K mg base n_W_passes "_law_passes" s_W_passes f cdv A outer s H E).A.units + 1 < cLine := by have := hr.units; omega
  have x0 := fun p => ev_var (X := bodyX P w K mg base n_W_passes "_law_passes" s_W_passes f cdv A outer s H E) (σ := start n_W_passes [v1, v2, v3, v4]) (pos := p) (i := 0) rfl (.inl rfl) rfl r1
  have x2 := fun p => ev_var (X := bodyX P w K mg base n_W_passes "_law_passes" s_W_passes f cdv A outer s H E) (σ := start n_W_passes [v1, v2, v3, v4]) (V := V) (R := qP) (a := i) (pos := p) (i := 2) rfl (.inl rfl) rfl r3
  have x3 := fun p => ev_var (X := bodyX P w K mg base n_W_passes "_law_passes" s_W_passes f cdv A outer s H E) (σ := start n_W_passes [v1, v2, v3, v4]) (V := V) (R := qP) (a := j) (pos := p) (i := 3) rfl (.inl rfl) rfl r4
  have gi : ∀ p p' p'', EvR (bodyX P w K mg base n_W_passes "_law_passes" s_W_passes f cdv A outer s H E) (.Subscript (.Name "_law_known" p) (.Name "_law_one" p') p'') (start n_W_passes [v1, v2, v3, v4]) V qF (kv kn i) := fun p p' p'' => EvR.conv (ev_getK (R := qP) (S := qO qF) hu (ev_var (i := 1) rfl (.inl rfl) rfl r2) (x2 _) ki) fun v V' _ r => r
  have gj : ∀ p p' p'', EvR (bodyX P w K mg base n_W_passes "_law_passes" s_W_passes f cdv A outer s H E) (.Subscript (.Name "_law_known" p) (.Name "_law_other" p') p'') (start n_W_passes [v1, v2, v3, v4]) V qF (kv kn j) := fun p p' p'' => EvR.conv (ev_getK (R := qP) (S := qO qF) hu (ev_var (i := 1) rfl (.inl rfl) rfl r2) (x3 _) kj) fun v V' _ r => r
  refine go_if (hW := Sees.self) (et_cmp (o_eqD (R := qF) (by have := hr.units; omega)) (gi _ _ _) (gj _ _ _)) (fun h => ?_) (fun h => go_nil ?_)
  · refine go_ret (ev_cmp o_lt (ev_idx (ev_gets hu (x0 _) pl_pp) (x2 _) hi) (ev_idx (ev_gets hu (x0 _) pl_pp) (x3 _) hj)) fun V' v s r => ?_
    show qB (mPass x.pp (kv kn i) (kv kn j) i j) v V'
    unfold mPass
    rw [if_pos (of_decide_eq_true h)]
    exact r
  · refine go_ret (ev_c2 ((ok_law_less (P := P) (w := w) (base := base) F).cal (X := bodyX P w K mg base n_W_passes "_law_passes" s_W_passes f cdv A outer s H E) hr (by rfl)) (gj _ _ _) (gi _ _ _) ⟨sj, si⟩) fun V' v s r => ?_
    show qB (mPass x.pp (kv kn i) (kv kn j) i j) v V'
    unfold mPass
    rw [if_neg (of_decide_eq_false h)]
    exact r
end
end Om
set_option maxHeartbeats 4000000
/-! Om, the law's defs: rank. -/
namespace Om
open PySem PySem.Spec PyProof.Rows L2
def mRank (x : Pl) (kn : List (Pn × Option Fr)) (p : Pn) : Int := 1 + (((mLst x.lists p).filter fun i => !decide (i = p) && mPass x.pp (kv kn i) (kv kn p) i p).length : Int)
section
variable {P : Program} {w : World} {K : PySem.W.Frag} {mg : Str → Option Value} {base : Heap} {cC cR cS : Addr}
variable (F : Fx K mg cC cR cS)
include F
theorem ok_rank : Gfn P w K mg base "_law_rank" 3 (sp3 qPl qKn qP (fun x kn p => x.ok ∧ p ∈ x.pp ∧ (mLst x.lists p).length ≤ 8 ∧ ∀ i ∈ mLst x.lists p, i ∈ x.pp ∧ (i ≠ p → Kno kn i ∧ Kno kn p)) qI mRank) := by
  refine gfn3 F.d_W_rank sc_W_rank rfl fun f cdv A outer s H E v1 v2 v3 x kn p V hr r1 r2 r3 hp => ?_
  obtain ⟨ok, hpp, hl, hi⟩ := hp
  refine go_ret (R := qI) (a := mRank x kn p) (EvR.eq (ev_bin o_add ev_int (ev_b1 f_lenL (by rfl) F.m_len PySem.boot_len (ev_lcf (xs := mLst x.lists p) (R := qP) (S := qP) (p := fun i => !decide (i = p) && mPass x.pp (kv kn i) (kv kn p) i p) (f := fun (i : Pn) => i) 3 rfl sc_W_rank.nd rfl
    (src_list (ev_c2 (a := x.lists) (b := p) ((ok_law_list (P := P) (w := w) (base := base) F).cal (X := bodyX P w K mg base n_W_rank "_law_rank" s_W_rank f cdv A outer s H E) hr (by rfl)) (EvR.conv (ev_var (i := 0) rfl (.inr (.inl rfl)) rfl r1) fun v V' _ rr => pl_PL rr) (ev_var (R := qP) (a := p) (i := 2) rfl (.inr (.inl rfl)) rfl r3) ⟨ok.inl p hpp, by have := ok.ll; omega⟩)) (by rw [sizeLine_eq]; omega) (blkOk_by (N := n_W_rank) (sc := defScope s_W_rank) (by decide +kernel))
    (fun a v V' ha sv ra => fun s0 H1 C cl fp => et_w (ew_and (et_cmp o_neP (ev_var (i := 3) rfl (.inl rfl) rfl ra) (ev_var (R := qP) (a := p) (i := 2) rfl (.inr (.inl rfl)) rfl (show qP p v3 V' from r3))) fun hne => ew_and1 (et_val (EvR.eq (ev_c4 ((ok_passes (P := P) (w := w) (base := base) F).cal (X := bl (bodyX P w K mg base n_W_rank "_law_rank" s_W_rank f cdv A outer s H E) _ s0 H1 C cl fp) hr (by rfl)) (ev_var (i := 0) rfl (.inr (.inl rfl)) rfl (Mo.mo sv r1)) (ev_var (i := 1) rfl (.inr (.inl rfl)) rfl (Mo.mo sv r2)) (ev_var (i := 3) rfl (.inl rfl) rfl ra) (ev_var (R := qP) (a := p) (i := 2) rfl (.inr (.inl rfl)) rfl (show qP p v3 V' from r3))
      ⟨(hi a ha).1, hpp, (hi a ha).2 (by simpa using hne)⟩) rfl))))
    (fun a v V' ha _ sv ra => fun _ _ _ _ _ => ev_var (i := 3) rfl (.inl rfl) rfl ra)))) ?_) fun V' v s r => r
  rw [List.map_id']
  rfl
end
end Om
set_option maxHeartbeats 4000000
/-! Om, part N10: dict(zip(xs, ys)). -/
namespace Om
open PySem PySem.Spec PyProof.Rows L2
/-- what zip(l1, l2) lays -/
def zipH (H : Hp) (lo l1 l2 : Addr) : Hp := fun b =>
  if b = lo then some (.ext fun h => h.IsListIter lo l1 0)
  else if b = lo + 1 then some (.ext fun h => h.IsListIter (lo + 1) l2 0)
  else if b = lo + 2 then some (.ext fun h => IsPair h (lo + 2) (.ref lo) (.ref (lo + 1)))
  else if b = lo + 3 then some (.ext fun h => IsPair h (lo + 3) .none .none)
  else if b = lo + 4 then some (.ext fun h => IsZip h (lo + 4) (lo + 2) (lo + 3) .none)
  else H b
theorem zipH_cases {H : Hp} {lo l1 l2 b : Addr} {o : HO} (e : zipH H lo l1 l2 b = some o) :
    (b = lo ∧ o = .ext fun h => h.IsListIter lo l1 0) ∨ (b = lo + 1 ∧ o = .ext fun h => h.IsListIter (lo + 1) l2 0) ∨ (b = lo + 2 ∧ o = .ext fun h => IsPair h (lo + 2) (.ref lo) (.ref (lo + 1))) ∨
    (b = lo + 3 ∧ o = .ext fun h => IsPair h (lo + 3) .none .none) ∨ (b = lo + 4 ∧ o = .ext fun h => IsZip h (lo + 4) (lo + 2) (lo + 3) .none) ∨ (b ≠ lo ∧ b ≠ lo + 1 ∧ b ≠ lo + 2 ∧ b ≠ lo + 3 ∧ b ≠ lo + 4 ∧ H b = some o) := by
  unfold zipH at e
  split at e
  · exact .inl ⟨by assumption, (Option.some.inj e).symm⟩
  split at e
  · exact .inr (.inl ⟨by assumption, (Option.some.inj e).symm⟩)
  split at e
  · exact .inr (.inr (.inl ⟨by assumption, (Option.some.inj e).symm⟩))
  split at e
  · exact .inr (.inr (.inr (.inl ⟨by assumption, (Option.some.inj e).symm⟩)))
  split at e
  · exact .inr (.inr (.inr (.inr (.inl ⟨by assumption, (Option.some.inj e).symm⟩))))
  · exact .inr (.inr (.inr (.inr (.inr ⟨by assumption, by assumption, by assumption, by assumption, by assumption, e⟩))))
theorem zipH_out {H : Hp} {lo l1 l2 b : Addr} (h : b < lo) : zipH H lo l1 l2 b = H b := by
  unfold zipH
  rw [if_neg (Nat.ne_of_lt h), if_neg (Nat.ne_of_lt (Nat.lt_of_lt_of_le h (Nat.le_add_right _ _))), if_neg (Nat.ne_of_lt (Nat.lt_of_lt_of_le h (Nat.le_add_right _ _))), if_neg (Nat.ne_of_lt (Nat.lt_of_lt_of_le h (Nat.le_add_right _ _))), if_neg (Nat.ne_of_lt (Nat.lt_of_lt_of_le h (Nat.le_add_right _ _)))]
theorem call_zip {X : Cx} : CallR X (.type "zip") (fun xs H Q => ∃ l1 l2 us vs, xs = [L2.V.ref l1, .ref l2] ∧ SqL X.K H l1 us ∧ SqL X.K H l2 vs ∧ ∀ lo, (∀ b, lo ≤ b → H b = none) → X.s_0.heap.objs.size ≤ lo → Q (.ref (lo + 4)) (zipH H lo l1 l2)) := by
  rintro pins s σ H xs us0 Q I r ⟨l1, l2, us, vs, rfl, h1, h2, q⟩
  obtain ⟨u1, u2, rfl, r1, r2⟩ := vals2 r
  cases r1
  cases r2
  obtain ⟨it1, rv1, p1, _⟩ := I.list h1
  obtain ⟨it2, rv2, p2, _⟩ := I.list h2
  have fr : ∀ b, s.heap.objs.size ≤ b → H b = none := fun b hb => I.hok.fresh hb
  refine call_zip_2 p1.isList p2.isList fun h' a1 a2 a3 a4 a5 a6 k => ⟨.ref (s.heap.objs.size + 4), zipH H s.heap.objs.size l1 l2, I.un (t' := s.toks) ⟨fun b o e _ _ _ => k b o e, fun b o e _ _ _ => ⟨o.slots, k b o e⟩, fun b o e n _ => ?_, fun b o e _ => ⟨o, k b o e⟩, fun b xs e => ?_, fun b o u e => ?_, fun b ps e => ⟨#[], ?_⟩⟩ fun b o e => ?_, rfl, q _ fr I.sz⟩
  · rw [zipH_out (Heap.lt_size e)]; exact n
  · rw [zipH_out (I.hok.lt e)]; exact e
  · rw [zipH_out (I.hok.lt e)]; exact e
  · rw [zipH_out (I.hok.lt e)]; simpa using e
  · rcases zipH_cases e with ⟨rfl, rfl⟩ | ⟨rfl, rfl⟩ | ⟨rfl, rfl⟩ | ⟨rfl, rfl⟩ | ⟨rfl, rfl⟩ | ⟨_, _, _, _, _, e'⟩
    · exact ⟨a4, ⟨_, a4.choose_spec.1⟩, fun k1 k2 ⟨o, f, g⟩ kk => ⟨o, kk o f, g⟩⟩
    · exact ⟨a5, ⟨_, a5.choose_spec.1⟩, fun k1 k2 ⟨o, f, g⟩ kk => ⟨o, kk o f, g⟩⟩
    · exact ⟨a2, ⟨_, a2⟩, fun k1 k2 f kk => kk _ f⟩
    · exact ⟨a3, ⟨_, a3⟩, fun k1 k2 f kk => kk _ f⟩
    · exact ⟨a1, ⟨_, a1⟩, fun k1 k2 f kk => kk _ f⟩
    · refine (I.hok b o e').stay (fun c u _ z => k c u z) (fun c z => ?_) fun c xs z => ?_
      · rw [zipH_out (I.hok.lt z)]; exact z
      · rw [zipH_out (I.hok.lt z)]; exact z
theorem kv_zip {kvs : List (Key × Vl)} : ∀ {us : List Value}, Vals (kvs.map (·.2)) us → KV kvs ((kvs.map (·.1)).zip us) := by
  induction kvs with
  | nil =>
    intro us r
    exact .nil
  | cons x kvs ih =>
    intro us r
    rw [List.map_cons] at r
    cases r with
    | cons h t => exact .cons ⟨rfl, h⟩ (ih t)
theorem zipH_ext {H : Hp} {lo l1 l2 b : Addr} (h : b = lo ∨ b = lo + 1 ∨ b = lo + 2 ∨ b = lo + 3 ∨ b = lo + 4) : ∃ φ, zipH H lo l1 l2 b = some (.ext φ) := by
  cases q : zipH H lo l1 l2 b with
  | none =>
    unfold zipH at q
    rcases h with rfl | rfl | rfl | rfl | rfl <;> simp at q
  | some o =>
    rcases zipH_cases q with ⟨_, rfl⟩ | ⟨_, rfl⟩ | ⟨_, rfl⟩ | ⟨_, rfl⟩ | ⟨_, rfl⟩ | ⟨n0, n1, n2, n3, n4, _⟩
    · exact ⟨_, rfl⟩
    · exact ⟨_, rfl⟩
    · exact ⟨_, rfl⟩
    · exact ⟨_, rfl⟩
    · exact ⟨_, rfl⟩
    · rcases h with z | z | z | z | z
      · exact absurd z n0
      · exact absurd z n1
      · exact absurd z n2
      · exact absurd z n3
      · exact absurd z n4
theorem zip_apart {lo l1 l2 : Nat} (h1 : l1 < lo) (h2 : l2 < lo) : ZipApart (lo + 4) (lo + 2) (lo + 3) lo (lo + 1) l1 l2 := by
  constructor <;> (show (_ : Nat) ≠ _) <;> omega
theorem vals_at : ∀ {xs : List Vl} {us : List Value} {i : Nat} {u : Value}, Vals xs us → us[i]? = some u → ∃ v, xs[i]? = some v ∧ RelV v u
  | _, _, _, _, .nil, e => by simp at e
  | _, _, 0, _, .cons r _, e => by
    simp at e
    subst e
    exact ⟨_, rfl, r⟩
  | _, _, i + 1, u, .cons _ t, e => by
    obtain ⟨v, h1, h2⟩ := vals_at (i := i) (u := u) t (by simpa using e)
    exact ⟨v, by simpa using h1, h2⟩
theorem zipH_none {H : Hp} {lo l1 l2 b : Addr} (e : zipH H lo l1 l2 b = none) : H b = none := by
  unfold zipH at e
  split at e
  · cases e
  split at e
  · cases e
  split at e
  · cases e
  split at e
  · cases e
  split at e
  · cases e
  · exact e
theorem zipH_back {H : Hp} {lo l1 l2 b : Addr} {o : HO} (e : zipH H lo l1 l2 b = some o) (h : ∀ φ, o ≠ .ext φ) : H b = some o := by
  rcases zipH_cases e with ⟨_, rfl⟩ | ⟨_, rfl⟩ | ⟨_, rfl⟩ | ⟨_, rfl⟩ | ⟨_, rfl⟩ | ⟨_, _, _, _, _, e'⟩
  · exact absurd rfl (h _)
  · exact absurd rfl (h _)
  · exact absurd rfl (h _)
  · exact absurd rfl (h _)
  · exact absurd rfl (h _)
  · exact e'
theorem call_dictZ {X : Cx} (hc : X.calm = true) : CallR X (.type "dict") (fun xs H Q => ∃ (H0 : Hp) (lo l1 l2 : Addr) (kvs : List (Key × Vl)), xs = [L2.V.ref (lo + 4)] ∧ H = zipH H0 lo l1 l2 ∧ (∀ b, lo ≤ b → H0 b = none) ∧ X.s_0.heap.objs.size ≤ lo ∧ H0 l1 = some (.lst (kvs.map fun x => kV x.1)) ∧ H0 l2 = some (.lst (kvs.map (·.2))) ∧
    ∀ p, H0 p = none → Q (.ref p) (upd H0 p (.dK (mergeK [] kvs)))) := by
  rintro pins s σ H xs us0 Q I r ⟨H0, lo, l1, l2, kvs, rfl, rfl, fr, hlo, h1, h2, q⟩
  obtain ⟨u, rfl, ru⟩ := r.one
  cases ru
  have lt0 : ∀ b o, H0 b = some o → b < lo := fun b o e => by
    rcases Nat.lt_or_ge b lo with z | z
    · exact z
    · rw [fr b z] at e; cases e
  have out : ∀ b o, H0 b = some o → zipH H0 lo l1 l2 b = some o := fun b o e => by rw [zipH_out (lt0 b o e)]; exact e
  have g : ∀ b, (b = lo ∨ b = lo + 1 ∨ b = lo + 2 ∨ b = lo + 3 ∨ b = lo + 4) → zipH H0 lo l1 l2 b ≠ none := fun b hb => by
    obtain ⟨φ, e⟩ := zipH_ext (H := H0) (l1 := l1) (l2 := l2) hb
    rw [e]
    exact fun z => nomatch z
  obtain ⟨it1, rv1, p1, z1⟩ := I.list (SqL.of (out _ _ h1))
  obtain ⟨it2, rv2, p2, z2⟩ := I.list (SqL.of (out _ _ h2))
  have c0 : s.heap.IsListIter lo l1 0 := (I.hok lo (.ext fun h => h.IsListIter lo l1 0) (by unfold zipH; rw [if_pos rfl])).1
  have c1 : s.heap.IsListIter (lo + 1) l2 0 := (I.hok (lo + 1) (.ext fun h => h.IsListIter (lo + 1) l2 0) (by unfold zipH; simp)).1
  have c2 : IsPair s.heap (lo + 2) (.ref lo) (.ref (lo + 1)) := (I.hok (lo + 2) (.ext fun h => IsPair h (lo + 2) (.ref lo) (.ref (lo + 1))) (by unfold zipH; simp)).1
  have c3 : IsPair s.heap (lo + 3) .none .none := (I.hok (lo + 3) (.ext fun h => IsPair h (lo + 3) .none .none) (by unfold zipH; simp)).1
  have c4 : IsZip s.heap (lo + 4) (lo + 2) (lo + 3) .none := (I.hok (lo + 4) (.ext fun h => IsZip h (lo + 4) (lo + 2) (lo + 3) .none) (by unfold zipH; simp)).1
  have n1 := rv1.length
  have n2 := rv2.length
  rw [List.length_map] at n1 n2 z1
  have rel := kv_zip rv2
  refine PySem.call_dict_pairs (knd := mixKind X.prog X.w) (kvs := (kvs.map (·.1)).zip it2) (PairArg.zip (lo + 4) (lo + 2) (lo + 3) lo (lo + 1) l1 l2 (zip_apart (lt0 _ _ h1) (lt0 _ _ h2)) it1.toArray it2.toArray) (I.ok.hd hc) ⟨c4, c2, ⟨_, _, c3⟩, c0, c1, p1.isList, p2.isList⟩ ⟨?_, fun i key v ⟨e1, e2⟩ => ?_⟩ ?_ fun h' tk hd' k => ?_
  · simp [← n1, ← n2]
  · rw [List.getElem?_toArray] at e1 e2
    have hi : i < kvs.length := by rw [n1]; exact (List.getElem?_eq_some_iff.mp e1).1
    refine ⟨kvs[i].1, ?_, ?_⟩
    · rw [List.getElem?_zip_eq_some]
      exact ⟨by rw [List.getElem?_map, List.getElem?_eq_getElem hi]; rfl, e2⟩
    · obtain ⟨v', w1, w2⟩ := vals_at rv1 e1
      rw [List.getElem?_map, List.getElem?_eq_getElem hi] at w1
      cases w1
      exact kV_is w2
  · simp [← n1, ← n2]
    exact z1
  · have hm : (s.heap.objs.size == sysModules) = false := beq_eq_false_iff_ne.mpr (Nat.ne_of_gt I.big)
    have hlen : (mergeK [] kvs).length ≤ sizeLine := by
      refine Nat.le_trans (length_mergeK kvs []) ?_
      rw [List.length_nil, Nat.zero_add]
      exact z1
    have up : lo + 4 < s.heap.objs.size := Heap.lt_size (show s.heap.get? (lo + 4) = some _ from c4)
    have hp0 : H0 s.heap.objs.size = none := fr _ (Nat.le_of_lt (Nat.lt_of_le_of_lt (Nat.le_add_right _ _) up))
    have np : ∀ b o, H0 b = some o → b ≠ s.heap.objs.size := fun b o e z => by rw [z, hp0] at e; cases e
    have nch : ∀ b o, H0 b = some o → b ∉ [lo + 4, lo + 3, lo, lo + 1] := fun b o e z => by
      have hb := lt0 b o e
      simp only [List.mem_cons, List.not_mem_nil, or_false] at z
      rcases z with rfl | rfl | rfl | rfl
      · exact absurd hb (Nat.not_lt.mpr (Nat.le_add_right _ _))
      · exact absurd hb (Nat.not_lt.mpr (Nat.le_add_right _ _))
      · exact absurd hb (Nat.lt_irrefl _)
      · exact absurd hb (Nat.not_lt.mpr (Nat.le_add_right _ _))
    have gch : ∀ b ∈ [lo + 4, lo + 3, lo, lo + 1], lo ≤ b ∧ zipH H0 lo l1 l2 b ≠ none := fun b hb => by
      simp only [List.mem_cons, List.not_mem_nil, or_false] at hb
      rcases hb with rfl | rfl | rfl | rfl
      · exact ⟨Nat.le_add_right _ _, g _ (by simp)⟩
      · exact ⟨Nat.le_add_right _ _, g _ (by simp)⟩
      · exact ⟨Nat.le_refl _, g _ (by simp)⟩
      · exact ⟨Nat.le_add_right _ _, g _ (by simp)⟩
    have nfree : ∀ b, zipH H0 lo l1 l2 b = none → b ∉ [lo + 4, lo + 3, lo, lo + 1] := fun b e z => (gch b z).2 e
    refine ⟨.ref s.heap.objs.size, upd H0 s.heap.objs.size (.dK (mergeK [] kvs)), I.step (g' := s.gens) (d' := s.drawn) (t' := tk) (ch := [lo + 4, lo + 3, lo, lo + 1]) (fun b hb => ?_) (fun b o _ _ hc e _ => k b o hc e) (fun b o _ _ hc e _ => ⟨o.slots, k b o hc e⟩) (fun b o hc e n => ?_) (fun b o hc e => ⟨o, k b o hc e⟩) (fun b xs e => ?_) (fun b o u e => ?_) (fun b ps e => ⟨#[], ?_⟩) (fun m hm => ?_) (fun b o e => ?_) I.bare, rfl, q _ hp0⟩
    · obtain ⟨h1', h2'⟩ := gch b hb
      exact ⟨.inr (Nat.le_trans hlo h1'), fun z => h2' (by rw [z]; exact I.free), fun x c e z => h2' (by rw [← z]; exact I.freeC x c e), fun p hp z => h2' (by rw [← z]; exact (I.pin p hp).2.1)⟩
    · rw [upd_ne (Nat.ne_of_lt (Heap.lt_size e))]
      exact zipH_none n
    · have e' := zipH_back e fun _ z => nomatch z
      rw [upd_ne (np _ _ e')]
      exact e'
    · have e' := zipH_back e fun _ z => nomatch z
      rw [upd_ne (np _ _ e')]
      exact e'
    · have e' := zipH_back e fun _ z => nomatch z
      rw [upd_ne (np _ _ e')]
      simpa using e'
    · obtain ⟨o, es, ep, ho, r⟩ := hm
      exact ⟨o, es, ep, k _ o (nfree _ I.free) ho, r⟩
    · by_cases hb : b = s.heap.objs.size
      · subst hb
        rw [upd_same] at e
        cases e
        exact (show ObjOk X.prog X.w _ _ _ (.dK (mergeK [] kvs)) from ⟨hlen, hm, merged [] ((kvs.map (·.1)).zip it2), KV.merge rel .nil, hd'⟩)
      · rw [upd_ne hb] at e
        refine (I.hok b o (out b o e)).stay (fun c u hc z => k c u ?_ z) (fun c z => ?_) fun c xs z => ?_
        · rcases hc with rfl | hc
          · exact nch _ o e
          · exact nch _ _ (zipH_back hc fun _ z => nomatch z)
        · have e' := zipH_back z fun _ z => nomatch z
          rw [upd_ne (np _ _ e')]
          exact e'
        · have e' := zipH_back z fun _ z => nomatch z
          rw [upd_ne (np _ _ e')]
          exact e'
end Om
set_option maxHeartbeats 4000000
/-! Om, part N11: new owned things by an expression; dict(zip(..)), dict([(k, v) ..]). -/
namespace Om
open PySem PySem.Spec PyProof.Rows L2
section
variable {X : Cx} {σ : L2.St} {V M : Hp} {α β κ : Type} [DecidableEq κ] {R : Rf κ} {S : Rf β} {a : α} {e e1 e2 : Expr} {pos p1 p2 px : Pos} {P : Post} {rest : List Stmt} {x : Str}
/-- a new thing, owned by whoever asks -/
def EvN (X : Cx) (e : Expr) (σ : L2.St) (V : Hp) (Φ : HO → Hp → Prop) : Prop :=
  ∀ V1 A (Q : VK), Same V V1 → Le V1 A → (∀ V2 A2 d o, Grow V1 A V2 A2 → A2 d = none → Φ o V2 → Q (.ref d) (upd A2 d o)) → RE X e σ A Q
theorem go_setN {Φ : HO → Hp → Prop} {i : Nat} (hN : X.N.Nodup) (hi : X.N[i]? = some x) (hx : Loc X.env.scope x) (h : EvN X e σ V Φ) (ht : ∀ o V', Φ o V' → ∀ xs, o ≠ .tup xs) (k : ∀ V' d o, Same V V' → M d = none → V' d = none → Φ o V' → Go X rest (σ.set i (some (.ref d))) V' (upd M d o) P)
    (hs : swapsWith e (some (.Name x px)) pos.line X.env = pure false := by rfl) (hf : X.fn x = true ∨ X.env.scope.names.lookup x = some .local := by first | exact .inl rfl | exact .inr rfl) : Go X (.Assign [.Name x px] e pos :: rest) σ V M P :=
  go_of (ps_set hN hi hx pe_re hs hf) fun A D w f => h V A _ (Same.refl _) w.va fun V2 A2 d o g hd hΦ => by
    have w2 := (g.stp w).ow
    exact go_next f ((g.stp w).trans (Stp.make w2 hd (ht o V2 hΦ))) (k V2 d o g.vv (by
      cases q : M d with
      | none => rfl
      | some u => rw [w2.ma d u q] at hd; cases hd) (w2.va.free hd) hΦ)
/-- .. locked for good at once -/
theorem EvN.fix {Φ : HO → Hp → Prop} {α : Type} {T : Rf α} {a : α} (h : EvN X e σ V Φ) (mu : ∀ o V', Φ o V' → Mut (some o)) (k : ∀ d o od V', V' d = none → Φ o V' → T a (.ref d) (upd V' d (.frz od o))) : EvR X e σ V T a := by
  intro V1 A Q s l q
  refine re_fix (h V1 A _ s l fun V2 A2 d o g hd hΦ => ⟨d, o, rfl, upd_same, mu o V2 hΦ, fun od => ?_⟩)
  have g2 : Grow V1 A V2 (upd A2 d o) := g.trans (Grow.new g.va hd).drop
  exact q _ _ _ (g2.fix l (none_back g.aa hd)) (k d o od V2 (g.va.free hd) hΦ)

theorem Pr.merge [KeyK R] {H : Hp} : ∀ {l l0 : List (κ × β)} {ks k0 : List (Key × Vl)}, Pr (KeyK.enc R) S l ks H → Pr (KeyK.enc R) S l0 k0 H → Pr (KeyK.enc R) S (l.foldl (fun acc x => dput acc x.1 x.2) l0) (mergeK k0 ks) H
  | [], _, _, _, .nil, h => h
  | _ :: _, _, _, _, .cons (b := y) r t, h => by
    unfold mergeK
    rw [List.foldl_cons, List.foldl_cons, r.1]
    exact Pr.merge t (h.put (KeyK.inj (R := R)) r.2)
theorem al_zip [KeyK R] {H : Hp} : ∀ {xs : List κ} {ys : List β} {vs us : List Vl}, Al R xs vs H → Al S ys us H → xs.length = ys.length → ∃ ks : List (Key × Vl), vs = (ks.map fun z => kV z.1) ∧ us = ks.map (·.2) ∧ Pr (KeyK.enc R) S (xs.zip ys) ks H
  | [], [], _, _, .nil, .nil, _ => ⟨[], rfl, rfl, .nil⟩
  | _ :: _, [], _, _, .cons _ _, .nil, h => by simp at h
  | [], _ :: _, _, _, .nil, .cons _ _, h => by simp at h
  | x :: _, y :: _, _, _, .cons (b := v) r t, .cons (b := u) r2 t2, h => by
    obtain ⟨ks, h1, h2, h3⟩ := al_zip t t2 (by simpa using h)
    exact ⟨(KeyK.enc R x, u) :: ks, by rw [h1, List.map_cons, KeyK.iff.mp r], by rw [h2, List.map_cons], .cons ⟨rfl, r2⟩ h3⟩
/-- dict(zip(e1, e2)) -/
theorem en_dz [KeyK R] [Mo R] [Mo S] {xs : List κ} {ys : List β} {q1 q2 : Pos} (hc : X.calm = true) (hg1 : Gl X "zip") (hm1 : X.mg "zip" = none) (hg2 : Gl X "dict") (hm2 : X.mg "dict" = none) (h1 : EvR X e1 σ V (qL R) xs) (h2 : EvR X e2 σ V (qL S) ys) (hl : xs.length = ys.length)
    (he : starEach [e1, e2] X.env = (false, eval e1 X.env) :: starEach [e2] X.env := by rfl) (he2 : starEach [e2] X.env = (false, eval e2 X.env) :: starEach [] X.env := by rfl)
    (hpl : (backTo q2 (starEach [e2] X.env)).any (·.1) = false := by rfl) (he0 : starEach [.Call (.Name "zip" q1) [e1, e2] [] q2] X.env = (false, eval (.Call (.Name "zip" q1) [e1, e2] [] q2) X.env) :: starEach [] X.env := by rfl) :
    EvN X (.Call (.Name "dict" p1) [.Call (.Name "zip" q1) [e1, e2] [] q2] [] p2) σ V (fun o V' => ∃ ks, o = .dK ks ∧ Pr (KeyK.enc R) S (dmk (xs.zip ys)) ks V') := by
  intro V1 A Q s l q
  refine re_of (pe_callTy (call_dictZ hc) hg2 hm2 PyProof.Rows.boot_dict (pa_cons (pe_callTy call_zip hg1 hm1 (by decide +kernel) (pa_cons pe_re (pa_cons pe_re pa_nil he2) he) (by decide) (by decide) he hpl) pa_nil he0) (by decide) (by decide) he0 rfl) ?_
  refine h1 V1 A _ s l fun V2 A2 v g2 r1 => h2 V2 A2 _ (s.trans g2.vv) g2.va fun V3 A3 u g3 r2 => ?_
  obtain ⟨a1, vs, rfl, b1, al1, l1⟩ := Mo.mo g3.vv r1
  obtain ⟨a2, us, rfl, b2, al2, l2⟩ := r2
  obtain ⟨ks, rfl, rfl, pr⟩ := al_zip al1 al2 hl
  refine ⟨a1, a2, _, _, rfl, SqL.of (g3.va.at b1), SqL.of (g3.va.at b2), fun lo fr hlo => ?_⟩
  exact ⟨A3, lo, a1, a2, ks, rfl, rfl, fr, hlo, g3.va.at b1, g3.va.at b2, fun p hp => q V3 A3 p _ (g2.trans g3) hp ⟨_, rfl, Pr.merge pr .nil⟩⟩
theorem ev_dz [KeyK R] [Mo R] [Mo S] {xs : List κ} {ys : List β} {q1 q2 : Pos} (hc : X.calm = true) (hg1 : Gl X "zip") (hm1 : X.mg "zip" = none) (hg2 : Gl X "dict") (hm2 : X.mg "dict" = none) (h1 : EvR X e1 σ V (qL R) xs) (h2 : EvR X e2 σ V (qL S) ys) (hl : xs.length = ys.length)
    (he : starEach [e1, e2] X.env = (false, eval e1 X.env) :: starEach [e2] X.env := by rfl) (he2 : starEach [e2] X.env = (false, eval e2 X.env) :: starEach [] X.env := by rfl)
    (hpl : (backTo q2 (starEach [e2] X.env)).any (·.1) = false := by rfl) (he0 : starEach [.Call (.Name "zip" q1) [e1, e2] [] q2] X.env = (false, eval (.Call (.Name "zip" q1) [e1, e2] [] q2) X.env) :: starEach [] X.env := by rfl) :
    EvR X (.Call (.Name "dict" p1) [.Call (.Name "zip" q1) [e1, e2] [] q2] [] p2) σ V (qDk R S) (dmk (xs.zip ys)) :=
  (en_dz hc hg1 hm1 hg2 hm2 h1 h2 hl he he2 hpl he0).fix (fun o V' ⟨ks, h, _⟩ => by rw [h]; trivial) fun d o od V' hd ⟨ks, h, pr⟩ => by
    subst h
    exact ⟨d, od, ks, rfl, upd_same, pr.mo (same_new hd)⟩
/-! ### dict([(k, v) ..]) -/
theorem al_pairs [KeyK R] {H : Hp} : ∀ {xs : List (κ × β)} {vs : List Vl}, Al (q2 R S) xs vs H → ∃ (ps : List Addr) (ks : List (Key × Vl)), vs = ps.map L2.V.ref ∧ Paired (fun p kv => H p = some (.tup [kV kv.1, kv.2])) ps ks ∧ Pr (KeyK.enc R) S xs ks H
  | [], _, .nil => ⟨[], [], rfl, .nil, .nil⟩
  | x :: _, _, .cons r t => by
    obtain ⟨ps, ks, h1, h2, h3⟩ := al_pairs t
    obtain ⟨p, a, b, rfl, hp, ra, rb⟩ := r
    rw [KeyK.iff.mp ra] at hp
    exact ⟨p :: ps, (KeyK.enc R x.1, b) :: ks, by rw [h1, List.map_cons], .cons hp h2, .cons ⟨rfl, rb⟩ h3⟩
theorem en_dP [KeyK R] [Mo R] [Mo S] {xs : List (κ × β)} (hc : X.calm = true) (hg2 : Gl X "dict") (hm2 : X.mg "dict" = none) (h1 : EvR X e σ V (qL (q2 R S)) xs) (he0 : starEach [e] X.env = (false, eval e X.env) :: starEach [] X.env := by rfl) :
    EvN X (.Call (.Name "dict" p1) [e] [] p2) σ V (fun o V' => ∃ ks, o = .dK ks ∧ Pr (KeyK.enc R) S (dmk xs) ks V') := by
  intro V1 A Q s l q
  refine re_of (pe_callTy (call_dictP hc) hg2 hm2 PyProof.Rows.boot_dict (pa_cons pe_re pa_nil he0) (by decide) (by decide) he0 rfl) ?_
  refine h1 V1 A _ s l fun V2 A2 v g2 r1 => ?_
  obtain ⟨a1, vs, rfl, b1, al1, l1⟩ := r1
  obtain ⟨ps, ks, rfl, hp, pr⟩ := al_pairs al1
  exact ⟨a1, ps, ks, rfl, SqL.of (g2.va.at b1), Paired.mapP hp fun p kv z => SqT.of (g2.va.at z), fun p hp => q V2 A2 p _ g2 hp ⟨_, rfl, Pr.merge pr .nil⟩⟩
theorem ev_dP [KeyK R] [Mo R] [Mo S] {xs : List (κ × β)} (hc : X.calm = true) (hg2 : Gl X "dict") (hm2 : X.mg "dict" = none) (h1 : EvR X e σ V (qL (q2 R S)) xs) (he0 : starEach [e] X.env = (false, eval e X.env) :: starEach [] X.env := by rfl) :
    EvR X (.Call (.Name "dict" p1) [e] [] p2) σ V (qDk R S) (dmk xs) :=
  (en_dP hc hg2 hm2 h1 he0).fix (fun o V' ⟨ks, h, _⟩ => by rw [h]; trivial) fun d o od V' hd ⟨ks, h, pr⟩ => by
    subst h
    exact ⟨d, od, ks, rfl, upd_same, pr.mo (same_new hd)⟩
end
end Om
set_option maxHeartbeats 4000000
/-! Om, part N12: dict([((a, b), v) ..]). -/
namespace Om
open PySem PySem.Spec PyProof.Rows L2
def mergeT (l more : List (List Key × Vl)) : List (List Key × Vl) := more.foldl (fun acc kv => putK acc kv.1 kv.2) l
theorem kt_merge {H : Hp} : ∀ {more : List (List Key × Vl)} {ms : List (List Key × Addr × Value)} {l : List (List Key × Vl)} {ts : List (List Key × Addr × Value)}, KT H more ms → KT H l ts → KT H (mergeT l more) (storedAllH ts ms)
  | [], _, _, _, .nil, h => h
  | _ :: _, q :: _, _, _, .cons r t, h => by
    obtain ⟨r1, r2, r3⟩ := r
    unfold mergeT storedAllH
    rw [List.foldl_cons, List.foldl_cons, ← r1]
    exact kt_merge t (h.put _ r2 r3)
theorem length_mergeT : ∀ (more l : List (List Key × Vl)), (mergeT l more).length ≤ l.length + more.length
  | [], _ => Nat.le_refl _
  | kv :: more, l => by
    have h := length_mergeT more (putK l kv.1 kv.2)
    have h2 := length_putK l kv.1 kv.2
    unfold mergeT at h ⊢
    rw [List.foldl_cons, List.length_cons]
    omega
section
variable {X : Cx}
theorem pairsT_of {pins : List (Addr × Obj)} {σ : L2.St} {H : Hp} {s : Shared} (I : Inv X pins σ H s) : ∀ {ps : List Addr} {kvs : List (List Key × Vl)}, Paired (fun p kv => ∃ b, SqT X.K H p [.ref b, kv.2] ∧ H b = some (.tup (kv.1.map kV))) ps kvs →
    ∃ ts : List (List Key × Addr × Value), KT H kvs ts ∧ ts.length = ps.length ∧ ∀ (j : Nat) (q : List Key × Addr × Value), ts[j]? = some q → ∃ b : Addr, ps[j]? = some b ∧ IsTup s.heap b #[.ref q.2.1, q.2.2]
  | _, _, .nil => ⟨[], .nil, rfl, fun j q e => by simp at e⟩
  | _, _, .cons (a := p) (b := kv) h t => by
    obtain ⟨ts, r, hl, hp⟩ := pairsT_of I t
    obtain ⟨b, h, hb⟩ := h
    obtain ⟨its, rv, ht, _⟩ := I.tuple h
    obtain ⟨u, y, ei, ru, ry⟩ := vals2 rv
    subst ei
    cases ru
    refine ⟨(kv.1, b, y) :: ts, .cons ⟨rfl, hb, ry⟩ r, by rw [List.length_cons, List.length_cons, hl], fun j q e => ?_⟩
    cases j with
    | zero =>
      have e' : (kv.1, b, y) = q := Option.some.inj e
      subst e'
      exact ⟨p, rfl, ht⟩
    | succ j =>
      obtain ⟨c, e1, e2⟩ := hp j q (by simpa using e)
      exact ⟨c, by simpa using e1, e2⟩
theorem kt_is {P : Program} {w : World} {H : Hp} {h : Heap} (ok : HOk P w H h) : ∀ {kvs : List (List Key × Vl)} {ts : List (List Key × Addr × Value)}, KT H kvs ts → ∀ x ∈ ts, (tupleKind (mixKind P w)).is h x.1 x.2.1 ∧ ∃ ks, H x.2.1 = some (.tup ks)
  | _, _, .nil, x, hx => nomatch hx
  | _, _, .cons r t, x, hx => by
    rcases List.mem_cons.mp hx with rfl | hx
    · rw [← r.1]
      exact ⟨key_of ok r.2.1, _, r.2.1⟩
    · exact kt_is ok t x hx
theorem call_dictPT (hc : X.calm = true) (hu : X.A.units + 2 < cLine) : CallR X (.type "dict") (fun xs H Q => ∃ (a : Addr) (ps : List Addr) (kvs : List (List Key × Vl)), xs = [L2.V.ref a] ∧ SqL X.K H a (ps.map L2.V.ref) ∧ Paired (fun p kv => ∃ b, SqT X.K H p [.ref b, kv.2] ∧ H b = some (.tup (kv.1.map kV))) ps kvs ∧
    ∀ p, H p = none → Q (.ref p) (upd H p (.dT (mergeT [] kvs)))) := by
  intro pins s σ H xs us Q I r q
  obtain ⟨a, ps, kvs, ex, hq, hp, q⟩ := q
  subst ex
  obtain ⟨u, eu, rx⟩ := vals1 r
  subst eu
  cases rx
  obtain ⟨its, rv, pl, hz⟩ := I.list hq
  have ei := refs_at rv
  subst ei
  rw [List.length_map] at hz
  obtain ⟨ts, rel, hl, hts⟩ := pairsT_of I hp
  have lps : (ts.map fun q => ((Value.ref q.2.1 : Value), q.2.2)).length = ts.length := List.length_map _
  refine call_dict_pairsH (knd := tupleKind (mixKind X.prog X.w)) (ps := ts) (PairArg.list a (ps.map Value.ref).toArray (fun j => ps.getD j 0) (ts.map fun q => ((Value.ref q.2.1 : Value), q.2.2))) (I.ok.hd hc) (by show X.A.units + 1 + 1 < cLine; exact hu) ⟨pl, by simp [hl], fun j k v e => ?_⟩ ⟨lps.symm, fun j k v e => ?_⟩ (fun h' keep x hx => ?_) (by rw [lps, hl]; exact hz) fun h' tk hd' k => ?_
  · rw [List.getElem?_map] at e
    obtain ⟨q', h1, h2⟩ := Option.map_eq_some_iff.mp e
    obtain ⟨b, g1, g2⟩ := hts j q' h1
    cases h2
    show (List.map Value.ref ps).toArray[j]? = some (Value.ref (ps.getD j 0)) ∧ PairAt s.heap (ps.getD j 0) _ _
    rw [List.getD_eq_getElem?_getD, g1]
    refine ⟨?_, .inl ?_⟩
    · simp [g1]
    · exact g2
  · rw [show PairRel _ j k v = (_ = _) from rfl, List.getElem?_map] at e
    obtain ⟨q', h1, h2⟩ := Option.map_eq_some_iff.mp e
    cases h2
    exact ⟨q'.1, q'.2.1, h1, rfl⟩
  · obtain ⟨h1, ks, h2⟩ := kt_is I.hok rel x hx
    have hlt := I.hok.lt h2
    obtain ⟨o, its', n, g1, g2⟩ := h1
    exact ⟨o, its', n, keep _ _ (Nat.ne_of_lt hlt) (fun z => nomatch z) g1, g2⟩
  · have hm : (s.heap.objs.size == sysModules) = false := beq_eq_false_iff_ne.mpr (Nat.ne_of_gt I.big)
    have hlen : (mergeT [] kvs).length ≤ sizeLine := by
      refine Nat.le_trans (length_mergeT kvs []) ?_
      rw [List.length_nil, Nat.zero_add, Paired.length rel, hl]
      exact hz
    obtain ⟨ob, es, ep, q1, q2, q3, q4, _, q5⟩ := hd'
    have hf := I.hok.fresh (Nat.le_refl _)
    have kt : KT (upd H s.heap.objs.size (.dT (mergeT [] kvs))) (mergeT [] kvs) (storedAllH [] ts) := (kt_merge rel .nil).keeps fun c w e => by
      rw [upd_ne (ne_of_none e hf)]
      exact e
    exact ⟨.ref s.heap.objs.size, upd H s.heap.objs.size (.dT (mergeT [] kvs)), I.laid (t' := tk) (fun b o e => k b o (fun z => nomatch z) e) (Nat.le_refl _) (show ObjOk X.prog X.w _ _ _ (.dT (mergeT [] kvs)) from ⟨hlen, hm, _, kt, ob, es, ep, q1, q2, q3, q4, q5⟩), rfl, q _ hf⟩
end
section
variable {X : Cx} {σ : L2.St} {V M : Hp} {α β κ : Type} [DecidableEq κ] {R : Rf κ} {S : Rf β} {a : α} {e e1 e2 : Expr} {pos p1 p2 px : Pos} {P : Post} {rest : List Stmt} {x : Str}
theorem Pr.mergeT [KeyT R] {H : Hp} : ∀ {l l0 : List (κ × β)} {ks k0 : List (List Key × Vl)}, Pr (KeyT.enc R) S l ks H → Pr (KeyT.enc R) S l0 k0 H → Pr (KeyT.enc R) S (l.foldl (fun acc x => dput acc x.1 x.2) l0) (Om.mergeT k0 ks) H
  | [], _, _, _, .nil, h => h
  | _ :: _, _, _, _, .cons (b := y) r t, h => by
    unfold Om.mergeT
    rw [List.foldl_cons, List.foldl_cons, r.1]
    exact Pr.mergeT t (h.put (KeyT.inj (R := R)) r.2)
theorem al_pairsT [KeyT R] {H : Hp} : ∀ {xs : List (κ × β)} {vs : List Vl}, Al (q2 R S) xs vs H → ∃ (ps : List Addr) (ks : List (List Key × Vl)), vs = ps.map L2.V.ref ∧ Paired (fun p kv => ∃ b, H p = some (.tup [.ref b, kv.2]) ∧ H b = some (.tup (kv.1.map kV))) ps ks ∧ Pr (KeyT.enc R) S xs ks H
  | [], _, .nil => ⟨[], [], rfl, .nil, .nil⟩
  | x :: _, _, .cons r t => by
    obtain ⟨ps, ks, h1, h2, h3⟩ := al_pairsT t
    obtain ⟨p, a, b, rfl, hp, ra, rb⟩ := r
    obtain ⟨c, rfl, hc⟩ := KeyT.to ra
    exact ⟨p :: ps, (KeyT.enc R x.1, b) :: ks, by rw [h1, List.map_cons], .cons ⟨c, hp, hc⟩ h2, .cons ⟨rfl, rb⟩ h3⟩
theorem en_dPT [KeyT R] [Mo R] [Mo S] {xs : List (κ × β)} (hc : X.calm = true) (hu : X.A.units + 2 < cLine) (hg2 : Gl X "dict") (hm2 : X.mg "dict" = none) (h1 : EvR X e σ V (qL (q2 R S)) xs) (he0 : starEach [e] X.env = (false, eval e X.env) :: starEach [] X.env := by rfl) :
    EvN X (.Call (.Name "dict" p1) [e] [] p2) σ V (fun o V' => ∃ ks, o = .dT ks ∧ Pr (KeyT.enc R) S (dmk xs) ks V') := by
  intro V1 A Q s l q
  refine re_of (pe_callTy (call_dictPT hc hu) hg2 hm2 PyProof.Rows.boot_dict (pa_cons pe_re pa_nil he0) (by decide) (by decide) he0 rfl) ?_
  refine h1 V1 A _ s l fun V2 A2 v g2 r1 => ?_
  obtain ⟨a1, vs, rfl, b1, al1, l1⟩ := r1
  obtain ⟨ps, ks, rfl, hp, pr⟩ := al_pairsT al1
  exact ⟨a1, ps, ks, rfl, SqL.of (g2.va.at b1), Paired.mapP hp fun p kv ⟨b, z1, z2⟩ => ⟨b, SqT.of (g2.va.at z1), g2.va.at z2⟩, fun p hp => q V2 A2 p _ g2 hp ⟨_, rfl, Pr.mergeT pr .nil⟩⟩
end
end Om
set_option maxHeartbeats 4000000
/-! Om, the law's defs: rows. -/
namespace Om
open PySem PySem.Spec PyProof.Rows L2
/-- a full sheet: a mark for each pair -/
def qSh : Rf (List Pn × (Pn → Pn → Int)) := fun x v V => qDt (q2 qP qP) qI ((mPairs x.1).map fun (z : Pn × Pn) => (z, x.2 z.1 z.2)) v V
instance : Mo qSh := ⟨fun s h => Mo.mo (R := qDt (q2 qP qP) qI) s h⟩
theorem mem_pairs {pp : List Pn} {i j : Pn} : (i, j) ∈ mPairs pp ↔ i ∈ pp ∧ j ∈ pp ∧ i ≠ j := by
  unfold mPairs
  rw [List.mem_flatMap]
  constructor
  · rintro ⟨a, ha, h⟩
    obtain ⟨b, hb, e⟩ := List.mem_map.mp h
    obtain ⟨h1, h2⟩ := List.mem_filter.mp hb
    cases e
    exact ⟨ha, h1, by simpa using h2⟩
  · rintro ⟨h1, h2, h3⟩
    exact ⟨i, h1, List.mem_map.mpr ⟨j, List.mem_filter.mpr ⟨h2, by simpa using h3⟩, rfl⟩⟩
theorem dg_map {κ β : Type} [DecidableEq κ] {g : κ → β} {k : κ} : ∀ {L : List κ}, k ∈ L → dg (L.map fun z => (z, g z)) k = some (g k)
  | z :: L, h => by
    unfold dg
    rw [List.map_cons, List.find?_cons]
    by_cases e : z = k
    · subst e
      simp
    · have h' : k ∈ L := by
        rcases List.mem_cons.mp h with h | h
        · exact absurd h.symm e
        · exact h
      simp only [e, decide_false]
      exact dg_map (g := g) h'
theorem map_zip {α β : Type} (g : α → β) : ∀ xs : List α, xs.zip (xs.map g) = xs.map fun x => (x, g x)
  | [] => rfl
  | x :: xs => by rw [List.map_cons, List.zip_cons_cons, map_zip g xs, List.map_cons]
theorem told_map {α : Type} (g : α → Int) (xs : List α) : told (xs.map g) = xs.map fun x => (g x, (1 : Int)) := by
  unfold told
  rw [List.map_map]
  rfl
abbrev others (pp : List Pn) (i : Pn) : List Pn := pp.filter fun o => !decide (o = i)
def mRowOf (pp : List Pn) (sh : Pn → Pn → Int) (i : Pn) : List (Pn × Fr) := (others pp i).map fun o => (o, (sh i o, (1 : Int)))
def mRowsOf (pp : List Pn) (sh : Pn → Pn → Int) : List (Pn × List (Pn × Fr)) := pp.map fun i => (i, mRowOf pp sh i)
section
variable {P : Program} {w : World} {K : PySem.W.Frag} {mg : Str → Option Value} {base : Heap} {cC cR cS : Addr}
variable (F : Fx K mg cC cR cS)
include F
theorem ok_rows : Gfn P w K mg base "_law_rows" 2 (sp2 qPl qSh (fun x y => x.ok ∧ y.1 = x.pp) (qDk qP (qDk qP qF)) (fun x y => mRowsOf x.pp y.2)) := by
  refine gfn2 F.d_W_rows sc_W_rows rfl fun f cdv A outer s H E v1 v2 x y V hr r1 r2 hp => ?_
  obtain ⟨ok, hpp⟩ := hp
  obtain ⟨pp', sh⟩ := y
  obtain rfl : pp' = x.pp := hpp
  have hu : (bodyX P w K mg base n_W_rows "_law_rows" s_W_rows f cdv A outer s H E).A.units + 1 < cLine := by have := hr.units; omega
  have p8 := ok.p8
  refine go_newK (i := 2) sc_W_rows.nd rfl (.inl rfl) fun d _ hV => ?_
  refine go_for (R := qP) (xs := x.pp) PassesOwn.never rfl (tg_name (i := 3) sc_W_rows.nd rfl (.inr rfl)) (src_list (ev_gets hu (ev_var (i := 0) rfl (.inl rfl) rfl r1) pl_pp))
    (fun j σ V' M' => ∃ ks y z, σ = [some v1, some v2, some (.ref d), y, z, none] ∧ M' = upd H0 d (.dK ks) ∧ Pr (KeyK.enc qP) (qDk qP qF) ((x.pp.take j).map fun (i : Pn) => (i, mRowOf x.pp sh i)) ks V' ∧ ks.length ≤ j)
    (fun V2 s2 => ⟨[], none, none, rfl, rfl, .nil, Nat.zero_le _⟩) ?_ ?_
  · rintro j i v σ' σ2 V0 V' M' hx ⟨ks, y, z, rfl, rfl, pr, hk⟩ s0 s2 ri rfl
    have hj : j < x.pp.length := (List.getElem?_eq_some_iff.mp hx).1
    have hi : i ∈ x.pp := List.mem_of_getElem? hx
    have tk : x.pp.take (j + 1) = x.pp.take j ++ [i] := by rw [List.take_add_one, hx]; rfl
    have sV := s0.trans s2
    have sh_at : ∀ o ∈ x.pp, o ≠ i → dg ((mPairs x.pp).map fun (z : Pn × Pn) => (z, sh z.1 z.2)) (i, o) = some (sh i o) := fun o ho hne => dg_map (g := fun (z : Pn × Pn) => sh z.1 z.2) (mem_pairs.mpr ⟨hi, ho, fun h => hne h.symm⟩)
    refine go_lcf 5 4 (xs := x.pp) (R := qP) (S := qP) (p := fun o => !decide (o = i) && true) (f := fun (o : Pn) => o) rfl sc_W_rows.nd rfl rfl rfl (src_list (ev_gets hu (ev_var (i := 0) rfl (.inl rfl) rfl (Mo.mo sV r1)) pl_pp)) (by rw [sizeLine_eq]; omega) (blkOk_by (N := n_W_rows) (sc := defScope s_W_rows) (by decide +kernel))
      (fun o v' V'' ho sv ro => fun s0' H1 C cl fp => et_w (ew_and (et_cmp o_neP (ev_var (i := 5) rfl (.inl rfl) rfl ro) (ev_var (R := qP) (a := i) (i := 3) rfl (.inr (.inl rfl)) rfl (show qP i v V'' from ri))) fun hne => ew_and1 (et_cmp (o_notN (R := qI) (v := sh i o) (k := true) fun x H r => by rw [show x = _ from r]; rfl) (ev_getT (S := qI) (R := q2 qP qP) hu (ev_var (i := 1) rfl (.inr (.inl rfl)) rfl (Mo.mo (sV.trans sv) r2)) (ev_tup2 (R := qP) (S := qP) (ev_var (i := 3) rfl (.inr (.inl rfl)) rfl (show qP i v V'' from ri)) (ev_var (i := 5) rfl (.inl rfl) rfl ro)) (sh_at o ho (by simpa using hne))) ev_non)))
      (fun o v' V'' ho _ sv ro => fun _ _ _ _ _ => ev_var (i := 5) rfl (.inl rfl) rfl ro) fun V3 g s3 rg => ?_
    have eo : ((x.pp.filter fun o => !decide (o = i) && true).map fun (o : Pn) => o) = others x.pp i := by
      rw [List.map_id']
      unfold others
      congr 1
      funext o
      rw [Bool.and_true]
    rw [eo] at rg
    have ho : ∀ o ∈ others x.pp i, o ∈ x.pp ∧ o ≠ i := fun o h => by
      obtain ⟨h1, h2⟩ := List.mem_filter.mp h
      exact ⟨h1, by simpa using h2⟩
    have hol : (others x.pp i).length ≤ 7 := Nat.le_trans (List.length_filter_le _ _) p8
    have hnd : (others x.pp i).Nodup := List.Pairwise.filter _ ok.nd
    refine go_putK (d := d) (kvs := ks) (key := KeyK.enc qP i) hu (fun V4 sv => ev_var (i := 2) rfl (.inl rfl) rfl rfl) (fun V4 sv => EvR.conv (ev_var (R := qP) (a := i) (i := 3) rfl (.inr (.inl rfl)) rfl ri) fun v V' _ r => KeyK.iff.mp r) upd_same (by rw [sizeLine_eq]; omega)
      (EvR.m (R := qDk qP qF) (a := mRowOf x.pp sh i) (EvR.eq (ev_dz (R := qP) (S := qF) (xs := others x.pp i) (ys := told ((others x.pp i).map (sh i))) rfl (by rfl) F.m_zip (by rfl) F.m_dict (ev_var (i := 4) rfl (.inl rfl) rfl rg)
        (EvR.eq (ev_c2 ((ok_turned (P := P) (w := w) (base := base) F).cal (X := bodyX P w K mg base n_W_rows "_law_rows" s_W_rows f cdv A outer s H E) hr (by rfl)) (ev_gets hu (ev_var (i := 0) rfl (.inl rfl) rfl (Mo.mo (sV.trans s3) r1)) pl_turn)
          (ev_lcn (xs := others x.pp i) (R := qP) (S := qI) (f := sh i) 5 rfl sc_W_rows.nd rfl (src_list (ev_var (i := 4) rfl (.inl rfl) rfl rg)) (by rw [sizeLine_eq]; omega) (blkOk_by (N := n_W_rows) (sc := defScope s_W_rows) (by decide +kernel))
            (fun o v' V'' hm sv ro => fun s0' H1 C cl fp => ev_getT (S := qI) (R := q2 qP qP) hu (ev_var (i := 1) rfl (.inr (.inl rfl)) rfl (Mo.mo ((sV.trans s3).trans sv) r2)) (ev_tup2 (R := qP) (S := qP) (ev_var (i := 3) rfl (.inr (.inl rfl)) rfl (show qP i v V'' from ri)) (ev_var (i := 5) rfl (.inl rfl) rfl ro)) (sh_at o (ho o hm).1 (ho o hm).2)))
          ⟨rfl, by rw [List.length_map]; omega⟩) rfl) (by rw [told_map, List.length_map])) ?_)) fun V4 nv s4 rn => ?_
    · rw [told_map, map_zip, dmk_nodup]
      · rfl
      · rw [List.map_map]
        simpa [Function.comp_def] using hnd
    rw [upd_upd]
    refine go_nil ⟨_, _, _, rfl, rfl, ?_, Nat.le_trans (length_putK ks _ nv) (by omega)⟩
    have pn := (pr.mo (s2.trans (s3.trans s4))).put (k := i) (KeyK.inj (R := qP)) rn
    rw [dput_new'] at pn
    · rw [tk, List.map_append]
      exact pn
    · rw [List.map_map]
      have : (x.pp.take j).map ((fun (x : Pn × List (Pn × Fr)) => x.1) ∘ fun (i : Pn) => (i, mRowOf x.pp sh i)) = x.pp.take j := by
        conv => rhs; rw [← List.map_id (x.pp.take j)]
        rfl
      rw [this]
      intro hm
      have nd := ok.nd
      rw [← List.take_append_drop (j + 1) x.pp, tk] at nd
      exact (List.nodup_append.mp (List.nodup_append.mp nd).1).2.2 i hm i (by simp) rfl
  · rintro σ' V' M' ⟨ks, y, z, rfl, rfl, pr, hk⟩ s2
    rw [List.take_length] at pr
    refine go_lock trivial fun od hV => ?_
    refine go_ret (R := qDk qP (qDk qP qF)) (a := mRowsOf x.pp sh) (ev_var (i := 2) rfl (.inl rfl) rfl ⟨d, od, ks, rfl, upd_same, ?_⟩) fun V' v s r => r
    exact pr.mo (same_upd (u := .frz od (.dK ks)) hV)
end
end Om
set_option maxHeartbeats 4000000
/-! Om, the law's defs: scored. -/
namespace Om
open PySem PySem.Spec PyProof.Rows L2
section
variable {X : Cx} {σ : L2.St} {V M : Hp} {α : Type} {R : Rf α} {a : α} {e : Expr} {pos p : Pos} {P : Post} {rest : List Stmt} {x y : Str}
/-- x, y = e, {}, by way of a tuple; the dict owned -/
theorem go_unp1K [Mo R] {i j : Nat} {px py p1 p2 q2 : Pos} {k1 k2} (hc : X.calm = true) (hN : X.N.Nodup) (hi : X.N[i]? = some x) (hj : X.N[j]? = some y) (hx : Loc X.env.scope x) (hy : Loc X.env.scope y)
    (h1 : EvR X e σ V R a) (k : ∀ V' v d, Same V V' → R a v V' → Go X rest ((σ.set i (some v)).set j (some (.ref d))) V' (upd M d (.dK [])) P)
    (hf : X.fn x = true ∨ X.env.scope.names.lookup x = some .local := by first | exact .inl rfl | exact .inr rfl) (hf2 : X.fn y = true ∨ X.env.scope.names.lookup y = some .local := by first | exact .inl rfl | exact .inr rfl)
    (hw : swappedStores [.Tuple [.Name x px, .Name y py] k1 p1] (.Tuple [e, .Dict [] [] q2] k2 p2) X.env = pure none := by rfl) (hs : swapsWithSole [.Tuple [.Name x px, .Name y py] k1 p1] (.Tuple [e, .Dict [] [] q2] k2 p2) pos.line X.env = pure false := by rfl)
    (h0 : (assignEach [.Tuple [.Name x px, .Name y py] k1 p1] X.env).map (·.2) = [assign (.Tuple [.Name x px, .Name y py] k1 p1) X.env] := by rfl) (hn : (assignEach [.Name x px, .Name y py] X.env).length = 2 := by rfl) (hst : (assignEach [.Name x px, .Name y py] X.env).findIdx? (·.1) = none := by rfl)
    (he : starEach [e, .Dict [] [] q2] X.env = (false, eval e X.env) :: starEach [.Dict [] [] q2] X.env := by rfl) (he2 : starEach [.Dict [] [] q2] X.env = (false, eval (.Dict [] [] q2) X.env) :: starEach [] X.env := by rfl) :
    Go X (.Assign [.Tuple [.Name x px, .Name y py] k1 p1] (.Tuple [e, .Dict [] [] q2] k2 p2) pos :: rest) σ V M P :=
  go_of (ps_asg (pe_tup (pa_cons pe_re (pa_cons pe_dnewK pa_nil he2) he)) (pg_tup hc (pgs_cons (pg_name hN hi hx hf) (pgs_cons (pg_name hN hj hy hf2) pgs_nil)) hn hst) hs hw h0) fun A D w f => h1 V A _ (Same.refl _) w.va fun V2 A2 v g r => by
    have s2 := g.stp w
    refine fun d hd => ⟨by show 2 ≤ sizeLine; decide, fun t ht => ?_⟩
    have s4 := s2.trans (Stp.make (o := .dK []) s2.ow hd)
    have g5 : Grow V2 (upd A2 d (.dK [])) _ _ := Grow.new (o := .tup [v, .ref d]) s4.ow.va ht
    have s5 := s4.trans (g5.drop.stp s4.ow)
    exact ⟨t, [v, .ref d], rfl, SqT.of upd_same, rfl, v, [.ref d], rfl, .ref d, [], rfl, rfl, go_next f s5 (k V2 v d g.vv r)⟩
end
def mScoreOf (x : Pl) (sh : Pn → Pn → Int) (i : Pn) : Option Fr := if mWho (x.pp, x.reads) i = [] then none else some (mGath x.ga x.trim ((mWho (x.pp, x.reads) i).map fun j => sh j i))
def mScored (x : Pl) (sh : Pn → Pn → Int) : List (Pn × Option Fr) := x.pp.map fun i => (i, mScoreOf x sh i)
section
variable {P : Program} {w : World} {K : PySem.W.Frag} {mg : Str → Option Value} {base : Heap} {cC cR cS : Addr}
variable (F : Fx K mg cC cR cS)
include F
theorem ok_scored : Gfn P w K mg base "_law_scored" 4 (sp2 qPl qSh (fun x y => x.ok ∧ y.1 = x.pp ∧ (∀ z ∈ x.reads, z ∈ mPairs x.pp) ∧ ∀ i j, 0 ≤ y.2 i j ∧ y.2 i j ≤ 10) qKn (fun x y => mScored x y.2)) := by
  refine gfn2 F.d_W_scored sc_W_scored rfl fun f cdv A outer s H E v1 v2 x y V hr r1 r2 hp => ?_
  obtain ⟨ok, hpp, hrd, hmk⟩ := hp
  obtain ⟨pp', sh⟩ := y
  obtain rfl : pp' = x.pp := hpp
  have hmk : ∀ i j, 0 ≤ sh i j ∧ sh i j ≤ 10 := hmk
  have hu : (bodyX P w K mg base n_W_scored "_law_scored" s_W_scored f cdv A outer s H E).A.units + 1 < cLine := by have := hr.units; omega
  have p8 := ok.p8
  refine go_unp1K (i := 3) (j := 4) (R := qDk qP (qDk qP qF)) (a := mRowsOf x.pp sh) rfl sc_W_scored.nd rfl rfl (.inr rfl) (.inl rfl) (EvR.eq (ev_c2 ((ok_rows (P := P) (w := w) (base := base) F).cal (X := bodyX P w K mg base n_W_scored "_law_scored" s_W_scored f cdv A outer s H E) hr (by rfl)) (ev_var (i := 0) rfl (.inl rfl) rfl r1) (ev_var (i := 1) rfl (.inl rfl) rfl r2) ⟨ok, rfl⟩) rfl) fun V1 kv' d s1 rk => ?_
  refine go_for (R := qP) (xs := x.pp) PassesOwn.never rfl (tg_name (i := 2) sc_W_scored.nd rfl (.inr rfl)) (src_list (ev_gets hu (ev_var (i := 0) rfl (.inl rfl) rfl (Mo.mo s1 r1)) pl_pp))
    (fun j σ V' M' => ∃ ks y z t, σ = [some v1, some v2, y, some kv', some (.ref d), z, t, none] ∧ M' = upd H0 d (.dK ks) ∧ Pr (KeyK.enc qP) (qO qF) ((x.pp.take j).map fun (i : Pn) => (i, mScoreOf x sh i)) ks V' ∧ ks.length ≤ j)
    (fun V2 s2 => ⟨[], none, none, none, rfl, rfl, .nil, Nat.zero_le _⟩) ?_ ?_
  · rintro j i v σ' σ2 V0 V' M' hx ⟨ks, y, z, t, rfl, rfl, pr, hk⟩ s0 s2 ri rfl
    have hj : j < x.pp.length := (List.getElem?_eq_some_iff.mp hx).1
    have hi : i ∈ x.pp := List.mem_of_getElem? hx
    have tk : x.pp.take (j + 1) = x.pp.take j ++ [i] := by rw [List.take_add_one, hx]; rfl
    have sV := (s1.trans s0).trans s2
    refine go_set (i := 5) (R := qL qP) (a := mWho (x.pp, x.reads) i) sc_W_scored.nd rfl (.inl rfl) (ev_c2 (a := (x.pp, x.reads)) (b := i) ((ok_law_readers (P := P) (w := w) (base := base) F).cal (X := bodyX P w K mg base n_W_scored "_law_scored" s_W_scored f cdv A outer s H E) hr (by rfl)) (EvR.conv (ev_var (i := 0) rfl (.inl rfl) rfl (Mo.mo sV r1)) fun v V' _ rr => pl_PR rr) (ev_var (i := 2) rfl (.inr (.inl rfl)) rfl ri) (by show x.pp.length ≤ 8; omega)) fun V3 g s3 rg => ?_
    have hw : ∀ o ∈ mWho (x.pp, x.reads) i, o ∈ x.pp ∧ i ∈ others x.pp o := fun o h => by
      obtain ⟨h1, h2⟩ := List.mem_filter.mp h
      have h3 := mem_pairs.mp (hrd _ (by simpa using h2))
      exact ⟨h1, List.mem_filter.mpr ⟨hi, by simpa using h3.2.2.symm⟩⟩
    have hwl : (mWho (x.pp, x.reads) i).length ≤ 7 := Nat.le_trans (List.length_filter_le _ _) p8
    have getO : ∀ o ∈ mWho (x.pp, x.reads) i, dg (mRowsOf x.pp sh) o = some (mRowOf x.pp sh o) ∧ dg (mRowOf x.pp sh o) i = some (sh o i, (1 : Int)) := fun o h => ⟨dg_map (g := mRowOf x.pp sh) (hw o h).1, dg_map (g := fun k => (sh o k, (1 : Int))) (hw o h).2⟩
    have rk' : ∀ V4, Same V3 V4 → qDk qP (qDk qP qF) (mRowsOf x.pp sh) kv' V4 := fun V4 s4 => Mo.mo (((s0.trans s2).trans s3).trans s4) rk
    refine go_lcf 7 6 (xs := mWho (x.pp, x.reads) i) (R := qP) (S := qF) (p := fun _ => true) (f := fun (o : Pn) => (sh o i, (1 : Int))) rfl sc_W_scored.nd rfl rfl rfl (src_list (ev_var (i := 5) rfl (.inl rfl) rfl rg)) (by rw [sizeLine_eq]; omega) (blkOk_by (N := n_W_scored) (sc := defScope s_W_scored) (by decide +kernel))
      (fun o v' V'' ho sv ro => fun s0' H1 C cl fp => EvT.eq (et_cmp (o_inDk (R := qP) (S := qF) hu) (ev_var (R := qP) (a := i) (i := 2) rfl (.inr (.inl rfl)) rfl (show qP i v V'' from ri)) (ev_getK (R := qP) (S := qDk qP qF) hu (ev_var (i := 3) rfl (.inr (.inl rfl)) rfl (rk' _ sv)) (ev_var (i := 7) rfl (.inl rfl) rfl ro) (getO o ho).1)) (by rw [(getO o ho).2]; rfl))
      (fun o v' V'' ho _ sv ro => fun s0' H1 C cl fp => ev_getK (R := qP) (S := qF) hu (ev_getK (R := qP) (S := qDk qP qF) hu (ev_var (i := 3) rfl (.inr (.inl rfl)) rfl (rk' _ sv)) (ev_var (i := 7) rfl (.inl rfl) rfl ro) (getO o ho).1) (ev_var (R := qP) (a := i) (i := 2) rfl (.inr (.inl rfl)) rfl (show qP i v V'' from ri)) (getO o ho).2) fun V4 tv s4 rt => ?_
    have et : ((mWho (x.pp, x.reads) i).filter fun _ => true).map (fun (o : Pn) => (sh o i, (1 : Int))) = told ((mWho (x.pp, x.reads) i).map fun o => sh o i) := by
      rw [List.filter_eq_self.mpr (fun _ _ => rfl), told_map]
    rw [et] at rt
    refine go_putK (d := d) (kvs := ks) (key := KeyK.enc qP i) hu (fun V5 sv => ev_var (i := 4) rfl (.inl rfl) rfl rfl) (fun V5 sv => EvR.conv (ev_var (R := qP) (a := i) (i := 2) rfl (.inr (.inl rfl)) rfl ri) fun v V' _ r => KeyK.iff.mp r) upd_same (by rw [sizeLine_eq]; omega)
      (EvR.m (R := qO qF) (a := mScoreOf x sh i) (ev_if (et_cmp (o_eqD (R := qL qP) (b := []) (by have := hr.units; omega)) (ev_var (i := 5) rfl (.inl rfl) rfl (Mo.mo s4 rg)) (ev_lst el_nil (Nat.zero_le _))) (fun h => EvR.conv ev_non fun v V' _ r => ?_) (fun h => EvR.conv (ev_c2 ((ok_law_gathered (P := P) (w := w) (base := base) F).cal (X := bodyX P w K mg base n_W_scored "_law_scored" s_W_scored f cdv A outer s H E) hr (by rfl)) (ev_var (i := 0) rfl (.inl rfl) rfl (Mo.mo ((sV.trans s3).trans s4) r1)) (ev_var (i := 6) rfl (.inl rfl) rfl rt) ⟨ok.t3, _, rfl, ?_, by rw [List.length_map]; omega, ?_⟩) fun v V' _ r => ?_))) fun V5 nv s5 rn => ?_
    · unfold mScoreOf
      rw [if_pos (of_decide_eq_true h)]
      exact r
    · have := of_decide_eq_false h
      simpa using this
    · intro m hm
      obtain ⟨o, _, rfl⟩ := List.mem_map.mp hm
      exact hmk o i
    · unfold mScoreOf
      rw [if_neg (of_decide_eq_false h)]
      have e : (told ((mWho (x.pp, x.reads) i).map fun o => sh o i)).map (·.1) = (mWho (x.pp, x.reads) i).map fun o => sh o i := by simp [told, Function.comp_def]
      rw [e] at r
      exact r
    rw [upd_upd]
    refine go_nil ⟨_, _, _, _, rfl, rfl, ?_, Nat.le_trans (length_putK ks _ nv) (by omega)⟩
    have pn := (pr.mo ((s2.trans (s3.trans s4)).trans s5)).put (k := i) (KeyK.inj (R := qP)) rn
    rw [dput_new'] at pn
    · rw [tk, List.map_append]
      exact pn
    · rw [List.map_map]
      have : (x.pp.take j).map ((fun (x : Pn × Option Fr) => x.1) ∘ fun (i : Pn) => (i, mScoreOf x sh i)) = x.pp.take j := by
        conv => rhs; rw [← List.map_id (x.pp.take j)]
        rfl
      rw [this]
      intro hm
      have nd := ok.nd
      rw [← List.take_append_drop (j + 1) x.pp, tk] at nd
      exact (List.nodup_append.mp (List.nodup_append.mp nd).1).2.2 i hm i (by simp) rfl
  · rintro σ' V' M' ⟨ks, y, z, t, rfl, rfl, pr, hk⟩ s2
    rw [List.take_length] at pr
    refine go_lock trivial fun od hV => ?_
    exact go_ret (R := qKn) (a := mScored x sh) (ev_var (i := 4) rfl (.inl rfl) rfl ⟨d, od, ks, rfl, upd_same, pr.mo (same_upd (u := .frz od (.dK ks)) hV)⟩) fun V' v s r => r
end
end Om
set_option maxHeartbeats 4000000
/-! Om, the law's defs: sheet. -/
namespace Om
open PySem PySem.Spec PyProof.Rows L2
def qShE : Rf (List Pn × Nat) := fun x v V => ∃ sh : Pn → Pn → Int, (∀ i j, 0 ≤ sh i j ∧ sh i j ≤ (x.2 : Int)) ∧ qSh (x.1, sh) v V
instance : Mo qShE := ⟨fun s ⟨sh, h, r⟩ => ⟨sh, h, Mo.mo s r⟩⟩
theorem pr_dr {κ ε : Type} [DecidableEq κ] {E : κ → ε} {n : Int} {V : Hp} (hn : 0 < n) : ∀ {L : List κ} {ks : List (ε × Vl)}, L.Nodup → Pr E qDr (L.map fun z => (z, n)) ks V → ∃ g : κ → Int, (∀ z, 0 ≤ g z ∧ g z < n) ∧ Pr E qI (L.map fun z => (z, g z)) ks V
  | [], ks, _, h => by
    rw [List.map_nil] at h
    cases h
    exact ⟨fun _ => 0, fun _ => ⟨Int.le_refl 0, hn⟩, .nil⟩
  | z :: L, ks, nd, h => by
    rw [List.map_cons] at h
    cases h with
    | cons r t =>
      obtain ⟨h1, h2⟩ := List.nodup_cons.mp nd
      obtain ⟨g, g1, g2⟩ := pr_dr hn h2 t
      obtain ⟨r1, d, d0, d1, e⟩ := r
      refine ⟨fun y => if y = z then d else g y, fun y => ?_, ?_⟩
      · dsimp only
        split
        · exact ⟨d0, d1⟩
        · exact g1 y
      · rw [List.map_cons]
        refine .cons ⟨r1, ?_⟩ ?_
        · show _ = L2.V.int (if z = z then d else g z)
          rw [if_pos rfl]
          exact e
        · have : L.map (fun y => (y, if y = z then d else g y)) = L.map fun y => (y, g y) := List.map_congr_left fun y hy => by
            have hne : y ≠ z := fun q => h1 (by rw [← q]; exact hy)
            simp [hne]
          rw [this]
          exact g2
section
variable {P : Program} {w : World} {K : PySem.W.Frag} {mg : Str → Option Value} {base : Heap} {cC cR cS : Addr}
variable (F : Fx K mg cC cR cS)
include F
theorem ok_sheet : Gfn P w K mg base "_law_sheet" 2 (sp3 qPo qPl qI (fun _ x r => r = 0 ∧ x.ok) qShE (fun _ x _ => (x.pp, x.most))) := by
  refine gfn3 F.d_W_sheet sc_W_sheet rfl fun f cdv A outer s H E v1 v2 v3 u x r V hr r1 r2 r3 hp => ?_
  obtain ⟨rfl, ok⟩ := hp
  have hu : (bodyX P w K mg base n_W_sheet "_law_sheet" s_W_sheet f cdv A outer s H E).A.units + 1 < cLine := by have := hr.units; omega
  have p8 := ok.p8
  have m3 := ok.m3
  have hl : (mPairs x.pp).length ≤ 49 := Nat.le_trans (pairs_len x.pp) (Nat.le_trans (Nat.mul_le_mul p8 p8) (by decide))
  have hnd := pairs_nodup ok.nd
  refine go_newT (i := 3) sc_W_sheet.nd rfl (.inl rfl) fun d _ hV => ?_
  refine go_for (R := q2 qP qP) (xs := mPairs x.pp) PassesOwn.never rfl (tg_name (i := 4) sc_W_sheet.nd rfl (.inl rfl)) (src_list (ev_c1 ((ok_law_pairs (P := P) (w := w) (base := base) F).cal (X := bodyX P w K mg base n_W_sheet "_law_sheet" s_W_sheet f cdv A outer s H E) hr (by rfl)) (ev_gets hu (ev_var (i := 1) rfl (.inl rfl) rfl r2) pl_pp) (by omega)))
    (fun j σ V' M' => ∃ ks y z, σ = [some v1, some v2, some v3, some (.ref d), y, z] ∧ M' = upd H0 d (.dT ks) ∧ Pr (KeyT.enc (q2 qP qP)) qDr (((mPairs x.pp).take j).map fun (z : Pn × Pn) => (z, ((x.most : Int) + 1))) ks V' ∧ ks.length ≤ j)
    (fun V2 s2 => ⟨[], none, none, rfl, rfl, .nil, Nat.zero_le _⟩) ?_ ?_
  · rintro j i v σ' σ2 V0 V' M' hx ⟨ks, y, z, rfl, rfl, pr, hk⟩ s0 s2 ri rfl
    have hj : j < (mPairs x.pp).length := (List.getElem?_eq_some_iff.mp hx).1
    have tk : (mPairs x.pp).take (j + 1) = (mPairs x.pp).take j ++ [i] := by rw [List.take_add_one, hx]; rfl
    have sV := s0.trans s2
    refine go_set (i := 5) (R := qB) (a := false) sc_W_sheet.nd rfl (.inl rfl) (EvR.eq (ev_and (b := false) (c := false) (EvR.eq (ev_cmp o_gt (ev_var (R := qI) (a := 0) (i := 2) rfl (.inl rfl) rfl r3) ev_int) (by decide)) (fun h => nomatch h)) rfl) fun V3 g s3 rg => ?_
    obtain ⟨c, rfl, hc⟩ := KeyT.to ri
    refine go_putT (d := d) (kvs := ks) (key := KeyT.enc (q2 qP qP) i) (R := qDr) (a := (x.most : Int) + 1) hu (fun V4 sv => ev_var (i := 3) rfl (.inl rfl) rfl rfl) (fun V4 sv => EvR.conv (ev_var (R := q2 qP qP) (a := i) (i := 4) rfl (.inl rfl) rfl (Mo.mo (s3.trans sv) ri)) fun v V' _ r => KeyT.to r) upd_same (by rw [sizeLine_eq]; omega)
      (EvR.m (ev_if (et_val (ev_var (R := qB) (a := false) (i := 5) rfl (.inl rfl) rfl rg)) (fun h => nomatch h) (fun _ => EvR.eq (ev_c2 ((ok_draw (P := P) (w := w) (base := base) F).cal (X := bodyX P w K mg base n_W_sheet "_law_sheet" s_W_sheet f cdv A outer s H E) hr (by rfl)) (ev_var (i := 0) rfl (.inl rfl) rfl (Mo.mo (sV.trans s3) r1)) (ev_bin o_add (ev_gets (S := qI) (b := (x.most : Int)) hu (ev_var (i := 1) rfl (.inl rfl) rfl (Mo.mo (sV.trans s3) r2)) pl_most) ev_int) ⟨by omega, by omega⟩) rfl))) fun V4 nv s4 rn => ?_
    rw [upd_upd]
    refine go_nil ⟨_, _, _, rfl, rfl, ?_, Nat.le_trans (length_putK ks _ nv) (by omega)⟩
    have pn := (pr.mo (s2.trans (s3.trans s4))).put (k := i) (KeyT.inj (R := q2 qP qP)) rn
    rw [dput_new'] at pn
    · rw [tk, List.map_append]
      exact pn
    · rw [List.map_map]
      have : ((mPairs x.pp).take j).map ((fun (x : (Pn × Pn) × Int) => x.1) ∘ fun (z : Pn × Pn) => (z, (x.most : Int) + 1)) = (mPairs x.pp).take j := by
        conv => rhs; rw [← List.map_id ((mPairs x.pp).take j)]
        rfl
      rw [this]
      intro hm
      have nd := hnd
      rw [← List.take_append_drop (j + 1) (mPairs x.pp), tk] at nd
      exact (List.nodup_append.mp (List.nodup_append.mp nd).1).2.2 i hm i (by simp) rfl
  · rintro σ' V' M' ⟨ks, y, z, rfl, rfl, pr, hk⟩ s2
    rw [List.take_length] at pr
    refine go_lock trivial fun od hV => ?_
    obtain ⟨g, g1, g2⟩ := pr_dr (by omega) hnd pr
    exact go_ret (R := qShE) (a := (x.pp, x.most)) (ev_var (i := 3) rfl (.inl rfl) rfl ⟨fun i j => g (i, j), fun i j => ⟨(g1 (i, j)).1, by have := (g1 (i, j)).2; show g (i, j) ≤ (x.most : Int); omega⟩, d, od, ks, rfl, upd_same, g2.mo (same_upd (u := .frz od (.dT ks)) hV)⟩) fun V' v s r => r
end
end Om
set_option maxHeartbeats 4000000
/-! Om, the law's defs: with_row. -/
namespace Om
open PySem PySem.Spec PyProof.Rows L2
/-- a sheet, whose row of one person is another one -/
def qShR : Rf (Pl × (Pn → Pn → Int) × Pn × List Int) := fun x v V => ∃ sh : Pn → Pn → Int, (∀ i j, i ≠ x.2.2.1 → sh i j = x.2.1 i j) ∧ (∀ i j, sh i j = x.2.1 i j ∨ sh i j ∈ x.2.2.2) ∧ qSh (x.1.pp, sh) v V
instance : Mo qShR := ⟨fun s ⟨sh, h, h2, r⟩ => ⟨sh, h, h2, Mo.mo s r⟩⟩
theorem dput_map {κ β : Type} [DecidableEq κ] {g : κ → β} {k : κ} {v : β} {L : List κ} (h : k ∈ L) : dput (L.map fun z => (z, g z)) k v = L.map fun z => (z, if z = k then v else g z) := by
  unfold dput
  rw [if_pos]
  · rw [List.map_map]
    refine List.map_congr_left fun z _ => ?_
    show (if z = k then (z, v) else (z, g z)) = (z, if z = k then v else g z)
    by_cases e : z = k
    · rw [if_pos e, if_pos e]
    · rw [if_neg e, if_neg e]
  · rw [List.any_map, List.any_eq_true]
    exact ⟨k, h, by simp⟩
theorem pairs_fst {pp : List Pn} {sh : Pn → Pn → Int} : ((mPairs pp).map fun (z : Pn × Pn) => (z, sh z.1 z.2)).map (·.1) = mPairs pp := by
  rw [List.map_map]
  conv => rhs; rw [← List.map_id (mPairs pp)]
  rfl
theorem src_sh {X : Cx} {σ : L2.St} {V : Hp} {e tg : Expr} {x : List Pn × (Pn → Pn → Int)} (h : EvR X e σ V qSh x) : Src X tg e σ V none (q2 qP qP) (mPairs x.1) := by
  have := src_dt (R := q2 qP qP) (S := qI) (tg := tg) (kvs := (mPairs x.1).map fun (z : Pn × Pn) => (z, x.2 z.1 z.2)) h
  rw [pairs_fst] at this
  exact this
section
variable {P : Program} {w : World} {K : PySem.W.Frag} {mg : Str → Option Value} {base : Heap} {cC cR cS : Addr}
variable (F : Fx K mg cC cR cS)
include F
theorem ok_with_row : Gfn P w K mg base "_law_with_row" 2 (sp4 qPl qSh qP (qL qI) (fun x y p rs => x.ok ∧ y.1 = x.pp ∧ p ∈ x.pp ∧ rs.length = (others x.pp p).length) qShR (fun x y p rs => (x, y.2, p, rs))) := by
  refine gfn4 F.d_W_with_row sc_W_with_row rfl fun f cdv A outer s H E v1 v2 v3 v4 x y p rs V hr r1 r2 r3 r4 hp => ?_
  obtain ⟨ok, hpp, hpin, hrl⟩ := hp
  obtain ⟨pp', sh⟩ := y
  obtain rfl : pp' = x.pp := hpp
  have hu : (bodyX P w K mg base n_W_with_row "_law_with_row" s_W_with_row f cdv A outer s H E).A.units + 2 < cLine := by have := hr.units; omega
  have hu1 : (bodyX P w K mg base n_W_with_row "_law_with_row" s_W_with_row f cdv A outer s H E).A.units + 1 < cLine := by omega
  have p8 := ok.p8
  have hl : (mPairs x.pp).length ≤ 49 := Nat.le_trans (pairs_len x.pp) (Nat.le_trans (Nat.mul_le_mul p8 p8) (by decide))
  have hnd := pairs_nodup ok.nd
  have hol : (others x.pp p).length ≤ 7 := Nat.le_trans (List.length_filter_le _ _) p8
  have ek : ((mPairs x.pp).map fun (z : Pn × Pn) => (z, sh z.1 z.2)).map (·.1) = mPairs x.pp := by
    rw [List.map_map]
    conv => rhs; rw [← List.map_id (mPairs x.pp)]
    rfl
  refine go_setN (i := 4) sc_W_with_row.nd rfl (.inl rfl) (en_dPT (R := q2 qP qP) (S := qI) (xs := (mPairs x.pp).map fun (z : Pn × Pn) => (z, sh z.1 z.2)) rfl hu (by rfl) F.m_dict (EvR.eq (ev_lcn (xs := mPairs x.pp) (R := q2 qP qP) (S := q2 (q2 qP qP) qI) (f := fun (z : Pn × Pn) => (z, sh z.1 z.2)) 7 rfl sc_W_with_row.nd rfl
    (src_sh (x := (x.pp, sh)) (ev_var (i := 1) rfl (.inr (.inl rfl)) rfl r2)) (by rw [sizeLine_eq]; omega) (blkOk_by (N := n_W_with_row) (sc := defScope s_W_with_row) (by decide +kernel))
    (fun z v' V'' hz sv rz => fun s0' H1 C cl fp => ev_tup2 (R := q2 qP qP) (S := qI) (a := z) (b := sh z.1 z.2) (ev_var (i := 7) rfl (.inl rfl) rfl rz) (ev_getT (S := qI) (R := q2 qP qP) hu1 (ev_var (i := 1) rfl (.inr (.inl rfl)) rfl (Mo.mo sv r2)) (ev_var (i := 7) rfl (.inl rfl) rfl rz) (dg_map (g := fun (z : Pn × Pn) => sh z.1 z.2) hz)))) rfl))
    (fun o V' ⟨ks, e, _⟩ xs z => by rw [e] at z; cases z) fun V1 d o s1 _ hV ⟨ks0, eo, pr0⟩ => ?_
  subst eo
  rw [dmk_nodup (by rw [ek]; exact hnd)] at pr0
  refine go_for (xs := enl (others x.pp p)) PassesOwn.never rfl (tg_two (Z := qI) (Y := qP) (i := 5) (j := 6) rfl sc_W_with_row.nd rfl rfl (.inl rfl) (.inl rfl)) (src_en (Z := qP) (by rfl) F.m_enumerate (EvR.eq (ev_lcf (xs := x.pp) (R := qP) (S := qP) (p := fun o => !decide (o = p)) (f := fun (o : Pn) => o) 8 rfl sc_W_with_row.nd rfl (src_list (ev_gets hu1 (ev_var (i := 0) rfl (.inl rfl) rfl (Mo.mo s1 r1)) pl_pp)) (by rw [sizeLine_eq]; omega) (blkOk_by (N := n_W_with_row) (sc := defScope s_W_with_row) (by decide +kernel))
      (fun o v' V'' ho sv ro => fun s0' H1 C cl fp => et_cmp o_neP (ev_var (i := 8) rfl (.inl rfl) rfl ro) (ev_var (R := qP) (a := p) (i := 2) rfl (.inr (.inl rfl)) rfl (show qP p v3 V'' from r3)))
      (fun o v' V'' ho _ sv ro => fun _ _ _ _ _ => ev_var (i := 8) rfl (.inl rfl) rfl ro)) (List.map_id' _)))
    (fun j σ V' M' => ∃ ks y z sh', σ = [some v1, some v2, some v3, some v4, some (.ref d), y, z, none, none] ∧ M' = upd H0 d (.dT ks) ∧ (∀ i j, i ≠ p → sh' i j = sh i j) ∧ (∀ i j, sh' i j = sh i j ∨ sh' i j ∈ rs) ∧ Pr (KeyT.enc (q2 qP qP)) qI ((mPairs x.pp).map fun (z : Pn × Pn) => (z, sh' z.1 z.2)) ks V')
    (fun V2 s2 => ⟨ks0, none, none, sh, rfl, rfl, fun _ _ _ => rfl, fun _ _ => .inl rfl, pr0.mo s2⟩) ?_ ?_
  · rintro j z v σ' σ2 V0 V' M' hx ⟨ks, y, t, sh', rfl, rfl, h1, h2, pr⟩ s0 s2 rz uz
    obtain ⟨a, b, ra, rb, rfl⟩ := at_pair rz uz
    obtain ⟨g1, g2⟩ := enl_get hx
    have hj : j < (others x.pp p).length := (List.getElem?_eq_some_iff.mp g2).1
    obtain ⟨ho1, ho2⟩ := List.mem_filter.mp (List.mem_of_getElem? g2)
    have hne : z.2 ≠ p := by simpa using ho2
    have hk : (p, z.2) ∈ mPairs x.pp := mem_pairs.mpr ⟨hpin, ho1, fun e => hne e.symm⟩
    have hrj : rs[j]? = some (rs.getD j 0) := by
      rw [List.getD_eq_getElem?_getD, List.getElem?_eq_getElem (by omega)]
      rfl
    have sV := (s1.trans s0).trans s2
    have ksl : ks.length = (mPairs x.pp).length := by rw [← Paired.length pr, List.length_map]
    refine go_putT (d := d) (kvs := ks) (key := KeyT.enc (q2 qP qP) (p, z.2)) (R := qI) (a := rs.getD j 0) hu1 (fun V4 sv => ev_var (i := 4) rfl (.inl rfl) rfl rfl) (fun V4 sv => EvR.conv (ev_tup2 (R := qP) (S := qP) (a := p) (b := z.2) (ev_var (i := 2) rfl (.inr (.inl rfl)) rfl (show qP p v3 V4 from r3)) (ev_var (i := 6) rfl (.inl rfl) rfl rb)) fun v V' _ r => KeyT.to (R := q2 qP qP) r) upd_same (by rw [sizeLine_eq]; omega)
      (EvR.m (ev_ixL (i := j) (ev_var (i := 3) rfl (.inl rfl) rfl (Mo.mo sV r4)) (ev_var (R := qI) (a := (j : Int)) (i := 5) rfl (.inl rfl) rfl (by rw [← g1]; exact ra)) hrj)) fun V4 nv s4 rn => ?_
    rw [upd_upd]
    have pn := (pr.mo (s2.trans s4)).put (k := (p, z.2)) (KeyT.inj (R := q2 qP qP)) rn
    rw [dput_map (g := fun (z : Pn × Pn) => sh' z.1 z.2) hk] at pn
    refine go_nil ⟨_, _, _, fun i j' => if (i, j') = (p, z.2) then rs.getD j 0 else sh' i j', rfl, rfl, fun i j' hi => ?_, fun i j' => ?_, pn⟩
    · show (if (i, j') = (p, z.2) then rs.getD j 0 else sh' i j') = sh i j'
      rw [if_neg (fun e => hi (Prod.ext_iff.mp e).1)]
      exact h1 i j' hi
    · show (if (i, j') = (p, z.2) then rs.getD j 0 else sh' i j') = sh i j' ∨ (if (i, j') = (p, z.2) then rs.getD j 0 else sh' i j') ∈ rs
      by_cases e : (i, j') = (p, z.2)
      · rw [if_pos e]
        exact .inr (List.mem_of_getElem? hrj)
      · rw [if_neg e]
        exact h2 i j'
  · rintro σ' V' M' ⟨ks, y, t, sh', rfl, rfl, h1, h2, pr⟩ s2
    refine go_lock trivial fun od hV => ?_
    exact go_ret (R := qShR) (a := (x, sh, p, rs)) (ev_var (i := 4) rfl (.inl rfl) rfl ⟨sh', h1, h2, d, od, ks, rfl, upd_same, pr.mo (same_upd (u := .frz od (.dT ks)) hV)⟩) fun V' v s r => r
end
end Om
set_option maxHeartbeats 4000000
/-! Om, the law's defs: made. -/
namespace Om
open PySem PySem.Spec PyProof.Rows L2
def Pl.rua (x : Pl) : RuA := ⟨⟨x.pp, x.most⟩, x.reads, x.ga, x.trim, x.lists, x.prizes⟩
section
variable {cC cR cS : Addr} {X : Cx} {σ : L2.St} {V : Hp} {e0 e1 e2 e3 e4 e5 e6 : Expr} {p pos k1 k2 k3 k4 k5 k6 : Pos} {j : Nat} {a : RuA}
/-- Rule(c, turn = .., ..) -/
theorem ev_mkR (F : Fx X.K X.mg cC cR cS) (hr : Room j X.A) (hgl : Gl X "Rule") (h0 : EvR X e0 σ V (qCr cC) a.cr) (h1 : EvR X e1 σ V qS "plain") (h2 : EvR X e2 σ V (qL (q2 qP qP)) a.reads) (h3 : EvR X e3 σ V qG a.ga) (h4 : EvR X e4 σ V qNat a.trim) (h5 : EvR X e5 σ V (qL (qL qP)) a.lists) (h6 : EvR X e6 σ V qNat a.prizes) (ok : a.ok) (hk : 6 ≤ j := by decide)
    (he : starEach [e0] X.env = (false, eval e0 X.env) :: starEach [] X.env := by rfl) 
    (hall : (backToKw pos (keywordEach [⟨some "turn", e1, k1⟩, ⟨some "reads", e2, k2⟩, ⟨some "gather", e3, k3⟩, ⟨some "trim", e4, k4⟩, ⟨some "lists", e5, k5⟩, ⟨some "prizes", e6, k6⟩] X.env)).all (·.1.isSome) = true := by rfl)
    (hks : (backToKw pos (keywordEach [⟨some "turn", e1, k1⟩, ⟨some "reads", e2, k2⟩, ⟨some "gather", e3, k3⟩, ⟨some "trim", e4, k4⟩, ⟨some "lists", e5, k5⟩, ⟨some "prizes", e6, k6⟩] X.env)).filterMap (·.1) = (["turn", "reads", "gather", "trim", "lists", "prizes"] : List Str) := by rfl)
    (hpl : ((backTo pos (starEach [e0] X.env)).any (·.1) || (backToKw pos (keywordEach [⟨some "turn", e1, k1⟩, ⟨some "reads", e2, k2⟩, ⟨some "gather", e3, k3⟩, ⟨some "trim", e4, k4⟩, ⟨some "lists", e5, k5⟩, ⟨some "prizes", e6, k6⟩] X.env)).any (·.1.isNone)) = false := by rfl) :
    EvR X (.Call (.Name "Rule" p) [e0] [⟨some "turn", e1, k1⟩, ⟨some "reads", e2, k2⟩, ⟨some "gather", e3, k3⟩, ⟨some "trim", e4, k4⟩, ⟨some "lists", e5, k5⟩, ⟨some "prizes", e6, k6⟩] pos) σ V (qRu cC cR) a.mk' := by
  obtain ⟨f, fd, g, gV, mk, kb, hgv, fok⟩ := ok_Rule_init (P := X.prog) (w := X.w) (base := X.base) F
  refine ev_of (pe_makeK (E := E0) mk fok (hr.mono hk) hgl F.g_cR kb pass0 (pa_cons pe_re pa_nil he) (pk_cons pe_re (pk_cons pe_re (pk_cons pe_re (pk_cons pe_re (pk_cons pe_re (pk_cons pe_re pk_nil)))))) hall hks (by decide) he hpl) fun V1 A Q s l q => ?_
  refine h0 V1 A _ s l fun V2 A2 v0 g2 r0 => ?_
  refine h1 V2 A2 _ (s.trans g2.vv) g2.va fun V3 A3 v1 g3 r1 => ?_
  have t3 := g2.trans g3
  refine h2 V3 A3 _ (s.trans t3.vv) t3.va fun V4 A4 v2 g4 r2 => ?_
  have t4 := t3.trans g4
  refine h3 V4 A4 _ (s.trans t4.vv) t4.va fun V5 A5 v3 g5 r3 => ?_
  have t5 := t4.trans g5
  refine h4 V5 A5 _ (s.trans t5.vv) t5.va fun V6 A6 v4 g6 r4 => ?_
  have t6 := t5.trans g6
  refine h5 V6 A6 _ (s.trans t6.vv) t6.va fun V7 A7 v5 g7 r5 => ?_
  have t7 := t6.trans g7
  refine h6 V7 A7 _ (s.trans t7.vv) t7.va fun V8 A8 v6 g8 r6 => ?_
  have t8 := t7.trans g8
  refine ⟨rfl, rfl, fun x dx hx hd hne => ?_⟩
  rw [hgv _ _ rfl rfl]
  exact ⟨x, dx, A8, v0, v1, v2, v3, v4, v5, v6, a, V8, rfl, ⟨hx, hd, hne, rfl⟩, t8.va, Mo.mo ((((((g3.trans g4).trans g5).trans g6).trans g7).trans g8).vv) r0, r1, Mo.mo ((((g5.trans g6).trans g7).trans g8).vv) r2, r3, r4, Mo.mo g8.vv r5, r6, ok, fun V9 A9 g9 rz => ⟨rfl, q V9 A9 _ (t8.trans g9) rz⟩⟩
end
section
variable {P : Program} {w : World} {K : PySem.W.Frag} {mg : Str → Option Value} {base : Heap} {cC cR cS : Addr}
variable (F : Fx K mg cC cR cS)
include F
theorem ok_made : Gfn P w K mg base "_law_made" 7 (sp1 qPl (fun x => x.ok ∧ x.rua.ok) (qRu cC cR) (fun x => x.rua.mk')) := by
  refine gfn1 F.d_W_made sc_W_made rfl fun f cdv A outer s H E v1 x V hr r1 hp => ?_
  obtain ⟨ok, rok⟩ := hp
  have hu : (bodyX P w K mg base n_W_made "_law_made" s_W_made f cdv A outer s H E).A.units + 1 < cLine := by have := hr.units; omega
  have x0 := fun p => ev_var (X := bodyX P w K mg base n_W_made "_law_made" s_W_made f cdv A outer s H E) (σ := start n_W_made [v1]) (pos := p) (i := 0) rfl (.inl rfl) rfl r1
  exact go_ret (R := qRu cC cR) (a := x.rua.mk') (ev_mkR (a := x.rua) F hr (by rfl) (EvR.eq (ev_mk2 (ok_Crowd_init (P := P) (w := w) (base := base) F) hr (by rfl) F.g_cC (ev_gets hu (x0 _) pl_pp) (ev_gets hu (x0 _) pl_most) ⟨ok.nd, by have := ok.p2; omega, by have := ok.p8; omega, ok.m1, by have := ok.m3; omega⟩) rfl)
    (ev_gets hu (x0 _) pl_turn) (ev_t1 f_listL (by rfl) F.m_list PyProof.Rows.boot_list (ev_gets hu (x0 _) pl_rd)) (ev_gets hu (x0 _) pl_ga) (ev_gets hu (x0 _) pl_trim)
    (EvR.eq (ev_lcn (xs := x.lists) (R := qL qP) (S := qL qP) (f := fun (l : List Pn) => l) 1 rfl sc_W_made.nd rfl (src_list (ev_gets hu (x0 _) pl_ls)) (by rw [sizeLine_eq]; have := ok.ll; omega) (blkOk_by (N := n_W_made) (sc := defScope s_W_made) (by decide +kernel))
      (fun o v' V'' ho sv ro => fun _ _ _ _ _ => ev_t1 f_listL (by rfl) F.m_list PyProof.Rows.boot_list (ev_var (i := 1) rfl (.inl rfl) rfl ro))) (List.map_id' _))
    (ev_gets hu (x0 _) pl_prizes) rok) fun V' v s r => r
end
end Om
set_option maxHeartbeats 4000000
/-! Om, part N13: what the plan's walk needs. -/
namespace Om
open PySem PySem.Spec PyProof.Rows L2
theorem Gfn.imp {P : Program} {w : World} {K : PySem.W.Frag} {mg : Str → Option Value} {base : Heap} {x : Str} {k : Nat} {sp sp' : Sp} (g : Gfn P w K mg base x k sp) (h : ∀ vs H Q E, sp' vs H Q E → sp vs H Q E) : Gfn P w K mg base x k sp' := by
  obtain ⟨f, fd, ps, F, r⟩ := g.ex
  exact ⟨f, fd, ps, F.imp h, r⟩
section
variable {V A V1 A1 M : Hp} {D : Addr} {o u : HO}
/-- what was made and is owned, taken out -/
theorem own_out (l : Le V A) (hD : A D = none) (s : Stp V (upd H0 D o) (upd A D o) V1 (upd H0 D u) A1) : ∃ A2, Grow V A V1 A2 ∧ A2 D = none ∧ A1 = upd A2 D u := by
  have hV : V1 D = none := s.ow.di D (by rw [upd_same]; exact fun z => nomatch z)
  have hA : A1 D = some u := s.ow.ma D u upd_same
  refine ⟨fun b => if b = D then none else A1 b, ⟨s.vv, fun b x e => ?_, fun b x e => ?_, fun b h1 h2 h3 => ?_⟩, by simp, ?_⟩
  · have hb : b ≠ D := ne_of_none e hD
    simp only [if_neg hb]
    exact s.aa b x (by rw [upd_ne hb]) (by rw [upd_ne hb]; exact e)
  · have hb : b ≠ D := ne_of_none e hV
    simp only [if_neg hb]
    exact s.ow.va b x e
  · have hb : b ≠ D := fun z => h2 (by rw [z]; exact hD)
    exact (s.fr b h1 (by rw [upd_ne hb]) (by rw [upd_ne hb]; exact h2)).2 (fun xs z => h3 xs (by rw [upd_ne hb] at z; exact z))
  · funext b
    by_cases hb : b = D
    · subst hb
      rw [upd_same]
      exact hA
    · rw [upd_ne hb]
      simp [hb]
/-- .. from nothing owned -/
theorem own_ret (s : Stp V H0 A V1 (upd H0 D u) A1) : ∃ A2, Grow V A V1 A2 ∧ A2 D = none ∧ A1 = upd A2 D u := by
  have hV : V1 D = none := s.ow.di D (by rw [upd_same]; exact fun z => nomatch z)
  have hA1 : A1 D = some u := s.ow.ma D u upd_same
  have hA : A D = none := by
    cases q : A D with
    | none => rfl
    | some x =>
      have := s.mm (b := D) rfl (by rw [q]; exact fun z => nomatch z)
      rw [upd_same] at this
      cases this
  refine ⟨fun b => if b = D then none else A1 b, ⟨s.vv, fun b x e => ?_, fun b x e => ?_, fun b h1 h2 h3 => ?_⟩, by simp, ?_⟩
  · have hb : b ≠ D := ne_of_none e hA
    simp only [if_neg hb]
    exact s.aa b x rfl e
  · have hb : b ≠ D := ne_of_none e hV
    simp only [if_neg hb]
    exact s.ow.va b x e
  · exact (s.fr b h1 rfl h2).2 h3
  · funext b
    by_cases hb : b = D
    · subst hb
      rw [upd_same]
      exact hA1
    · rw [upd_ne hb]
      simp [hb]
end
/-! ### tests, whichever way they end -/
def EvTx (X : Cx) (e : Expr) (σ : L2.St) (V : Hp) : Prop := ∀ V1 A (Q : Bool → Hp → Prop), Same V V1 → Le V1 A → (∀ b A2, Grow V1 A V1 A2 → Q b A2) → RT X e σ A Q
def EvTxb (X : Cx) (scope : Scope) (e : Expr) (σ : L2.St) (V : Hp) : Prop := ∀ s H C cl fp, EvTx (bl X scope s H C cl fp) e σ V
section
variable {X : Cx} {σ : L2.St} {V M : Hp} {α β : Type} {R : Rf α} {S : Rf β} {a : α} {e e1 e2 : Expr} {pos p px p2 : Pos} {P : Post} {rest : List Stmt} {x y : Str} {n : Int}
theorem tx_gt {j : Int} (h1 : EvR X e1 σ V qDr n) (h2 : EvR X e2 σ V qI j) (hm : behindInMarks .Gt e2 = false := by first | exact nomark _ | rfl) : EvTx X (.Compare e1 [.Gt] [e2] pos) σ V := by
  intro V1 A Q s l q
  refine rt_of (pt_cmpR op_gt pe_re pe_re hm) ?_
  refine h1 V1 A _ s l fun V2 A2 u g2 ⟨d, _, _, r1⟩ => ?_
  refine h2 V2 A2 _ (s.trans g2.vv) g2.va fun V3 A3 z g3 r2 => ?_
  exact ⟨d, j, r1, r2, _, rfl, q _ A3 (g2.trans g3).drop⟩
def Tsx {α : Type} (X : Cx) (scope : Scope) (ifs : List Expr) (σ : α → L2.St → Hp → Prop) : Prop :=
  ∃ tt : TT, (∀ s H C cl fp, PTs (bl X scope s H C cl fp) ifs tt) ∧ ∀ a σ' V, σ a σ' V → ∀ A (Q : Bool → Hp → Prop), Le V A → (∀ b A2, Grow V A V A2 → Q b A2) → tt σ' A Q
end
section
variable {X : Cx} {scope : Scope} {σ : L2.St} {V : Hp} {α β : Type} {R : Rf α} {S : Rf β} {tg iter elt c : Expr} {ifs : List Expr} {pos px : Pos} {x : Str} {ld : Option Addr}
theorem lcx_read {J : It} {A : Hp} {xs : List α} {vs : List Nat} {up : L2.St → Vl → Hp → L2.St → Prop} {g : TG} {tt : TT} {Q : VK} {D : Addr} [Mo R] (hJ : Walks J V A R xs) (l : Le V A) (hn : xs.length ≤ sizeLine)
    (hg : ∀ (a : α) (v : Vl) (σ : L2.St) (V A : Hp) (Q : L2.St → Hp → Prop), Le V A → R a v V → (∀ σ', up σ v V σ' → wipe σ' vs = wipe σ vs → Q σ' A) → g v σ A Q)
    (ht : ∀ a σ' V', AtTurn σ vs V R up xs a σ' V' → ∀ A (Q : Bool → Hp → Prop), Le V' A → (∀ b A2, Grow V' A V' A2 → Q b A2) → tt σ' A Q)
    (he : ∀ a σ' V', AtTurn σ vs V R up xs a σ' V' → EvRb X scope elt σ' V' R a)
    (q : ∀ V2 A2 acc ys, Grow V A V2 A2 → A2 D = none → ys.Sublist xs → Al R ys acc V2 → Q (.ref D) (upd A2 D (.lst acc))) (hD : A D = none) :
    ∃ W : Nat → Nat → Hp → Prop, (∃ m, W 0 m (upd A D (.lst []))) ∧ ∀ i m H, W i m H →
      (J.stop i H ∧ Q (.ref D) H) ∨ (J.go i H ∧ ∃ Nx : Hp → Prop, (∀ H', Nx H' → ∃ m', m' < m ∧ W (i + 1) m' H') ∧ ∀ x H', J.yld i H x H' → g x (wipe σ vs) H' fun σ2 H2 => wipe σ2 vs = wipe σ vs ∧ tt σ2 H2 fun b H3 =>
        if b = true then (REb X scope elt) σ2 H3 fun y H4 => ∃ acc, H4 D = some (.lst acc) ∧ acc.length < sizeLine ∧ Nx (upd H4 D (.lst (acc ++ [y]))) else Nx H3) := by
  have w0 : Ow V (upd H0 D (.lst [])) (upd A D (.lst [])) := Ow.make l hD
  refine ⟨fun i m A' => m = xs.length - i ∧ i ≤ xs.length ∧ ∃ V' acc ys, Stp V (upd H0 D (.lst [])) (upd A D (.lst [])) V' (upd H0 D (.lst acc)) A' ∧ ys.Sublist (xs.take i) ∧ Al R ys acc V' ∧ acc.length ≤ i,
    ⟨xs.length, rfl, Nat.zero_le _, V, [], [], .refl w0, List.nil_sublist _, .nil, Nat.le_refl _⟩, ?_⟩
  rintro i m A' ⟨rfl, hi, V', acc, ys, s, sub, al, ha⟩
  have stand : ∀ b o, V b ≠ none → A b = some o → A' b = some o := fun b o h1 h2 => by
    have hb : b ≠ D := fun z => h1 (by rw [z]; exact l.free hD)
    exact s.aa b o (by rw [upd_ne hb]) (by rw [upd_ne hb]; exact h2)
  obtain ⟨w1, w2⟩ := hJ i V' A' s.vv s.ow.va stand
  by_cases hlt : i < xs.length
  · have hx : xs[i]? = some xs[i] := List.getElem?_eq_getElem hlt
    obtain ⟨go, yl⟩ := w2 xs[i] hx
    have tk : xs.take (i + 1) = xs.take i ++ [xs[i]] := by rw [List.take_add_one, hx]; rfl
    refine .inr ⟨go, fun A2 => ∃ V2 acc2 ys2, Stp V (upd H0 D (.lst [])) (upd A D (.lst [])) V2 (upd H0 D (.lst acc2)) A2 ∧ ys2.Sublist (xs.take (i + 1)) ∧ Al R ys2 acc2 V2 ∧ acc2.length ≤ i + 1,
      fun A2 ⟨V2, acc2, ys2, h1, h2, h3, h4⟩ => ⟨xs.length - (i + 1), by omega, rfl, hlt, V2, acc2, ys2, h1, h2, h3, h4⟩, fun v A2 hy => ?_⟩
    obtain ⟨V2, g2, r⟩ := yl v A2 hy
    have s2 := s.trans (g2.stp s.ow)
    refine hg xs[i] v (wipe σ vs) V2 A2 _ g2.va r fun σ3 u3 hw => ⟨?_, ?_⟩
    · rw [hw]
      exact wipe_idem σ vs
    · have at_ : AtTurn σ vs V R up xs xs[i] σ3 V2 := ⟨List.getElem_mem hlt, s2.vv, v, r, u3⟩
      refine ht xs[i] σ3 V2 at_ A2 _ g2.va fun b A3 g3 => ?_
      have s3 := s2.trans (g3.stp s2.ow)
      cases b with
      | false => exact iteF ⟨V2, acc, ys, s3, by rw [tk]; exact List.Sublist.trans sub (List.sublist_append_left _ _), al.mo g2.vv, by omega⟩
      | true =>
        refine iteT fun s0 H1 C cl fp => he xs[i] σ3 V2 at_ s0 H1 C cl fp V2 A3 _ (Same.refl _) g3.va fun V4 A4 y g4 r4 => ?_
        have s4 := s3.trans (g4.stp s3.ow)
        refine ⟨acc, s4.ow.ma D _ upd_same, by omega, V4, acc ++ [y], ys ++ [xs[i]], ?_, by rw [tk]; exact List.Sublist.append sub (List.Sublist.refl _), (al.mo (g2.vv.trans g4.vv)).app (.cons r4 .nil), by rw [List.length_append, List.length_singleton]; omega⟩
        have s5 := s4.trans (Stp.set (o' := .lst (acc ++ [y])) s4.ow upd_same)
        rw [upd_upd] at s5
        exact s5
  · have e : i = xs.length := by omega
    subst e
    rw [List.take_length] at sub
    obtain ⟨A2, g, hA2, rfl⟩ := own_out l hD s
    exact .inl ⟨w1 (Nat.le_refl _), q V' A2 acc ys g hA2 sub al⟩
/-- [x for x in iter if ..], the test whichever way: some of them, in order; owned -/
theorem en_lcx [Mo R] {xs : List α} (i : Nat) (hc : X.calm = true) (hN : X.N.Nodup) (hi : X.N[i]? = some x) (hS : Src X (.Name x px) iter σ V none R xs) (hn : xs.length ≤ sizeLine) (ok : BlkOk X.N X.env.scope scope [(x, i)])
    (ht : ∀ a v V', a ∈ xs → Same V V' → R a v V' → EvTxb X scope c (σ.set i (some v)) V') (he : ∀ a v V', a ∈ xs → Same V V' → R a v V' → EvRb X scope elt (σ.set i (some v)) V' R a)
    (hx : ∀ s H C cl fp, Loc (bl X scope s H C cl fp).env.scope x := by first | exact fun _ _ _ _ _ => .inl rfl | exact fun _ _ _ _ _ => .inr rfl)
    (hf : ∀ s H C cl fp, (bl X scope s H C cl fp).fn x = true ∨ (bl X scope s H C cl fp).env.scope.names.lookup x = some .local := by first | exact fun _ _ _ _ _ => .inr rfl | exact fun _ _ _ _ _ => .inl rfl)
    (hs : ∀ x, foldedSetIterable iter X.env x = pure x := by intro _; rfl) : EvN X (.ListComp elt [⟨.Name x px, iter, [c], 0⟩] scope pos) σ V (fun o V' => ∃ ys acc, ys.Sublist xs ∧ o = .lst acc ∧ Al R ys acc V') := by
  obtain ⟨_, wi, hpi, hwi⟩ := hS
  obtain ⟨g, hpg, hg⟩ := tgb_name (R := R) (scope := scope) hN hi hx hf
  intro V1 A Q s l q
  refine re_of (pe_lc (tt := RTb X scope c) hc hN hpi ok hpg (fun s H C cl fp => pts_one ⟨fun pins s1 σ1 H1 Q I h => h s H C cl fp pins s1 I⟩) (fun s H C cl fp => pe_reb) hs) ?_
  refine hwi V1 A _ s l (fun _ z => nomatch z) fun J V2 A2 g2 hJ => fun D hD => ?_
  refine lcx_read hJ g2.va hn hg (fun a σ' V' at_ A Q l q s0 H C cl fp => ?_) (fun a σ' V' at_ => ?_) (fun V3 A3 acc ys g3 h1 h2 h3 => q V3 A3 D _ (g2.trans g3) h1 ⟨ys, acc, h2, rfl, h3⟩) hD
  · obtain ⟨v, h1, h2, h3, rfl⟩ := at_name (up := fun _ _ _ _ => True) at_
    exact ht a v V' h1 ((s.trans g2.vv).trans h2) h3 s0 H C cl fp V' A Q (Same.refl _) l q
  · obtain ⟨v, h1, h2, h3, rfl⟩ := at_name (up := fun _ _ _ _ => True) at_
    exact he a v V' h1 ((s.trans g2.vv).trans h2) h3
end
/-- what is read off owned things, seen without them -/
theorem grow_w {V M A W2 A2 : Hp} (w : Ow V M A) (g : Grow (jn V M) A W2 A2) : Stp V M A (sans W2 M) M A2 := by
  have s2 : ∀ b o, sans W2 M b = some o → M b = none ∧ W2 b = some o := fun b o h1 => by
    unfold sans at h1
    cases q : M b with
    | some u => rw [q] at h1; cases h1
    | none =>
      rw [q] at h1
      exact ⟨rfl, h1⟩
  have mV : ∀ b, V b ≠ none → M b = none := fun b hb => by
    cases q : M b with
    | none => rfl
    | some u => exact absurd (w.di b (by rw [q]; exact fun z => nomatch z)) hb
  refine ⟨fun b o e => ?_, ⟨fun b o e => g.va b o (s2 b o e).2, fun b o e => g.aa b o (w.ma b o e), fun b hb => ?_, w.mt⟩, fun b h1 h2 h3 => ⟨h2, fun t => ?_⟩, fun b o _ e => g.aa b o e⟩
  · unfold sans
    rw [mV b (by rw [e]; exact fun z => nomatch z)]
    exact g.vv b o (jn_v b o e)
  · cases q : sans W2 M b with
    | none => rfl
    | some o => exact absurd (s2 b o q).1 hb
  · have e : W2 b = none := g.fr b (by unfold jn; rw [h1]; exact h2) h3 t
    cases q : sans W2 M b with
    | none => rfl
    | some o => rw [(s2 b o q).2] at e; cases e
theorem lt_w {V M A W2 A2 : Hp} {α : Type} {R : Rf α} {a : α} {v : Vl} [Lt R] (w : Ow V M A) (g : Grow (jn V M) A W2 A2) (hM : NoPl M) (r : R a v W2) : R a v (sans W2 M) := by
  refine Lt.lt (fun b o e hp => ?_) r
  cases q : M b with
  | none =>
    unfold sans
    rw [q]
    exact e
  | some u =>
    have z := g.vv b u (by unfold jn; rw [w.di b (by rw [q]; exact fun z => nomatch z)]; exact q)
    rw [e] at z
    cases z
    exact absurd hp (hM b _ q)
/-! ### stores into an owned dict -/
section
variable {X : Cx} {σ : L2.St} {V M : Hp} {α β : Type} {R : Rf α} {S : Rf β} {a : α} {b : β} {e e1 e2 iter : Expr} {pos p px p1 p2 : Pos} {P : Post} {rest body : List Stmt} {x y : Str} {n : Int}
/-- o[i] = e, e a new thing, owned -/
theorem go_putN {Φ : HO → Hp → Prop} {d : Addr} {kvs : List (Key × Vl)} {o i : Expr} {key : Key} (hu : X.A.units + 1 < cLine) (ho : ∀ V' M', (∀ b u, M b = some u → M' b = some u) → Same V V' → EvR X o σ (jn V' M') (qA d) ()) (hi : ∀ V', EvR X i σ V' (fun (_ : Unit) v _ => v = kV key) ()) (hM : M d = some (.dK kvs)) (hl : kvs.length < sizeLine) (h : EvN X e σ V Φ)
    (ht : ∀ o V', Φ o V' → ∀ xs, o ≠ .tup xs) (k : ∀ V' l u, Same V V' → M l = none → V' l = none → Φ u V' → Go X rest σ V' (upd (upd M d (.dK (putK kvs key (.ref l)))) l u) P) (hs : swapsWith e (some (.Subscript o i px)) pos.line X.env = pure false := by rfl) : Go X (.Assign [.Subscript o i px] e pos :: rest) σ V M P :=
  go_of (ps_dput hu pe_re pe_re pe_re hs) fun A D w fi => h V A _ (Same.refl _) w.va fun V2 A2 l u g2 hd hΦ => by
    have w2 := (g2.stp w).ow
    have s2 := (g2.stp w).trans (Stp.make w2 hd (ht u V2 hΦ))
    have Ml : M l = none := by
      cases q : M l with
      | none => rfl
      | some z => rw [w2.ma l z q] at hd; cases hd
    have nd : d ≠ l := fun z => by rw [← z, hM] at Ml; cases Ml
    refine ho V2 (upd M l u) (fun b z h => by rw [upd_ne (fun q => by rw [q, Ml] at h; cases h)]; exact h) g2.vv _ _ _ (Same.refl _) (jn_sees.le s2.ow) fun V3 A3 x g3 rx => ?_
    have s3 := s2.trans (Stp.gar s2.ow g3)
    refine hi V2 V2 A3 _ (Same.refl _) s3.ow.va fun V4 A4 y g4 ry => ?_
    have s4 := s3.trans (g4.drop.stp s3.ow)
    have hM2 : upd M l u d = some (.dK kvs) := by rw [upd_ne nd]; exact hM
    refine ⟨d, _, rx, .inl ⟨kvs, key, s4.ow.ma d _ hM2, ry, hl, rfl⟩, ?_⟩
    have e : upd (upd M l u) d (.dK (putK kvs key (.ref l))) = upd (upd M d (.dK (putK kvs key (.ref l)))) l u := by
      funext b
      by_cases h1 : b = d
      · subst h1
        rw [upd_same, upd_ne nd, upd_same]
      · rw [upd_ne h1]
        by_cases h2 : b = l
        · subst h2
          rw [upd_same, upd_same]
        · rw [upd_ne h2, upd_ne h2, upd_ne h1]
    have s5 := s4.trans (Stp.set s4.ow hM2 (o' := .dK (putK kvs key (.ref l))))
    rw [e] at s5
    exact go_next fi s5 (k V2 l u g2.vv Ml (w2.va.free hd) hΦ)
/-- for over a seen list that an owned thing tells -/
theorem go_forW [Mo R] {tg : Expr} {up : L2.St → Vl → Hp → L2.St → Prop} {xs : List α} {vs : List Vl} {q : Addr} (hp : PassesOwn (model X.prog X.w) X.A X.env X.xe) (hc : X.calm = true) (ht : Tgt X tg R up) (hW : EvR X iter σ (jn V M) (qA q) ()) (hq : V q = some (.lst vs)) (al : Al R xs vs V)
    (I : Nat → L2.St → Hp → Hp → Prop) (h0 : I 0 σ V M)
    (hs : ∀ j a v σ' σ2 V0 V' M', xs[j]? = some a → I j σ' V0 M' → Same V V0 → Same V0 V' → R a v V' → up σ' v V' σ2 → Go X body σ2 V' M' { nx := I (j + 1), ct := I (j + 1), bk := fun σ2 V2 M2 => Go X rest σ2 V2 M2 P, rt := P.rt })
    (hd : ∀ σ' V' M', I xs.length σ' V' M' → Same V V' → Go X rest σ' V' M' P)
    (hs' : ∀ x, foldedSetIterable iter X.env x = pure x := by intro _; rfl) : Go X (.For tg iter body [] pos :: rest) σ V M P := by
  obtain ⟨g, hpg, hg⟩ := ht
  refine go_of (ps_for hp hc (pi_list pe_re) hpg pss_rs hs') fun A D w f => ?_
  refine hW (jn V M) A _ (Same.refl _) (jn_sees.le w) fun W2 A2 v g2 rv => ?_
  have s2 := Stp.gar w g2
  refine ⟨q, rv, ⟨vs, SqL.of (s2.ow.va.at hq)⟩, ?_⟩
  exact for_core (K := fun σ' V' M' => Go X rest σ' V' M' P) (T := P.rt) (walks_lst (v := .non) (A := A2) hq al) s2.ow hg (fun σ' V' M' A' s h => go_next f (s2.trans s) h) (fun v V' M' A' s h => f.rt v V' M' A' (s2.trans s) h) I h0 hs hd
/-- x = [elt for .. in .. if ..], read off owned things -/
theorem go_lcW {scope : Scope} {elt c : Expr} {γ : Type} {S : Rf γ} [Mo S] [Lt S] {xs : List α} {pf : α → Bool} {f : α → γ} {spos py : Pos} (i k : Nat) (hM : NoPl M) (hc : X.calm = true) (hN : X.N.Nodup) (hk : X.N[k]? = some y) (hyl : X.env.scope.names.lookup y = some .local) (hi : X.N[i]? = some x)
    (hS : Src X (.Name x px) iter σ (jn V M) none R xs) (hn : xs.length ≤ sizeLine) (ok : BlkOk X.N X.env.scope scope [(x, i)])
    (ht : ∀ a v V', a ∈ xs → Same (jn V M) V' → R a v V' → EvTb X scope c (σ.set i (some v)) V' (pf a))
    (he : ∀ a v V', a ∈ xs → pf a = true → Same (jn V M) V' → R a v V' → EvRb X scope elt (σ.set i (some v)) V' S (f a)) (q : ∀ V' v, Same V V' → qL S ((xs.filter pf).map f) v V' → Go X rest (σ.set k (some v)) V' M P)
    (hsw : swapsWith (.ListComp elt [⟨.Name x px, iter, [c], 0⟩] scope pos) (some (.Name y py)) spos.line X.env = pure true := by exact sw_true rfl rfl rfl (by decide +kernel))
    (hx : ∀ s H C cl fp, Loc (bl X scope s H C cl fp).env.scope x := by first | exact fun _ _ _ _ _ => .inl rfl | exact fun _ _ _ _ _ => .inr rfl)
    (hf : ∀ s H C cl fp, (bl X scope s H C cl fp).fn x = true ∨ (bl X scope s H C cl fp).env.scope.names.lookup x = some .local := by first | exact fun _ _ _ _ _ => .inr rfl | exact fun _ _ _ _ _ => .inl rfl)
    (hs : ∀ x, foldedSetIterable iter X.env x = pure x := by intro _; rfl) : Go X (.Assign [.Name y py] (.ListComp elt [⟨.Name x px, iter, [c], 0⟩] scope pos) spos :: rest) σ V M P := by
  obtain ⟨wi, g, tt, h1, h2, h3, h4⟩ := lc_tree (V := jn V M) (f := f) (S := S) (elt := elt) hS hn (tgb_name (R := R) hN hi hx hf) (ts_one (c := c) (p := pf) fun a σ' V' at_ => by
    obtain ⟨v, h1, h2, h3, rfl⟩ := at_name (up := fun _ _ _ _ => True) at_
    exact ht a v V' h1 h2 h3) (fun a σ' V' at_ hp => by
    obtain ⟨v, h1, h2, h3, rfl⟩ := at_name (up := fun _ _ _ _ => True) at_
    exact he a v V' h1 hp h2 h3)
  refine go_of (ps_setLc hc hN hk hyl hsw h1 ok h2 h3 (fun s H C cl fp => ⟨fun pins s1 σ1 H1 Q I h => h s H C cl fp pins s1 I⟩) hs) fun A D w fi => h4 (jn V M) A _ (Same.refl _) (jn_sees.le w) (fun _ z => (nomatch z)) fun W2 A2 v g2 r => ?_
  have s2 := grow_w w g2
  exact go_next fi s2 (q _ v s2.vv (lt_w w g2 hM r))
end
end Om
set_option maxHeartbeats 4000000
/-! Om, part N14: a dict display, stores by two. -/
namespace Om
open PySem PySem.Spec PyProof.Rows L2
section
variable {X : Cx} {σ : L2.St} {V M : Hp} {α β α1 α2 α3 α4 : Type} {R : Rf α} {S : Rf β} {R1 : Rf α1} {R2 : Rf α2} {R3 : Rf α3} {R4 : Rf α4} {a : α} {b : β} {a1 : α1} {a2 : α2} {a3 : α3} {a4 : α4} {e e1 e2 e3 e4 o i o2 i2 : Expr} {pos p p1 p2 p3 p4 px py pz : Pos} {P : Post} {rest body : List Stmt} {x y : Str} {k1 k2 k3 k4 : Str} {c1 c2 c3 c4 : Nat}
/-- {k1: e1, .., k4: e4}, owned -/
theorem en_disp4 [Mo R1] [Mo R2] [Mo R3] (h1 : EvR X e1 σ V R1 a1) (h2 : EvR X e2 σ V R2 a2) (h3 : EvR X e3 σ V R3 a3) (h4 : EvR X e4 σ V R4 a4) :
    EvN X (.Dict [some (.Constant (.str k1) c1 p1), some (.Constant (.str k2) c2 p2), some (.Constant (.str k3) c3 p3), some (.Constant (.str k4) c4 p4)] [e1, e2, e3, e4] pos) σ V
      (fun o V' => ∃ v1 v2 v3 v4, o = .dK (mergeK [] [(.inr k1, v1), (.inr k2, v2), (.inr k3, v3), (.inr k4, v4)]) ∧ R1 a1 v1 V' ∧ R2 a2 v2 V' ∧ R3 a3 v3 V' ∧ R4 a4 v4 V') := by
  intro V1 A Q s l q
  refine re_of (pe_disp (pps_cons pe_str pe_re (pps_cons pe_str pe_re (pps_cons pe_str pe_re (pps_cons pe_str pe_re pps_nil)))) rfl rfl (fun z => nomatch z) (by show 4 ≤ 15; decide)) ?_
  intro D hD
  have l0 : Le V1 (upd A D (.dK [])) := l.post (same_new hD)
  refine h1 V1 _ _ s l0 fun V2 A2 v1 g2 r1 => ?_
  refine h2 V2 A2 _ (s.trans g2.vv) g2.va fun V3 A3 v2 g3 r2 => ?_
  have t3 := g2.trans g3
  refine h3 V3 A3 _ (s.trans t3.vv) t3.va fun V4 A4 v3 g4 r3 => ?_
  have t4 := t3.trans g4
  refine h4 V4 A4 _ (s.trans t4.vv) t4.va fun V5 A5 v4 g5 r4 => ?_
  have t5 := t4.trans g5
  refine ⟨t5.aa D _ upd_same, [(.inr k1, v1), (.inr k2, v2), (.inr k3, v3), (.inr k4, v4)], rfl, (by show 4 ≤ 15; decide), ?_⟩
  obtain ⟨A6, g6, hA6, rfl⟩ := own_out l hD (t5.stp (Ow.make l hD))
  rw [upd_upd]
  exact q V5 A6 D _ g6 hA6 ⟨v1, v2, v3, v4, rfl, Mo.mo ((g3.trans g4).trans g5).vv r1, Mo.mo (g4.trans g5).vv r2, Mo.mo g5.vv r3, r4⟩
/-- o[i], y = e1, e2, o an owned dict -/
theorem go_unpSN [Mo R] {j : Nat} {d : Addr} {kvs : List (Key × Vl)} {key : Key} {kk kk2} (hu : X.A.units + 1 < cLine) (hc : X.calm = true) (hN : X.N.Nodup) (hj : X.N[j]? = some y) (hy : Loc X.env.scope y) (ho : ∀ V', Same V V' → EvR X o σ (jn V' M) (qA d) ()) (hi : ∀ V', EvR X i σ V' (fun (_ : Unit) v _ => v = kV key) ()) (hM : M d = some (.dK kvs)) (hl : kvs.length < sizeLine)
    (h1 : EvR X e1 σ V R a) (h2 : EvR X e2 σ V S b) (k : ∀ V' v u, Same V V' → R a v V' → S b u V' → Go X rest (σ.set j (some u)) V' (upd M d (.dK (putK kvs key v))) P)
    (hf2 : X.fn y = true ∨ X.env.scope.names.lookup y = some .local := by first | exact .inl rfl | exact .inr rfl)
    (hw : swappedStores [.Tuple [.Subscript o i px, .Name y py] kk p1] (.Tuple [e1, e2] kk2 p2) X.env = pure none := by rfl) (hs : swapsWithSole [.Tuple [.Subscript o i px, .Name y py] kk p1] (.Tuple [e1, e2] kk2 p2) pos.line X.env = pure false := by rfl)
    (h0 : (assignEach [.Tuple [.Subscript o i px, .Name y py] kk p1] X.env).map (·.2) = [assign (.Tuple [.Subscript o i px, .Name y py] kk p1) X.env] := by rfl) (hn : (assignEach [.Subscript o i px, .Name y py] X.env).length = 2 := by rfl) (hst : (assignEach [.Subscript o i px, .Name y py] X.env).findIdx? (·.1) = none := by rfl)
    (he : starEach [e1, e2] X.env = (false, eval e1 X.env) :: starEach [e2] X.env := by rfl) (he2 : starEach [e2] X.env = (false, eval e2 X.env) :: starEach [] X.env := by rfl)
    (hq : (assignEach [.Subscript o i px, .Name y py] X.env).map (·.2) = assign (.Subscript o i px) X.env :: (assignEach [.Name y py] X.env).map (·.2) := by rfl)
    (ha : ∀ v, assign (.Subscript o i px) X.env v = (do
      let ov ← holding [v] (eval o X.env)
      let iv ← holding [v, ov] (eval i X.env)
      standAt px
      holding [v, ov, iv] (setItem ov iv v)
      release [v, ov, iv] []) := by intro _; rfl) :
    Go X (.Assign [.Tuple [.Subscript o i px, .Name y py] kk p1] (.Tuple [e1, e2] kk2 p2) pos :: rest) σ V M P :=
  go_of (ps_asg (pe_tup (pa_cons pe_re (pa_cons pe_re pa_nil he2) he)) (pg_tup hc (pgs_cons (pg_sub pe_re pe_re (set_dict hu) ha) (pgs_cons (pg_name hN hj hy hf2) pgs_nil) hq) hn hst) hs hw h0) fun A D w f => h1 V A _ (Same.refl _) w.va fun V2 A2 v g2 r1 => by
    have s2 := g2.stp w
    refine h2 V2 _ _ g2.vv s2.ow.va fun V3 A3 u g3 r2 => ⟨by show 2 ≤ sizeLine; decide, fun t ht => ?_⟩
    have s3 := s2.trans (g3.stp s2.ow)
    have g4 : Grow V3 A3 _ _ := Grow.new (o := .tup [v, u]) s3.ow.va ht
    have s4 := s3.trans (g4.drop.stp s3.ow)
    refine ⟨t, [v, u], rfl, SqT.of upd_same, rfl, v, [u], rfl, ?_⟩
    refine ho V3 s4.vv _ _ _ (Same.refl _) (jn_sees.le s4.ow) fun V5 A5 z g5 rz => ?_
    have s5 := s4.trans (Stp.gar s4.ow g5)
    refine hi V3 V3 A5 _ (Same.refl _) s5.ow.va fun V6 A6 y' g6 ry => ?_
    have s6 := s5.trans (g6.drop.stp s5.ow)
    have s7 := s6.trans (Stp.set s6.ow hM (o' := .dK (putK kvs key v)))
    exact ⟨d, _, rz, .inl ⟨kvs, key, s6.ow.ma d _ hM, ry, hl, rfl⟩, u, [], rfl, rfl, go_next f s7 (k V3 v u s7.vv (Mo.mo g3.vv r1) r2)⟩
/-- o[i], o2[i2] = e1, e2, o an owned dict -/
theorem go_unpSS [Mo R] {d : Addr} {kvs : List (Key × Vl)} {key key2 : Key} {kk kk2} (hu : X.A.units + 1 < cLine) (hc : X.calm = true) (ho : ∀ V' M' kvs', M' d = some (.dK kvs') → Same V V' → EvR X o σ (jn V' M') (qA d) ()) (hi : ∀ V', EvR X i σ V' (fun (_ : Unit) v _ => v = kV key) ())
    (ho2 : ∀ V' M' kvs', M' d = some (.dK kvs') → Same V V' → EvR X o2 σ (jn V' M') (qA d) ()) (hi2 : ∀ V', EvR X i2 σ V' (fun (_ : Unit) v _ => v = kV key2) ()) (hM : M d = some (.dK kvs)) (hl : kvs.length + 1 < sizeLine)
    (h1 : EvR X e1 σ V R a) (h2 : EvR X e2 σ V S b) (k : ∀ V' v u, Same V V' → R a v V' → S b u V' → Go X rest σ V' (upd M d (.dK (putK (putK kvs key v) key2 u))) P)
    (hw : swappedStores [.Tuple [.Subscript o i px, .Subscript o2 i2 py] kk p1] (.Tuple [e1, e2] kk2 p2) X.env = pure none := by rfl) (hs : swapsWithSole [.Tuple [.Subscript o i px, .Subscript o2 i2 py] kk p1] (.Tuple [e1, e2] kk2 p2) pos.line X.env = pure false := by rfl)
    (h0 : (assignEach [.Tuple [.Subscript o i px, .Subscript o2 i2 py] kk p1] X.env).map (·.2) = [assign (.Tuple [.Subscript o i px, .Subscript o2 i2 py] kk p1) X.env] := by rfl) (hn : (assignEach [.Subscript o i px, .Subscript o2 i2 py] X.env).length = 2 := by rfl) (hst : (assignEach [.Subscript o i px, .Subscript o2 i2 py] X.env).findIdx? (·.1) = none := by rfl)
    (he : starEach [e1, e2] X.env = (false, eval e1 X.env) :: starEach [e2] X.env := by rfl) (he2 : starEach [e2] X.env = (false, eval e2 X.env) :: starEach [] X.env := by rfl)
    (hq : (assignEach [.Subscript o i px, .Subscript o2 i2 py] X.env).map (·.2) = assign (.Subscript o i px) X.env :: (assignEach [.Subscript o2 i2 py] X.env).map (·.2) := by rfl)
    (hq2 : (assignEach [.Subscript o2 i2 py] X.env).map (·.2) = assign (.Subscript o2 i2 py) X.env :: (assignEach [] X.env).map (·.2) := by rfl)
    (ha : ∀ v, assign (.Subscript o i px) X.env v = (do
      let ov ← holding [v] (eval o X.env)
      let iv ← holding [v, ov] (eval i X.env)
      standAt px
      holding [v, ov, iv] (setItem ov iv v)
      release [v, ov, iv] []) := by intro _; rfl)
    (ha2 : ∀ v, assign (.Subscript o2 i2 py) X.env v = (do
      let ov ← holding [v] (eval o2 X.env)
      let iv ← holding [v, ov] (eval i2 X.env)
      standAt py
      holding [v, ov, iv] (setItem ov iv v)
      release [v, ov, iv] []) := by intro _; rfl) :
    Go X (.Assign [.Tuple [.Subscript o i px, .Subscript o2 i2 py] kk p1] (.Tuple [e1, e2] kk2 p2) pos :: rest) σ V M P :=
  go_of (ps_asg (pe_tup (pa_cons pe_re (pa_cons pe_re pa_nil he2) he)) (pg_tup hc (pgs_cons (pg_sub pe_re pe_re (set_dict hu) ha) (pgs_cons (pg_sub pe_re pe_re (set_dict hu) ha2) pgs_nil hq2) hq) hn hst) hs hw h0) fun A D w f => h1 V A _ (Same.refl _) w.va fun V2 A2 v g2 r1 => by
    have s2 := g2.stp w
    refine h2 V2 _ _ g2.vv s2.ow.va fun V3 A3 u g3 r2 => ⟨by show 2 ≤ sizeLine; decide, fun t ht => ?_⟩
    have s3 := s2.trans (g3.stp s2.ow)
    have g4 : Grow V3 A3 _ _ := Grow.new (o := .tup [v, u]) s3.ow.va ht
    have s4 := s3.trans (g4.drop.stp s3.ow)
    refine ⟨t, [v, u], rfl, SqT.of upd_same, rfl, v, [u], rfl, ?_⟩
    refine ho V3 M kvs hM s4.vv _ _ _ (Same.refl _) (jn_sees.le s4.ow) fun V5 A5 z g5 rz => ?_
    have s5 := s4.trans (Stp.gar s4.ow g5)
    refine hi V3 V3 A5 _ (Same.refl _) s5.ow.va fun V6 A6 y' g6 ry => ?_
    have s6 := s5.trans (g6.drop.stp s5.ow)
    have s7 := s6.trans (Stp.set s6.ow hM (o' := .dK (putK kvs key v)))
    refine ⟨d, _, rz, .inl ⟨kvs, key, s6.ow.ma d _ hM, ry, by omega, rfl⟩, u, [], rfl, ?_⟩
    refine ho2 V3 _ _ upd_same s7.vv _ _ _ (Same.refl _) (jn_sees.le s7.ow) fun V8 A8 z8 g8 rz8 => ?_
    have s8 := s7.trans (Stp.gar s7.ow g8)
    refine hi2 V3 V3 A8 _ (Same.refl _) s8.ow.va fun V9 A9 y9 g9 ry9 => ?_
    have s9 := s8.trans (g9.drop.stp s8.ow)
    have s10 := s9.trans (Stp.set s9.ow upd_same (o' := .dK (putK (putK kvs key v) key2 u)))
    rw [upd_upd] at s10
    exact ⟨d, _, rz8, .inl ⟨_, key2, s9.ow.ma d _ upd_same, ry9, Nat.lt_of_le_of_lt (length_putK _ _ _) hl, rfl⟩, rfl, go_next f s10 (k V3 v u s10.vv (Mo.mo g3.vv r1) r2)⟩
end
end Om
set_option maxHeartbeats 4000000
/-! Om, plain: partings. -/
namespace Om
theorem enl_at {α : Type} {xs : List α} {i : Nat} {a : α} (h : xs[i]? = some a) : (enl xs)[i]? = some ((i : Int), a) := by
  unfold enl
  have hi : i < xs.length := (List.getElem?_eq_some_iff.mp h).1
  rw [List.getElem?_zipWith, h, List.getElem?_range hi]
theorem mem_enl {α : Type} {xs : List α} {z : Int × α} : z ∈ enl xs ↔ ∃ i : Nat, z.1 = (i : Int) ∧ xs[i]? = some z.2 := by
  constructor
  · intro h
    obtain ⟨i, hi⟩ := List.mem_iff_getElem?.mp h
    exact ⟨i, enl_get hi⟩
  · rintro ⟨i, h1, h2⟩
    have := enl_at h2
    rw [← h1] at this
    exact List.mem_of_getElem? this
theorem enl_pw {α : Type} (xs : List α) : (enl xs).Pairwise fun z y => z.1 < y.1 := by
  rw [List.pairwise_iff_getElem]
  intro i j hi hj hij
  have h1 := enl_get (List.getElem?_eq_getElem hi)
  have h2 := enl_get (List.getElem?_eq_getElem hj)
  rw [h1.1, h2.1]
  exact Int.ofNat_lt.mpr hij
theorem unlike_mem {xs : List Int} {c : Int} : c ∈ mUnlike xs ↔ c ∈ xs := by
  unfold mUnlike
  constructor
  · intro h
    obtain ⟨z, hz, rfl⟩ := List.mem_map.mp h
    obtain ⟨i, h1, h2⟩ := mem_enl.mp (List.mem_filter.mp hz).1
    exact List.mem_of_getElem? h2
  · intro h
    have hi := List.idxOf_lt_length_iff.mpr h
    refine List.mem_map.mpr ⟨(((xs.idxOf c : Nat) : Int), c), List.mem_filter.mpr ⟨mem_enl.mpr ⟨xs.idxOf c, rfl, ?_⟩, ?_⟩, rfl⟩
    · rw [List.getElem?_eq_getElem hi, List.getElem_idxOf hi]
    · show (!decide (c ∈ cut xs none (some ((xs.idxOf c : Nat) : Int)))) = true
      rw [cut_take]
      simp only [Bool.not_eq_true', decide_eq_false_iff_not]
      intro hm
      obtain ⟨j, hj⟩ := List.mem_iff_getElem?.mp hm
      have hjl := (List.getElem?_eq_some_iff.mp hj).1
      rw [List.length_take] at hjl
      rw [List.getElem?_take] at hj
      have hlt : j < xs.idxOf c := by omega
      rw [if_pos hlt] at hj
      have := List.not_of_lt_findIdx (p := fun x => x == c) (xs := xs) (i := j) hlt
      obtain ⟨hj1, hj2⟩ := List.getElem?_eq_some_iff.mp hj
      rw [hj2] at this
      simp at this
theorem unlike_nodup (xs : List Int) : (mUnlike xs).Nodup := by
  unfold mUnlike
  rw [List.Nodup, List.pairwise_map]
  refine List.Pairwise.imp_of_mem ?_ (List.Pairwise.filter _ (enl_pw xs))
  intro z y hz hy hlt e
  obtain ⟨i, h1, h2⟩ := mem_enl.mp (List.mem_filter.mp hz).1
  obtain ⟨j, g1, g2⟩ := mem_enl.mp (List.mem_filter.mp hy).1
  have hy2 := (List.mem_filter.mp hy).2
  rw [g1, cut_take] at hy2
  simp only [Bool.not_eq_true', decide_eq_false_iff_not] at hy2
  refine hy2 ?_
  have hij : i < j := by omega
  rw [← e]
  refine List.mem_of_getElem? (i := i) ?_
  rw [List.getElem?_take, if_pos hij]
  exact h2
/-- one part -/
def mPart1 (pp : List Pn) (ws : List Int) (c : Int) : List Pn := ((enl pp).filter fun z => decide (ws.getD z.1.toNat 0 = c)).map (·.2)
section
variable {pp : List Pn} {ws : List Int} {c : Int} {i : Pn} {l l' : List Pn}
theorem part1_mem (nd : pp.Nodup) : i ∈ mPart1 pp ws c ↔ i ∈ pp ∧ ws.getD (pp.idxOf i) 0 = c := by
  unfold mPart1
  constructor
  · intro h
    obtain ⟨z, hz, rfl⟩ := List.mem_map.mp h
    obtain ⟨hz1, hz2⟩ := List.mem_filter.mp hz
    obtain ⟨k, h1, h2⟩ := mem_enl.mp hz1
    have hk := (List.getElem?_eq_some_iff.mp h2)
    have e : pp.idxOf z.2 = k := by
      obtain ⟨hk1, hk2⟩ := hk
      rw [← hk2]
      exact List.Nodup.idxOf_getElem nd k hk1
    refine ⟨List.mem_of_getElem? h2, ?_⟩
    have := of_decide_eq_true hz2
    rw [h1] at this
    rw [e]
    exact this
  · rintro ⟨h1, h2⟩
    have hi := List.idxOf_lt_length_iff.mpr h1
    refine List.mem_map.mpr ⟨(((pp.idxOf i : Nat) : Int), i), List.mem_filter.mpr ⟨mem_enl.mpr ⟨pp.idxOf i, rfl, ?_⟩, ?_⟩, rfl⟩
    · rw [List.getElem?_eq_getElem hi, List.getElem_idxOf hi]
    · exact decide_eq_true h2
theorem parts_eq : mParts pp ws = (mUnlike ws).map (mPart1 pp ws) := rfl
theorem part1_sub : (mPart1 pp ws c).Sublist pp := by
  have h : (mPart1 pp ws c).Sublist ((enl pp).map (·.2)) := List.Sublist.map _ List.filter_sublist
  have e : (enl pp).map (·.2) = pp := by
    apply List.ext_getElem?
    intro i
    rw [List.getElem?_map]
    cases q : pp[i]? with
    | none =>
      have : (enl pp)[i]? = none := by
        rw [List.getElem?_eq_none_iff, enl_len]
        exact List.getElem?_eq_none_iff.mp q
      rw [this]
      rfl
    | some a =>
      rw [enl_at q]
      rfl
  rw [e] at h
  exact h
theorem part1_sub_mem (h : l ∈ mParts pp ws) (hi : i ∈ l) : i ∈ pp := by
  rw [parts_eq] at h
  obtain ⟨c, _, rfl⟩ := List.mem_map.mp h
  exact part1_sub.subset hi
theorem parts_uniq (nd : pp.Nodup) (h : l ∈ mParts pp ws) (h' : l' ∈ mParts pp ws) (hi : i ∈ l) (hi' : i ∈ l') : l = l' := by
  rw [parts_eq] at h h'
  obtain ⟨c, _, rfl⟩ := List.mem_map.mp h
  obtain ⟨c', _, rfl⟩ := List.mem_map.mp h'
  rw [← ((part1_mem nd).mp hi).2, ← ((part1_mem nd).mp hi').2]
theorem parts_ex (nd : pp.Nodup) (hl : ws.length = pp.length) (hi : i ∈ pp) : ∃ l ∈ mParts pp ws, i ∈ l := by
  have hk := List.idxOf_lt_length_iff.mpr hi
  refine ⟨mPart1 pp ws (ws.getD (pp.idxOf i) 0), ?_, (part1_mem nd).mpr ⟨hi, rfl⟩⟩
  rw [parts_eq]
  refine List.mem_map.mpr ⟨_, unlike_mem.mpr ?_, rfl⟩
  rw [List.getD_eq_getElem?_getD, List.getElem?_eq_getElem (by omega)]
  exact List.getElem_mem _
theorem parts_ne (nd : pp.Nodup) (hl : ws.length = pp.length) (h : l ∈ mParts pp ws) : l ≠ [] := by
  rw [parts_eq] at h
  obtain ⟨c, hc, rfl⟩ := List.mem_map.mp h
  have hm := unlike_mem.mp hc
  have hk := List.idxOf_lt_length_iff.mpr hm
  have hk2 : ws.idxOf c < pp.length := by omega
  intro e
  have : pp[ws.idxOf c] ∈ mPart1 pp ws c := (part1_mem nd).mpr ⟨List.getElem_mem _, by
    rw [List.Nodup.idxOf_getElem nd, List.getD_eq_getElem?_getD, List.getElem?_eq_getElem hk, List.getElem_idxOf hk]
    rfl⟩
  rw [e] at this
  exact nomatch this
theorem parts_nodup (nd : pp.Nodup) (hl : ws.length = pp.length) : (mParts pp ws).Nodup := by
  rw [parts_eq, List.Nodup, List.pairwise_map]
  refine List.Pairwise.imp_of_mem ?_ (unlike_nodup ws)
  intro a b ha hb hab e
  have hne := parts_ne (l := mPart1 pp ws a) nd hl (by rw [parts_eq]; exact List.mem_map.mpr ⟨a, ha, rfl⟩)
  obtain ⟨i, hi⟩ := List.exists_mem_of_ne_nil _ hne
  have h1 := ((part1_mem nd).mp hi).2
  rw [e] at hi
  exact hab (h1.symm.trans ((part1_mem nd).mp hi).2)
theorem nodup_le {α : Type} [DecidableEq α] : ∀ {l m : List α}, l.Nodup → (∀ x ∈ l, x ∈ m) → l.length ≤ m.length
  | [], _, _, _ => Nat.zero_le _
  | x :: l, m, nd, h => by
    obtain ⟨h1, h2⟩ := List.nodup_cons.mp nd
    have hx := h x List.mem_cons_self
    have := nodup_le (l := l) (m := m.erase x) h2 fun y hy => (List.mem_erase_of_ne (fun e => h1 (by rw [← e]; exact hy))).mpr (h y (List.mem_cons_of_mem _ hy))
    rw [List.length_erase_of_mem hx] at this
    have := List.length_pos_of_mem hx
    rw [List.length_cons]
    omega
theorem parts_len (hw : ∀ x ∈ ws, 0 ≤ x ∧ x < 3) : (mParts pp ws).length ≤ 3 := by
  rw [parts_eq, List.length_map]
  refine nodup_le (m := [0, 1, 2]) (unlike_nodup ws) fun x hx => ?_
  have := hw x (unlike_mem.mp hx)
  simp
  omega
theorem lst_of (nd : pp.Nodup) (h : l ∈ mParts pp ws) (hi : i ∈ l) : mLst (mParts pp ws) i = l := by
  unfold mLst
  cases q : (mParts pp ws).filter fun l => decide (i ∈ l) with
  | nil =>
    have : l ∈ (mParts pp ws).filter fun l => decide (i ∈ l) := List.mem_filter.mpr ⟨h, decide_eq_true hi⟩
    rw [q] at this
    exact nomatch this
  | cons l' r =>
    have : l' ∈ (mParts pp ws).filter fun l => decide (i ∈ l) := by rw [q]; exact List.mem_cons_self
    obtain ⟨h1, h2⟩ := List.mem_filter.mp this
    exact parts_uniq nd h1 h (of_decide_eq_true h2) hi
end
end Om
set_option maxHeartbeats 4000000
/-! Om, the law's defs: plan, its facts and its start. -/
namespace Om
open PySem PySem.Spec PyProof.Rows L2
/-- what a drawn plan keeps -/
structure Pl.good (x : Pl) : Prop where
  nd : x.pp.Nodup
  p2 : 2 ≤ x.pp.length
  p7 : x.pp.length ≤ 7
  m1 : 1 ≤ x.most
  m3 : x.most ≤ 3
  ls : ∃ ws : List Int, ws.length = x.pp.length ∧ (∀ v ∈ ws, 0 ≤ v ∧ v < 3) ∧ x.lists = mParts x.pp ws
  rd : ∃ rs : List (Pn × Pn), x.reads = (mPairs x.pp).filter fun z => decide (z ∈ rs)
  hr : ∀ l ∈ x.lists, 1 < l.length → ∀ i ∈ l, 2 * x.trim < (mWho (x.pp, x.reads) i).length
  t1 : x.ga = .trim → 1 ≤ x.trim ∧ x.trim ≤ 3
  t2 : x.ga ≠ .trim → x.trim = 0
  pz : x.prizes ≤ 8
def PlE (ks : List (Key × Vl)) (x : Pl) (H : Hp) : Prop := ∃ u1 u2 u3, valV ks (.inr "people") = some u1 ∧ qL qP x.pp u1 H ∧ valV ks (.inr "lists") = some u2 ∧ qL (qL qP) x.lists u2 H ∧ valV ks (.inr "reads") = some u3 ∧ qL (q2 qP qP) x.reads u3 H ∧
  valV ks (.inr "most") = some (.int (x.most : Int)) ∧ valV ks (.inr "turn") = some (.str "plain") ∧ valV ks (.inr "gather") = some (.str (gaS x.ga)) ∧ valV ks (.inr "trim") = some (.int (x.trim : Int)) ∧ valV ks (.inr "prizes") = some (.int (x.prizes : Int))
theorem PlE.mo {ks : List (Key × Vl)} {x : Pl} {H H' : Hp} (s : Same H H') (h : PlE ks x H) : PlE ks x H' := by
  obtain ⟨u1, u2, u3, l1, r1, l2, r2, l3, r3, r⟩ := h
  exact ⟨u1, u2, u3, l1, Mo.mo s r1, l2, Mo.mo s r2, l3, Mo.mo s r3, r⟩
theorem PlE.at {ks : List (Key × Vl)} {x : Pl} {H : Hp} {d : Addr} (h : PlE ks x H) (hd : Rd H d (.dK ks)) : qPl x (.ref d) H := by
  obtain ⟨u1, u2, u3, l1, r1, l2, r2, l3, r3, r⟩ := h
  exact ⟨d, ks, u1, u2, u3, rfl, hd, l1, r1, l2, r2, l3, r3, r⟩
section
variable {κ : Type} [DecidableEq κ] {ks : List (κ × Vl)} {k j : κ} {y : Vl}
theorem vput_eq : valV (putK ks k y) k = some y := by rw [valV_put, if_pos rfl]
theorem vput_ne (h : j ≠ k) : valV (putK ks k y) j = valV ks j := by rw [valV_put, if_neg h]
end
section
variable {X : Cx} {σ : L2.St} {V M : Hp} {β : Type} {S : Rf β} {b : β} {e : Expr} {pos p : Pos} {key : Str} {c : Nat}
/-- d["key"], d by its address -/
theorem ev_pl [Mo S] {d : Addr} {ks : List (Key × Vl)} {u : Vl} (hu : X.A.units + 1 < cLine) (h : EvR X e σ V (qA d) ()) (hW : Rd V d (.dK ks)) (hv : valV ks (.inr key) = some u) (r : S b u V) : EvR X (.Subscript e (.Constant (.str key) c p) pos) σ V S b := by
  have : Mo (fun (_ : Unit) v H => v = L2.V.ref d ∧ Rd H d (.dK ks) ∧ S b u H) := ⟨fun s ⟨e, h, r⟩ => ⟨e, rd_mo s h, Mo.mo s r⟩⟩
  exact ev_gets (Z := fun (_ : Unit) v H => v = L2.V.ref d ∧ Rd H d (.dK ks) ∧ S b u H) (a := ()) hu (h.conv fun v V' s e => ⟨e, rd_mo s hW, Mo.mo s r⟩) (fun v H ⟨e, h, r⟩ => ⟨d, ks, u, e, h, hv, r⟩)
theorem ev_key (key : Str) : EvR X (.Constant (.str key) c p) σ V (fun (_ : Unit) v _ => v = kV (.inr key)) () := ev_str.conv fun v V' _ r => r
end
def qPplR : Rf (Int × Int) := fun z v V => ∃ n : Int, z.1 ≤ n ∧ n < z.2 ∧ qPpl n v V
theorem ga_of {g : Str} (h : g ∈ (["sum", "mean", "median", "trim", "least", "greatest"] : List Str)) : ∃ ga : Ga, g = gaS ga := by
  simp only [List.mem_cons, List.not_mem_nil, or_false] at h
  rcases h with rfl | rfl | rfl | rfl | rfl | rfl
  · exact ⟨.sum, rfl⟩
  · exact ⟨.mean, rfl⟩
  · exact ⟨.median, rfl⟩
  · exact ⟨.trim, rfl⟩
  · exact ⟨.least, rfl⟩
  · exact ⟨.greatest, rfl⟩
theorem min_ex : ∀ (l : List Int) (a : Int), ∃ k, k ∈ (a :: l) ∧ ∀ y ∈ (a :: l), k ≤ y
  | [], a => ⟨a, List.mem_cons_self, fun y hy => by simp at hy; omega⟩
  | b :: l, a => by
    obtain ⟨k, h1, h2⟩ := min_ex l b
    by_cases h : a ≤ k
    · exact ⟨a, List.mem_cons_self, fun y hy => by
        rcases List.mem_cons.mp hy with rfl | hy
        · exact Int.le_refl _
        · exact Int.le_trans h (h2 y hy)⟩
    · exact ⟨k, List.mem_cons_of_mem _ h1, fun y hy => by
        rcases List.mem_cons.mp hy with rfl | hy
        · omega
        · exact h2 y hy⟩
section
variable {P : Program} {w : World} {K : PySem.W.Frag} {mg : Str → Option Value} {base : Heap} {cC cR cS : Addr}
variable (F : Fx K mg cC cR cS)
include F
theorem ok_people2 : Gfn P w K mg base "_law_people" 2 (sp2 qPo qRn (fun _ z => 0 ≤ z.1 ∧ z.2 ≤ 9) qPplR (fun _ z => z)) :=
  (ok_law_people (P := P) (w := w) (base := base) F).imp fun vs H Q E h => by
    obtain ⟨v1, v2, a, z, V, rfl, l, r1, ⟨d, d0, d1, rfl⟩, ⟨h1, h2⟩, q⟩ := h
    exact ⟨v1, _, a, d, V, rfl, l, r1, rfl, ⟨by omega, by omega⟩, fun V' H' v g r => q V' H' v g ⟨d, d0, d1, r⟩⟩
end
end Om
set_option maxHeartbeats 4000000
/-! Om, the law's defs: plan, its end. -/
namespace Om
open PySem PySem.Spec PyProof.Rows L2
def PlanP : Post := { nx := fun _ _ _ => False, rt := fun v V' M' => ∃ (d : Addr) (ks : List (Key × Vl)) (x : Pl), v = .ref d ∧ M' = upd H0 d (.dK ks) ∧ x.good ∧ PlE ks x V' ∧ ks.length ≤ 20 }
/-- .. before the trim is told -/
structure Pl.pre (x : Pl) : Prop where
  nd : x.pp.Nodup
  p2 : 2 ≤ x.pp.length
  p7 : x.pp.length ≤ 7
  m1 : 1 ≤ x.most
  m3 : x.most ≤ 3
  ls : ∃ ws : List Int, ws.length = x.pp.length ∧ (∀ v ∈ ws, 0 ≤ v ∧ v < 3) ∧ x.lists = mParts x.pp ws
  rd : ∃ rs : List (Pn × Pn), x.reads = (mPairs x.pp).filter fun z => decide (z ∈ rs)
  hr : ∀ l ∈ x.lists, 1 < l.length → ∀ i ∈ l, 0 < (mWho (x.pp, x.reads) i).length
  tr : x.trim = 0
  pz : x.prizes ≤ 8
theorem noPl_dK {d : Addr} {ks : List (Key × Vl)} : NoPl (upd H0 d (.dK ks)) := fun b o e hp => by
  by_cases hb : b = d
  · subst hb
    rw [upd_same] at e
    cases e
    exact hp
  · rw [upd_ne hb] at e
    cases e
section
variable {P : Program} {w : World} {K : PySem.W.Frag} {mg : Str → Option Value} {base : Heap} {cC cR cS : Addr}
abbrev XPl (P : Program) (w : World) (K : PySem.W.Frag) (mg : Str → Option Value) (base : Heap) (f : Addr) (cdv : Value) (A : Around) (outer : List Env) (s : Shared) (H : Hp) (E : XK) : Cx := bodyX P w K mg base n_W_plan "_law_plan" s_W_plan f cdv A outer s H E
theorem plan_ret {f : Addr} {cdv : Value} {A : Around} {outer : List Env} {s : Shared} {H : Hp} {E : XK} {σ : L2.St} {V : Hp} {d : Addr} {ks : List (Key × Vl)} {x : Pl} {rest : List Stmt} {p p2 : Pos} (hσ : σ[6]? = some (some (.ref d))) (hg : x.good) (hE : PlE ks x V) (hl : ks.length ≤ 20) :
    Go (XPl P w K mg base f cdv A outer s H E) (.Return (some (.Name "_law_plan_here" p)) p2 :: rest) σ V (upd H0 d (.dK ks)) PlanP :=
  go_ret (R := qA d) (a := ()) (ev_var (i := 6) rfl (.inr (.inl rfl)) hσ rfl) fun V' v s r => ⟨d, ks, x, r, rfl, hg, hE.mo s, hl⟩
variable (F : Fx K mg cC cR cS)
include F
theorem plan_end (f : Addr) (cdv : Value) (A : Around) (outer : List Env) (s : Shared) (H : Hp) (E : XK) {v1 v2 v3 v4 v5 v6 : Vl} {y7 y8 y9 y10 : Option Vl} {V : Hp} {d : Addr} {ks : List (Key × Vl)} {x : Pl} (hr : Room 2 (XPl P w K mg base f cdv A outer s H E).A)
    (r6 : qL qP x.pp v6 V) (hx : x.pre) (hE : PlE ks x V) (hl : ks.length ≤ 18) :
    Go (XPl P w K mg base f cdv A outer s H E) (List.drop 8 (defBody s_W_plan)) [some v1, some v2, some v3, some v4, some v5, some v6, some (.ref d), y7, y8, y9, y10, none, none, none] V (upd H0 d (.dK ks)) PlanP := by
  have hu : (XPl P w K mg base f cdv A outer s H E).A.units + 1 < cLine := by have := hr.units; omega
  obtain ⟨ws, w1, w2, w3⟩ := hx.ls
  have p7 := hx.p7
  refine go_di fun di => ?_
  have jd : jn V (upd H0 d (.dK ks)) d = some (.dK ks) := jn_at di upd_same
  have rP : qPl x (.ref d) (jn V (upd H0 d (.dK ks))) := (hE.mo jn_v).at (.inl jd)
  have hE0 := hE
  obtain ⟨u1, u2, u3, l1, q1, l2, q2, l3, q3, l4, l5, l6, l7, l8⟩ := hE0
  refine go_if (hW := jn_sees) (et_cmp (o_eqG (g := x.ga) .trim) (ev_pl hu (ev_var (i := 6) rfl (.inr (.inl rfl)) rfl rfl) (.inl jd) l6 rfl) ev_str) (fun h => ?_) (fun h => go_nil ?_)
  · have hga : x.ga = .trim := of_decide_eq_true h
    refine go_lcW (xs := x.pp) (R := qP) (S := qI) (pf := fun i => decide (1 < ((mLst x.lists i).length : Int))) (f := fun i => ((mWho (x.pp, x.reads) i).length : Int)) 13 11 noPl_dK rfl sc_W_plan.nd rfl rfl rfl (src_list (ev_var (i := 5) rfl (.inl rfl) rfl (Mo.mo jn_v r6))) (by rw [sizeLine_eq]; omega) (blkOk_by (N := n_W_plan) (sc := defScope s_W_plan) (by decide +kernel))
      (fun i v V' hi sv ri => fun s0 H1 C cl fp => et_cmp o_gt (ev_b1 f_lenL (by rfl) F.m_len PySem.boot_len (ev_c2 (a := x.lists) (b := i) ((ok_law_list (P := P) (w := w) (base := base) F).cal (X := bl (XPl P w K mg base f cdv A outer s H E) _ s0 H1 C cl fp) hr (by rfl)) (EvR.conv (ev_var (i := 6) rfl (.inr (.inl rfl)) rfl (Mo.mo sv rP)) fun v V' _ rr => pl_PL rr) (ev_var (i := 13) rfl (.inl rfl) rfl ri) ⟨by rw [w3]; exact parts_ex hx.nd w1 hi, by rw [w3]; have := parts_len (pp := x.pp) w2; omega⟩)) ev_int)
      (fun i v V' hi _ sv ri => fun s0 H1 C cl fp => ev_b1 f_lenL (by rfl) F.m_len PySem.boot_len (ev_c2 (a := (x.pp, x.reads)) (b := i) ((ok_law_readers (P := P) (w := w) (base := base) F).cal (X := bl (XPl P w K mg base f cdv A outer s H E) _ s0 H1 C cl fp) hr (by rfl)) (EvR.conv (ev_var (i := 6) rfl (.inr (.inl rfl)) rfl (Mo.mo sv rP)) fun v V' _ rr => pl_PR rr) (ev_var (i := 13) rfl (.inl rfl) rfl ri) (by show x.pp.length ≤ 8; omega))) fun V2 cv s2 rc => ?_
    have hcs : ∀ i ∈ x.pp, 1 < (mLst x.lists i).length → ((mWho (x.pp, x.reads) i).length : Int) ∈ (x.pp.filter fun i => decide (1 < ((mLst x.lists i).length : Int))).map fun i => ((mWho (x.pp, x.reads) i).length : Int) := fun i hi hl => List.mem_map.mpr ⟨i, List.mem_filter.mpr ⟨hi, decide_eq_true (by omega)⟩, rfl⟩
    have hcl : ((x.pp.filter fun i => decide (1 < ((mLst x.lists i).length : Int))).map fun i => ((mWho (x.pp, x.reads) i).length : Int)).length ≤ 7 := by
      rw [List.length_map]
      exact Nat.le_trans (List.length_filter_le _ _) p7
    have hc1 : ∀ y ∈ (x.pp.filter fun i => decide (1 < ((mLst x.lists i).length : Int))).map fun i => ((mWho (x.pp, x.reads) i).length : Int), 1 ≤ y := fun y hy => by
      obtain ⟨i, hi, rfl⟩ := List.mem_map.mp hy
      obtain ⟨h1, h2⟩ := List.mem_filter.mp hi
      have h2 := of_decide_eq_true h2
      obtain ⟨l, g1, g2⟩ := parts_ex (ws := ws) hx.nd w1 h1
      rw [w3, lst_of hx.nd g1 g2] at h2
      have := hx.hr l (by rw [w3]; exact g1) (by omega) i g2
      omega
    generalize (x.pp.filter fun i => decide (1 < ((mLst x.lists i).length : Int))).map (fun i => ((mWho (x.pp, x.reads) i).length : Int)) = cs at rc hcs hcl hc1
    obtain ⟨mn, n1, n2⟩ := min_ex cs 9
    have mn1 : 1 ≤ mn := by
      rcases List.mem_cons.mp n1 with rfl | h
      · decide
      · exact hc1 _ h
    have t0 : 0 ≤ (if (mn - 1) / 2 < 3 then (mn - 1) / 2 else 3) ∧ (if (mn - 1) / 2 < 3 then (mn - 1) / 2 else 3) ≤ 3 ∧ (if (mn - 1) / 2 < 3 then (mn - 1) / 2 else 3) ≤ (mn - 1) / 2 := by
      split <;> omega
    obtain ⟨tn, htn⟩ : ∃ tn : Nat, (if (mn - 1) / 2 < 3 then (mn - 1) / 2 else 3) = (tn : Int) := ⟨(if (mn - 1) / 2 < 3 then (mn - 1) / 2 else 3).toNat, by omega⟩
    obtain ⟨t, ht⟩ : ∃ t : Nat, t = if cs = [] then 1 else tn := ⟨_, rfl⟩
    have ht3 : t ≤ 3 := by
      rw [ht]
      split <;> omega
    refine go_putK (d := d) (kvs := ks) (key := .inr "trim") (R := qNat) (a := t) hu (fun V4 sv => ev_var (i := 6) rfl (.inr (.inl rfl)) rfl rfl) (fun V4 sv => ev_key "trim") upd_same (by rw [sizeLine_eq]; omega)
      (EvR.m (ev_if (et_cmp (o_eqD (R := qL qI) (b := []) (by have := hr.units; omega)) (ev_var (i := 11) rfl (.inl rfl) rfl rc) (ev_lst el_nil (Nat.zero_le _))) (fun h => ev_nat ev_int (by rw [ht, if_pos (of_decide_eq_true h)]; rfl))
        (fun h => ev_nat (ev_b2 (f_min2 rfl) (by rfl) F.m_min PyProof.Rows.boot_min ev_int (ev_t1 f_intI (by rfl) F.m_int PyProof.Rows.boot_int (ev_bin (o_fdiv ⟨by decide, by decide⟩) (ev_bin o_sub (ev_b1 (f_min rfl n1 n2) (by rfl) F.m_min PyProof.Rows.boot_min (ev_bin (o_cat (xs := [9]) (ys := cs) (by rw [sizeLine_eq]; simp; omega)) (ev_lst (el_cons ev_int el_nil) (by decide)) (ev_var (i := 11) rfl (.inl rfl) rfl rc))) ev_int) ev_int))) (by rw [ht, if_neg (of_decide_eq_false h)]; exact htn)))) fun V3 tv s3 rt => ?_
    rw [upd_upd]
    have etv : tv = .int (t : Int) := rt
    subst etv
    refine go_di fun di3 => ?_
    have jd3 : jn V3 (upd H0 d (.dK (putK ks (.inr "trim") (.int (t : Int))))) d = some (.dK (putK ks (.inr "trim") (.int (t : Int)))) := jn_at di3 upd_same
    have kl := length_putK ks (.inr "trim") (L2.V.int (t : Int))
    obtain ⟨ga', hga'⟩ : ∃ ga' : Ga, ga' = if 0 < t then Ga.trim else Ga.median := ⟨_, rfl⟩
    refine go_putK (d := d) (kvs := putK ks (.inr "trim") (.int (t : Int))) (key := .inr "gather") (R := qG) (a := ga') hu (fun V4 sv => ev_var (i := 6) rfl (.inr (.inl rfl)) rfl rfl) (fun V4 sv => ev_key "gather") upd_same (by rw [sizeLine_eq]; omega)
      (EvR.wf (ev_if (et_cmp (o_gt (i := (t : Int)) (j := 0)) (ev_pl hu (ev_var (i := 6) rfl (.inr (.inl rfl)) rfl rfl) (.inl jd3) vput_eq rfl) ev_int) (fun h => EvR.conv ev_str fun v V' _ r => ?_) (fun h => EvR.conv ev_str fun v V' _ r => ?_))) fun V4 gv s4 rg => ?_
    · rw [hga', if_pos (by have := of_decide_eq_true h; omega)]
      exact r
    · rw [hga', if_neg (by have := of_decide_eq_false h; omega)]
      exact r
    rw [upd_upd]
    have egv : gv = .str (gaS ga') := rg
    subst egv
    have kl2 := length_putK (putK ks (.inr "trim") (.int (t : Int))) (.inr "gather") (L2.V.str (gaS ga'))
    have sV := (s2.trans s3).trans s4
    refine go_nil (plan_ret (x := { x with ga := ga', trim := t }) rfl ⟨hx.nd, hx.p2, hx.p7, hx.m1, hx.m3, ⟨ws, w1, w2, w3⟩, hx.rd, fun l hl hl1 i hi => ?_, fun e => ?_, fun e => ?_, hx.pz⟩ ?_ (by omega))
    · show 2 * t < (mWho (x.pp, x.reads) i).length
      have hl' : l ∈ mParts x.pp ws := by rw [← w3]; exact hl
      have hm := hcs i (part1_sub_mem hl' hi) (by rw [w3, lst_of hx.nd hl' hi]; exact hl1)
      have hne : cs ≠ [] := List.ne_nil_of_mem hm
      rw [if_neg hne] at ht
      have := n2 _ (List.mem_cons_of_mem _ hm)
      omega
    · have e : ga' = .trim := e
      rw [hga'] at e
      by_cases h0 : 0 < t
      · exact ⟨h0, ht3⟩
      · rw [if_neg h0] at e
        cases e
    · have e : ga' ≠ .trim := e
      rw [hga'] at e
      by_cases h0 : 0 < t
      · rw [if_pos h0] at e
        exact absurd rfl e
      · show t = 0
        omega
    · exact ⟨u1, u2, u3, by rw [vput_ne (by decide), vput_ne (by decide)]; exact l1, Mo.mo sV q1, by rw [vput_ne (by decide), vput_ne (by decide)]; exact l2, Mo.mo sV q2, by rw [vput_ne (by decide), vput_ne (by decide)]; exact l3, Mo.mo sV q3, by rw [vput_ne (by decide), vput_ne (by decide)]; exact l4, by rw [vput_ne (by decide), vput_ne (by decide)]; exact l5, vput_eq, by rw [vput_ne (by decide)]; exact vput_eq, by rw [vput_ne (by decide), vput_ne (by decide)]; exact l8⟩
  · have hga : x.ga ≠ .trim := of_decide_eq_false h
    refine plan_ret (x := x) rfl ⟨hx.nd, hx.p2, hx.p7, hx.m1, hx.m3, ⟨ws, w1, w2, w3⟩, hx.rd, fun l hl hl1 i hi => ?_, fun e => absurd e hga, fun _ => hx.tr, hx.pz⟩ hE (by omega)
    rw [hx.tr]
    exact hx.hr l hl hl1 i hi
end
end Om
set_option maxHeartbeats 4000000
/-! Om, the law's defs: plan, its middle. -/
namespace Om
open PySem PySem.Spec PyProof.Rows L2
theorem dec_irrel {p : Prop} {i j : Decidable p} : @decide p i = @decide p j := by rw [Subsingleton.elim i j]
/-- what the plan holds while its reads are made -/
structure PlM (pp : List Pn) (m : Nat) (ws : List Int) (ks : List (Key × Vl)) (l : Addr) (V : Hp) : Prop where
  nd : pp.Nodup
  p2 : 2 ≤ pp.length
  p7 : pp.length ≤ 7
  m1 : 1 ≤ m
  m3 : m ≤ 3
  w1 : ws.length = pp.length
  w2 : ∀ v ∈ ws, 0 ≤ v ∧ v < 3
  ex : ∃ u1 u2, valV ks (.inr "people") = some u1 ∧ qL qP pp u1 V ∧ valV ks (.inr "lists") = some u2 ∧ qL (qL qP) (mParts pp ws) u2 V
  rd : valV ks (.inr "reads") = some (.ref l)
  mo : valV ks (.inr "most") = some (.int (m : Int))
  tu : valV ks (.inr "turn") = some (.str "plain")
  tr : valV ks (.inr "trim") = some (.int 0)
  kl : ks.length ≤ 8
theorem PlM.up {pp : List Pn} {m : Nat} {ws : List Int} {ks : List (Key × Vl)} {l : Addr} {V V' : Hp} (h : PlM pp m ws ks l V) (s : Same V V') : PlM pp m ws ks l V' := by
  obtain ⟨u1, u2, h1, h2, h3, h4⟩ := h.ex
  exact ⟨h.nd, h.p2, h.p7, h.m1, h.m3, h.w1, h.w2, ⟨u1, u2, h1, Mo.mo s h2, h3, Mo.mo s h4⟩, h.rd, h.mo, h.tu, h.tr, h.kl⟩
section
variable {P : Program} {w : World} {K : PySem.W.Frag} {mg : Str → Option Value} {base : Heap} {cC cR cS : Addr}
variable (F : Fx K mg cC cR cS)
include F
theorem plan_mid (f : Addr) (cdv : Value) (A : Around) (outer : List Env) (s : Shared) (H : Hp) (E : XK) {v1 v2 v3 v4 v5 v6 v9 : Vl} {y7 y10 : Option Vl} {V : Hp} {d l : Addr} {ks : List (Key × Vl)} {pp : List Pn} {m : Nat} {ws : List Int} {rs : List (Pn × Pn)} {acc : List Vl} (hr : Room 2 (XPl P w K mg base f cdv A outer s H E).A)
    (r1 : qPo () v1 V) (r6 : qL qP pp v6 V) (hx : PlM pp m ws ks l V) (hdl : d ≠ l) (al : Al (q2 qP qP) rs acc V) (hrl : rs.length ≤ 1000) (dn : ∀ q ∈ mParts pp ws, 1 < q.length → ∀ i ∈ q, ∃ k, (k, i) ∈ rs ∧ (k, i) ∈ mPairs pp) :
    Go (XPl P w K mg base f cdv A outer s H E) (List.drop 5 (defBody s_W_plan)) [some v1, some v2, some v3, some v4, some v5, some v6, some (.ref d), y7, none, some v9, y10, none, none, none] V (upd (upd H0 d (.dK ks)) l (.lst acc)) PlanP := by
  have hu : (XPl P w K mg base f cdv A outer s H E).A.units + 1 < cLine := by have := hr.units; omega
  have hu65 : (XPl P w K mg base f cdv A outer s H E).A.units + 65 < cLine := by have := hr.un; omega
  have p7 := hx.p7
  have p2 := hx.p2
  have kl := hx.kl
  have hpl : (mPairs pp).length ≤ 49 := Nat.le_trans (pairs_len pp) (Nat.le_trans (Nat.mul_le_mul p7 p7) (by decide))
  refine go_di fun di => ?_
  have hVl : V l = none := di l (by rw [upd_same]; exact fun z => nomatch z)
  have hVd : V d = none := di d (by rw [upd_ne hdl, upd_same]; exact fun z => nomatch z)
  refine go_pub (V1 := upd V l (.lst acc)) (M1 := upd H0 d (.dK ks)) ?_ (same_upd hVl) (fun b o e => ?_) fun b o e => ?_
  rotate_left
  · by_cases hb : b = l
    · subst hb
      rw [upd_same] at e ⊢
      exact .inr e
    · rw [upd_ne hb] at e
      exact .inl e
  · by_cases hb : b = d
    · subst hb
      rw [upd_same] at e
      rw [upd_ne hdl, upd_same, upd_ne hdl]
      exact ⟨e, hVd⟩
    · rw [upd_ne hb] at e
      cases e
  have sl : Same V (upd V l (.lst acc)) := same_upd hVl
  have rr : qL (q2 qP qP) rs (.ref l) (upd V l (.lst acc)) := ⟨l, acc, rfl, upd_same, al.mo sl, by rw [sizeLine_eq]; omega⟩
  have hx1 := hx.up sl
  have r1' : qPo () v1 (upd V l (.lst acc)) := Mo.mo sl r1
  have r6' : qL qP pp v6 (upd V l (.lst acc)) := Mo.mo sl r6
  generalize upd V l (.lst acc) = V1 at *
  refine go_di fun di1 => ?_
  have jd : jn V1 (upd H0 d (.dK ks)) d = some (.dK ks) := jn_at di1 upd_same
  refine go_putK (d := d) (kvs := ks) (key := .inr "reads") (R := qL (q2 qP qP)) (a := (mPairs pp).filter fun z => decide (z ∈ rs)) hu (fun V4 sv => ev_var (i := 6) rfl (.inr (.inl rfl)) rfl rfl) (fun V4 sv => ev_key "reads") upd_same (by rw [sizeLine_eq]; omega)
    (EvR.w (EvR.eq (ev_lcf (xs := mPairs pp) (R := q2 qP qP) (S := q2 qP qP) (p := fun z => decide (z ∈ rs)) (f := fun z => z) 12 rfl sc_W_plan.nd rfl
      (src_list (ev_c1 ((ok_law_pairs (P := P) (w := w) (base := base) F).cal (X := XPl P w K mg base f cdv A outer s H E) hr (by rfl)) (ev_var (i := 5) rfl (.inl rfl) rfl (Mo.mo jn_v r6')) (by omega))) (by rw [sizeLine_eq]; omega) (blkOk_by (N := n_W_plan) (sc := defScope s_W_plan) (by decide +kernel))
      (fun z v V' hz sv rz => fun s0 H1 C cl fp => EvT.eq (et_cmp (o_inD (X := bl (XPl P w K mg base f cdv A outer s H E) _ s0 H1 C cl fp) (R := q2 qP qP) (xs := rs) hu65) (ev_var (i := 12) rfl (.inl rfl) rfl rz) (ev_pl (S := qL (q2 qP qP)) hu (ev_var (i := 6) rfl (.inr (.inl rfl)) rfl rfl) (.inl (sv _ _ jd)) hx1.rd (Mo.mo (jn_v.trans sv) rr))) dec_irrel)
      (fun z v V' hz _ sv rz => fun _ _ _ _ _ => ev_var (i := 12) rfl (.inl rfl) rfl rz)) (List.map_id' _)) noPl_dK) fun V2 uv s2 ru => ?_
  rw [upd_upd]
  refine go_di fun di2 => ?_
  have kl2 := length_putK ks (.inr "reads") uv
  have jd2 : jn V2 (upd H0 d (.dK (putK ks (.inr "reads") uv))) d = some (.dK (putK ks (.inr "reads") uv)) := jn_at di2 upd_same
  have ht2 : valV (putK ks (.inr "reads") uv) (.inr "turn") = some (.str "plain") := by rw [vput_ne (by decide)]; exact hx1.tu
  refine go_setM (i := 8) (R := qL qS) (a := (["sum", "mean", "median", "trim", "least", "greatest"] : List Str)) sc_W_plan.nd rfl (.inl rfl)
    (EvR.w (EvR.eq (ev_sl (xs := (["sum", "mean", "median", "trim", "least", "greatest"] : List Str)) (R := qS) (h := some 6) (ev_lst (el_cons ev_str (el_cons ev_str (el_cons ev_str (el_cons ev_str (el_cons ev_str (el_cons ev_str el_nil)))))) (by decide)) ep_none (ep_some (ev_if (et_cmp (o_eqS (i := "plain") (j := "plain")) (ev_pl (S := qS) hu (ev_var (i := 6) rfl (.inr (.inl rfl)) rfl rfl) (.inl jd2) ht2 rfl) ev_str) (fun _ => ev_int) (fun h => absurd h (by decide))))) (by rw [show (some (6 : Int)) = some ((6 : Nat) : Int) from rfl, cut_take]; rfl)) noPl_dK) fun V3 kv' s3 rk => ?_
  refine go_unpSS (d := d) (kvs := putK ks (.inr "reads") uv) (key := .inr "gather") (key2 := .inr "prizes") (R := qAny qS) (a := (["sum", "mean", "median", "trim", "least", "greatest"] : List Str)) (S := qDr) (b := (pp.length : Int) + 1) hu rfl (fun V4 M4 k4 h4 s4 => ev_var (i := 6) rfl (.inr (.inl rfl)) rfl rfl) (fun V4 => ev_key "gather") (fun V4 M4 k4 h4 s4 => ev_var (i := 6) rfl (.inr (.inl rfl)) rfl rfl) (fun V4 => ev_key "prizes") upd_same (by rw [sizeLine_eq]; omega)
    (EvR.eq (ev_c2 ((ok_pick (P := P) (w := w) (base := base) F qS).cal (X := XPl P w K mg base f cdv A outer s H E) hr (by rfl)) (ev_var (i := 0) rfl (.inr (.inl rfl)) rfl (Mo.mo (s2.trans s3) r1')) (ev_var (i := 8) rfl (.inl rfl) rfl rk) ⟨fun z => (nomatch z), by decide⟩) rfl)
    (EvR.eq (ev_c2 ((ok_draw (P := P) (w := w) (base := base) F).cal (X := XPl P w K mg base f cdv A outer s H E) hr (by rfl)) (ev_var (i := 0) rfl (.inr (.inl rfl)) rfl (Mo.mo (s2.trans s3) r1')) (ev_bin o_add (ev_b1 f_lenL (by rfl) F.m_len PySem.boot_len (ev_var (i := 5) rfl (.inl rfl) rfl (Mo.mo (s2.trans s3) r6'))) ev_int) ⟨by omega, by omega⟩) rfl) fun V4 gv pv s4 rg rp => ?_
  rw [upd_upd]
  obtain ⟨g, hg, rg⟩ := rg
  obtain ⟨ga, rfl⟩ := ga_of hg
  obtain ⟨pz, z0, z1, rfl⟩ := rp
  have egv : gv = .str (gaS ga) := rg
  subst egv
  have kl3 := length_putK (putK ks (.inr "reads") uv) (.inr "gather") (L2.V.str (gaS ga))
  have kl4 := length_putK (putK (putK ks (.inr "reads") uv) (.inr "gather") (L2.V.str (gaS ga))) (.inr "prizes") (L2.V.int pz)
  have sA := (s2.trans s3).trans s4
  obtain ⟨u1, u2, h1, h2, h3, h4⟩ := hx1.ex
  refine plan_end (P := P) (w := w) (base := base) F f cdv A outer s H E (x := ⟨pp, m, mParts pp ws, (mPairs pp).filter fun z => decide (z ∈ rs), ga, 0, pz.toNat⟩) hr (Mo.mo sA r6') ⟨hx.nd, p2, p7, hx.m1, hx.m3, ⟨ws, hx.w1, hx.w2, rfl⟩, ⟨rs, rfl⟩, fun q hq hq1 i hi => ?_, rfl, by show pz.toNat ≤ 8; omega⟩ ?_ (by omega)
  · obtain ⟨k, k1, k2⟩ := dn q hq hq1 i hi
    exact List.length_pos_of_mem (a := k) (List.mem_filter.mpr ⟨(mem_pairs.mp k2).1, decide_eq_true (List.mem_filter.mpr ⟨k2, decide_eq_true k1⟩)⟩)
  · refine ⟨u1, u2, uv, ?_, Mo.mo sA h2, ?_, Mo.mo sA h4, ?_, Mo.mo (s3.trans s4) ru, ?_, ?_, ?_, ?_, ?_⟩
    · rw [vput_ne (by decide), vput_ne (by decide), vput_ne (by decide)]; exact h1
    · rw [vput_ne (by decide), vput_ne (by decide), vput_ne (by decide)]; exact h3
    · rw [vput_ne (by decide), vput_ne (by decide)]; exact vput_eq
    · rw [vput_ne (by decide), vput_ne (by decide), vput_ne (by decide)]; exact hx1.mo
    · rw [vput_ne (by decide), vput_ne (by decide), vput_ne (by decide)]; exact hx1.tu
    · rw [vput_ne (by decide)]; exact vput_eq
    · rw [vput_ne (by decide), vput_ne (by decide), vput_ne (by decide)]; exact hx1.tr
    · rw [vput_eq]
      show some (L2.V.int pz) = some (L2.V.int (pz.toNat : Int))
      rw [Int.toNat_of_nonneg z0]
end
end Om
set_option maxHeartbeats 4000000
/-! Om, the law's defs: plan, its loops. -/
namespace Om
open PySem PySem.Spec PyProof.Rows L2
theorem take_mem {α : Type} {xs : List α} {j : Nat} {a b : α} (hx : xs[j]? = some a) (h : b ∈ xs.take (j + 1)) : b ∈ xs.take j ∨ b = a := by
  have tk : xs.take (j + 1) = xs.take j ++ [a] := by rw [List.take_add_one, hx]; rfl
  rw [tk, List.mem_append, List.mem_singleton] at h
  exact h
theorem others_ne {pp : List Pn} {i : Pn} (nd : pp.Nodup) (p2 : 2 ≤ pp.length) : others pp i ≠ [] := by
  intro e
  have h : ∀ o ∈ pp, o = i := fun o ho => by
    by_cases h : o = i
    · exact h
    · have : o ∈ others pp i := List.mem_filter.mpr ⟨ho, by simpa using h⟩
      rw [e] at this
      exact nomatch this
  have := nodup_le (m := [i]) nd fun o ho => by rw [h o ho]; exact List.mem_cons_self
  simp at this
  omega
section
variable {P : Program} {w : World} {K : PySem.W.Frag} {mg : Str → Option Value} {base : Heap} {cC cR cS : Addr}
variable (F : Fx K mg cC cR cS)
include F
theorem plan_loop (f : Addr) (cdv : Value) (A : Around) (outer : List Env) (s : Shared) (H : Hp) (E : XK) {v1 v2 v3 v4 v5 v6 v9 : Vl} {V : Hp} {d l : Addr} {ks : List (Key × Vl)} {pp : List Pn} {m : Nat} {ws : List Int} {rs0 : List (Pn × Pn)} {acc0 : List Vl} (hr : Room 2 (XPl P w K mg base f cdv A outer s H E).A)
    (r1 : qPo () v1 V) (r6 : qL qP pp v6 V) (hx : PlM pp m ws ks l V) (hdl : d ≠ l) (al0 : Al (q2 qP qP) rs0 acc0 V) (hrl0 : rs0.length ≤ 49) (hin0 : ∀ z ∈ rs0, z ∈ mPairs pp) :
    Go (XPl P w K mg base f cdv A outer s H E) (List.drop 4 (defBody s_W_plan)) [some v1, some v2, some v3, some v4, some v5, some v6, some (.ref d), none, none, some v9, none, none, none, none] V (upd (upd H0 d (.dK ks)) l (.lst acc0)) PlanP := by
  have hu : (XPl P w K mg base f cdv A outer s H E).A.units + 1 < cLine := by have := hr.units; omega
  have p7 := hx.p7
  have p2 := hx.p2
  have kl := hx.kl
  have hdr : ∀ acc, upd (upd H0 d (.dK ks)) l (.lst acc) d = some (.dK ks) := fun acc => by rw [upd_ne hdl, upd_same]
  refine go_di fun di => ?_
  obtain ⟨u1, u2, h1, h2, h3, h4⟩ := hx.ex
  obtain ⟨q, vs, rfl, hq, alq, _⟩ := h4
  have hpl := parts_len (pp := pp) hx.w2
  refine go_forW (R := qL qP) (xs := mParts pp ws) (vs := vs) (q := q) PassesOwn.never rfl (tg_name (i := 7) sc_W_plan.nd rfl (.inl rfl)) (ev_pl (S := qA q) hu (ev_var (i := 6) rfl (.inr (.inl rfl)) rfl rfl) (.inl (jn_at di (hdr _))) h3 rfl) hq alq
    (fun j σ' V' M' => ∃ y7 y10 rs acc, σ' = [some v1, some v2, some v3, some v4, some v5, some v6, some (.ref d), y7, none, some v9, y10, none, none, none] ∧ M' = upd (upd H0 d (.dK ks)) l (.lst acc) ∧ Al (q2 qP qP) rs acc V' ∧ (∀ z ∈ rs, z ∈ mPairs pp) ∧ rs.length ≤ 49 + 8 * j ∧ ∀ t ∈ (mParts pp ws).take j, 1 < t.length → ∀ i ∈ t, ∃ k, (k, i) ∈ rs)
    ⟨none, none, rs0, acc0, rfl, rfl, al0, hin0, by omega, fun t ht => by rw [List.take_zero] at ht; exact nomatch ht⟩ ?_ ?_
  · rintro j t v σ' σ2 V0 V' M' hxj ⟨y7, y10, rs, acc, rfl, rfl, al, hin, hrl, dn⟩ s0 s1 rt rfl
    have hj : j < (mParts pp ws).length := (List.getElem?_eq_some_iff.mp hxj).1
    have htm : t ∈ mParts pp ws := List.mem_of_getElem? hxj
    have htl : t.length ≤ 7 := by
      rw [parts_eq] at htm
      obtain ⟨c, _, rfl⟩ := List.mem_map.mp htm
      exact Nat.le_trans part1_sub.length_le p7
    obtain ⟨xs, hxs⟩ : ∃ xs, xs = if 1 < t.length then t else [] := ⟨_, rfl⟩
    have hxl : xs.length ≤ 7 := by
      rw [hxs]
      split
      · exact htl
      · exact Nat.zero_le _
    have hxm : ∀ i ∈ xs, i ∈ t := fun i hi => by
      rw [hxs] at hi
      split at hi
      · exact hi
      · exact nomatch hi
    refine go_for (R := qP) (xs := xs) PassesOwn.never rfl (tg_name (i := 10) sc_W_plan.nd rfl (.inr rfl)) (src_list (ev_if (et_cmp o_gt (ev_b1 f_lenL (by rfl) F.m_len PySem.boot_len (ev_var (i := 7) rfl (.inl rfl) rfl rt)) ev_int) (fun h => EvR.eq (ev_var (i := 7) rfl (.inl rfl) rfl rt) (by rw [hxs, if_pos (by have := of_decide_eq_true h; omega)])) (fun h => EvR.eq (ev_lst el_nil (Nat.zero_le _)) (by rw [hxs, if_neg (by have := of_decide_eq_false h; omega)]))))
      (fun jj σ' V' M' => ∃ y10 rs acc, σ' = [some v1, some v2, some v3, some v4, some v5, some v6, some (.ref d), some v, none, some v9, y10, none, none, none] ∧ M' = upd (upd H0 d (.dK ks)) l (.lst acc) ∧ Al (q2 qP qP) rs acc V' ∧ (∀ z ∈ rs, z ∈ mPairs pp) ∧ rs.length ≤ 49 + 8 * j + jj ∧ (∀ t ∈ (mParts pp ws).take j, 1 < t.length → ∀ i ∈ t, ∃ k, (k, i) ∈ rs) ∧ ∀ i ∈ xs.take jj, ∃ k, (k, i) ∈ rs)
      (fun V2 s2 => ⟨y10, rs, acc, rfl, rfl, (al.mo s1).mo s2, hin, by omega, dn, fun i hi => by rw [List.take_zero] at hi; exact nomatch hi⟩) ?_ ?_
    · rintro jj i v' σ' σ3 V2 V3 M' hxjj ⟨y10, rs, acc, rfl, rfl, al, hin, hrl, dn, dn2⟩ s2 s3 ri rfl
      have hjj : jj < xs.length := (List.getElem?_eq_some_iff.mp hxjj).1
      have hip : i ∈ pp := part1_sub_mem htm (hxm i (List.mem_of_getElem? hxjj))
      have sV := ((s0.trans s1).trans s2).trans s3
      have hx3 := hx.up sV
      refine go_di fun di3 => ?_
      have jd := jn_at (M := upd (upd H0 d (.dK ks)) l (.lst acc)) di3 (hdr acc)
      have jl := jn_at (M := upd (upd H0 d (.dK ks)) l (.lst acc)) (b := l) di3 upd_same
      have al3 := al.mo s3
      have rq : qPR (pp, rs) (.ref d) (jn V3 (upd (upd H0 d (.dK ks)) l (.lst acc))) := ⟨d, ks, u1, .ref l, rfl, .inl jd, h1, Mo.mo (sV.trans jn_v) h2, hx.rd, l, acc, rfl, jl, al3.mo jn_v, by rw [sizeLine_eq]; show rs.length ≤ _; omega⟩
      have hal := al3.len
      refine go_if (hW := jn_sees) (et_cmp (o_eqD (R := qL qP) (b := []) (by have := hr.units; omega)) (ev_c2 (a := (pp, rs)) (b := i) ((ok_law_readers (P := P) (w := w) (base := base) F).cal (X := XPl P w K mg base f cdv A outer s H E) hr (by rfl)) (ev_var (i := 6) rfl (.inr (.inl rfl)) rfl rq) (ev_var (R := qP) (a := i) (i := 10) rfl (.inr (.inl rfl)) rfl (show qP i v' _ from ri)) (by show pp.length ≤ 8; omega)) (ev_lst el_nil (Nat.zero_le _))) (fun h => ?_) (fun h => go_nil (go_nil ?_))
      · refine go_app (l := l) (vs := acc) (R := q2 (qAny qP) qP) (a := (others pp i, i)) (ev_pl (S := qA l) hu (ev_var (i := 6) rfl (.inr (.inl rfl)) rfl rfl) (.inl jd) hx.rd rfl) upd_same (by rw [sizeLine_eq]; omega)
          (EvR.m (ev_tup2 (R := qAny qP) (S := qP) (EvR.eq (ev_c2 ((ok_pick (P := P) (w := w) (base := base) F qP).cal (X := XPl P w K mg base f cdv A outer s H E) hr (by rfl)) (ev_var (i := 0) rfl (.inr (.inl rfl)) rfl (Mo.mo sV r1))
            (EvR.eq (ev_lcf (xs := pp) (R := qP) (S := qP) (p := fun o => !decide (o = i)) (f := fun (o : Pn) => o) 13 rfl sc_W_plan.nd rfl (src_list (ev_var (i := 5) rfl (.inl rfl) rfl (Mo.mo sV r6))) (by rw [sizeLine_eq]; omega) (blkOk_by (N := n_W_plan) (sc := defScope s_W_plan) (by decide +kernel))
              (fun o v' V'' ho sv ro => fun s0' H1 C cl fp => et_cmp o_neP (ev_var (i := 13) rfl (.inl rfl) rfl ro) (ev_var (R := qP) (a := i) (i := 10) rfl (.inr (.inl rfl)) rfl (show qP i _ V'' from ri)))
              (fun o v' V'' ho _ sv ro => fun _ _ _ _ _ => ev_var (i := 13) rfl (.inl rfl) rfl ro)) (List.map_id' _)) ⟨others_ne hx.nd p2, by have := List.length_filter_le (fun o => !decide (o = i)) pp; show (others pp i).length < 1073741824; unfold others; omega⟩) rfl) (ev_var (R := qP) (a := i) (i := 10) rfl (.inr (.inl rfl)) rfl ri))) fun V4 nv s4 rn => ?_
        rw [upd_upd]
        obtain ⟨p, a, b, rfl, hp, ⟨k, hk, ra⟩, rb⟩ := rn
        obtain ⟨hk1, hk2⟩ := List.mem_filter.mp hk
        have hne : k ≠ i := by simpa using hk2
        refine go_nil (go_nil ⟨_, rs ++ [(k, i)], _, rfl, rfl, (al3.mo s4).app (.cons ⟨p, a, b, rfl, hp, ra, rb⟩ .nil), fun z hz => ?_, by rw [List.length_append, List.length_singleton]; omega, fun t ht hl i hi => ?_, fun i' hi' => ?_⟩)
        · rcases List.mem_append.mp hz with hz | hz
          · exact hin z hz
          · rw [List.mem_singleton.mp hz]
            exact mem_pairs.mpr ⟨hk1, hip, hne⟩
        · obtain ⟨k', h⟩ := dn t ht hl i hi
          exact ⟨k', List.mem_append_left _ h⟩
        · rcases take_mem hxjj hi' with hi' | rfl
          · obtain ⟨k', h⟩ := dn2 i' hi'
            exact ⟨k', List.mem_append_left _ h⟩
          · exact ⟨k, List.mem_append_right _ List.mem_cons_self⟩
      · refine ⟨_, rs, acc, rfl, rfl, al3, hin, by omega, dn, fun i' hi' => ?_⟩
        rcases take_mem hxjj hi' with hi' | rfl
        · exact dn2 i' hi'
        · obtain ⟨k, hk⟩ := List.exists_mem_of_ne_nil _ (of_decide_eq_false h)
          exact ⟨k, of_decide_eq_true (List.mem_filter.mp hk).2⟩
    · rintro σ' V2 M' ⟨y10, rs, acc, rfl, rfl, al, hin, hrl, dn, dn2⟩ s2
      rw [List.take_length] at dn2
      refine go_nil ⟨_, _, rs, acc, rfl, rfl, al, hin, by omega, fun t' ht' hl i hi => ?_⟩
      rcases take_mem hxj ht' with ht' | rfl
      · exact dn t' ht' hl i hi
      · exact dn2 i (by rw [hxs, if_pos hl]; exact hi)
  · rintro σ' V' M' ⟨y7, y10, rs, acc, rfl, rfl, al, hin, hrl, dn⟩ s1
    rw [List.take_length] at dn
    exact plan_mid (P := P) (w := w) (base := base) F f cdv A outer s H E hr (Mo.mo s1 r1) (Mo.mo s1 r6) (hx.up s1) hdl al (by omega) fun t ht hl i hi => by
      obtain ⟨k, hk⟩ := dn t ht hl i hi
      exact ⟨k, hk, hin _ hk⟩
end
end Om
set_option maxHeartbeats 4000000
/-! Om, the law's defs: plan. -/
namespace Om
open PySem PySem.Spec PyProof.Rows L2
theorem merge4 {a b c d : Key × Vl} : mergeK [] [a, b, c, d] = putK (putK (putK (putK [] a.1 a.2) b.1 b.2) c.1 c.2) d.1 d.2 := rfl
def spPl : Sp := fun vs H Q _ => ∃ v1 v5 V, vs = [v1, .int 2, .int 7, .int 3, v5] ∧ Le V H ∧ qPo () v1 V ∧ qL qS (["plain"] : List Str) v5 V ∧
  ∀ V' H' d ks x, Grow V H V' H' → H' d = none → Pl.good x → PlE ks x V' → ks.length ≤ 20 → Q (.ref d) (upd H' d (.dK ks))
section
variable {P : Program} {w : World} {K : PySem.W.Frag} {mg : Str → Option Value} {base : Heap} {cC cR cS : Addr}
variable (F : Fx K mg cC cR cS)
include F
theorem plan_body (f : Addr) (cdv : Value) (A : Around) (outer : List Env) (s : Shared) (H : Hp) (E : XK) {v1 v5 : Vl} {V : Hp} (hr : Room 2 (XPl P w K mg base f cdv A outer s H E).A) (r1 : qPo () v1 V) (r5 : qL qS (["plain"] : List Str) v5 V) :
    Go (XPl P w K mg base f cdv A outer s H E) (defBody s_W_plan) (start n_W_plan [v1, .int 2, .int 7, .int 3, v5]) V H0 PlanP := by
  have hu : (XPl P w K mg base f cdv A outer s H E).A.units + 1 < cLine := by have := hr.units; omega
  have cD := (ok_draw (P := P) (w := w) (base := base) F).cal (X := XPl P w K mg base f cdv A outer s H E) hr (by rfl)
  refine go_set (i := 5) (R := qPplR) (a := ((2 : Int), (2 : Int) + (7 - 2 + 1))) sc_W_plan.nd rfl (.inl rfl) (EvR.eq (ev_c2 ((ok_people2 (P := P) (w := w) (base := base) F).cal (X := XPl P w K mg base f cdv A outer s H E) hr (by rfl)) (ev_var (i := 0) rfl (.inr (.inl rfl)) rfl r1)
    (ev_bin o_addE (ev_var (R := qI) (a := 2) (i := 1) rfl (.inl rfl) rfl rfl) (EvR.eq (ev_c2 cD (ev_var (i := 0) rfl (.inr (.inl rfl)) rfl r1) (ev_bin o_add (ev_bin o_sub (ev_var (R := qI) (a := 7) (i := 2) rfl (.inl rfl) rfl rfl) (ev_var (R := qI) (a := 2) (i := 1) rfl (.inl rfl) rfl rfl)) ev_int) ⟨by decide, by decide⟩) rfl)) ⟨by decide, by decide⟩) rfl) fun V1 v6 s1 r6 => ?_
  obtain ⟨n, n1, n2, pp, nd, hn, r6⟩ := r6
  have n1 : (2 : Int) ≤ n := n1
  have n2 : n < (2 : Int) + (7 - 2 + 1) := n2
  have p2 : 2 ≤ pp.length := by omega
  have p7 : pp.length ≤ 7 := by omega
  have hpl : (mPairs pp).length ≤ 49 := Nat.le_trans (pairs_len pp) (Nat.le_trans (Nat.mul_le_mul p7 p7) (by decide))
  refine go_setN (i := 6) sc_W_plan.nd rfl (.inr rfl) (en_disp4 (R1 := qL qP) (R2 := qRn) (R3 := qAny qS) (R4 := qI) (a1 := pp) (a2 := (1, 1 + 3)) (a3 := (["plain"] : List Str)) (a4 := 0) (ev_var (i := 5) rfl (.inl rfl) rfl r6)
    (ev_bin o_addE ev_int (EvR.eq (ev_c2 cD (ev_var (i := 0) rfl (.inr (.inl rfl)) rfl (Mo.mo s1 r1)) (ev_var (R := qI) (a := 3) (i := 3) rfl (.inl rfl) rfl rfl) ⟨by decide, by decide⟩) rfl))
    (EvR.eq (ev_c2 ((ok_pick (P := P) (w := w) (base := base) F qS).cal (X := XPl P w K mg base f cdv A outer s H E) hr (by rfl)) (ev_var (i := 0) rfl (.inr (.inl rfl)) rfl (Mo.mo s1 r1)) (ev_var (i := 4) rfl (.inl rfl) rfl (Mo.mo s1 r5)) ⟨fun z => (nomatch z), by decide⟩) rfl) ev_int)
    (fun o V' ⟨_, _, _, _, e, _⟩ xs z => by rw [e] at z; cases z) fun V2 d o s2 _ hV2 ⟨w1, w2, w3, w4, eo, q1, q2, q3, q4⟩ => ?_
  subst eo
  obtain ⟨m, m1, m2, rfl⟩ := q2
  have m1 : (1 : Int) ≤ m := m1
  have m2 : m < 1 + 3 := m2
  obtain ⟨z, hz, q3⟩ := q3
  obtain rfl : z = "plain" := by simpa using hz
  obtain rfl : w3 = .str "plain" := q3
  obtain rfl : w4 = .int 0 := q4
  have k1 : valV (mergeK [] [(.inr "people", w1), (.inr "most", L2.V.int m), (.inr "turn", .str "plain"), (.inr "trim", .int 0)]) (.inr "people") = some w1 := by
    rw [merge4]
    dsimp only
    rw [vput_ne (by decide), vput_ne (by decide), vput_ne (by decide), vput_eq]
  have k2 : valV (mergeK [] [(.inr "people", w1), (.inr "most", L2.V.int m), (.inr "turn", .str "plain"), (.inr "trim", .int 0)]) (.inr "most") = some (L2.V.int m) := by
    rw [merge4]
    dsimp only
    rw [vput_ne (by decide), vput_ne (by decide), vput_eq]
  have k3 : valV (mergeK [] [(.inr "people", w1), (.inr "most", L2.V.int m), (.inr "turn", .str "plain"), (.inr "trim", .int 0)]) (.inr "turn") = some (.str "plain") := by
    rw [merge4]
    dsimp only
    rw [vput_ne (by decide), vput_eq]
  have k4 : valV (mergeK [] [(.inr "people", w1), (.inr "most", L2.V.int m), (.inr "turn", .str "plain"), (.inr "trim", .int 0)]) (.inr "trim") = some (.int 0) := by
    rw [merge4]
    dsimp only
    rw [vput_eq]
  have kl := length_mergeK ([(.inr "people", w1), (.inr "most", L2.V.int m), (.inr "turn", .str "plain"), (.inr "trim", .int 0)] : List (Key × Vl)) []
  have kl : (mergeK [] [(.inr "people", w1), (.inr "most", L2.V.int m), (.inr "turn", .str "plain"), (.inr "trim", .int 0)]).length ≤ 4 := kl
  generalize mergeK [] [(.inr "people", w1), (.inr "most", L2.V.int m), (.inr "turn", .str "plain"), (.inr "trim", .int 0)] = ks at k1 k2 k3 k4 kl
  have r1' : qPo () v1 V2 := Mo.mo (s1.trans s2) r1
  have r6' : qL qP pp v6 V2 := Mo.mo s2 r6
  refine go_unpSN (j := 9) (d := d) (kvs := ks) (key := .inr "lists") (R := qPart) (a := pp) (S := qRn) (b := (1, 1 + 4)) hu rfl sc_W_plan.nd rfl (.inr rfl) (fun V4 s4 => ev_var (i := 6) rfl (.inr (.inl rfl)) rfl rfl) (fun V4 => ev_key "lists") upd_same (by rw [sizeLine_eq]; omega)
    (EvR.eq (ev_c2 ((ok_law_parted (P := P) (w := w) (base := base) F).cal (X := XPl P w K mg base f cdv A outer s H E) hr (by rfl)) (ev_var (i := 0) rfl (.inr (.inl rfl)) rfl r1') (ev_var (i := 5) rfl (.inl rfl) rfl r6') (by omega)) rfl)
    (ev_bin o_addE ev_int (EvR.eq (ev_c2 cD (ev_var (i := 0) rfl (.inr (.inl rfl)) rfl r1') ev_int ⟨by decide, by decide⟩) rfl)) fun V3 lv rv s3 rl rr => ?_
  rw [upd_upd]
  obtain ⟨ws, hw1, hw2, rl⟩ := rl
  obtain ⟨ra, ra1, ra2, rfl⟩ := rr
  have ra1 : (1 : Int) ≤ ra := ra1
  have ra2 : ra < 1 + 4 := ra2
  have kl2 := length_putK ks (.inr "lists") lv
  refine go_putN (d := d) (kvs := putK ks (.inr "lists") lv) (key := .inr "reads") hu (fun V4 M4 h4 s4 => ev_var (i := 6) rfl (.inr (.inl rfl)) rfl rfl) (fun V4 => ev_key "reads") upd_same (by rw [sizeLine_eq]; omega)
    (en_lcx (R := q2 qP qP) (xs := mPairs pp) 12 rfl sc_W_plan.nd rfl (src_list (ev_c1 ((ok_law_pairs (P := P) (w := w) (base := base) F).cal (X := XPl P w K mg base f cdv A outer s H E) hr (by rfl)) (ev_var (i := 5) rfl (.inl rfl) rfl (Mo.mo s3 r6')) (by omega))) (by rw [sizeLine_eq]; omega) (blkOk_by (N := n_W_plan) (sc := defScope s_W_plan) (by decide +kernel))
      (fun z v V' hz sv rz => fun s0 H1 C cl fp => tx_gt (n := 1 + ra) (EvR.eq (ev_c2 ((ok_draw (P := P) (w := w) (base := base) F).cal (X := bl (XPl P w K mg base f cdv A outer s H E) _ s0 H1 C cl fp) hr (by rfl)) (ev_var (i := 0) rfl (.inr (.inl rfl)) rfl (Mo.mo (s3.trans sv) r1')) (ev_bin o_add ev_int (ev_var (R := qI) (a := ra) (i := 9) rfl (.inr (.inl rfl)) rfl rfl)) ⟨by omega, by omega⟩) rfl) ev_int)
      (fun z v V' hz sv rz => fun _ _ _ _ _ => ev_var (i := 12) rfl (.inl rfl) rfl rz))
    (fun o V' ⟨_, _, _, e, _⟩ xs z => by rw [e] at z; cases z) fun V4 l o s4 hMl hVl ⟨rs, acc, hsub, eo, al⟩ => ?_
  subst eo
  rw [upd_upd]
  have hdl : d ≠ l := fun z => by rw [← z, upd_same] at hMl; cases hMl
  have kl3 := length_putK (putK ks (.inr "lists") lv) (.inr "reads") (L2.V.ref l)
  have sB := s3.trans s4
  refine plan_loop (P := P) (w := w) (base := base) F f cdv A outer s H E (m := m.toNat) (ws := ws) hr (Mo.mo sB r1') (Mo.mo sB r6') ⟨nd, p2, p7, by omega, by omega, hw1, hw2, ⟨w1, lv, ?_, Mo.mo sB q1, ?_, Mo.mo s4 rl⟩, vput_eq, ?_, ?_, ?_, by omega⟩ hdl al (Nat.le_trans hsub.length_le hpl) fun z hz => hsub.subset hz
  · rw [vput_ne (by decide), vput_ne (by decide)]; exact k1
  · rw [vput_ne (by decide)]; exact vput_eq
  · rw [vput_ne (by decide), vput_ne (by decide), k2, Int.toNat_of_nonneg (by omega)]
  · rw [vput_ne (by decide), vput_ne (by decide)]; exact k3
  · rw [vput_ne (by decide), vput_ne (by decide)]; exact k4
theorem ok_plan : Gfn P w K mg base "_law_plan" 3 spPl := by
  obtain ⟨f, fd, FD, hm, bn⟩ := F.d_W_plan.ex
  refine ⟨f, fd, _, FD.ok sc_W_plan (fun vs H Q E h => ?_) (fun cdv A outer s H vs Q E hr hsp => ?_), hm, FD.kp, bn⟩
  · obtain ⟨v1, v5, V, rfl, _⟩ := h
    rfl
  · obtain ⟨v1, v5, V, rfl, l, r1, r5, q⟩ := hsp
    refine ⟨_, PSs.nox pss_rs, plan_body (P := P) (w := w) (base := base) F f cdv A outer s H E hr r1 r5 H _ (Ow.start l) ⟨fun _ _ _ _ _ z => z.elim, fun v V' M' A' st h => ?_, fun _ _ _ _ _ z => z.elim, fun _ _ _ _ _ z => z.elim⟩⟩
    obtain ⟨d, ks, x, rfl, rfl, hg, hE, hl⟩ := h
    obtain ⟨A2, g, hA2, rfl⟩ := own_ret st
    exact q V' A2 d ks x g hA2 hg hE hl
end
end Om
set_option maxHeartbeats 4000000
/-! Om, part N15: what the law's own walk needs. -/
namespace Om
open PySem PySem.Spec PyProof.Rows L2
section
variable {X : Cx}
/-- the view of a dict's values -/
abbrev vwO (p a : Addr) : HO := .ext fun h => h.IsValuesView p a
def tVals (td : TE) : TE := fun σ H Q => td σ H fun x H1 => ∃ a kvs, x = L2.V.ref a ∧ Rd H1 a (.dK kvs) ∧ ∀ p, H1 p = none → Q (.ref p) (upd H1 p (vwO p a))
theorem pe_vals {e : Expr} {td : TE} {apos cpos : Pos} (he : PE X e td) (hbase : attributeBase e "values" X.env (eval e X.env) = eval e X.env := by rfl) (hline : (apos.endLine == cpos.line) = true := by rfl) : PE X (.Call (.Attribute e "values" apos) [] [] cpos) (tVals td) := by
  refine ⟨fun pins s σ H Q I h => ?_⟩
  refine wpAny_Call_method (T := "dict") (id := "dict.values") hbase rfl hline F.plainAttrs_dict F.slot_dict_values F.type_dict_values (thn (he.run pins s σ H _ I h) fun u s1 ⟨x, H1, I1, rx, a, kvs, ex, hd, q⟩ => ?_)
  subst ex
  obtain rfl : u = Value.ref a := rx
  obtain ⟨z, low, prs, rel, dof⟩ := dk_rd I1.hok hd
  refine ⟨dof.typeIs, dof.mapOf.noDict, ?_⟩
  have view : (s1.heap.push { cls := .type "dict_values", data := .fields #[.ref a] }).IsValuesView s1.heap.objs.size a := ⟨_, Heap.get?_push_size _ rfl, rfl, rfl⟩
  have fin : EP X pins σ Q (.ref s1.heap.objs.size) { s1 with heap := s1.heap.push { cls := .type "dict_values", data := .fields #[.ref a] } } :=
    ⟨.ref s1.heap.objs.size, _, I1.laid (o := vwO s1.heap.objs.size a) (t' := s1.toks) (fun b ob q => Heap.get?_push_of_some _ q) (Nat.le_refl _) ⟨view, ⟨_, Heap.get?_push_size _ rfl⟩, fun h1 h2 ⟨o, ho, r⟩ k => ⟨o, k o ho, r⟩⟩, rfl, q _ (I1.hok.fresh (Nat.le_refl _))⟩
  show wpAny _ _ (callWith cpos (.builtin "dict.values") [.ref a] [] []) _ X.xe s1
  exact method_meetsIn F.slot_dict_values F.entry_dict_values rfl (PySem.evalArgs_none ⟨rfl, dof.typeIs, F.args_dict_values_1 _, _, meets_dict_values (mixKind X.prog X.w) a low, ⟨prs, dof⟩, fin⟩)
theorem call_listV (hc : X.calm = true) : CallR X (.type "list") (fun xs H Q => ∃ (p a : Addr) (ks : List (Key × Vl)), xs = [L2.V.ref p] ∧ H p = some (vwO p a) ∧ Rd H a (.dK ks) ∧ ∀ q, H q = none → Q (.ref q) (upd H q (.lst (ks.map (·.2))))) := by
  rintro pins s σ H xs us Q I r ⟨p, a, ks, rfl, hp, hd, q⟩
  obtain ⟨u, rfl, ru⟩ := r.one
  cases ru
  obtain ⟨z, low, prs, rel, dof⟩ := dk_rd I.hok hd
  obtain ⟨ep, dat⟩ := dof.dictAt
  have n1 : ks.length = prs.length := Paired.length rel
  have view : s.heap.IsValuesView p a := (I.hok p (vwO p a) hp).1
  refine PySem.W.kdl_call (PySem.W.kdl_values (prog := X.prog) (w := X.w) (knd := mixKind X.prog X.w) (d := a) (r := p) (kvs := prs) (ep := ep)) (I.ok.hd hc) ⟨view, dat⟩ (by omega) fun h1 t1 got cap keep lst itm => ?_
  have nw : ObjOk X.prog X.w (upd H s.heap.objs.size (.lst (ks.map (·.2)))) h1 s.heap.objs.size (.lst (ks.map (·.2))) := by
    refine ⟨by simpa using z, got.toList, cap, ?_, by simpa using lst⟩
    have n2 : got.toList.length = got.size := Array.length_toList
    refine vals_of_at (by rw [List.length_map, n2, itm.1, n1]) fun j x w hx hw => ?_
    obtain ⟨key, at_⟩ := itm.2 j w (by rw [← Array.getElem?_toList]; exact hw)
    obtain ⟨y, g1, g2⟩ := KV.at' rel at_
    rw [List.getElem?_map, g1] at hx
    cases hx
    exact g2
  exact ⟨.ref s.heap.objs.size, _, I.laid keep (Nat.le_refl _) nw, rfl, q _ (I.hok.fresh (Nat.le_refl _))⟩
/-- dicts with the same entries -/
theorem op_ne_dictR (hu : X.A.units < cLine) : OpR X (compareOp .NotEq) (fun x y H Q => ∃ a b ks ls, x = L2.V.ref a ∧ y = .ref b ∧ Rd H a (.dK ks) ∧ Rd H b (.dK ls) ∧ ks.length = ls.length ∧ (∀ p ∈ ks, valV ls p.1 = some p.2 ∧ flatB p.2 = true) ∧ Q (.bl false) H) := by
  intro pins s σ H x y v u Q I rx ry h
  obtain ⟨a, b, ks, ls, rfl, rfl, ea, eb, hlen, hp, q⟩ := h
  obtain rfl : v = Value.ref a := rx
  obtain rfl : u = Value.ref b := ry
  obtain ⟨_, ya, va, ra, da⟩ := dk_rd I.hok ea
  obtain ⟨_, yb, vb, rb, db⟩ := dk_rd I.hok eb
  have hl : va.length = vb.length := by rw [← ra.length, ← rb.length]; exact hlen
  exact PySem.W.keq_ne (knd := mixKind X.prog X.w) (r := true) ya yb da db hu (fun _ => hits_all rb ra hp) (fin_bl I q (by simp [hl]))
end
section
variable {X : Cx} {σ : L2.St} {V M : Hp} {α β κ : Type} [DecidableEq κ] {R : Rf κ} {S : Rf β} {T : Rf α} {a : α} {e e1 e2 e3 e4 e5 t : Expr} {pos p p1 apos : Pos}
theorem al_vals [KeyK R] {H : Hp} : ∀ {kvs : List (κ × β)} {ks : List (Key × Vl)}, Pr (KeyK.enc R) S kvs ks H → Al S (kvs.map (·.2)) (ks.map (·.2)) H
  | [], _, .nil => .nil
  | _ :: _, _, .cons r t => .cons r.2 (al_vals t)
/-- list(d.values()) -/
theorem ev_listVals [KeyK R] [Mo S] {kvs : List (κ × β)} (hc : X.calm = true) (hg : Gl X "list") (hm : X.mg "list" = none) (h : EvR X e σ V (qDk R S) kvs) (hl : kvs.length ≤ sizeLine) (hbase : attributeBase e "values" X.env (eval e X.env) = eval e X.env := by rfl) (hline : (apos.endLine == p.line) = true := by rfl)
    (he : starEach [.Call (.Attribute e "values" apos) [] [] p] X.env = (false, eval (.Call (.Attribute e "values" apos) [] [] p) X.env) :: starEach [] X.env := by rfl) : EvR X (.Call (.Name "list" p1) [.Call (.Attribute e "values" apos) [] [] p] [] pos) σ V (qL S) (kvs.map (·.2)) :=
  ev_of (pe_callTy (call_listV hc) hg hm PyProof.Rows.boot_list (pa_cons (pe_vals pe_re hbase hline) pa_nil he) (by decide) (by decide) he rfl) fun V1 A Q s l q => h V1 A _ s l fun V2 A2 v g ⟨d, od, ks, ev, hd, pr⟩ => by
    subst ev
    have rd : Rd A2 d (.dK ks) := g.va.rdd (.inr ⟨od, hd⟩)
    refine ⟨d, ks, rfl, rd, fun p hp => ?_⟩
    have g3 : Grow V2 A2 V2 (upd A2 p (vwO p d)) := (Grow.new g.va hp).drop
    refine ⟨p, d, ks, rfl, upd_same, g3.va.rdd (.inr ⟨od, hd⟩), fun q' hq => ?_⟩
    have g4 : Grow V2 (upd A2 p (vwO p d)) _ _ := Grow.new (o := .lst (ks.map (·.2))) g3.va hq
    refine q _ _ _ ((g.trans g3).trans g4) ⟨q', _, rfl, upd_same, (al_vals pr).mo g4.vv, ?_⟩
    rw [List.length_map]
    exact hl
theorem dg_of {kvs : List (κ × β)} {k : κ} {b : β} (nd : (kvs.map (·.1)).Nodup) (h : (k, b) ∈ kvs) : dg kvs k = some b := by
  induction kvs with
  | nil => exact nomatch h
  | cons x kvs ih =>
    rw [List.map_cons] at nd
    obtain ⟨h1, h2⟩ := List.nodup_cons.mp nd
    rcases List.mem_cons.mp h with e | h
    · subst e
      simp [dg]
    · have hne : x.1 ≠ k := fun e => h1 (by rw [e]; exact List.mem_map.mpr ⟨_, h, rfl⟩)
      have := ih h2 h
      unfold dg at this ⊢
      rw [List.find?_cons]
      simp only [hne, decide_false]
      exact this
theorem pr_mem {ε : Type} {E : κ → ε} {H : Hp} {kvs : List (κ × β)} {ks : List (ε × Vl)} (h : Pr E S kvs ks H) {p : ε × Vl} (hp : p ∈ ks) : ∃ x ∈ kvs, p.1 = E x.1 ∧ S x.2 p.2 H := by
  obtain ⟨i, hi⟩ := List.mem_iff_getElem?.mp hp
  have : ∀ {kvs : List (κ × β)} {ks : List (ε × Vl)} {i : Nat}, Pr E S kvs ks H → ks[i]? = some p → ∃ x ∈ kvs, p.1 = E x.1 ∧ S x.2 p.2 H := by
    intro kvs ks i h
    induction h generalizing i with
    | nil => intro e; simp at e
    | cons r t ih =>
      intro e
      cases i with
      | zero =>
        have e' := Option.some.inj (show some _ = some p from e)
        rw [e'] at r
        exact ⟨_, List.mem_cons_self, r⟩
      | succ i =>
        obtain ⟨x, hx, r⟩ := ih (i := i) (by simpa using e)
        exact ⟨x, List.mem_cons_of_mem _ hx, r⟩
  exact this h hi
theorem o_neDk [KeyK R] {kvs : List (κ × Int)} (hu : X.A.units < cLine) (nd : (kvs.map (·.1)).Nodup) : Op2 X (compareOp .NotEq) (qDk R qI) kvs (qDk R qI) kvs qB false :=
  ⟨_, op_ne_dictR hu, fun V1 A x y Q l ⟨d, od, ks, ev, hd, pr⟩ ⟨d', od', ks', ev', hd', pr'⟩ q => by
    refine ⟨d, d', ks, ks', ev, ev', l.rdd (.inr ⟨od, hd⟩), l.rdd (.inr ⟨od', hd'⟩), by rw [← Paired.length pr, ← Paired.length pr'], fun p hp => ?_, q V1 A _ (.refl l) rfl⟩
    obtain ⟨x, hx, r1, r2⟩ := pr_mem pr hp
    obtain ⟨v, h1, h2⟩ := Pr.get (KeyK.inj (R := R)) pr' (dg_of nd (k := x.1) (b := x.2) hx)
    have r2 : p.2 = L2.V.int x.2 := r2
    have h2 : v = L2.V.int x.2 := h2
    rw [r1, r2, h1, h2]
    exact ⟨rfl, rfl⟩⟩
/-! ### tests whichever way -/
theorem tx_eq {n j : Int} (h1 : EvR X e1 σ V qDr n) (h2 : EvR X e2 σ V qI j) (hm : behindInMarks .Eq e2 = false := by first | exact nomark _ | rfl) : EvTx X (.Compare e1 [.Eq] [e2] pos) σ V := by
  intro V1 A Q s l q
  refine rt_of (pt_cmpR op_eq pe_re pe_re hm) ?_
  refine h1 V1 A _ s l fun V2 A2 u g2 ⟨d, _, _, r1⟩ => ?_
  refine h2 V2 A2 _ (s.trans g2.vv) g2.va fun V3 A3 z g3 r2 => ?_
  have r2 : z = .int j := r2
  subst r1
  subst r2
  exact ⟨rfl, _, rfl, q _ A3 (g2.trans g3).drop⟩
theorem ev_ifx (h : EvTx X t σ V) (h1 : EvR X e1 σ V T a) (h2 : EvR X e2 σ V T a) : EvR X (.IfExp t e1 e2 pos) σ V T a := by
  refine ev_of (pe_ifExp pt_rt pe_re pe_re) fun V1 A Q s l q => h V1 A _ s l fun b A2 g => ?_
  cases b with
  | true => exact iteT (h1 V1 A2 Q s g.va fun V3 A3 v g3 r => q V3 A3 v (g.trans g3) r)
  | false => exact iteF (h2 V1 A2 Q s g.va fun V3 A3 v g3 r => q V3 A3 v (g.trans g3) r)
/-- the plan, drawn -/
theorem en_plan {x : Str} (C : Cal X x spPl) (h1 : EvR X e1 σ V qPo ()) (h2 : EvR X e2 σ V qI 2) (h3 : EvR X e3 σ V qI 7) (h4 : EvR X e4 σ V qI 3) (h5 : EvR X e5 σ V (qL qS) (["plain"] : List Str)) (hdb : (x == ("__debug__" : Str)) = false := by decide)
    (he : starEach [e1, e2, e3, e4, e5] X.env = (false, eval e1 X.env) :: starEach [e2, e3, e4, e5] X.env := by rfl) (he2 : starEach [e2, e3, e4, e5] X.env = (false, eval e2 X.env) :: starEach [e3, e4, e5] X.env := by rfl)
    (he3 : starEach [e3, e4, e5] X.env = (false, eval e3 X.env) :: starEach [e4, e5] X.env := by rfl) (he4 : starEach [e4, e5] X.env = (false, eval e4 X.env) :: starEach [e5] X.env := by rfl) (he5 : starEach [e5] X.env = (false, eval e5 X.env) :: starEach [] X.env := by rfl) (hpl : (backTo pos (starEach [e2, e3, e4, e5] X.env)).any (·.1) = false := by rfl) :
    EvN X (.Call (.Name x p) [e1, e2, e3, e4, e5] [] pos) σ V (fun o V' => ∃ ks y, o = .dK ks ∧ Pl.good y ∧ PlE ks y V' ∧ ks.length ≤ 20) := by
  obtain ⟨k, f, fd, ps, F, hr, hg, hm, kp, bn⟩ := C.ex
  intro V1 A Q s l q
  refine re_of (pe_call (E := E0) F hr hg hm kp bn .nil pass0 (pa_cons pe_re (pa_cons pe_re (pa_cons pe_re (pa_cons pe_re (pa_cons pe_re pa_nil he5) he4) he3) he2) he) hdb he hpl) ?_
  refine h1 V1 A _ s l fun V2 A2 v1 g2 r1 => h2 V2 A2 _ (s.trans g2.vv) g2.va fun V3 A3 v2 g3 r2 => ?_
  have t3 := g2.trans g3
  refine h3 V3 A3 _ (s.trans t3.vv) t3.va fun V4 A4 v3 g4 r3 => ?_
  have t4 := t3.trans g4
  refine h4 V4 A4 _ (s.trans t4.vv) t4.va fun V5 A5 v4 g5 r4 => ?_
  have t5 := t4.trans g5
  refine h5 V5 A5 _ (s.trans t5.vv) t5.va fun V6 A6 v5 g6 r5 => ?_
  have t6 := t5.trans g6
  have r2 : v2 = .int 2 := r2
  have r3 : v3 = .int 7 := r3
  have r4 : v4 = .int 3 := r4
  subst r2
  subst r3
  subst r4
  exact ⟨v1, v5, V6, rfl, t6.va, Mo.mo ((((g3.trans g4).trans g5).trans g6).vv) r1, r5, fun V' H' d ks y g hd hy hE hl => q V' H' d _ (t6.trans g) hd ⟨ks, y, rfl, hy, hE, hl⟩⟩
end
end Om
set_option maxHeartbeats 4000000
/-! Om, the law's defs: law, its inner loop. -/
namespace Om
open PySem PySem.Spec PyProof.Rows L2
/-- the law's lift of the package -/
def Pl.L (x : Pl) (i : Pn) : Int := (⟨x.rua.mk', i⟩ : Sw).lift
def BdS (x : Pl) (sh : Pn → Pn → Int) : Prop := ∀ i j, 0 ≤ sh i j ∧ sh i j ≤ (x.most : Int)
/-- what plain reckoning gives -/
structure MathOk : Prop where
  ok : ∀ x : Pl, x.good → x.ok
  ru : ∀ x : Pl, x.good → x.rua.ok
  sw : ∀ x : Pl, x.good → ∀ i ∈ x.pp, (⟨x.rua.mk', i⟩ : Sw).ok
  own : ∀ x : Pl, x.good → ∀ i ∈ x.pp, x.okOwn i
  tot : ∀ x : Pl, x.good → 2 ≤ x.most → ∀ i ∈ x.pp, x.L i = ((x.own i).length : Int)
  lif : ∀ x : Pl, x.good → ∀ i ∈ x.pp, ∀ k, x.isLift i k → k = x.L i
  rk : ∀ x : Pl, x.good → ∀ p ∈ x.pp, ∀ sh, BdS x sh → (mLst x.lists p).length ≤ 8 ∧ ∀ i ∈ mLst x.lists p, i ∈ x.pp ∧ (i ≠ p → Kno (mScored x sh) i ∧ Kno (mScored x sh) p)
  mv : ∀ x : Pl, x.good → ∀ p ∈ x.pp, ∀ sh1 sh2, BdS x sh1 → BdS x sh2 → (∀ i j, i ≠ p → sh1 i j = sh2 i j) → mRank x (mScored x sh1) p - mRank x (mScored x sh2) p ≤ x.L p
def qKnR : Rf (Pl × (Pn → Pn → Int) × Pn × List Int) := fun z v V => ∃ sh : Pn → Pn → Int, (∀ i j, i ≠ z.2.2.1 → sh i j = z.2.1 i j) ∧ (∀ i j, sh i j = z.2.1 i j ∨ sh i j ∈ z.2.2.2) ∧ qKn (mScored z.1 sh) v V
theorem al_any {γ : Type} {H : Hp} {L : List Int} : ∀ {xs : List γ} {vs : List Vl}, Al (qAny qI) (xs.map fun _ => L) vs H → ∃ rs : List Int, Al qI rs vs H ∧ rs.length = xs.length ∧ ∀ r ∈ rs, r ∈ L
  | [], _, h => by
    rw [List.map_nil] at h
    cases h
    exact ⟨[], .nil, rfl, fun r hr => nomatch hr⟩
  | x :: xs, _, h => by
    rw [List.map_cons] at h
    cases h with
    | cons r t =>
      obtain ⟨rs, h1, h2, h3⟩ := al_any t
      obtain ⟨y, hy, r⟩ := r
      refine ⟨y :: rs, .cons r h1, by rw [List.length_cons, List.length_cons, h2], fun z hz => ?_⟩
      rcases List.mem_cons.mp hz with rfl | hz
      · exact hy
      · exact h3 z hz
theorem others_len {pp : List Pn} {p : Pn} (nd : pp.Nodup) (h : p ∈ pp) : (others pp p).length = pp.length - 1 := by
  have e : others pp p = pp.erase p := by
    rw [List.Nodup.erase_eq_filter nd]
    refine List.filter_congr fun o _ => ?_
    by_cases h : o = p <;> simp [h, bne]
  rw [e, List.length_erase_of_mem h]
section
variable {P : Program} {w : World} {K : PySem.W.Frag} {mg : Str → Option Value} {base : Heap} {cC cR cS : Addr}
variable (F : Fx K mg cC cR cS)
include F
theorem ok_scored2 : Gfn P w K mg base "_law_scored" 4 (sp2 qPl qShR (fun x z => x.ok ∧ z.1 = x ∧ (∀ y ∈ x.reads, y ∈ mPairs x.pp) ∧ (∀ i j, 0 ≤ z.2.1 i j ∧ z.2.1 i j ≤ 10) ∧ ∀ r ∈ z.2.2.2, 0 ≤ r ∧ r ≤ 10) qKnR (fun _ z => z)) :=
  (ok_scored (P := P) (w := w) (base := base) F).imp fun vs H Q E h => by
    obtain ⟨v1, v2, a, z, V, rfl, l, r1, ⟨sh, h1, h2, r2⟩, ⟨ok, hz, hrd, hb, hr⟩, q⟩ := h
    subst hz
    refine ⟨v1, v2, z.1, (z.1.pp, sh), V, rfl, l, r1, r2, ⟨ok, rfl, hrd, fun i j => ?_⟩, fun V' H' v g r => q V' H' v g ⟨sh, h1, h2, r⟩⟩
    show 0 ≤ sh i j ∧ sh i j ≤ 10
    rcases h2 i j with e | e
    · rw [e]
      exact hb i j
    · exact hr _ e
end
end Om
set_option maxHeartbeats 4000000
/-! Om, the law's defs: law, its pages. -/
namespace Om
open PySem PySem.Spec PyProof.Rows L2
abbrev XL (P : Program) (w : World) (K : PySem.W.Frag) (mg : Str → Option Value) (base : Heap) (f : Addr) (cdv : Value) (A : Around) (outer : List Env) (s : Shared) (H : Hp) (E : XK) : Cx := bodyX P w K mg base n_law "law" s_law f cdv A outer s H E
theorem dg_mapI {pp : List Pn} {g : Pn → Int} {i : Pn} (h : i ∈ pp) : dg (pp.map fun i => (i, g i)) i = some (g i) := dg_map (g := g) h
section
variable {P : Program} {w : World} {K : PySem.W.Frag} {mg : Str → Option Value} {base : Heap} {cC cR cS : Addr}
variable (F : Fx K mg cC cR cS) (mm : MathOk)
include F mm
/-- the body of the loop over drawn pages: its fourth statement on is `rest` -/
theorem law_page (f : Addr) (cdv : Value) (A : Around) (outer : List Env) (s : Shared) (H : Hp) (E : XK) {v1 vk vp vr vf vo vs : Vl} {y8 y9 y10 y11 y12 y13 : Option Vl} {V : Hp} {d : Addr} {x : Pl} {P0 : Post} {body : List Stmt} (hr : Room 10 (XL P w K mg base f cdv A outer s H E).A)
    (hx : x.good) (rp : qPo () vp V) (rx : qPl x (.ref d) V) (rf : qDk qP qI (x.pp.map fun i => (i, x.L i)) vf V)
    (hb : body = (match (match (match (defBody s_law) with | .For _ _ b _ _ :: _ => b | _ => []).drop 8 with | .For _ _ b _ _ :: _ => b | _ => []) with | b => b))
    (hN : ∀ V' y8 y9 y10 y11 y12 y13, Same V V' → P0.nx [some v1, some vk, some vp, some (.ref d), some vr, some vf, some vo, some vs, y8, y9, y10, y11, y12, y13, none] V' H0) :
    Go (XL P w K mg base f cdv A outer s H E) body [some v1, some vk, some vp, some (.ref d), some vr, some vf, some vo, some vs, y8, y9, y10, y11, y12, y13, none] V H0 P0 := by
  subst hb
  have hu : (XL P w K mg base f cdv A outer s H E).A.units + 1 < cLine := by have := hr.units; omega
  have ok := mm.ok x hx
  have p7 := hx.p7
  have p2 := hx.p2
  have m3 := hx.m3
  refine go_par (i := 10) (j := 11) (R := qShE) (S := qAny qP) (a := (x.pp, x.most)) (b := x.pp) rfl sc_law.nd rfl rfl (by decide) rfl rfl (EvR.eq (ev_c3 ((ok_sheet (P := P) (w := w) (base := base) F).cal (X := XL P w K mg base f cdv A outer s H E) hr (by rfl)) (ev_var (i := 2) rfl (.inr (.inl rfl)) rfl rp) (ev_var (i := 3) rfl (.inr (.inl rfl)) rfl rx) ev_int ⟨rfl, ok⟩) rfl)
    (EvR.eq (ev_c2 ((ok_pick (P := P) (w := w) (base := base) F qP).cal (X := XL P w K mg base f cdv A outer s H E) hr (by rfl)) (ev_var (i := 2) rfl (.inr (.inl rfl)) rfl rp) (ev_gets hu (ev_var (i := 3) rfl (.inr (.inl rfl)) rfl rx) pl_pp) ⟨fun z => by rw [z] at p2; exact absurd p2 (by decide), by omega⟩) rfl) (fun V1 sv pv s1 rs rv => ?_) (by rfl)
  obtain ⟨sh, hsh, rs⟩ := rs
  obtain ⟨p, hp, rv⟩ := rv
  refine go_newL (i := 8) (R := qI) (xs := []) sc_law.nd rfl (.inl rfl) el_nil (Nat.zero_le _) fun V2 l vs0 s2 _ hV al0 => ?_
  have e0 : vs0 = [] := by cases al0; rfl
  subst e0
  refine go_for PassesOwn.never rfl (tg_name (i := 9) sc_law.nd rfl (.inl rfl)) (src_range1 (j := 4) (by rfl) F.m_range ev_int (by decide) (by decide))
    (fun j σ' V' M' => ∃ y9 y12 y13 ns acc, σ' = [some v1, some vk, some vp, some (.ref d), some vr, some vf, some vo, some vs, some (.ref l), y9, some sv, some pv, y12, y13, none] ∧ M' = upd H0 l (.lst acc) ∧ Al qI ns acc V' ∧ ns.length = j ∧ ∀ n ∈ ns, ∃ sh', BdS x sh' ∧ (∀ i j, i ≠ p → sh' i j = sh i j) ∧ n = mRank x (mScored x sh') p)
    (fun V3 s3 => ⟨y9, y12, y13, [], [], rfl, rfl, .nil, rfl, fun n hn => nomatch hn⟩) ?_ ?_
  · rintro j a v σ' σ2 V0 V' M' hxj ⟨y9, y12, y13, ns, acc, rfl, rfl, al, hnl, hns⟩ s3 s4 ra rfl
    have hj4 := (rgl_get hxj).1
    have sA := ((s1.trans s2).trans s3).trans s4
    have sB := (s2.trans s3).trans s4
    have xp := fun q => ev_var (X := XL P w K mg base f cdv A outer s H E) (V := V') (σ := [some v1, some vk, some vp, some (.ref d), some vr, some vf, some vo, some vs, some (.ref l), some v, some sv, some pv, y12, y13, none]) (pos := q) (i := 3) rfl (.inr (.inl rfl)) rfl (Mo.mo sA rx)
    refine go_lcn 14 12 (xs := x.pp.drop 1) (R := qP) (S := qAny qI) (f := fun _ => [0, (x.most : Int)]) rfl sc_law.nd rfl rfl rfl (src_list (EvR.eq (ev_sl (l := some ((1 : Nat) : Int)) (h := none) (ev_gets hu (xp _) pl_pp) (ep_some ev_int) ep_none) cut_drop)) (by rw [sizeLine_eq, List.length_drop]; omega) (blkOk_by (N := n_law) (sc := defScope s_law) (by decide +kernel))
      (fun o v' V'' ho sv' ro => fun s0 H1 C cl fp => EvR.eq (ev_c2 ((ok_pick (P := P) (w := w) (base := base) F qI).cal (X := bl (XL P w K mg base f cdv A outer s H E) _ s0 H1 C cl fp) hr (by rfl)) (ev_var (i := 2) rfl (.inr (.inl rfl)) rfl (Mo.mo (sA.trans sv') rp)) (ev_lst (el_cons ev_int (el_cons (ev_gets (S := qI) (b := (x.most : Int)) hu (ev_var (i := 3) rfl (.inr (.inl rfl)) rfl (Mo.mo (sA.trans sv') rx)) pl_most) el_nil)) (show 2 ≤ sizeLine by decide)) ⟨fun z => (nomatch z), (show 2 < 1073741824 by decide)⟩) rfl) fun V5 rw s5 rr => ?_
    obtain ⟨q, ws, rfl, hq, alq, _⟩ := rr
    obtain ⟨rs', alr, hrl, hrs⟩ := al_any alq
    rw [List.length_drop] at hrl
    have rrow : qL qI rs' (.ref q) V5 := ⟨q, ws, rfl, hq, alr, by rw [hrl, sizeLine_eq]; omega⟩
    have hrb : ∀ r ∈ rs', 0 ≤ r ∧ r ≤ (x.most : Int) := fun r hr' => by
      have := hrs r hr'
      simp only [List.mem_cons, List.not_mem_nil, or_false] at this
      rcases this with rfl | rfl <;> omega
    have sC := sA.trans s5
    have sD := sB.trans s5
    obtain ⟨rds, hrds⟩ := hx.rd
    refine go_set (i := 13) (R := qKnR) (a := (x, sh, p, rs')) sc_law.nd rfl (.inl rfl) (EvR.eq (ev_c2 ((ok_scored2 (P := P) (w := w) (base := base) F).cal (X := XL P w K mg base f cdv A outer s H E) hr (by rfl)) (ev_var (i := 3) rfl (.inr (.inl rfl)) rfl (Mo.mo sC rx))
      (EvR.eq (ev_c4 ((ok_with_row (P := P) (w := w) (base := base) F).cal (X := XL P w K mg base f cdv A outer s H E) hr (by rfl)) (ev_var (i := 3) rfl (.inr (.inl rfl)) rfl (Mo.mo sC rx)) (ev_var (R := qSh) (a := (x.pp, sh)) (i := 10) rfl (.inl rfl) rfl (Mo.mo sD rs)) (ev_var (R := qP) (a := p) (i := 11) rfl (.inl rfl) rfl rv) (ev_var (i := 12) rfl (.inl rfl) rfl rrow) ⟨ok, rfl, hp, by rw [hrl, others_len hx.nd hp]⟩) rfl)
      ⟨ok, rfl, fun y hy => by rw [hrds] at hy; exact (List.mem_filter.mp hy).1, fun i j => by have := hsh i j; show 0 ≤ sh i j ∧ sh i j ≤ 10; omega, fun r hr' => by have := hrb r hr'; omega⟩) rfl) fun V6 kv' s6 rk => ?_
    obtain ⟨sh', g1, g2, rk⟩ := rk
    have hb' : BdS x sh' := fun i j => by
      rcases g2 i j with e | e
      · rw [e]
        exact hsh i j
      · exact hrb _ e
    have hrk := mm.rk x hx p hp sh' hb'
    have hal := al.len
    refine go_app (l := l) (vs := acc) (R := qI) (a := mRank x (mScored x sh') p) (ev_var (i := 8) rfl (.inl rfl) rfl rfl) upd_same (by rw [sizeLine_eq]; omega) (EvR.m (EvR.eq (ev_c3 ((ok_rank (P := P) (w := w) (base := base) F).cal (X := XL P w K mg base f cdv A outer s H E) hr (by rfl)) (ev_var (i := 3) rfl (.inr (.inl rfl)) rfl (Mo.mo (sC.trans s6) rx)) (ev_var (i := 13) rfl (.inl rfl) rfl rk) (ev_var (R := qP) (a := p) (i := 11) rfl (.inl rfl) rfl rv) ⟨ok, hp, hrk⟩) rfl)) fun V7 nv s7 rn => ?_
    rw [upd_upd]
    refine go_nil ⟨_, _, _, ns ++ [mRank x (mScored x sh') p], _, rfl, rfl, (al.mo (((s4.trans s5).trans s6).trans s7)).app (.cons rn .nil), by rw [List.length_append, List.length_singleton, hnl], fun n hn => ?_⟩
    rcases List.mem_append.mp hn with hn | hn
    · exact hns n hn
    · exact ⟨sh', hb', g1, List.mem_singleton.mp hn⟩
  · rintro σ' V' M' ⟨y9, y12, y13, ns, acc, rfl, rfl, al, hnl, hns⟩ s3
    have sA := (s1.trans s2).trans s3
    have hnl : ns.length = 4 := hnl
    obtain ⟨n0, nr, rfl⟩ : ∃ n0 nr, ns = n0 :: nr := by
      cases ns with
      | nil => cases hnl
      | cons a r => exact ⟨a, r, rfl⟩
    obtain ⟨mx, x1, x2⟩ := max_ex nr n0
    obtain ⟨mn, n1, n2⟩ := min_ex nr n0
    obtain ⟨sh1, b1, a1, e1⟩ := hns mx x1
    obtain ⟨sh2, b2, a2, e2⟩ := hns mn n1
    have hmv := mm.mv x hx p hp sh1 sh2 b1 b2 fun i j h => (a1 i j h).trans (a2 i j h).symm
    rw [← e1, ← e2] at hmv
    refine go_di fun di => ?_
    have rl : qL qI (n0 :: nr) (.ref l) (jn V' (upd H0 l (.lst acc))) := ⟨l, acc, rfl, jn_at di upd_same, al.mo jn_v, by rw [hnl]; decide⟩
    refine go_if (hW := jn_sees) (et_cmp o_gt (ev_bin o_sub (ev_t1 f_intI (by rfl) F.m_int PyProof.Rows.boot_int (ev_b1 (f_max rfl x1 x2) (by rfl) F.m_max PyProof.Rows.boot_max (ev_var (i := 8) rfl (.inl rfl) rfl rl))) (ev_t1 f_intI (by rfl) F.m_int PyProof.Rows.boot_int (ev_b1 (f_min rfl n1 n2) (by rfl) F.m_min PyProof.Rows.boot_min (ev_var (i := 8) rfl (.inl rfl) rfl rl))))
      (ev_getK (R := qP) (S := qI) hu (ev_var (i := 5) rfl (.inl rfl) rfl (Mo.mo (sA.trans jn_v) rf)) (ev_var (R := qP) (a := p) (i := 11) rfl (.inl rfl) rfl rv) (dg_mapI hp))) (fun h => ?_) (fun h => go_nil ?_)
    · have := of_decide_eq_true h
      omega
    · refine go_show fun hV => go_nil ?_
      exact hN _ _ _ _ _ _ _ (sA.trans (same_upd hV))
end
end Om
set_option maxHeartbeats 4000000
/-! Om, the law's defs: law. -/
namespace Om
open PySem PySem.Spec PyProof.Rows L2
def qMo : Rf Nat := fun m v _ => v = .int (m : Int) ∨ v = .int 1
instance : Fl qMo := ⟨fun h => h⟩
theorem src_far {X : Cx} {σ : L2.St} {V : Hp} {e tg : Expr} {pp : List Pn} {g : Pn → Int} (h : EvR X e σ V (qDk qP qI) (pp.map fun i => (i, g i))) : Src X tg e σ V none qP pp := by
  have := src_dk (R := qP) (S := qI) (tg := tg) (kvs := pp.map fun i => (i, g i)) h
  rw [List.map_map] at this
  have e : pp.map ((fun (x : Pn × Int) => x.1) ∘ fun i => (i, g i)) = pp := by
    conv => rhs; rw [← List.map_id pp]
    rfl
  rw [e] at this
  exact this
theorem far_nd {pp : List Pn} {g : Pn → Int} (nd : pp.Nodup) : ((pp.map fun i => (i, g i)).map (·.1)).Nodup := by
  rw [List.map_map]
  have e : pp.map ((fun (x : Pn × Int) => x.1) ∘ fun i => (i, g i)) = pp := by
    conv => rhs; rw [← List.map_id pp]
    rfl
  rw [e]
  exact nd
section
variable {P : Program} {w : World} {K : PySem.W.Frag} {mg : Str → Option Value} {base : Heap} {cC cR cS : Addr}
variable (F : Fx K mg cC cR cS) (mm : MathOk)
include F mm
/-- one cell, from the drawn plan on -/
theorem law_cell (f : Addr) (cdv : Value) (A : Around) (outer : List Env) (s : Shared) (H : Hp) (E : XK) {v1 vk vp : Vl} {y4 y5 y6 y7 y8 y9 y10 y11 y12 y13 : Option Vl} {V : Hp} {d : Addr} {x : Pl} {P0 : Post} {body : List Stmt} (hr : Room 10 (XL P w K mg base f cdv A outer s H E).A)
    (hx : x.good) (rp : qPo () vp V) (rx : qPl x (.ref d) V)
    (hb : body = (match (defBody s_law) with | .For _ _ b _ _ :: _ => b | _ => []).drop 3)
    (hN : ∀ V' y4 y5 y6 y7 y8 y9 y10 y11 y12 y13, Same V V' → P0.nx [some v1, some vk, some vp, some (.ref d), y4, y5, y6, y7, y8, y9, y10, y11, y12, y13, none] V' H0) :
    Go (XL P w K mg base f cdv A outer s H E) body [some v1, some vk, some vp, some (.ref d), y4, y5, y6, y7, y8, y9, y10, y11, y12, y13, none] V H0 P0 := by
  subst hb
  have hu : (XL P w K mg base f cdv A outer s H E).A.units + 1 < cLine := by have := hr.units; omega
  have hu65 : (XL P w K mg base f cdv A outer s H E).A.units + 65 < cLine := by have := hr.un; omega
  have ok := mm.ok x hx
  have p7 := hx.p7
  have p2 := hx.p2
  have nd := hx.nd
  refine go_set (i := 4) (R := qRu cC cR) (a := x.rua.mk') sc_law.nd rfl (.inr rfl) (EvR.eq (ev_c1 ((ok_made (P := P) (w := w) (base := base) F).cal (X := XL P w K mg base f cdv A outer s H E) hr (by rfl)) (ev_var (i := 3) rfl (.inr (.inl rfl)) rfl rx) ⟨ok, mm.ru x hx⟩) rfl) fun V1 vr s1 rr => ?_
  refine go_set (i := 5) (R := qDk qP qI) (a := x.pp.map fun i => (i, x.L i)) sc_law.nd rfl (.inl rfl) (EvR.eq (ev_dP (R := qP) (S := qI) (xs := x.pp.map fun i => (i, x.L i)) rfl (by rfl) F.m_dict (ev_lcn (xs := x.pp) (R := qP) (S := q2 qP qI) (f := fun i => (i, x.L i)) 11 rfl sc_law.nd rfl (src_list (ev_gets hu (ev_var (i := 3) rfl (.inr (.inl rfl)) rfl (Mo.mo s1 rx)) pl_pp)) (by rw [sizeLine_eq]; omega) (blkOk_by (N := n_law) (sc := defScope s_law) (by decide +kernel))
    (fun i v V' hi sv ri => fun s0 H1 C cl fp => ev_tup2 (R := qP) (S := qI) (ev_var (i := 11) rfl (.inl rfl) rfl ri) (EvR.eq (ev_c2 ((ok_lift (P := P) (w := w) (base := base) F).cal (X := bl (XL P w K mg base f cdv A outer s H E) _ s0 H1 C cl fp) hr (by rfl)) (ev_var (i := 4) rfl (.inr (.inl rfl)) rfl (Mo.mo sv rr)) (ev_var (i := 11) rfl (.inl rfl) rfl ri) (mm.sw x hx i hi)) rfl)))) (dmk_nodup (far_nd nd))) fun V2 vf s2 rf => ?_
  refine go_set (i := 6) (R := qDk qP qI) (a := x.pp.map fun i => (i, ((x.own i).length : Int))) sc_law.nd rfl (.inl rfl) (EvR.eq (ev_dP (R := qP) (S := qI) (xs := x.pp.map fun i => (i, ((x.own i).length : Int))) rfl (by rfl) F.m_dict (ev_lcn (xs := x.pp) (R := qP) (S := q2 qP qI) (f := fun i => (i, ((x.own i).length : Int))) 11 rfl sc_law.nd rfl (src_far (ev_var (i := 5) rfl (.inl rfl) rfl rf)) (by rw [sizeLine_eq]; omega) (blkOk_by (N := n_law) (sc := defScope s_law) (by decide +kernel))
    (fun i v V' hi sv ri => fun s0 H1 C cl fp => ev_tup2 (R := qP) (S := qI) (ev_var (i := 11) rfl (.inl rfl) rfl ri) (ev_b1 f_lenL (by rfl) F.m_len PySem.boot_len (EvR.eq (ev_c2 ((ok_law_own (P := P) (w := w) (base := base) F).cal (X := bl (XL P w K mg base f cdv A outer s H E) _ s0 H1 C cl fp) hr (by rfl)) (ev_var (i := 3) rfl (.inr (.inl rfl)) rfl (Mo.mo ((s1.trans s2).trans sv) rx)) (ev_var (i := 11) rfl (.inl rfl) rfl ri) ⟨ok, hi⟩) rfl))))) (dmk_nodup (far_nd nd))) fun V3 vo s3 ro => ?_
  have sA := (s1.trans s2).trans s3
  have rx3 := Mo.mo (R := qPl) sA rx
  have rf3 := Mo.mo (R := qDk qP qI) s3 rf
  refine go_if (q := false || (decide (1 < (x.most : Int)) && false)) (et_w (ew_or (et_cmp (o_neDk (R := qP) (kvs := x.pp.map fun i => (i, x.L i)) (by omega) (far_nd nd)) (EvR.eq (ev_c1 ((ok_lifts (P := P) (w := w) (base := base) F).cal (X := XL P w K mg base f cdv A outer s H E) hr (by rfl)) (ev_var (i := 4) rfl (.inr (.inl rfl)) rfl (Mo.mo (s2.trans s3) rr)) (fun i hi => mm.sw x hx i hi)) rfl) (ev_var (i := 5) rfl (.inl rfl) rfl rf3))
    fun _ => ew_or1 (et_w (ew_and (et_cmp o_gt (ev_gets (S := qI) (b := (x.most : Int)) hu (ev_var (i := 3) rfl (.inr (.inl rfl)) rfl rx3) pl_most) ev_int) fun h => ew_and1 (et_cmp (o_neDk (R := qP) (kvs := x.pp.map fun i => (i, x.L i)) (by omega) (far_nd nd)) (ev_var (i := 5) rfl (.inl rfl) rfl rf3) (EvR.eq (ev_var (i := 6) rfl (.inl rfl) rfl ro) ?_)))))) (fun h => ?_) (fun _ => go_nil ?_)
  · refine List.map_congr_left fun i hi => ?_
    rw [mm.tot x hx (by have := of_decide_eq_true h; omega) i hi]
  · rw [Bool.and_false, Bool.or_false] at h
    cases h
  have next : Go (XL P w K mg base f cdv A outer s H E) ((match (defBody s_law) with | .For _ _ b _ _ :: _ => b | _ => []).drop 8) [some v1, some vk, some vp, some (.ref d), some vr, some vf, some vo, y7, y8, y9, y10, y11, y12, y13, none] V3 H0 P0 := by
    refine go_for PassesOwn.never rfl (tg_name (i := 7) sc_law.nd rfl (.inl rfl)) (src_range1 (j := 4) (by rfl) F.m_range ev_int (by decide) (by decide))
      (fun j σ' V' M' => ∃ y7 y8 y9 y10 y11 y12 y13, σ' = [some v1, some vk, some vp, some (.ref d), some vr, some vf, some vo, y7, y8, y9, y10, y11, y12, y13, none] ∧ M' = H0)
      (fun V4 s4 => ⟨_, _, _, _, _, _, _, rfl, rfl⟩) ?_ ?_
    · rintro j a v σ' σ2 V4 V5 M' hxj ⟨y7, y8, y9, y10, y11, y12, y13, rfl, rfl⟩ s4 s5 ra rfl
      have sB := sA.trans (s4.trans s5)
      exact law_page (P := P) (w := w) (base := base) F mm f cdv A outer s H E hr hx (Mo.mo sB rp) (Mo.mo sB rx) (Mo.mo (s3.trans (s4.trans s5)) rf) rfl fun V' _ _ _ _ _ _ sv => ⟨_, _, _, _, _, _, _, rfl, rfl⟩
    · rintro σ' V' M' ⟨y7, y8, y9, y10, y11, y12, y13, rfl, rfl⟩ s4
      exact go_nil (hN _ _ _ _ _ _ _ _ _ _ _ (sA.trans s4))
  refine go_if (hW := Sees.self) (et_w (ew_or (et_cmp o_eqI (ev_gets (S := qI) (b := (x.most : Int)) hu (ev_var (i := 3) rfl (.inr (.inl rfl)) rfl rx3) pl_most) ev_int) fun _ => ew_or1 (et_cmp o_lt (ev_b1 f_lenL (by rfl) F.m_len PySem.boot_len (ev_gets hu (ev_var (i := 3) rfl (.inr (.inl rfl)) rfl rx3) pl_pp)) ev_int))) (fun _ => ?_) (fun _ => go_nil next)
  refine go_if (hW := Sees.self) (et_cmp (o_neD (R := qL qI) (a := x.pp.map x.L) (b := x.pp.map x.L) (by omega)) (ev_lcn (xs := x.pp) (R := qP) (S := qI) (f := x.L) 11 rfl sc_law.nd rfl (src_far (ev_var (i := 5) rfl (.inl rfl) rfl rf3)) (by rw [sizeLine_eq]; omega) (blkOk_by (N := n_law) (sc := defScope s_law) (by decide +kernel))
    (fun i v V' hi sv ri => fun s0 H1 C cl fp => EvR.conv (ev_c2 ((ok_law_lift (P := P) (w := w) (base := base) F).cal (X := bl (XL P w K mg base f cdv A outer s H E) _ s0 H1 C cl fp) hr (by rfl)) (ev_var (i := 3) rfl (.inr (.inl rfl)) rfl (Mo.mo sv rx3)) (ev_var (i := 11) rfl (.inl rfl) rfl ri) ⟨ok, mm.own x hx i hi⟩) fun v V' _ ⟨k, hk, e⟩ => by rw [← mm.lif x hx i hi k hk]; exact e))
    (EvR.eq (ev_listVals (R := qP) (S := qI) (kvs := x.pp.map fun i => (i, x.L i)) rfl (by rfl) F.m_list (ev_var (i := 5) rfl (.inl rfl) rfl rf3) (by rw [List.length_map, sizeLine_eq]; omega)) ?_)) (fun h => ?_) (fun _ => go_nil (go_nil next))
  · rw [List.map_map]
    rfl
  · simp at h
theorem law_body (f : Addr) (cdv : Value) (A : Around) (outer : List Env) (s : Shared) (H : Hp) (E : XK) (v1 : Vl) (ns : List Int) (V : Hp) (hr : Room 10 (XL P w K mg base f cdv A outer s H E).A) (r1 : qScr K ns v1 V) :
    Go (XL P w K mg base f cdv A outer s H E) (defBody s_law) (start n_law [v1]) V H0 (RetP qB true) := by
  have hu : (XL P w K mg base f cdv A outer s H E).A.units + 1 < cLine := by have := hr.units; omega
  obtain ⟨n, hn⟩ : ∃ n : Int, n = if (if 6 < (ns.length : Int) then 6 else (ns.length : Int)) > 1 then (if 6 < (ns.length : Int) then 6 else (ns.length : Int)) else 1 := ⟨_, rfl⟩
  have n1 : 1 ≤ n ∧ n ≤ 6 := by
    rw [hn]
    split <;> split <;> omega
  refine go_for PassesOwn.never rfl (tg_name (i := 1) sc_law.nd rfl (.inl rfl)) (src_range1 (j := n) (by rfl) F.m_range (EvR.eq (ev_b2 (f_max2 rfl) (by rfl) F.m_max PyProof.Rows.boot_max ev_int (ev_b2 (f_min2 rfl) (by rfl) F.m_min PyProof.Rows.boot_min (ev_b1 f_lenScr (by rfl) F.m_len PySem.boot_len (ev_var (i := 0) rfl (.inl rfl) rfl r1)) ev_int)) hn.symm) (by omega) (by omega))
    (fun j σ' V' M' => ∃ y1 y2 y3 y4 y5 y6 y7 y8 y9 y10 y11 y12 y13, σ' = [some v1, y1, y2, y3, y4, y5, y6, y7, y8, y9, y10, y11, y12, y13, none] ∧ M' = H0)
    (fun V4 s4 => ⟨_, _, _, _, _, _, _, _, _, _, _, _, _, rfl, rfl⟩) ?_ ?_
  · rintro j a vk σ' σ2 V0 V1 M' hxj ⟨y1, y2, y3, y4, y5, y6, y7, y8, y9, y10, y11, y12, y13, rfl, rfl⟩ s0 s1 ra rfl
    obtain ⟨hj, rfl⟩ := rgl_get hxj
    have rk : qNat j vk V1 := by
      have ra : vk = .int (0 + (j : Int)) := ra
      rw [Int.zero_add] at ra
      exact ra
    refine go_set (i := 2) (R := qPo) (a := ()) sc_law.nd rfl (.inr rfl) (EvR.eq (ev_c2 ((ok_opened (P := P) (w := w) (base := base) F).cal (X := XL P w K mg base f cdv A outer s H E) hr (by rfl)) (ev_var (i := 0) rfl (.inl rfl) rfl (Mo.mo (s0.trans s1) r1)) (ev_var (i := 1) rfl (.inl rfl) rfl rk) (by omega)) rfl) fun V2 vp s2 rp => ?_
    refine go_setN (i := 3) sc_law.nd rfl (.inr rfl) (en_plan ((ok_plan (P := P) (w := w) (base := base) F).cal (X := XL P w K mg base f cdv A outer s H E) hr (by rfl)) (ev_var (i := 2) rfl (.inr (.inl rfl)) rfl rp) ev_int ev_int ev_int (ev_lst (el_cons ev_str el_nil) (by decide))) (fun o V' ⟨_, _, e, _⟩ xs z => by rw [e] at z; cases z) fun V3 d o s3 _ hV3 ⟨ks, y, eo, hy, hE, hl⟩ => ?_
    subst eo
    refine go_di fun di => ?_
    have jd : jn V3 (upd H0 d (.dK ks)) d = some (.dK ks) := jn_at di upd_same
    have hE0 := hE
    obtain ⟨u1, u2, u3, l1, q1, l2, q2, l3, q3, l4, l5, l6, l7, l8⟩ := hE0
    refine go_putK (d := d) (kvs := ks) (key := .inr "most") (R := qMo) (a := y.most) hu (fun V4 sv => ev_var (i := 3) rfl (.inr (.inl rfl)) rfl rfl) (fun V4 sv => ev_key "most") upd_same (by rw [sizeLine_eq]; omega)
      (EvR.wf (ev_ifx (tx_eq (EvR.eq (ev_c2 ((ok_draw (P := P) (w := w) (base := base) F).cal (X := XL P w K mg base f cdv A outer s H E) hr (by rfl)) (ev_var (i := 2) rfl (.inr (.inl rfl)) rfl (Mo.mo (s3.trans jn_v) rp)) ev_int ⟨by decide, by decide⟩) rfl) ev_int)
        (EvR.conv (ev_pl (S := qNat) (b := y.most) hu (ev_var (i := 3) rfl (.inr (.inl rfl)) rfl rfl) (.inl jd) l4 rfl) fun v V' _ r => .inl r) (EvR.conv ev_int fun v V' _ r => .inr r))) fun V4 mv s4 rm => ?_
    rw [upd_upd]
    obtain ⟨m, hm1, hm3, em⟩ : ∃ m : Nat, 1 ≤ m ∧ m ≤ 3 ∧ mv = .int (m : Int) := by
      rcases rm with e | e
      · exact ⟨y.most, hy.m1, hy.m3, e⟩
      · exact ⟨1, by decide, by decide, e⟩
    subst em
    have hx : Pl.good { y with most := m } := ⟨hy.nd, hy.p2, hy.p7, hm1, hm3, hy.ls, hy.rd, hy.hr, hy.t1, hy.t2, hy.pz⟩
    have hE4 : PlE (putK ks (.inr "most") (L2.V.int (m : Int))) { y with most := m } V4 := ⟨u1, u2, u3, by rw [vput_ne (by decide)]; exact l1, Mo.mo s4 q1, by rw [vput_ne (by decide)]; exact l2, Mo.mo s4 q2, by rw [vput_ne (by decide)]; exact l3, Mo.mo s4 q3, vput_eq, by rw [vput_ne (by decide)]; exact l5, by rw [vput_ne (by decide)]; exact l6, by rw [vput_ne (by decide)]; exact l7, by rw [vput_ne (by decide)]; exact l8⟩
    refine go_lock trivial fun od hV => ?_
    have sd : Same V4 (upd V4 d (.frz od (.dK (putK ks (.inr "most") (L2.V.int (m : Int)))))) := same_upd hV
    exact law_cell (P := P) (w := w) (base := base) F mm f cdv A outer s H E (x := { y with most := m }) hr hx (Mo.mo ((s3.trans s4).trans sd) rp) ((hE4.mo sd).at (.inr ⟨od, upd_same⟩)) rfl fun V' _ _ _ _ _ _ _ _ _ _ sv => ⟨_, _, _, _, _, _, _, _, _, _, _, _, _, rfl, rfl⟩
  · rintro σ' V' M' ⟨y1, y2, y3, y4, y5, y6, y7, y8, y9, y10, y11, y12, y13, rfl, rfl⟩ s1
    exact go_ret (R := qB) (a := true) ev_bl fun V' v s r => r
theorem ok_law_at {f : Addr} {fd : FuncData} (FD : FunD K "law" "law" (defArgs s_law) (defBody s_law) (defScope s_law) [] [] f fd) : FnOk P w K mg base CX0 11 f fd ["_law_script"] (sp1 (qScr K) (fun _ => True) qB (fun _ => true)) := by
  refine FD.ok sc_law (fun vs H Q E h => ?_) (fun cdv A outer s H vs Q E hr hsp => ?_)
  · obtain ⟨v1, a, V, rfl, _⟩ := h
    rfl
  · obtain ⟨v1, ns, V, rfl, l, r1, _, q⟩ := hsp
    exact ⟨_, PSs.nox pss_rs, run_body l (law_body (P := P) (w := w) (base := base) F mm f cdv A outer s H E v1 ns V hr r1) q⟩
end
end Om
set_option maxHeartbeats 4000000
/-! Om, plain: sorting, scores reckoned. -/
namespace Om
def iIns (a : Int) : List Int → List Int
  | [] => [a]
  | b :: l => if a ≤ b then a :: b :: l else b :: iIns a l
def iSort : List Int → List Int
  | [] => []
  | a :: l => iIns a (iSort l)
theorem iIns_perm (a : Int) : ∀ l : List Int, (iIns a l).Perm (a :: l)
  | [] => List.Perm.refl _
  | b :: l => by
    unfold iIns
    split
    · exact List.Perm.refl _
    · exact (List.Perm.cons b (iIns_perm a l)).trans (List.Perm.swap a b l)
theorem iSort_perm : ∀ l : List Int, (iSort l).Perm l
  | [] => List.Perm.refl _
  | a :: l => (iIns_perm a (iSort l)).trans (List.Perm.cons a (iSort_perm l))
theorem iIns_pw (a : Int) : ∀ l : List Int, l.Pairwise (· ≤ ·) → (iIns a l).Pairwise (· ≤ ·)
  | [], _ => List.pairwise_singleton _ _
  | b :: l, h => by
    obtain ⟨h1, h2⟩ := List.pairwise_cons.mp h
    unfold iIns
    split
    · rename_i hab
      refine List.pairwise_cons.mpr ⟨fun x hx => ?_, h⟩
      rcases List.mem_cons.mp hx with rfl | hx
      · exact hab
      · exact Int.le_trans hab (h1 x hx)
    · rename_i hab
      refine List.pairwise_cons.mpr ⟨fun x hx => ?_, iIns_pw a l h2⟩
      rcases List.mem_cons.mp ((iIns_perm a l).mem_iff.mp hx) with rfl | hx
      · omega
      · exact h1 x hx
theorem iSort_pw : ∀ l : List Int, (iSort l).Pairwise (· ≤ ·)
  | [] => .nil
  | a :: l => iIns_pw a _ (iSort_pw l)
theorem sorted_eq : ∀ {l m : List Int}, l.Perm m → l.Pairwise (· ≤ ·) → m.Pairwise (· ≤ ·) → l = m
  | [], m, h, _, _ => by rw [h.symm.eq_nil]
  | a :: l, [], h, _, _ => by rw [h.eq_nil]
  | a :: l, b :: m, h, h1, h2 => by
    obtain ⟨a1, a2⟩ := List.pairwise_cons.mp h1
    obtain ⟨b1, b2⟩ := List.pairwise_cons.mp h2
    have hab : a ≤ b := by
      rcases List.mem_cons.mp (h.mem_iff.mpr (List.mem_cons_self (a := b) (l := m))) with e | e
      · omega
      · exact a1 b e
    have hba : b ≤ a := by
      rcases List.mem_cons.mp (h.mem_iff.mp (List.mem_cons_self (a := a) (l := l))) with e | e
      · omega
      · exact b1 a e
    have e : a = b := Int.le_antisymm hab hba
    subst e
    rw [sorted_eq (List.Perm.cons_inv h) a2 b2]
theorem mSort_eq (l : List Int) : mSort l = iSort l := sorted_eq ((mSort_perm l).trans (iSort_perm l).symm) (mSort_pw l) (iSort_pw l)
def kept (t : Nat) (ms : List Int) : List Int := if 2 * t < ms.length then ((iSort ms).drop t).take (ms.length - t - t) else iSort ms
/-- the score, reckoned -/
def sc (g : Ga) (t : Nat) (ms : List Int) : Fr := match g with
  | .sum => (ms.sum, 1)
  | .mean => mFrac ms.sum (ms.length : Int)
  | .median => mFrac ((iSort ms).getD ((ms.length - 1) / 2) 0 + (iSort ms).getD (ms.length / 2) 0) 2
  | .trim => mFrac (kept t ms).sum ((kept t ms).length : Int)
  | .least => ((iSort ms).getD 0 0, 1)
  | .greatest => ((iSort ms).getD (ms.length - 1) 0, 1)
theorem sc_eq (g : Ga) (t : Nat) (ms : List Int) : mGath g t ms = sc g t ms := by
  cases g
  · rfl
  · rfl
  · show mMed ms = _
    unfold mMed
    rw [mSort_eq]
    rfl
  · show mTrm t ms = _
    unfold mTrm mKept
    rw [mSort_eq]
    rfl
  · show (mMin ms, (1 : Int)) = _
    unfold mMin
    rw [mSort_eq]
    rfl
  · show (mMax ms, (1 : Int)) = _
    unfold mMax
    rw [mSort_eq]
    rfl
theorem perm_sum {l m : List Int} (h : l.Perm m) : l.sum = m.sum := by
  induction h with
  | nil => rfl
  | cons x _ ih => rw [List.sum_cons, List.sum_cons, ih]
  | swap x y l => rw [List.sum_cons, List.sum_cons, List.sum_cons, List.sum_cons]; omega
  | trans _ _ h1 h2 => exact h1.trans h2
theorem sc_perm {g : Ga} {t : Nat} {l m : List Int} (h : l.Perm m) : sc g t l = sc g t m := by
  have e : iSort l = iSort m := sorted_eq (((iSort_perm l).trans h).trans (iSort_perm m).symm) (iSort_pw l) (iSort_pw m)
  have n := h.length_eq
  have s := perm_sum h
  cases g
  · show (l.sum, (1 : Int)) = (m.sum, 1)
    rw [s]
  · show mFrac l.sum (l.length : Int) = mFrac m.sum (m.length : Int)
    rw [s, n]
  · show mFrac _ _ = mFrac _ _
    rw [e, n]
  · have k : kept t l = kept t m := by
      unfold kept
      rw [e, n]
    show mFrac _ _ = mFrac _ _
    rw [k]
  · show ((iSort l).getD 0 0, (1 : Int)) = ((iSort m).getD 0 0, 1)
    rw [e]
  · show ((iSort l).getD (l.length - 1) 0, (1 : Int)) = ((iSort m).getD (m.length - 1) 0, 1)
    rw [e, n]
/-! ### all small bunches -/
def GT : List (Ga × Nat) := [(.sum, 0), (.mean, 0), (.median, 0), (.least, 0), (.greatest, 0), (.trim, 1), (.trim, 2), (.trim, 3)]
def bMono : Bool := GT.all fun z => [1, 2, 3].all fun most => [0, 1, 2, 3, 4, 5].all fun k => (mBun most k).all fun rest => (List.range (most + 1)).all fun m =>
  !mLess (sc z.1 z.2 ((m : Int) :: rest)) (sc z.1 z.2 (0 :: rest)) && !mLess (sc z.1 z.2 ((most : Int) :: rest)) (sc z.1 z.2 ((m : Int) :: rest))
def fineB (z : Fr) : Bool := decide (0 < z.2) && (decide (420 % z.2 = 0) && (decide (0 ≤ z.1) && (decide (z.1 ≤ 1000) && decide (Int.gcd z.1 z.2 = 1))))
def ddup (xs : List Fr) : List Fr := xs.foldl (fun acc z => if z ∈ acc then acc else acc ++ [z]) []
def bFine : Bool := GT.all fun z => [1, 2, 3].all fun most => [1, 2, 3, 4, 5, 6].all fun k => ((mBun most k).all fun ms => fineB (sc z.1 z.2 ms)) && decide ((ddup ((mBun most k).map (sc z.1 z.2))).length < 64)
def decB (g : Ga) (t most : Nat) (e : Bool) (w : Fr) (rest : List Int) : Bool := (e && (!mLess w (sc g t (0 :: rest)) && mLess w (sc g t ((most : Int) :: rest)))) || (!e && (mLess (sc g t (0 :: rest)) w && !mLess (sc g t ((most : Int) :: rest)) w))
def bDec : Bool := GT.all fun z => [2, 3].all fun most => [1, 2, 3, 4, 5, 6].all fun n => decide (n ≤ 2 * z.2) || ((mBun most n).any (fun ms => decide (sc z.1 z.2 ms = (1, 1))) && [true, false].all fun e => (mBun most (n - 1)).any (decB z.1 z.2 most e (1, 1)))
theorem bMono_ok : bMono = true := by decide +kernel
theorem bFine_ok : bFine = true := by decide +kernel
theorem bDec_ok : bDec = true := by decide +kernel
end Om
set_option maxHeartbeats 4000000
/-! Om, plain: fractions; what the small bunches tell of a drawn plan. -/
namespace Om
theorem fl1 {a b c : Fr} (ha : 0 < a.2) (hb : 0 < b.2) (hc : 0 < c.2) (h1 : mLess b a = false) (h2 : mLess b c = true) : mLess a c = true := by
  have h1' : a.1 * b.2 ≤ b.1 * a.2 := Int.not_lt.mp (of_decide_eq_false h1)
  have h2' : b.1 * c.2 < c.1 * b.2 := of_decide_eq_true h2
  have e1 := Int.mul_le_mul_of_nonneg_right h1' (Int.le_of_lt hc)
  have e2 := Int.mul_lt_mul_of_pos_right h2' ha
  refine decide_eq_true (Int.lt_of_mul_lt_mul_right (a := b.2) ?_ (Int.le_of_lt hb))
  rw [Int.mul_right_comm a.1, Int.mul_right_comm c.1]
  rw [Int.mul_right_comm b.1 c.2] at e2
  exact Int.lt_of_le_of_lt e1 e2
theorem fl2 {a b c : Fr} (ha : 0 < a.2) (hb : 0 < b.2) (hc : 0 < c.2) (h1 : mLess a b = true) (h2 : mLess c b = false) : mLess a c = true := by
  have h1' : a.1 * b.2 < b.1 * a.2 := of_decide_eq_true h1
  have h2' : b.1 * c.2 ≤ c.1 * b.2 := Int.not_lt.mp (of_decide_eq_false h2)
  have e1 := Int.mul_lt_mul_of_pos_right h1' hc
  have e2 := Int.mul_le_mul_of_nonneg_right h2' (Int.le_of_lt ha)
  refine decide_eq_true (Int.lt_of_mul_lt_mul_right (a := b.2) ?_ (Int.le_of_lt hb))
  rw [Int.mul_right_comm a.1, Int.mul_right_comm c.1]
  rw [Int.mul_right_comm b.1 c.2] at e2
  exact Int.lt_of_lt_of_le e1 e2
theorem fl_irr (a : Fr) : mLess a a = false := decide_eq_false (Int.lt_irrefl _)
theorem fl_asy {a b : Fr} (h : mLess a b = true) : mLess b a = false := by
  have h' : a.1 * b.2 < b.1 * a.2 := of_decide_eq_true h
  exact decide_eq_false (Int.not_lt.mpr (Int.le_of_lt h'))
structure Fin1 (z : Fr) : Prop where
  pos : 0 < z.2
  dvd : z.2 ∣ 420
  nn : 0 ≤ z.1
  hi : z.1 ≤ 1000
  red : Int.gcd z.1 z.2 = 1
theorem fin_of {z : Fr} (h : fineB z = true) : Fin1 z := by
  unfold fineB at h
  simp only [Bool.and_eq_true, decide_eq_true_eq] at h
  obtain ⟨h1, h2, h3, h4, h5⟩ := h
  exact ⟨h1, Int.dvd_of_emod_eq_zero h2, h3, h4, h5⟩
theorem red_eq {a b : Fr} (fa : Fin1 a) (fb : Fin1 b) (h1 : mLess a b = false) (h2 : mLess b a = false) : a = b := by
  have g1 : b.1 * a.2 ≤ a.1 * b.2 := Int.not_lt.mp (of_decide_eq_false h1)
  have g2 : a.1 * b.2 ≤ b.1 * a.2 := Int.not_lt.mp (of_decide_eq_false h2)
  have e : a.1 * b.2 = b.1 * a.2 := Int.le_antisymm g2 g1
  obtain ⟨a1, a2⟩ := a
  obtain ⟨b1, b2⟩ := b
  obtain ⟨p, rfl⟩ := Int.eq_ofNat_of_zero_le fa.nn
  obtain ⟨q, rfl⟩ := Int.eq_ofNat_of_zero_le (Int.le_of_lt fa.pos)
  obtain ⟨r, rfl⟩ := Int.eq_ofNat_of_zero_le fb.nn
  obtain ⟨s, rfl⟩ := Int.eq_ofNat_of_zero_le (Int.le_of_lt fb.pos)
  have e' : p * s = r * q := by
    have e : (p : Int) * (s : Int) = (r : Int) * (q : Int) := e
    exact_mod_cast e
  have c1 : Nat.Coprime p q := fa.red
  have c2 : Nat.Coprime r s := fb.red
  have d1 : q ∣ s := Nat.Coprime.dvd_of_dvd_mul_left c1.symm ⟨r, by rw [e', Nat.mul_comm]⟩
  have d2 : s ∣ q := Nat.Coprime.dvd_of_dvd_mul_left c2.symm ⟨p, by rw [← e', Nat.mul_comm]⟩
  have eq : q = s := Nat.dvd_antisymm d1 d2
  subst eq
  have hq : 0 < q := by
    have := fa.pos
    simp at this
    omega
  have ep : p = r := Nat.eq_of_mul_eq_mul_right hq e'
  subst ep
  rfl
section
variable {x : Pl} (hx : x.good)
include hx
theorem gt_mem : (x.ga, x.trim) ∈ GT := by
  have t1 := hx.t1
  have t2 := hx.t2
  cases e : x.ga with
  | trim =>
    obtain ⟨h1, h3⟩ := t1 e
    have : x.trim = 1 ∨ x.trim = 2 ∨ x.trim = 3 := by omega
    rcases this with h | h | h <;> rw [h] <;> decide
  | _ =>
    rw [e] at t2
    rw [t2 (fun z => nomatch z)]
    decide
theorem most_mem : x.most ∈ [1, 2, 3] := by
  have := hx.m1
  have := hx.m3
  simp
  omega
theorem fine_sc {n : Nat} (h1 : 1 ≤ n) (h6 : n ≤ 6) {ms : List Int} (hm : ms ∈ mBun x.most n) : Fin1 (sc x.ga x.trim ms) := by
  have a := List.all_eq_true.mp bFine_ok _ (gt_mem hx)
  have b := List.all_eq_true.mp a _ (most_mem hx)
  have c := List.all_eq_true.mp b n (by simp; omega)
  exact fin_of (List.all_eq_true.mp (Bool.and_eq_true_iff.mp c).1 ms hm)
theorem few_sc {n : Nat} (h1 : 1 ≤ n) (h6 : n ≤ 6) : (ddup ((mBun x.most n).map (sc x.ga x.trim))).length < 64 := by
  have a := List.all_eq_true.mp bFine_ok _ (gt_mem hx)
  have b := List.all_eq_true.mp a _ (most_mem hx)
  have c := List.all_eq_true.mp b n (by simp; omega)
  exact of_decide_eq_true (Bool.and_eq_true_iff.mp c).2
theorem mono_sc {k : Nat} (h5 : k ≤ 5) {rest : List Int} (hr : rest ∈ mBun x.most k) {m : Int} (h0 : 0 ≤ m) (hm : m ≤ (x.most : Int)) :
    mLess (sc x.ga x.trim (m :: rest)) (sc x.ga x.trim (0 :: rest)) = false ∧ mLess (sc x.ga x.trim ((x.most : Int) :: rest)) (sc x.ga x.trim (m :: rest)) = false := by
  have a := List.all_eq_true.mp bMono_ok _ (gt_mem hx)
  have b := List.all_eq_true.mp a _ (most_mem hx)
  have c := List.all_eq_true.mp b k (by simp; omega)
  have d := List.all_eq_true.mp c rest hr
  have e := List.all_eq_true.mp d m.toNat (List.mem_range.mpr (by omega))
  rw [Int.toNat_of_nonneg h0] at e
  simpa using e
theorem dec_sc (h2 : 2 ≤ x.most) {n : Nat} (h1 : 1 ≤ n) (h6 : n ≤ 6) (ht : 2 * x.trim < n) : (∃ ms ∈ mBun x.most n, sc x.ga x.trim ms = (1, 1)) ∧ ∀ e : Bool, ∃ rest ∈ mBun x.most (n - 1), decB x.ga x.trim x.most e (1, 1) rest = true := by
  have a := List.all_eq_true.mp bDec_ok _ (gt_mem hx)
  have b := List.all_eq_true.mp a x.most (by have := hx.m3; simp; omega)
  have c := List.all_eq_true.mp b n (by simp; omega)
  rcases Bool.or_eq_true_iff.mp c with d | d
  · have := of_decide_eq_true d
    have : n ≤ 2 * x.trim := this
    omega
  · obtain ⟨d1, d2⟩ := Bool.and_eq_true_iff.mp d
    obtain ⟨ms, h3, h4⟩ := List.any_eq_true.mp d1
    refine ⟨⟨ms, h3, of_decide_eq_true h4⟩, fun e => ?_⟩
    have e1 := List.all_eq_true.mp d2 e (by cases e <;> simp)
    obtain ⟨rest, h5, h6⟩ := List.any_eq_true.mp e1
    exact ⟨rest, h5, h6⟩
end
end Om
set_option maxHeartbeats 4000000
/-! Om, plain: a drawn plan's rule. -/
namespace Om
theorem sub_filter {α : Type} [DecidableEq α] : ∀ {l m : List α}, l.Sublist m → m.Nodup → m.filter (fun i => decide (i ∈ l)) = l
  | _, _, .slnil, _ => rfl
  | l, a :: m, .cons _ h, nd => by
    obtain ⟨h1, h2⟩ := List.nodup_cons.mp nd
    have hn : a ∉ l := fun z => h1 (h.subset z)
    rw [List.filter_cons]
    simp only [hn, decide_false]
    exact sub_filter h h2
  | a :: l, _ :: m, .cons₂ _ h, nd => by
    obtain ⟨h1, h2⟩ := List.nodup_cons.mp nd
    rw [List.filter_cons]
    simp only [List.mem_cons, true_or, decide_true, if_true]
    congr 1
    have e : m.filter (fun i => decide (i = a ∨ i ∈ l)) = m.filter fun i => decide (i ∈ l) := by
      refine List.filter_congr fun i hi => ?_
      have : i ≠ a := fun z => h1 (by rw [← z]; exact hi)
      simp [this]
    rw [e]
    exact sub_filter h h2
theorem one_le {α : Type} [DecidableEq α] {l : List α} (nd : l.Nodup) (h : ∀ a ∈ l, ∀ b ∈ l, a = b) : l.length ≤ 1 := by
  cases l with
  | nil => exact Nat.zero_le _
  | cons a r =>
    have := nodup_le (m := [a]) nd fun b hb => by rw [h b hb a List.mem_cons_self]; exact List.mem_cons_self
    exact this
section
variable {x : Pl} (hx : x.good)
include hx
theorem rd_pairs {z : Pn × Pn} (h : z ∈ x.reads) : z ∈ mPairs x.pp := by
  obtain ⟨rs, e⟩ := hx.rd
  rw [e] at h
  exact (List.mem_filter.mp h).1
theorem rd_in {j i : Pn} (h : (j, i) ∈ x.reads) : j ∈ x.pp ∧ i ∈ x.pp ∧ j ≠ i := mem_pairs.mp (rd_pairs hx h)
theorem rd_nd : x.reads.Nodup := by
  obtain ⟨rs, e⟩ := hx.rd
  rw [e]
  exact List.Pairwise.filter _ (pairs_nodup hx.nd)
theorem rd_len : x.reads.length ≤ 49 := by
  obtain ⟨rs, e⟩ := hx.rd
  rw [e]
  exact Nat.le_trans (List.length_filter_le _ _) (Nat.le_trans (pairs_len x.pp) (Nat.le_trans (Nat.mul_le_mul hx.p7 hx.p7) (by decide)))
theorem rd_same : x.rua.mk'.reads = x.reads := by
  obtain ⟨rs, e⟩ := hx.rd
  show (mPairs x.pp).filter (fun z => decide (z ∈ x.reads)) = x.reads
  conv => rhs; rw [e]
  refine List.filter_congr fun z hz => ?_
  have : z ∈ x.reads ↔ z ∈ rs := by
    rw [e, List.mem_filter]
    simp [hz]
  simp [this]
theorem who_mem {i j : Pn} : j ∈ mWho (x.pp, x.reads) i ↔ (j, i) ∈ x.reads := by
  unfold mWho
  rw [List.mem_filter]
  constructor
  · exact fun h => of_decide_eq_true h.2
  · exact fun h => ⟨(rd_in hx h).1, decide_eq_true h⟩
theorem who_nd (i : Pn) : (mWho (x.pp, x.reads) i).Nodup := List.Pairwise.filter _ hx.nd
theorem rdr_mem {i j : Pn} : j ∈ mReaders x.rua.mk' i ↔ (j, i) ∈ x.reads := by
  unfold mReaders
  rw [rd_same hx]
  constructor
  · intro h
    obtain ⟨z, hz, rfl⟩ := List.mem_map.mp h
    obtain ⟨h1, h2⟩ := List.mem_filter.mp hz
    have := of_decide_eq_true h2
    subst this
    exact h1
  · intro h
    exact List.mem_map.mpr ⟨(j, i), List.mem_filter.mpr ⟨h, decide_eq_true rfl⟩, rfl⟩
theorem rdr_nd (i : Pn) : (mReaders x.rua.mk' i).Nodup := by
  unfold mReaders
  rw [rd_same hx, List.Nodup, List.pairwise_map]
  refine List.Pairwise.imp_of_mem ?_ (List.Pairwise.filter _ (rd_nd hx))
  intro z y hz hy hne e
  have h1 := of_decide_eq_true (List.mem_filter.mp hz).2
  have h2 := of_decide_eq_true (List.mem_filter.mp hy).2
  exact hne (Prod.ext e (h1.trans h2.symm))
theorem rdr_len (i : Pn) : (mReaders x.rua.mk' i).length = x.n i := Nat.le_antisymm (nodup_le (rdr_nd hx i) fun j h => (who_mem hx).mpr ((rdr_mem hx).mp h)) (nodup_le (who_nd hx i) fun j h => (rdr_mem hx).mpr ((who_mem hx).mp h))
theorem n_le (i : Pn) : x.n i ≤ 6 := by
  unfold Pl.n
  cases q : mWho (x.pp, x.reads) i with
  | nil => exact Nat.zero_le _
  | cons j r =>
    have hj : j ∈ mWho (x.pp, x.reads) i := by rw [q]; exact List.mem_cons_self
    have hi := (rd_in hx ((who_mem hx).mp hj)).2.1
    rw [← q]
    have := nodup_le (who_nd hx i) (m := others x.pp i) fun k hk => by
      have h := rd_in hx ((who_mem hx).mp hk)
      exact List.mem_filter.mpr ⟨h.1, by simpa using h.2.2⟩
    rw [others_len hx.nd hi] at this
    have := hx.p7
    omega
theorem row_in {l : List Pn} (h : l ∈ mRows x.pp x.lists) : l ∈ x.lists := by
  obtain ⟨ws, h1, h2, h3⟩ := hx.ls
  unfold mRows at h
  obtain ⟨p, _, h⟩ := List.mem_flatMap.mp h
  obtain ⟨one, ho, rfl⟩ := List.mem_map.mp h
  have ho := (List.mem_filter.mp ho).1
  have hs : one.Sublist x.pp := by
    rw [h3, parts_eq] at ho
    obtain ⟨c, _, rfl⟩ := List.mem_map.mp ho
    exact part1_sub
  rw [sub_filter hs hx.nd]
  exact ho
theorem row_ex {i : Pn} (hi : i ∈ x.pp) : ∃ l ∈ mRows x.pp x.lists, i ∈ l := by
  obtain ⟨ws, h1, h2, h3⟩ := hx.ls
  obtain ⟨l, hl, hil⟩ := parts_ex (ws := ws) hx.nd h1 hi
  have hf : mFirst x.pp l ∈ x.pp ∧ mFirst x.pp l ∈ l := by
    have hm : i ∈ x.pp.filter fun k => decide (k ∈ l) := List.mem_filter.mpr ⟨hi, decide_eq_true hil⟩
    unfold mFirst
    cases q : x.pp.filter fun k => decide (k ∈ l) with
    | nil =>
      rw [q] at hm
      exact nomatch hm
    | cons a r =>
      have : a ∈ x.pp.filter fun k => decide (k ∈ l) := by rw [q]; exact List.mem_cons_self
      obtain ⟨g1, g2⟩ := List.mem_filter.mp this
      exact ⟨g1, of_decide_eq_true g2⟩
  refine ⟨x.pp.filter fun k => decide (k ∈ l), ?_, List.mem_filter.mpr ⟨hi, decide_eq_true hil⟩⟩
  unfold mRows
  refine List.mem_flatMap.mpr ⟨mFirst x.pp l, hf.1, List.mem_map.mpr ⟨l, List.mem_filter.mpr ⟨by rw [h3]; exact hl, ?_⟩, rfl⟩⟩
  simp [hf.2]
theorem rows_len : (mRows x.pp x.lists).length ≤ 7 := by
  obtain ⟨ws, h1, h2, h3⟩ := hx.ls
  have := flat_len (l := x.pp) (f := fun p => (x.lists.filter fun one => decide (p ∈ one) && decide (p = mFirst x.pp one)).map fun one => x.pp.filter fun i => decide (i ∈ one)) (k := 1) fun p hp => by
    rw [List.length_map]
    refine one_le (List.Pairwise.filter _ (by rw [h3]; exact parts_nodup hx.nd h1)) fun a ha b hb => ?_
    obtain ⟨a1, a2⟩ := List.mem_filter.mp ha
    obtain ⟨b1, b2⟩ := List.mem_filter.mp hb
    rw [h3] at a1 b1
    exact parts_uniq (i := p) hx.nd a1 b1 (of_decide_eq_true (Bool.and_eq_true_iff.mp a2).1) (of_decide_eq_true (Bool.and_eq_true_iff.mp b2).1)
  unfold mRows
  have := hx.p7
  omega
theorem lst_in {l : List Pn} {i : Pn} (h : l ∈ x.lists) (hi : i ∈ l) : mLst x.lists i = l := by
  obtain ⟨ws, h1, h2, h3⟩ := hx.ls
  rw [h3] at h ⊢
  exact lst_of hx.nd h hi
theorem lst_mem {i : Pn} (hi : i ∈ x.pp) : mLst x.lists i ∈ x.lists ∧ i ∈ mLst x.lists i := by
  obtain ⟨l, h1, h2⟩ := row_ex hx hi
  have h3 := row_in hx h1
  rw [lst_in hx h3 h2]
  exact ⟨h3, h2⟩
theorem list_sub {l : List Pn} (h : l ∈ x.lists) : l.Sublist x.pp := by
  obtain ⟨ws, h1, h2, h3⟩ := hx.ls
  rw [h3, parts_eq] at h
  obtain ⟨c, _, rfl⟩ := List.mem_map.mp h
  exact part1_sub
theorem listOf_eq {i : Pn} (hi : i ∈ x.pp) : mListOf x.rua.mk' i = mLst x.lists i := by
  show ((mRows x.pp x.lists).filter fun l => decide (i ∈ l)).headD [] = _
  cases q : (mRows x.pp x.lists).filter fun l => decide (i ∈ l) with
  | nil =>
    obtain ⟨l, h1, h2⟩ := row_ex hx hi
    have : l ∈ (mRows x.pp x.lists).filter fun l => decide (i ∈ l) := List.mem_filter.mpr ⟨h1, decide_eq_true h2⟩
    rw [q] at this
    exact nomatch this
  | cons l r =>
    have : l ∈ (mRows x.pp x.lists).filter fun l => decide (i ∈ l) := by rw [q]; exact List.mem_cons_self
    obtain ⟨h1, h2⟩ := List.mem_filter.mp this
    exact (lst_in hx (row_in hx h1) (of_decide_eq_true h2)).symm
theorem own_eq {i : Pn} (hi : i ∈ x.pp) : mOwn x.rua.mk' i = x.own i := by
  unfold mOwn Pl.own
  rw [rd_same hx, listOf_eq hx hi]
theorem good_ok : x.ok := by
  obtain ⟨ws, h1, h2, h3⟩ := hx.ls
  refine ⟨hx.nd, hx.p2, hx.p7, hx.m1, hx.m3, ?_, ?_, Nat.le_trans (rd_len hx) (by decide), fun i hi => ⟨_, (lst_mem hx hi).1, (lst_mem hx hi).2⟩, n_le hx⟩
  · by_cases e : x.ga = .trim
    · exact (hx.t1 e).2
    · rw [hx.t2 e]
      exact Nat.zero_le _
  · rw [h3]
    exact parts_len h2
theorem good_ls : LsOk x.pp x.lists := by
  obtain ⟨ws, h1, h2, h3⟩ := hx.ls
  have fm : ∀ i, i ∈ x.lists.flatten ↔ i ∈ x.pp := fun i => by
    rw [List.mem_flatten]
    exact ⟨fun ⟨l, hl, hi⟩ => (list_sub hx hl).subset hi, fun hi => ⟨_, (lst_mem hx hi).1, (lst_mem hx hi).2⟩⟩
  have fn : x.lists.flatten.Nodup := by
    refine List.pairwise_flatten.mpr ⟨fun l hl => List.Nodup.sublist (list_sub hx hl) hx.nd, ?_⟩
    have nd : x.lists.Nodup := by rw [h3]; exact parts_nodup hx.nd h1
    refine List.Pairwise.imp_of_mem ?_ nd
    intro a b ha hb hab i hi j hj e
    subst e
    rw [h3] at ha hb
    exact hab (parts_uniq hx.nd ha hb hi hj)
  refine ⟨fun l hl => ?_, fn, fm, Nat.le_antisymm (nodup_le fn fun i hi => (fm i).mp hi) (nodup_le hx.nd fun i hi => (fm i).mpr hi)⟩
  rw [h3] at hl
  exact parts_ne hx.nd h1 hl
theorem good_ru : x.rua.ok := by
  have t3 := (good_ok hx).t3
  have rl := rd_len hx
  refine ⟨⟨rd_nd hx, fun z hz => rd_in hx (j := z.1) (i := z.2) hz⟩, Nat.le_trans rl (by decide), fun e => (hx.t1 e).1, hx.t2, good_ls hx, Nat.le_trans (good_ok hx).ll (by decide), fun l hl h1 i hi => ?_, hx.pz, ⟨t3, ?_, ?_, fun i hi => row_ex hx hi⟩, Nat.le_trans (rows_len hx) (by decide), fun l hl => Nat.le_trans (list_sub hx (row_in hx hl)).length_le (Nat.le_trans hx.p7 (by decide))⟩
  · have h := hx.hr l (row_in hx hl) h1 i hi
    have e := rdr_len hx i
    unfold mReaders at e
    rw [List.length_map] at e
    rw [e]
    have h : 2 * x.trim < x.n i := h
    show 2 * (x.trim : Int) < (x.n i : Int)
    omega
  · rw [rd_same hx]
    omega
  · rw [rd_same hx]
    exact rd_nd hx
theorem good_own {i : Pn} (hi : i ∈ x.pp) : x.okOwn i := by
  refine ⟨hi, fun z hz => ?_⟩
  obtain ⟨h1, h2⟩ := List.mem_filter.mp hz
  exact ⟨(rd_in hx (j := z.1) (i := z.2) h1).2.1, List.length_pos_of_mem ((who_mem hx).mpr (show (z.1, z.2) ∈ x.reads from h1))⟩
end
end Om
set_option maxHeartbeats 4000000
/-! Om, plain: the package's lift is the law's own. -/
namespace Om
theorem ddup_mem {xs : List Fr} {z : Fr} : z ∈ ddup xs ↔ z ∈ xs := by
  have h : ∀ (xs acc : List Fr), z ∈ xs.foldl (fun acc z => if z ∈ acc then acc else acc ++ [z]) acc ↔ z ∈ acc ∨ z ∈ xs := by
    intro xs
    induction xs with
    | nil => intro acc; simp
    | cons y xs ih =>
      intro acc
      rw [List.foldl_cons, ih]
      by_cases hy : y ∈ acc
      · rw [if_pos hy, List.mem_cons]
        constructor
        · rintro (h | h)
          · exact .inl h
          · exact .inr (.inr h)
        · rintro (h | rfl | h)
          · exact .inl h
          · exact .inl hy
          · exact .inr h
      · rw [if_neg hy, List.mem_append, List.mem_singleton, List.mem_cons, or_assoc]
  have := h xs []
  simpa [ddup] using this
theorem firsts_keys (r : Ru) (n : Nat) : (mFirsts r n).map (·.1) = ddup ((if 0 < n then mBun r.cr.most n else []).map (mScore r)) := by
  have h : ∀ (B : List (List Int)) (acc : List (Fr × List Int)), (B.foldl (fun acc ms => dsetd acc (mScore r ms) ms) acc).map (·.1) = (B.map (mScore r)).foldl (fun acc z => if z ∈ acc then acc else acc ++ [z]) (acc.map (·.1)) := by
    intro B
    induction B with
    | nil => intro acc; rfl
    | cons ms B ih =>
      intro acc
      rw [List.foldl_cons, ih, List.map_cons, List.foldl_cons]
      congr 1
      unfold dsetd
      by_cases hm : mScore r ms ∈ acc.map (·.1)
      · rw [if_pos hm, if_pos hm]
      · rw [if_neg hm, if_neg hm, List.map_append]
        rfl
  exact h _ []
theorem dput_len {κ β : Type} [DecidableEq κ] (l : List (κ × β)) (k : κ) (b : β) : (dput l k b).length ≤ l.length + 1 := by
  unfold dput
  split <;> simp
theorem dput_keys {κ β : Type} [DecidableEq κ] (l : List (κ × β)) (k j : κ) (b : β) : j ∈ (dput l k b).map (·.1) ↔ j ∈ l.map (·.1) ∨ j = k := by
  unfold dput
  split
  · rename_i h
    have e : (l.map fun x => if x.1 = k then (x.1, b) else x).map (·.1) = l.map (·.1) := by
      rw [List.map_map]
      refine List.map_congr_left fun x _ => ?_
      show (if x.1 = k then (x.1, b) else x).1 = x.1
      split <;> rfl
    rw [e]
    obtain ⟨x, hx, hk⟩ := List.any_eq_true.mp h
    have hk := of_decide_eq_true hk
    constructor
    · exact .inl
    · rintro (h | rfl)
      · exact h
      · exact List.mem_map.mpr ⟨x, hx, hk⟩
  · rw [List.map_append, List.mem_append]
    simp
theorem dmk_len {κ β : Type} [DecidableEq κ] (l : List (κ × β)) : (dmk l).length ≤ l.length := by
  have h : ∀ (l acc : List (κ × β)), (l.foldl (fun acc x => dput acc x.1 x.2) acc).length ≤ acc.length + l.length := by
    intro l
    induction l with
    | nil => intro acc; simp
    | cons x l ih =>
      intro acc
      rw [List.foldl_cons, List.length_cons]
      have h1 := ih (dput acc x.1 x.2)
      have h2 := dput_len acc x.1 x.2
      omega
  have := h l []
  simpa [dmk] using this
theorem dmk_keys {κ β : Type} [DecidableEq κ] (l : List (κ × β)) (j : κ) : j ∈ (dmk l).map (·.1) ↔ j ∈ l.map (·.1) := by
  have h : ∀ (l acc : List (κ × β)), j ∈ (l.foldl (fun acc x => dput acc x.1 x.2) acc).map (·.1) ↔ j ∈ acc.map (·.1) ∨ j ∈ l.map (·.1) := by
    intro l
    induction l with
    | nil => intro acc; simp
    | cons x l ih =>
      intro acc
      rw [List.foldl_cons, ih, dput_keys, List.map_cons, List.mem_cons, or_assoc]
  have := h l []
  simpa [dmk] using this
theorem frac_back {z : Fr} (f : Fin1 z) {c : Int} (hc : 0 < c) (hd : z.2 ∣ c) : mFrac (z.1 * (c / z.2)) c = z := by
  obtain ⟨d, rfl⟩ := hd
  have hz := f.pos
  have hdp : 0 < d := Int.pos_of_mul_pos_right hc hz
  have e1 : z.2 * d / z.2 = d := Int.mul_ediv_cancel_left d (by omega)
  have g : mGcd (z.1 * d) (z.2 * d) = d := by
    unfold mGcd
    rw [Int.gcd_mul_right, f.red, Nat.one_mul]
    omega
  unfold mFrac
  rw [e1, g, Int.mul_ediv_cancel _ (by omega), Int.mul_ediv_cancel _ (by omega)]
theorem inOrder_mem {xs : List Fr} (h : ∀ z ∈ xs, Fin1 z) {z : Fr} : z ∈ mInOrder xs ↔ z ∈ xs := by
  obtain ⟨⟨c0, _⟩, cd⟩ := mCommon_ok (xs := xs) fun z hz => ⟨(h z hz).pos, (h z hz).dvd⟩
  unfold mInOrder
  have km : ∀ n : Int, n ∈ (mKeys xs).map (·.1) ↔ ∃ z ∈ xs, n = z.1 * (mCommon xs / z.2) := fun n => by
    unfold mKeys
    rw [dmk_keys, List.map_map]
    constructor
    · intro hn
      obtain ⟨z, hz, rfl⟩ := List.mem_map.mp hn
      exact ⟨z, hz, rfl⟩
    · rintro ⟨z, hz, rfl⟩
      exact List.mem_map.mpr ⟨z, hz, rfl⟩
  constructor
  · intro hz
    obtain ⟨n, hn, rfl⟩ := List.mem_map.mp hz
    obtain ⟨y, hy, rfl⟩ := (km n).mp ((mSort_perm _).mem_iff.mp hn)
    rw [frac_back (h y hy) c0 (cd y hy)]
    exact hy
  · intro hz
    exact List.mem_map.mpr ⟨_, (mSort_perm _).mem_iff.mpr ((km _).mpr ⟨z, hz, rfl⟩), frac_back (h z hz) c0 (cd z hz)⟩
theorem spans_mem {r : Ru} {n : Nat} {z : Fr2} : z ∈ mSpans r n ↔ ∃ ms ∈ mBun r.cr.most (n - 1), mLess (mLo r ms) (mHi r ms) = true ∧ z = (mLo r ms, mHi r ms) := by
  have h : ∀ (B : List (List Int)) (acc : List Fr2), z ∈ B.foldl (fun acc ms => if mLess (mLo r ms) (mHi r ms) then addS acc (mLo r ms, mHi r ms) else acc) acc ↔ z ∈ acc ∨ ∃ ms ∈ B, mLess (mLo r ms) (mHi r ms) = true ∧ z = (mLo r ms, mHi r ms) := by
    intro B
    induction B with
    | nil => intro acc; simp
    | cons ms B ih =>
      intro acc
      rw [List.foldl_cons, ih]
      cases hl : mLess (mLo r ms) (mHi r ms) with
      | false =>
        simp only [Bool.false_eq_true, if_false]
        constructor
        · rintro (h | ⟨m, h1, h2⟩)
          · exact .inl h
          · exact .inr ⟨m, List.mem_cons_of_mem _ h1, h2⟩
        · rintro (h | ⟨m, h1, h2, h3⟩)
          · exact .inl h
          · rcases List.mem_cons.mp h1 with rfl | h1
            · rw [hl] at h2
              cases h2
            · exact .inr ⟨m, h1, h2, h3⟩
      | true =>
        have ha : z ∈ addS acc (mLo r ms, mHi r ms) ↔ z ∈ acc ∨ z = (mLo r ms, mHi r ms) := by
          unfold addS
          split
          · rename_i hm
            constructor
            · exact .inl
            · rintro (h | rfl)
              · exact h
              · exact hm
          · rw [List.mem_append, List.mem_singleton]
        simp only [if_true]
        rw [ha]
        constructor
        · rintro ((h | h) | ⟨m, h1, h2⟩)
          · exact .inl h
          · exact .inr ⟨ms, List.mem_cons_self, hl, h⟩
          · exact .inr ⟨m, List.mem_cons_of_mem _ h1, h2⟩
        · rintro (h | ⟨m, h1, h2, h3⟩)
          · exact .inl (.inl h)
          · rcases List.mem_cons.mp h1 with rfl | h1
            · exact .inl (.inr h3)
            · exact .inr ⟨m, h1, h2, h3⟩
  have := h (mBun r.cr.most (n - 1)) []
  simpa [mSpans] using this
theorem best_max {s : Sw} : ∀ (ws : List Fr) (f : Option Fr), match ws.foldl s.step f with
    | none => f = none ∧ ws = []
    | some g => (f = some g ∨ g ∈ ws) ∧ (∀ w ∈ ws, (s.decided w).length ≤ (s.decided g).length) ∧ ∀ h, f = some h → (s.decided h).length ≤ (s.decided g).length
  | [], none => ⟨rfl, rfl⟩
  | [], some g => ⟨.inl rfl, fun w hw => (nomatch hw), fun h e => by cases e; exact Nat.le_refl _⟩
  | w :: ws, f => by
    rw [List.foldl_cons]
    have ih := best_max (s := s) ws (s.step f w)
    have hs : ∃ g, s.step f w = some g ∧ (f = some g ∨ g = w) ∧ (s.decided w).length ≤ (s.decided g).length ∧ ∀ h, f = some h → (s.decided h).length ≤ (s.decided g).length := by
      cases f with
      | none => exact ⟨w, rfl, .inr rfl, Nat.le_refl _, fun h e => nomatch e⟩
      | some g =>
        by_cases hgt : (s.decided w).length > (s.decided g).length
        · refine ⟨w, ?_, .inr rfl, Nat.le_refl _, fun h e => ?_⟩
          · show (if (s.decided w).length > (s.decided g).length then some w else some g) = some w
            rw [if_pos hgt]
          · cases e
            exact Nat.le_of_lt hgt
        · refine ⟨g, ?_, .inl rfl, Nat.le_of_not_lt hgt, fun h e => ?_⟩
          · show (if (s.decided w).length > (s.decided g).length then some w else some g) = some g
            rw [if_neg hgt]
          · cases e
            exact Nat.le_refl _
    obtain ⟨g, e, h1, h2, h3⟩ := hs
    rw [e] at ih ⊢
    cases q : ws.foldl s.step (some g) with
    | none =>
      rw [q] at ih
      exact nomatch ih.1
    | some k =>
      rw [q] at ih
      obtain ⟨i1, i2, i3⟩ := ih
      have hk := i3 g rfl
      refine ⟨?_, fun y hy => ?_, fun h e => Nat.le_trans (h3 h e) hk⟩
      · rcases i1 with e | e
        · cases e
          rcases h1 with e | rfl
          · exact .inl e
          · exact .inr List.mem_cons_self
        · exact .inr (List.mem_cons_of_mem _ e)
      · rcases List.mem_cons.mp hy with rfl | hy
        · exact Nat.le_trans h2 hk
        · exact i2 y hy
end Om
set_option maxHeartbeats 4000000
/-! Om, plain: lifts of drawn plans. -/
namespace Om
theorem mBun_sort {most : Nat} {ms : List Int} (h : ∀ m ∈ ms, 0 ≤ m ∧ m ≤ (most : Int)) : iSort ms ∈ mBun most ms.length :=
  mBun_mem.mpr ⟨(iSort_perm ms).length_eq, iSort_pw ms, fun m hm => h m ((iSort_perm ms).mem_iff.mp hm)⟩
section
variable {x : Pl} (hx : x.good)
include hx
theorem fine_ms {ms : List Int} (h : ∀ m ∈ ms, 0 ≤ m ∧ m ≤ (x.most : Int)) (h1 : 1 ≤ ms.length) (h6 : ms.length ≤ 6) : Fin1 (sc x.ga x.trim ms) := by
  rw [sc_perm (iSort_perm ms).symm]
  exact fine_sc hx h1 h6 (mBun_sort h)
theorem fine_cons {k : Nat} (h5 : k ≤ 5) {rest : List Int} (hr : rest ∈ mBun x.most k) {m : Int} (h0 : 0 ≤ m) (hm : m ≤ (x.most : Int)) : Fin1 (sc x.ga x.trim (m :: rest)) := by
  obtain ⟨h1, h2, h3⟩ := mBun_mem.mp hr
  refine fine_ms hx (fun y hy => ?_) (by simp) (by rw [List.length_cons]; omega)
  rcases List.mem_cons.mp hy with rfl | hy
  · exact ⟨h0, hm⟩
  · exact h3 y hy
theorem score_r (ms : List Int) : mScore x.rua.mk' ms = sc x.ga x.trim ms := sc_eq x.ga x.trim ms
theorem score_x (ms : List Int) : x.score ms = sc x.ga x.trim ms := sc_eq x.ga x.trim ms
theorem keys_eq (n : Nat) : (mFirsts x.rua.mk' n).map (·.1) = ddup ((if 0 < n then mBun x.most n else []).map (sc x.ga x.trim)) := by
  rw [firsts_keys]
  show ddup ((if 0 < n then mBun x.most n else []).map (mScore x.rua.mk')) = _
  congr 1
  exact List.map_congr_left fun ms _ => score_r hx ms
theorem keys_mem {n : Nat} {z : Fr} : z ∈ (mFirsts x.rua.mk' n).map (·.1) ↔ 0 < n ∧ ∃ ms ∈ mBun x.most n, z = sc x.ga x.trim ms := by
  rw [keys_eq hx, ddup_mem, List.mem_map]
  by_cases h : 0 < n
  · rw [if_pos h]
    constructor
    · rintro ⟨ms, h1, rfl⟩
      exact ⟨h, ms, h1, rfl⟩
    · rintro ⟨_, ms, h1, rfl⟩
      exact ⟨ms, h1, rfl⟩
  · rw [if_neg h]
    constructor
    · rintro ⟨ms, h1, _⟩
      exact nomatch h1
    · rintro ⟨h1, _⟩
      exact absurd h1 h
theorem keys_fine {n : Nat} (h6 : n ≤ 6) : ∀ z ∈ (mFirsts x.rua.mk' n).map (·.1), Fin1 z := fun z hz => by
  obtain ⟨h0, ms, h1, rfl⟩ := (keys_mem hx).mp hz
  exact fine_sc hx h0 h6 h1
theorem keys_few {n : Nat} (h6 : n ≤ 6) : ((mFirsts x.rua.mk' n).map (·.1)).length < 64 := by
  rw [keys_eq hx]
  by_cases h : 0 < n
  · rw [if_pos h]
    exact few_sc hx h h6
  · rw [if_neg h]
    exact (by decide : 0 < 64)
theorem gs_size (i m : Pn) : (⟨x.rua.mk', i⟩ : Sw).size m = x.n m := rdr_len hx m
theorem gs_members {i : Pn} (hi : i ∈ x.pp) : (⟨x.rua.mk', i⟩ : Sw).members = (x.own i).map (·.2) := by
  unfold Sw.members
  rw [own_eq hx hi]
theorem gs_worths {i : Pn} {z : Fr} : z ∈ (⟨x.rua.mk', i⟩ : Sw).worths ↔ 0 < x.n i ∧ ∃ ms ∈ mBun x.most (x.n i), z = sc x.ga x.trim ms := by
  unfold Sw.worths Sw.firsts
  rw [gs_size hx]
  show z ∈ mInOrder ((mFirsts x.rua.mk' (x.n i)).map (·.1)) ↔ _
  rw [inOrder_mem (keys_fine hx (n_le hx i)), keys_mem hx]
theorem gs_fine {i : Pn} {z : Fr} (h : z ∈ (⟨x.rua.mk', i⟩ : Sw).worths) : Fin1 z := by
  obtain ⟨h0, ms, h1, rfl⟩ := (gs_worths hx).mp h
  exact fine_sc hx h0 (n_le hx i) h1
theorem good_sw {i : Pn} (hi : i ∈ x.pp) : (⟨x.rua.mk', i⟩ : Sw).ok := by
  have kf := keys_fine hx (n_le hx i)
  have kn := keys_few hx (n_le hx i)
  have ef : (⟨x.rua.mk', i⟩ : Sw).firsts = mFirsts x.rua.mk' (x.n i) := by
    unfold Sw.firsts
    rw [gs_size hx]
  refine ⟨hi, hx.m3, by rw [gs_size hx]; exact n_le hx i, fun m hm => ?_, ?_, fun z hz => ⟨(gs_fine hx hz).nn, (gs_fine hx hz).hi⟩, ?_⟩
  · rw [gs_members hx hi] at hm
    obtain ⟨z, hz, rfl⟩ := List.mem_map.mp hm
    obtain ⟨h1, h2⟩ := (good_own hx hi).2 z hz
    exact ⟨h1, by rw [gs_size hx]; exact h2, by rw [gs_size hx]; exact n_le hx _⟩
  · rw [ef]
    refine ⟨fun z hz => ⟨(kf z hz).pos, (kf z hz).dvd⟩, fun z hz => ⟨(kf z hz).nn, (kf z hz).hi⟩, by omega, ?_⟩
    have := dmk_len (((mFirsts x.rua.mk' (x.n i)).map (·.1)).map fun z => (z.1 * (mCommon ((mFirsts x.rua.mk' (x.n i)).map (·.1)) / z.2), (1 : Int)))
    rw [List.length_map] at this
    unfold mKeys
    omega
  · rw [ef]
    rw [List.length_map] at kn
    omega
theorem any_eq {i m : Pn} {w : Fr} (fw : Fin1 w) (hm : 1 ≤ x.n m) : (mSpans x.rua.mk' (x.n m)).any (fun z => mDec z w (x.early i m)) = x.decides i m w := by
  have h6 := n_le hx m
  rw [Bool.eq_iff_iff, List.any_eq_true]
  unfold Pl.decides
  rw [List.any_eq_true]
  have lo : ∀ ms ∈ mBun x.most (x.n m - 1), Fin1 (sc x.ga x.trim (0 :: ms)) ∧ Fin1 (sc x.ga x.trim ((x.most : Int) :: ms)) := fun ms h => ⟨fine_cons hx (by omega) h (by decide) (by omega), fine_cons hx (by omega) h (by omega) (by omega)⟩
  have e1 : ∀ ms, mLo x.rua.mk' ms = sc x.ga x.trim (0 :: ms) := fun ms => score_r hx _
  have e2 : ∀ ms, mHi x.rua.mk' ms = sc x.ga x.trim ((x.most : Int) :: ms) := fun ms => score_r hx _
  constructor
  · rintro ⟨z, hz, hd⟩
    obtain ⟨ms, h1, h2, rfl⟩ := spans_mem.mp hz
    refine ⟨ms, h1, ?_⟩
    unfold mDec at hd
    unfold Pl.dec1
    rw [score_x hx, score_x hx]
    dsimp only at hd
    rw [e1, e2] at hd
    cases he : x.early i m with
    | true =>
      rw [he] at hd
      simpa using hd
    | false =>
      rw [he] at hd
      simpa using hd
  · rintro ⟨ms, h1, hd⟩
    obtain ⟨f1, f2⟩ := lo ms h1
    unfold Pl.dec1 at hd
    rw [score_x hx, score_x hx] at hd
    have hl : mLess (sc x.ga x.trim (0 :: ms)) (sc x.ga x.trim ((x.most : Int) :: ms)) = true := by
      cases he : x.early i m with
      | true =>
        rw [he] at hd
        simp only [Bool.true_and, Bool.not_true, Bool.false_and, Bool.or_false, Bool.and_eq_true, Bool.not_eq_true'] at hd
        exact fl1 f1.pos fw.pos f2.pos hd.1 hd.2
      | false =>
        rw [he] at hd
        simp only [Bool.false_and, Bool.not_false, Bool.true_and, Bool.false_or, Bool.and_eq_true, Bool.not_eq_true'] at hd
        exact fl2 f1.pos fw.pos f2.pos hd.1 hd.2
    refine ⟨_, spans_mem.mpr ⟨ms, h1, by rw [e1, e2]; exact hl, rfl⟩, ?_⟩
    unfold mDec
    dsimp only
    rw [e1, e2]
    cases he : x.early i m with
    | true =>
      rw [he] at hd
      simpa using hd
    | false =>
      rw [he] at hd
      simpa using hd
theorem dec_eq {i : Pn} (hi : i ∈ x.pp) {w : Fr} (fw : Fin1 w) : (⟨x.rua.mk', i⟩ : Sw).decided w = x.decided i w := by
  unfold Sw.decided Pl.decided
  rw [gs_members hx hi, List.filter_map]
  congr 1
  refine List.filter_congr fun z hz => ?_
  have hn := ((good_own hx hi).2 z hz).2
  rw [← any_eq hx fw hn]
  show ((⟨x.rua.mk', i⟩ : Sw).at_ w z.2).isSome = _
  unfold Sw.at_
  rw [gs_size hx]
  show (if (mSpans x.rua.mk' (x.n z.2)).any (fun y => mDec y w (x.early i z.2)) = true then some () else none).isSome = _
  cases (mSpans x.rua.mk' (x.n z.2)).any (fun y => mDec y w (x.early i z.2)) <;> rfl
theorem wor_mem {i : Pn} {z : Fr} : z ∈ x.wor i ↔ 0 < x.n i ∧ ∃ ms ∈ mBun x.most (x.n i), z = sc x.ga x.trim ms := by
  unfold Pl.wor
  rw [List.mem_map]
  constructor
  · rintro ⟨ms, h, rfl⟩
    obtain ⟨h1, h2⟩ := List.mem_filter.mp h
    have := of_decide_eq_true h2
    exact ⟨by omega, ms, h1, score_x hx ms⟩
  · rintro ⟨h, ms, h1, rfl⟩
    exact ⟨ms, List.mem_filter.mpr ⟨h1, decide_eq_true (by omega)⟩, score_x hx ms⟩
theorem lift_is {i : Pn} (hi : i ∈ x.pp) : x.isLift i (x.L i) := by
  refine ⟨(⟨x.rua.mk', i⟩ : Sw).worths, fun z => by rw [gs_worths hx, wor_mem hx], ?_⟩
  have hb := best_max (s := ⟨x.rua.mk', i⟩) (⟨x.rua.mk', i⟩ : Sw).worths none
  have hL : x.L i = match (⟨x.rua.mk', i⟩ : Sw).worths.foldl (⟨x.rua.mk', i⟩ : Sw).step none with
    | none => 0
    | some w => (((⟨x.rua.mk', i⟩ : Sw).decided w).length : Int) := rfl
  cases q : (⟨x.rua.mk', i⟩ : Sw).worths.foldl (⟨x.rua.mk', i⟩ : Sw).step none with
  | none =>
    rw [q] at hb hL
    have hL : x.L i = 0 := hL
    rw [hb.2, hL]
    exact ⟨List.mem_cons_self, fun y hy => by simp at hy; omega⟩
  | some g =>
    rw [q] at hb hL
    obtain ⟨h1, h2, _⟩ := hb
    have hg : g ∈ (⟨x.rua.mk', i⟩ : Sw).worths := h1.elim (fun e => nomatch e) id
    have hL : x.L i = (((⟨x.rua.mk', i⟩ : Sw).decided g).length : Int) := hL
    refine ⟨List.mem_cons_of_mem _ (List.mem_map.mpr ⟨g, hg, ?_⟩), fun y hy => ?_⟩
    · rw [hL, dec_eq hx hi (gs_fine hx hg)]
    · rw [hL]
      rcases List.mem_cons.mp hy with rfl | hy
      · omega
      · obtain ⟨w, hw, rfl⟩ := List.mem_map.mp hy
        rw [← dec_eq hx hi (gs_fine hx hw)]
        exact Int.ofNat_le.mpr (h2 w hw)
omit hx in
theorem lift_uniq {x : Pl} {i : Pn} {k k' : Int} (h : x.isLift i k) (h' : x.isLift i k') : k = k' := by
  obtain ⟨ws, hw, hk, hb⟩ := h
  obtain ⟨ws', hw', hk', hb'⟩ := h'
  have mv : ∀ {ws ws' : List Fr} {k : Int}, (∀ z, z ∈ ws ↔ z ∈ x.wor i) → (∀ z, z ∈ ws' ↔ z ∈ x.wor i) → k ∈ (0 :: ws.map fun w => ((x.decided i w).length : Int)) → k ∈ (0 :: ws'.map fun w => ((x.decided i w).length : Int)) := fun {ws ws' k} hw hw' hk => by
    rcases List.mem_cons.mp hk with rfl | hk
    · exact List.mem_cons_self
    · obtain ⟨w, h, rfl⟩ := List.mem_map.mp hk
      exact List.mem_cons_of_mem _ (List.mem_map.mpr ⟨w, (hw' w).mpr ((hw w).mp h), rfl⟩)
  exact Int.le_antisymm (hb' k (mv hw hw' hk)) (hb k' (mv hw' hw hk'))
theorem lift_ge {i : Pn} (hi : i ∈ x.pp) {w : Fr} (hw : w ∈ x.wor i) : ((x.decided i w).length : Int) ≤ x.L i := by
  obtain ⟨ws, h, hk, hb⟩ := lift_is hx hi
  exact hb _ (List.mem_cons_of_mem _ (List.mem_map.mpr ⟨w, (h w).mpr hw, rfl⟩))
theorem lift_nn {i : Pn} (hi : i ∈ x.pp) : 0 ≤ x.L i := by
  obtain ⟨ws, h, hk, hb⟩ := lift_is hx hi
  exact hb _ List.mem_cons_self
theorem two_in {i m : Pn} (hi : i ∈ x.pp) (hm : m ∈ mLst x.lists i) (hne : m ≠ i) : ∀ k ∈ mLst x.lists i, 2 * x.trim < x.n k := by
  obtain ⟨h1, h2⟩ := lst_mem hx hi
  have h3 : 1 < (mLst x.lists i).length := by
    have := nodup_le (l := [m, i]) (m := mLst x.lists i) (by simpa using hne) fun k hk => by
      simp only [List.mem_cons, List.not_mem_nil, or_false] at hk
      rcases hk with rfl | rfl
      · exact hm
      · exact h2
    exact this
  exact fun k hk => hx.hr _ h1 h3 k hk
theorem lift_tot (h2 : 2 ≤ x.most) {i : Pn} (hi : i ∈ x.pp) : x.L i = ((x.own i).length : Int) := by
  refine Int.le_antisymm ?_ ?_
  · obtain ⟨ws, h, hk, hb⟩ := lift_is hx hi
    rcases List.mem_cons.mp hk with e | hk
    · omega
    · obtain ⟨w, _, e⟩ := List.mem_map.mp hk
      rw [← e]
      unfold Pl.decided
      rw [List.length_map]
      exact Int.ofNat_le.mpr (List.length_filter_le _ _)
  · cases q : x.own i with
    | nil => exact lift_nn hx hi
    | cons z0 r =>
      have hz0 : z0 ∈ x.own i := by rw [q]; exact List.mem_cons_self
      rw [← q]
      have inO : ∀ z ∈ x.own i, z.1 = i ∧ z.2 ∈ mLst x.lists i ∧ z.2 ≠ i := fun z hz => by
        obtain ⟨h1, h2⟩ := List.mem_filter.mp hz
        obtain ⟨h3, h4⟩ := Bool.and_eq_true_iff.mp h2
        have e := of_decide_eq_true h3
        have := (rd_in hx (j := z.1) (i := z.2) h1).2.2
        exact ⟨e, of_decide_eq_true h4, fun q => this (by rw [e, q])⟩
      obtain ⟨_, b1, b2⟩ := inO z0 hz0
      have all := two_in hx hi b1 b2
      have hn := all i (lst_mem hx hi).2
      obtain ⟨⟨ms, m1, m2⟩, _⟩ := dec_sc hx h2 (by omega) (n_le hx i) hn
      have hw : ((1, 1) : Fr) ∈ x.wor i := (wor_mem hx).mpr ⟨by omega, ms, m1, m2.symm⟩
      have hd : x.decided i (1, 1) = (x.own i).map (·.2) := by
        unfold Pl.decided
        congr 1
        refine List.filter_eq_self.mpr fun z hz => ?_
        obtain ⟨_, c1, c2⟩ := inO z hz
        have hnz := all z.2 c1
        obtain ⟨rest, r1, r2⟩ := (dec_sc hx h2 (by omega) (n_le hx z.2) hnz).2 (x.early i z.2)
        refine List.any_eq_true.mpr ⟨rest, r1, ?_⟩
        unfold Pl.dec1
        rw [score_x hx, score_x hx]
        exact r2
      have := lift_ge hx hi hw
      rw [hd, List.length_map] at this
      exact this
end
end Om
set_option maxHeartbeats 4000000
/-! Om, plain: ranks move no farther than the lift. -/
namespace Om
theorem filter_le {α : Type} (F1 F2 : α → Bool) : ∀ l : List α, (l.filter F1).length ≤ (l.filter F2).length + (l.filter fun i => F1 i && !F2 i).length
  | [] => Nat.le_refl _
  | a :: l => by
    have ih := filter_le F1 F2 l
    rw [List.filter_cons, List.filter_cons, List.filter_cons]
    cases h1 : F1 a <;> cases h2 : F2 a <;> simp <;> omega
theorem idx_inj {pp : List Pn} {i p : Pn} (hi : i ∈ pp) (hp : p ∈ pp) (h : pp.idxOf i = pp.idxOf p) : i = p := by
  have h1 := List.getElem_idxOf (List.idxOf_lt_length_iff.mpr hi)
  have h2 := List.getElem_idxOf (List.idxOf_lt_length_iff.mpr hp)
  rw [← h1, ← h2]
  congr 1
def marks (x : Pl) (sh : Pn → Pn → Int) (i : Pn) : List Int := (mWho (x.pp, x.reads) i).map fun j => sh j i
section
variable {x : Pl} (hx : x.good) {sh : Pn → Pn → Int}
include hx
theorem sc_at {i : Pn} (hi : i ∈ x.pp) (hn : 0 < x.n i) : dg (mScored x sh) i = some (some (sc x.ga x.trim (marks x sh i))) := by
  have h := dg_map (g := mScoreOf x sh) hi
  unfold mScored
  rw [h]
  unfold mScoreOf
  rw [if_neg (fun e => by unfold Pl.n at hn; rw [e] at hn; exact absurd hn (by decide)), sc_eq]
  rfl
theorem kv_at {i : Pn} (hi : i ∈ x.pp) (hn : 0 < x.n i) : kv (mScored x sh) i = sc x.ga x.trim (marks x sh i) := by
  unfold kv
  rw [sc_at hx hi hn]
  rfl
theorem marks_fine (hb : BdS x sh) {i : Pn} (hn : 0 < x.n i) : Fin1 (sc x.ga x.trim (marks x sh i)) := by
  have hl : (marks x sh i).length = x.n i := List.length_map _
  refine fine_ms hx (fun m hm => ?_) (by omega) (by rw [hl]; exact n_le hx i)
  obtain ⟨j, _, rfl⟩ := List.mem_map.mp hm
  exact hb j i
theorem kno_at (hb : BdS x sh) {i : Pn} (hi : i ∈ x.pp) (hn : 0 < x.n i) : Kno (mScored x sh) i := by
  have f := marks_fine hx hb hn
  refine ⟨by rw [kv_at hx hi hn, sc_at hx hi hn], ?_⟩
  rw [kv_at hx hi hn]
  have h1 := f.nn
  have h2 := f.hi
  exact ⟨by omega, by omega⟩
theorem good_rk {p : Pn} (hp : p ∈ x.pp) (hb : BdS x sh) : (mLst x.lists p).length ≤ 8 ∧ ∀ i ∈ mLst x.lists p, i ∈ x.pp ∧ (i ≠ p → Kno (mScored x sh) i ∧ Kno (mScored x sh) p) := by
  obtain ⟨h1, h2⟩ := lst_mem hx hp
  have hs := list_sub hx h1
  refine ⟨Nat.le_trans hs.length_le (Nat.le_trans hx.p7 (by decide)), fun i hi => ⟨hs.subset hi, fun hne => ?_⟩⟩
  have all := two_in hx hp hi hne
  have n1 := all i hi
  have n2 := all p h2
  exact ⟨kno_at hx hb (hs.subset hi) (by omega), kno_at hx hb hp (by omega)⟩
theorem flips {p i : Pn} (hp : p ∈ x.pp) (hi : i ∈ mLst x.lists p) (hne : i ≠ p) {sh1 sh2 : Pn → Pn → Int} (b1 : BdS x sh1) (b2 : BdS x sh2) (hs : ∀ i j, i ≠ p → sh1 i j = sh2 i j)
    (h1 : mPass x.pp (sc x.ga x.trim (marks x sh1 i)) (sc x.ga x.trim (marks x sh1 p)) i p = true) (h2 : mPass x.pp (sc x.ga x.trim (marks x sh2 i)) (sc x.ga x.trim (marks x sh1 p)) i p = false) : i ∈ x.decided p (sc x.ga x.trim (marks x sh1 p)) := by
  obtain ⟨g1, g2⟩ := lst_mem hx hp
  have hip := (list_sub hx g1).subset hi
  have all := two_in hx hp hi hne
  have nI : 0 < x.n i := by have := all i hi; omega
  have nP : 0 < x.n p := by have := all p g2; omega
  have hw : (p, i) ∈ x.reads := by
    by_cases h : (p, i) ∈ x.reads
    · exact h
    · have e : marks x sh1 i = marks x sh2 i := List.map_congr_left fun j hj => hs j i fun q => h (by rw [← q]; exact (who_mem hx).mp hj)
      rw [e, h2] at h1
      cases h1
  have hpw : p ∈ mWho (x.pp, x.reads) i := (who_mem hx).mpr hw
  have pm := List.perm_cons_erase hpw
  have same : ((mWho (x.pp, x.reads) i).erase p).map (fun j => sh2 j i) = ((mWho (x.pp, x.reads) i).erase p).map fun j => sh1 j i := List.map_congr_left fun j hj => (hs j i ((List.Nodup.mem_erase_iff (who_nd hx i)).mp hj).1).symm
  have m1 : (marks x sh1 i).Perm (sh1 p i :: iSort (((mWho (x.pp, x.reads) i).erase p).map fun j => sh1 j i)) := by
    have := pm.map fun j => sh1 j i
    rw [List.map_cons] at this
    exact this.trans (List.Perm.cons _ (iSort_perm _).symm)
  have m2 : (marks x sh2 i).Perm (sh2 p i :: iSort (((mWho (x.pp, x.reads) i).erase p).map fun j => sh1 j i)) := by
    have := pm.map fun j => sh2 j i
    rw [List.map_cons, same] at this
    exact this.trans (List.Perm.cons _ (iSort_perm _).symm)
  have hl : (((mWho (x.pp, x.reads) i).erase p).map fun j => sh1 j i).length = x.n i - 1 := by
    rw [List.length_map, List.length_erase_of_mem hpw]
    rfl
  have hr := mBun_sort (most := x.most) (ms := ((mWho (x.pp, x.reads) i).erase p).map fun j => sh1 j i) fun m hm => by
    obtain ⟨j, _, rfl⟩ := List.mem_map.mp hm
    exact b1 j i
  rw [hl] at hr
  rw [sc_perm m1] at h1
  rw [sc_perm m2] at h2
  generalize iSort (((mWho (x.pp, x.reads) i).erase p).map fun j => sh1 j i) = rest at hr h1 h2
  have k5 : x.n i - 1 ≤ 5 := by have := n_le hx i; omega
  have fw := marks_fine hx b1 nP
  generalize sc x.ga x.trim (marks x sh1 p) = w at h1 h2 fw
  obtain ⟨c1, c2⟩ := mono_sc hx k5 hr (b1 p i).1 (b1 p i).2
  obtain ⟨d1, d2⟩ := mono_sc hx k5 hr (b2 p i).1 (b2 p i).2
  have fa1 := fine_cons hx k5 hr (b1 p i).1 (b1 p i).2
  have fa2 := fine_cons hx k5 hr (b2 p i).1 (b2 p i).2
  have flo := fine_cons hx k5 hr (Int.le_refl 0) (by omega)
  have fhi := fine_cons hx k5 hr (m := (x.most : Int)) (by omega) (Int.le_refl _)
  have lo_eq := score_x hx (0 :: rest)
  have hi_eq := score_x hx ((x.most : Int) :: rest)
  have hdec : x.decides p i w = true := by
    refine List.any_eq_true.mpr ⟨rest, hr, ?_⟩
    unfold Pl.dec1
    rw [lo_eq, hi_eq]
    generalize sc x.ga x.trim (sh1 p i :: rest) = s1 at *
    generalize sc x.ga x.trim (sh2 p i :: rest) = s2 at *
    generalize sc x.ga x.trim (0 :: rest) = lo at *
    generalize sc x.ga x.trim ((x.most : Int) :: rest) = hi' at *
    unfold mPass at h1 h2
    cases he : x.early p i with
    | true =>
      have hlt : (x.pp.idxOf p : Int) < (x.pp.idxOf i : Int) := of_decide_eq_true he
      have hd : decide ((x.pp.idxOf i : Int) < (x.pp.idxOf p : Int)) = false := decide_eq_false (by omega)
      rw [hd] at h1 h2
      have q1 : mLess w s1 = true := by
        split at h1
        · cases h1
        · exact h1
      have q2 : mLess w s2 = false := by
        split at h2
        · rename_i e
          rw [e]
          exact fl_irr w
        · exact h2
      have q3 : mLess w lo = false := by
        cases q : mLess w lo with
        | false => rfl
        | true =>
          have := fl2 fw.pos flo.pos fa2.pos q d1
          rw [q2] at this
          cases this
      have q4 := fl2 fw.pos fa1.pos fhi.pos q1 c2
      rw [q3, q4]
      rfl
    | false =>
      have hnl : ¬ (x.pp.idxOf p : Int) < (x.pp.idxOf i : Int) := of_decide_eq_false he
      have hni : x.pp.idxOf i ≠ x.pp.idxOf p := fun q => hne (idx_inj hip hp q)
      have hd : decide ((x.pp.idxOf i : Int) < (x.pp.idxOf p : Int)) = true := decide_eq_true (by omega)
      rw [hd] at h1 h2
      have q1 : mLess s1 w = false := by
        split at h1
        · rename_i e
          rw [e]
          exact fl_irr w
        · exact fl_asy h1
      have q2 : mLess s2 w = true := by
        split at h2
        · cases h2
        · rename_i e
          cases q : mLess s2 w with
          | true => rfl
          | false => exact absurd (red_eq fa2 fw q h2) e
      have q3 := fl1 flo.pos fa2.pos fw.pos d1 q2
      have q4 : mLess hi' w = false := by
        cases q : mLess hi' w with
        | false => rfl
        | true =>
          have := fl1 fa1.pos fhi.pos fw.pos c2 q
          rw [q1] at this
          cases this
      rw [q3, q4]
      rfl
  unfold Pl.decided
  refine List.mem_map.mpr ⟨(p, i), List.mem_filter.mpr ⟨?_, hdec⟩, rfl⟩
  unfold Pl.own
  refine List.mem_filter.mpr ⟨hw, ?_⟩
  simp [hi]
theorem good_mv {p : Pn} (hp : p ∈ x.pp) {sh1 sh2 : Pn → Pn → Int} (b1 : BdS x sh1) (b2 : BdS x sh2) (hs : ∀ i j, i ≠ p → sh1 i j = sh2 i j) : mRank x (mScored x sh1) p - mRank x (mScored x sh2) p ≤ x.L p := by
  obtain ⟨g1, g2⟩ := lst_mem hx hp
  have hsub := list_sub hx g1
  have fl := filter_le (fun i => !decide (i = p) && mPass x.pp (kv (mScored x sh1) i) (kv (mScored x sh1) p) i p) (fun i => !decide (i = p) && mPass x.pp (kv (mScored x sh2) i) (kv (mScored x sh2) p) i p) (mLst x.lists p)
  have main : (((mLst x.lists p).filter fun i => (!decide (i = p) && mPass x.pp (kv (mScored x sh1) i) (kv (mScored x sh1) p) i p) && !(!decide (i = p) && mPass x.pp (kv (mScored x sh2) i) (kv (mScored x sh2) p) i p)).length : Int) ≤ x.L p := by
    have got : ∀ i ∈ (mLst x.lists p).filter fun i => (!decide (i = p) && mPass x.pp (kv (mScored x sh1) i) (kv (mScored x sh1) p) i p) && !(!decide (i = p) && mPass x.pp (kv (mScored x sh2) i) (kv (mScored x sh2) p) i p), 0 < x.n p ∧ i ∈ x.decided p (sc x.ga x.trim (marks x sh1 p)) := fun i hi => by
      obtain ⟨hi1, hi2⟩ := List.mem_filter.mp hi
      obtain ⟨h1, h2⟩ := Bool.and_eq_true_iff.mp hi2
      obtain ⟨h3, h4⟩ := Bool.and_eq_true_iff.mp h1
      have hne : i ≠ p := by simpa using h3
      have all := two_in hx hp hi1 hne
      have nI : 0 < x.n i := by have := all i hi1; omega
      have nP : 0 < x.n p := by have := all p g2; omega
      have hip := hsub.subset hi1
      have wsame : marks x sh2 p = marks x sh1 p := List.map_congr_left fun j hj => (hs j p (rd_in hx ((who_mem hx).mp hj)).2.2).symm
      rw [h3, Bool.true_and] at h2
      rw [kv_at hx hip nI, kv_at hx hp nP] at h4 h2
      rw [wsame] at h2
      exact ⟨nP, flips hx hp hi1 hne b1 b2 hs h4 (by simpa using h2)⟩
    cases q : (mLst x.lists p).filter fun i => (!decide (i = p) && mPass x.pp (kv (mScored x sh1) i) (kv (mScored x sh1) p) i p) && !(!decide (i = p) && mPass x.pp (kv (mScored x sh2) i) (kv (mScored x sh2) p) i p) with
    | nil => exact lift_nn hx hp
    | cons i0 r =>
      rw [← q]
      have nP := (got i0 (by rw [q]; exact List.mem_cons_self)).1
      have hl : (marks x sh1 p).length = x.n p := List.length_map _
      have hw : sc x.ga x.trim (marks x sh1 p) ∈ x.wor p := (wor_mem hx).mpr ⟨nP, iSort (marks x sh1 p), by
        have := mBun_sort (most := x.most) (ms := marks x sh1 p) fun m hm => by
          obtain ⟨j, _, rfl⟩ := List.mem_map.mp hm
          exact b1 j p
        rw [hl] at this
        exact this, sc_perm (iSort_perm _).symm⟩
      have h1 := lift_ge hx hp hw
      have h2 := nodup_le (m := x.decided p (sc x.ga x.trim (marks x sh1 p))) (List.Pairwise.filter _ (List.Nodup.sublist hsub hx.nd)) fun i hi => (got i hi).2
      omega
  unfold mRank
  omega
end
theorem math_ok : MathOk := ⟨fun x h => good_ok h, fun x h => good_ru h, fun x h i hi => good_sw h hi, fun x h i hi => good_own h hi, fun x h h2 i hi => lift_tot h h2 hi, fun x h i hi k hk => lift_uniq hk (lift_is h hi), fun x h p hp sh hb => good_rk h hp hb, fun x h p hp sh1 sh2 b1 b2 hs => good_mv h hp b1 b2 hs⟩
end Om
set_option maxHeartbeats 0
/-! Om: the end. -/
namespace Om
open PySem PySem.Spec PyProof.Rows L2
theorem law_facts {P : Program} {w : World} {K : PySem.W.Frag} {h : Heap} {mg : Str → Option Value} {f : Addr} (X : K.In h) (G : h.Ns mainGlobals mg) (hfa : mg ("law" : Str) = some (.ref f)) (c : obX K = vlX) :
    ∃ fd : FuncData, (∀ (s : Shared) (v : Value), BindsTo s fd ⟨[v], []⟩ [("_law_script", v)]) ∧ ∀ base : Heap, K.In base → base.Ns mainGlobals mg → FnOk P w K mg base CX0 11 f fd ["_law_script"] (sp1 (qScr K) (fun _ => True) qB (fun _ => true)) := by
  have c1 : exB K = true := congrArg (fun z : AlX => z.1) c
  have c2 : pFun K = pVal := congrArg (fun z : AlX => z.2.1) c
  have c3 : He.SaysD hFa hFn K := congrArg (fun z : AlX => z.2.2) c
  have F := fx_of X G c3 c1 c2
  obtain ⟨f', fd, FD, hm, bn⟩ := F.d_law.ex
  have e := hfa.symm.trans hm
  cases e
  have b := FD.bindsA (ps := ["_law_script"]) fun _ _ _ _ _ _ us hl => match us, hl with | [_], _ => rfl
  exact ⟨fd, fun s v => b s [v] rfl, fun base _ _ => ok_law_at (P := P) (w := w) (base := base) F math_ok FD⟩
end Om
open PySem PySem.W PySem.Calls PyProof.Rows
theorem PySem.Challenge.cw_ownmarks_k22_whole_lifts_by_scores_holds : PySem.Challenge.rw_ownmarks_k22_whole_lifts_by_scores.Holds := by
  w_on; o_law
  refine HandSHeadRun.head_any (r := Om.Rw) (q := Om.Vw) (H := Om.hkX) (ob := Om.obT) (M := 20000) (loose := Om.nms) (d := HandSHeadRun.topDef Om.Rw.prog 91) (kwd := []) Om.obT_eq
    (by kernel_rfl) (fun s => by kernel_rfl) Om.head_run (by kernel_rfl) (by kernel_rfl) (by kernel_rfl) (by rfl) (by first | assumption | decide +kernel) (by decide +kernel) ⟨rfl, rfl, rfl, rfl, rfl, by decide +kernel⟩ ?hw ?hc
  case hw => w_witness2
  case hc =>
    refine L2.walk_ofE (l := PySem.Challenge.rw_ownmarks_k22_whole_lifts_by_scores) (n := 63) (k := 11) (x := "_law_script") (CX := L2.CX0) rfl (by decide) (by kernel_rfl) ⟨rfl, by decide, by decide⟩ ?F (fun _ _ _ _ z => z)
    intro w mg fa h Y G hmg0
    obtain ⟨K, KX, c⟩ := Y
    have hmg : mg ("law" : PySem.Str) = some (.ref fa) := by
      have e : (HandSHeadRun.topDef Om.Rw.prog 91).name = ("law" : PySem.Str) := by kernel_rfl
      rw [← e]
      exact hmg0
    obtain ⟨fd, hb, hF⟩ := Om.law_facts (P := PySem.Challenge.rw_ownmarks_k22_whole_lifts_by_scores.prog) (w := w) KX G hmg c
    refine ⟨K, fd, _, KX, hb, fun H a ns hl _ hS => ?_, hF⟩
    exact ⟨.ref a, ns, H, rfl, fun b o e => .inl e, ⟨a, rfl, hS, hl⟩, trivial, fun V' H' v g r => r⟩
