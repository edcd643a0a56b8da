import PyProof.Rows.All
import Wide.All
import OpenK.AllK
import Wide.FinOn
import PyProof.StrLawsIn
import PyProof.Rows.StrStep
import KE.DataMinMax
import KE.DataEq
import KE.DataCmp
import HandS.Text
import HandS.ForMost
import HandS.TupAny
import HandS.TupMul
import HandS.TupLe
import HandS.Style
import HandS.Flow
import HandS.Conv
import HandS.Codes
import HandS.IsInst
import HandS.NoneIn
import PySem.Challenge.RW_padrows_k13_whole_what_spread_rows_leave
set_option Elab.async false
set_option linter.all false
set_option maxRecDepth 100000
/-! Part A: plain data, how it lies in the heap, and readings that tell a plain function of plain slots. -/
namespace Dn
open PySem L2

inductive D where
  | non | bl (b : Bool) | int (i : Int) | str (l : List Nat) | tup (xs : List D) | lst (xs : List D)
  | scr (ns : List Int) | adr (a : Addr) | dct (kvs : List (List Nat × D))
  | own (xs : List D) | ownd (kvs : List (List Nat × D))

abbrev S (l : List Nat) : Str := ⟨l.toArray⟩

mutual
def Is (K : PySem.W.Frag) (H : Hp) : D → V → Prop
  | .non, v => v = .non
  | .bl b, v => v = .bl b
  | .int i, v => v = .int i
  | .str l, v => v = .str (S l)
  | .tup ds, v => ∃ a vs, v = .ref a ∧ SqT K H a vs ∧ IsL K H ds vs
  | .lst ds, v => ∃ a vs, v = .ref a ∧ H a = some (.lst vs) ∧ IsL K H ds vs
  | .scr ns, v => ∃ a, v = .ref a ∧ SqL K H a (ns.map V.int)
  | .adr a, v => v = .ref a
  | .dct kvs, v => ∃ a ks, v = .ref a ∧ H a = some (.dK ks) ∧ IsK K H kvs ks
  | .own _, _ => False
  | .ownd _, _ => False
def IsL (K : PySem.W.Frag) (H : Hp) : List D → List V → Prop
  | [], vs => vs = []
  | d :: ds, vs => ∃ v r, vs = v :: r ∧ Is K H d v ∧ IsL K H ds r
def IsK (K : PySem.W.Frag) (H : Hp) : List (List Nat × D) → List (Key × V) → Prop
  | [], ks => ks = []
  | (k, d) :: kvs, ks => ∃ v r, ks = (Sum.inr (S k), v) :: r ∧ Is K H d v ∧ IsK K H kvs r
end

section
variable {K : PySem.W.Frag} {H H' : Hp}
theorem sq_mono (e : Same H H') {a : Addr} {xs : List V} (h : SqT K H a xs) : SqT K H' a xs := by
  rcases h with (h | ⟨o, h⟩) | h
  · exact .inl (.inl (e _ _ h))
  · exact .inl (.inr ⟨o, e _ _ h⟩)
  · exact .inr h
mutual
theorem Is.mono (e : Same H H') : ∀ {d : D} {v : V}, Is K H d v → Is K H' d v
  | .non, _, h => by simpa only [Is] using h
  | .bl _, _, h => by simpa only [Is] using h
  | .int _, _, h => by simpa only [Is] using h
  | .str _, _, h => by simpa only [Is] using h
  | .adr _, _, h => by simpa only [Is] using h
  | .tup ds, v, h => by
    simp only [Is] at h ⊢
    obtain ⟨a, vs, e1, e2, e3⟩ := h
    exact ⟨a, vs, e1, sq_mono e e2, IsL.mono e e3⟩
  | .lst ds, v, h => by
    simp only [Is] at h ⊢
    obtain ⟨a, vs, e1, e2, e3⟩ := h
    exact ⟨a, vs, e1, e _ _ e2, IsL.mono e e3⟩
  | .scr ns, v, h => by
    simp only [Is] at h ⊢
    obtain ⟨a, e1, e2⟩ := h
    exact ⟨a, e1, e.seq e2⟩
  | .dct kvs, v, h => by
    simp only [Is] at h ⊢
    obtain ⟨a, vs, e1, e2, e3⟩ := h
    exact ⟨a, vs, e1, e _ _ e2, IsK.mono e e3⟩
  | .own _, _, h => by simp only [Is] at h
  | .ownd _, _, h => by simp only [Is] at h
theorem IsL.mono (e : Same H H') : ∀ {ds : List D} {vs : List V}, IsL K H ds vs → IsL K H' ds vs
  | [], _, h => by simpa only [IsL] using h
  | d :: ds, vs, h => by
    simp only [IsL] at h ⊢
    obtain ⟨v, r, e1, e2, e3⟩ := h
    exact ⟨v, r, e1, Is.mono e e2, IsL.mono e e3⟩
theorem IsK.mono (e : Same H H') : ∀ {ds : List (List Nat × D)} {vs : List (Key × V)}, IsK K H ds vs → IsK K H' ds vs
  | [], _, h => by simpa only [IsK] using h
  | (k, d) :: ds, vs, h => by
    simp only [IsK] at h ⊢
    obtain ⟨v, r, e1, e2, e3⟩ := h
    exact ⟨v, r, e1, Is.mono e e2, IsK.mono e e3⟩
end
theorem IsL.length : ∀ {ds : List D} {vs : List V}, IsL K H ds vs → vs.length = ds.length
  | [], _, h => by simp only [IsL] at h; subst h; rfl
  | d :: ds, vs, h => by
    simp only [IsL] at h
    obtain ⟨v, r, e1, _, e3⟩ := h
    subst e1
    rw [List.length_cons, List.length_cons, IsL.length e3]
theorem IsL.get : ∀ {ds : List D} {vs : List V} {i : Nat} {d : D}, IsL K H ds vs → ds[i]? = some d → ∃ v, vs[i]? = some v ∧ Is K H d v
  | [], _, _, _, _, q => by simp at q
  | d :: ds, vs, i, d', h, q => by
    simp only [IsL] at h
    obtain ⟨v, r, e1, e2, e3⟩ := h
    subst e1
    cases i with
    | zero =>
      simp at q
      subst q
      exact ⟨v, rfl, e2⟩
    | succ j =>
      simp at q
      obtain ⟨w, a, b⟩ := IsL.get e3 q
      exact ⟨w, by simpa using a, b⟩
theorem IsL.append : ∀ {ds es : List D} {vs ws : List V}, IsL K H ds vs → IsL K H es ws → IsL K H (ds ++ es) (vs ++ ws)
  | [], _, _, _, h, q => by
    simp only [IsL] at h
    subst h
    exact q
  | d :: ds, es, vs, ws, h, q => by
    simp only [IsL] at h
    obtain ⟨v, r, e1, e2, e3⟩ := h
    subst e1
    show IsL K H (d :: (ds ++ es)) (v :: (r ++ ws))
    simp only [IsL]
    exact ⟨v, r ++ ws, rfl, e2, e3.append q⟩
theorem IsL.take (n : Nat) : ∀ {ds : List D} {vs : List V}, IsL K H ds vs → IsL K H (ds.take n) (vs.take n) := by
  induction n with
  | zero => intro ds vs _; simp [IsL]
  | succ n ih =>
    intro ds vs h
    cases ds with
    | nil =>
      simp only [IsL] at h
      subst h
      simp [IsL]
    | cons d ds =>
      simp only [IsL] at h
      obtain ⟨v, r, e1, e2, e3⟩ := h
      subst e1
      simp only [List.take_succ_cons, IsL]
      exact ⟨v, _, rfl, e2, ih e3⟩
theorem IsL.drop (n : Nat) : ∀ {ds : List D} {vs : List V}, IsL K H ds vs → IsL K H (ds.drop n) (vs.drop n) := by
  induction n with
  | zero => intro ds vs h; exact h
  | succ n ih =>
    intro ds vs h
    cases ds with
    | nil =>
      simp only [IsL] at h
      subst h
      simp [IsL]
    | cons d ds =>
      simp only [IsL] at h
      obtain ⟨v, r, e1, e2, e3⟩ := h
      subst e1
      exact ih e3
theorem IsL.of_get : ∀ {ds : List D} {vs : List V}, vs.length = ds.length → (∀ (i : Nat) (d : D) (v : V), ds[i]? = some d → vs[i]? = some v → Is K H d v) → IsL K H ds vs
  | [], vs, e, _ => by
    simp only [IsL]
    exact List.eq_nil_of_length_eq_zero e
  | d :: ds, [], e, _ => by simp at e
  | d :: ds, v :: vs, e, h => by
    simp only [IsL]
    exact ⟨v, vs, rfl, h 0 d v rfl rfl, IsL.of_get (by simpa using e) fun i d' v' a b => h (i + 1) d' v' (by simpa using a) (by simpa using b)⟩
theorem IsL.set {ds : List D} {vs : List V} {d : D} {v : V} (j : Nat) (h : IsL K H ds vs) (q : Is K H d v) : IsL K H (ds.set j d) (vs.set j v) := by
  refine IsL.of_get (by rw [List.length_set, List.length_set, h.length]) fun i d' v' a b => ?_
  by_cases e : j = i
  · subst e
    rw [List.getElem?_set_self'] at a b
    cases h1 : ds[j]? with
    | none => rw [h1] at a; cases a
    | some x =>
      rw [h1] at a
      cases h2 : vs[j]? with
      | none => rw [h2] at b; cases b
      | some y =>
        rw [h2] at b
        cases a
        cases b
        exact q
  · rw [List.getElem?_set_ne e] at a b
    obtain ⟨w, c1, c2⟩ := h.get a
    rw [c1] at b
    cases b
    exact c2
end

/-! ### a step of the heap: H is the whole of it, Hb the part that plain data lies in -/
structure Step (Hb H Hb' H' : Hp) : Prop where
  a : Same H H'
  b : Same Hb Hb'
  c : Same Hb' H'
  f : ∀ p o, H p = some o → Hb p = none → Hb' p = none
theorem Step.refl {Hb H : Hp} (h : Same Hb H) : Step Hb H Hb H := ⟨Same.refl _, Same.refl _, h, fun _ _ _ n => n⟩
theorem Step.trans {Hb H Hb1 H1 Hb2 H2 : Hp} (x : Step Hb H Hb1 H1) (y : Step Hb1 H1 Hb2 H2) : Step Hb H Hb2 H2 :=
  ⟨x.a.trans y.a, x.b.trans y.b, y.c, fun p o e n => y.f p o (x.a p o e) (x.f p o e n)⟩
theorem same_new {H : Hp} {p : Addr} {o : HO} (h : H p = none) : Same H (upd H p o) := fun b x e => by
  rw [upd_ne (ne_of_none e h)]
  exact e
theorem same_upd2 {Hb H : Hp} {p : Addr} {o : HO} (s : Same Hb H) : Same (upd Hb p o) (upd H p o) := fun b x e => by
  by_cases h : b = p
  · subst h
    rw [upd_same] at e ⊢
    exact e
  · rw [upd_ne h] at e ⊢
    exact s b x e
theorem Step.new {Hb H : Hp} (s : Same Hb H) {p : Addr} {o : HO} (h : H p = none) : Step Hb H (upd Hb p o) (upd H p o) :=
  ⟨same_new h, same_new (s.free h), same_upd2 s, fun b x e n => by rw [upd_ne (ne_of_none e h)]; exact n⟩

abbrev En := List (Option D)
def D.isOwn : D → Bool
  | .own _ => true
  | .ownd _ => true
  | _ => false
/-- what a slot holds -/
def IsS (K : PySem.W.Frag) (H0 Hb H : Hp) : D → V → Prop
  | .own ds, v => ∃ a vs, v = .ref a ∧ H0 a = none ∧ Hb a = none ∧ H a = some (.lst vs) ∧ IsL K Hb ds vs
  | .ownd kvs, v => ∃ a ks, v = .ref a ∧ H0 a = none ∧ Hb a = none ∧ H a = some (.dK ks) ∧ IsK K Hb kvs ks
  | d, v => Is K Hb d v
structure Rel (K : PySem.W.Frag) (H0 Hb H : Hp) (σ : L2.St) (env : En) : Prop where
  len : σ.length = env.length
  val : ∀ (i : Nat) (d : D), env[i]? = some (some d) → ∃ v, σ[i]? = some (some v) ∧ IsS K H0 Hb H d v
  sep : ∀ (i j : Nat) (d e : D) (a : Addr), i ≠ j → env[i]? = some (some d) → env[j]? = some (some e) → d.isOwn = true → e.isOwn = true → σ[i]? = some (some (.ref a)) → σ[j]? = some (some (.ref a)) → False
section
variable {K : PySem.W.Frag} {H0 Hb H Hb' H' : Hp} {σ : L2.St} {env : En}
theorem IsS.plain {d : D} {v : V} (h : d.isOwn = false) : IsS K H0 Hb H d v = Is K Hb d v := by
  cases d <;> first | rfl | (simp [D.isOwn] at h)
theorem IsS.step (s : Step Hb H Hb' H') {d : D} {v : V} (h : IsS K H0 Hb H d v) : IsS K H0 Hb' H' d v := by
  cases d with
  | own ds =>
    obtain ⟨a, vs, e1, e2, e3, e4, e5⟩ := h
    exact ⟨a, vs, e1, e2, s.f _ _ e4 e3, s.a _ _ e4, e5.mono s.b⟩
  | ownd ds =>
    obtain ⟨a, vs, e1, e2, e3, e4, e5⟩ := h
    exact ⟨a, vs, e1, e2, s.f _ _ e4 e3, s.a _ _ e4, e5.mono s.b⟩
  | _ => exact Is.mono s.b h
theorem Rel.step (s : Step Hb H Hb' H') (r : Rel K H0 Hb H σ env) : Rel K H0 Hb' H' σ env :=
  ⟨r.len, fun i d e => let ⟨v, a, b⟩ := r.val i d e; ⟨v, a, b.step s⟩, r.sep⟩
/-- a slot gets a plain thing -/
theorem Rel.set (r : Rel K H0 Hb H σ env) (i : Nat) {d : D} {v : V} (h : Is K Hb d v) : Rel K H0 Hb H (σ.set i (some v)) (env.set i (some d)) := by
  have hd : d.isOwn = false := by cases d <;> first | rfl | (simp only [Is] at h)
  refine ⟨by rw [List.length_set, List.length_set, r.len], fun j e q => ?_, fun j k e e' a ne q1 q2 o1 o2 s1 s2 => ?_⟩
  · by_cases hj : i = j
    · subst hj
      have hi : i < env.length := by
        have := (List.getElem?_eq_some_iff.mp q).1
        rw [List.length_set] at this
        exact this
      rw [List.getElem?_set_self hi] at q
      cases q
      refine ⟨v, List.getElem?_set_self (by rw [r.len]; exact hi), ?_⟩
      rw [IsS.plain hd]
      exact h
    · rw [List.getElem?_set_ne hj] at q
      obtain ⟨w, a, b⟩ := r.val j e q
      exact ⟨w, by rw [List.getElem?_set_ne hj]; exact a, b⟩
  · have key : ∀ (m : Nat) (x : D), (env.set i (some d))[m]? = some (some x) → x.isOwn = true → i ≠ m := fun m x q o z => by
      subst z
      have hi : i < env.length := by
        have := (List.getElem?_eq_some_iff.mp q).1
        rw [List.length_set] at this
        exact this
      rw [List.getElem?_set_self hi] at q
      cases q
      rw [hd] at o
      cases o
    have n1 := key j e q1 o1
    have n2 := key k e' q2 o2
    rw [List.getElem?_set_ne n1] at q1 s1
    rw [List.getElem?_set_ne n2] at q2 s2
    exact r.sep j k e e' a ne q1 q2 o1 o2 s1 s2
/-- a slot is forgotten -/
theorem Rel.forget (r : Rel K H0 Hb H σ env) (i : Nat) (x : Option V) : Rel K H0 Hb H (σ.set i x) (env.set i none) := by
  have key : ∀ (m : Nat) (d : D), (env.set i none)[m]? = some (some d) → i ≠ m := fun m d q z => by
    subst z
    have hi : i < env.length := by
      have := (List.getElem?_eq_some_iff.mp q).1
      rw [List.length_set] at this
      exact this
    rw [List.getElem?_set_self hi] at q
    cases q
  refine ⟨by rw [List.length_set, List.length_set, r.len], fun j e q => ?_, fun j k e e' a ne q1 q2 o1 o2 s1 s2 => ?_⟩
  · have n := key j e q
    rw [List.getElem?_set_ne n] at q
    obtain ⟨w, a, b⟩ := r.val j e q
    exact ⟨w, by rw [List.getElem?_set_ne n]; exact a, b⟩
  · have n1 := key j e q1
    have n2 := key k e' q2
    rw [List.getElem?_set_ne n1] at q1 s1
    rw [List.getElem?_set_ne n2] at q2 s2
    exact r.sep j k e e' a ne q1 q2 o1 o2 s1 s2
end

/-! ### readings -/
def tD (K : PySem.W.Frag) (f : En → Option D) : TE := fun σ H Q => ∃ H0 env Hb d, Rel K H0 Hb H σ env ∧ Same Hb H ∧ f env = some d ∧ ∀ v Hb' H', Step Hb H Hb' H' → Is K Hb' d v → Q v H'
def tT (K : PySem.W.Frag) (f : En → Option Bool) : TT := fun σ H Q => ∃ H0 env Hb b, Rel K H0 Hb H σ env ∧ Same Hb H ∧ f env = some b ∧ ∀ Hb' H', Step Hb H Hb' H' → Q b H'
def tA (K : PySem.W.Frag) (f : En → Option (List D)) : TA := fun σ H Q => ∃ H0 env Hb ds, Rel K H0 Hb H σ env ∧ Same Hb H ∧ f env = some ds ∧ ∀ vs Hb' H', Step Hb H Hb' H' → IsL K Hb' ds vs → Q vs H'
def tO (K : PySem.W.Frag) (f : En → Option (Option Int)) : TO := fun σ H Q => ∃ H0 env Hb o, Rel K H0 Hb H σ env ∧ Same Hb H ∧ f env = some o ∧ ∀ Hb' H', Step Hb H Hb' H' → Q o H'

def f1 (g : D → Option D) (fa : En → Option D) : En → Option D := fun env => (fa env).bind g
def f2 (g : D → D → Option D) (fa fb : En → Option D) : En → Option D := fun env => (fa env).bind fun a => (fb env).bind fun b => g a b
def fV (i : Nat) : En → Option D := fun env => match env[i]? with
  | some (some d) => if d.isOwn then none else some d
  | _ => none
def fC (d : D) : En → Option D := fun _ => some d
def fNil : En → Option (List D) := fun _ => some []
def fCons (fa : En → Option D) (fb : En → Option (List D)) : En → Option (List D) := fun env => (fa env).bind fun a => (fb env).bind fun b => some (a :: b)
def asB : D → Option Bool
  | .bl b => some b
  | _ => none
def asI : D → Option Int
  | .int b => some b
  | _ => none

section
variable {X : Cx} {a b c e : Expr} {es : List Expr} {pos : Pos} {fa fb fc : En → Option D} {fs : En → Option (List D)}

theorem PE_weak {t t' : TE} (h : PE X e t) (w : ∀ σ H Q, t' σ H Q → t σ H Q) : PE X e t' := ⟨fun pins s σ H Q I q => h.run pins s σ H Q I (w σ H Q q)⟩
theorem PT_weak {t t' : TT} (h : PT X e t) (w : ∀ σ H Q, t' σ H Q → t σ H Q) : PT X e t' := ⟨fun pins s σ H Q I q => h.run pins s σ H Q I (w σ H Q q)⟩
theorem PW_weak {t t' : TT} (h : PW X e t) (w : ∀ σ H Q, t' σ H Q → t σ H Q) : PW X e t' := ⟨fun wh pins s σ H Q I q => h.run wh pins s σ H Q I (w σ H Q q)⟩
theorem PA_weak {t t' : TA} (h : PA X es t) (w : ∀ σ H Q, t' σ H Q → t σ H Q) : PA X es t' := ⟨fun p pins s σ H Q I q => h.run p pins s σ H Q I (w σ H Q q)⟩

theorem bind2 {α β γ : Type} {x : Option α} {y : Option β} {g : α → β → Option γ} {z : γ} (h : (x.bind fun a => y.bind fun b => g a b) = some z) : ∃ a b, x = some a ∧ y = some b ∧ g a b = some z := by
  cases x with
  | none => cases h
  | some a =>
    cases y with
    | none => cases h
    | some b => exact ⟨a, b, rfl, rfl, h⟩
theorem bind1 {α γ : Type} {x : Option α} {g : α → Option γ} {z : γ} (h : x.bind g = some z) : ∃ a, x = some a ∧ g a = some z := by
  cases x with
  | none => cases h
  | some a => exact ⟨a, rfl, h⟩

/-- names, constants -/
theorem e_var (i : Nat) {x : Str} (hN : X.N[i]? = some x := by rfl) (hv : Vis X.env.scope x := by first | exact Or.inl rfl | exact Or.inr (Or.inl rfl) | exact Or.inr (Or.inr rfl)) (hd : (x == ("__debug__" : Str)) = false := by decide)
    (hcd : (x == ("__classdict__" : Str)) = false := by decide) : PE X (.Name x pos) (tD X.K (fV i)) := PE_weak (pe_var hN hv hd hcd) fun σ H Q h => by
  obtain ⟨H0, env, Hb, d, r, sm, ef, q⟩ := h
  unfold fV at ef
  cases e1 : env[i]? with
  | none => rw [e1] at ef; cases ef
  | some o =>
    rw [e1] at ef
    cases o with
    | none => cases ef
    | some d' =>
      dsimp only at ef
      cases ho : d'.isOwn with
      | true => rw [ho] at ef; simp at ef
      | false =>
        rw [ho] at ef
        simp at ef
        subst ef
        obtain ⟨v, s1, s2⟩ := r.val i d' e1
        rw [IsS.plain ho] at s2
        exact ⟨v, s1, q v Hb H (Step.refl sm) s2⟩
theorem e_c {d : D} {v : V} (he : PE X e (tC v)) (hv : ∀ H, Is X.K H d v) : PE X e (tD X.K (fC d)) := PE_weak he fun σ H Q h => by
  obtain ⟨H0, env, Hb, d', r, sm, ef, q⟩ := h
  cases ef
  exact q v Hb H (Step.refl sm) (hv Hb)
theorem e_int {i j} : PE X (.Constant (.int i) j pos) (tD X.K (fC (.int i))) := e_c pe_int fun _ => by simp only [Is]
theorem e_bl {i j} : PE X (.Constant (.bool i) j pos) (tD X.K (fC (.bl i))) := e_c pe_bl fun _ => by simp only [Is]
theorem e_non {j} : PE X (.Constant .none j pos) (tD X.K (fC .non)) := e_c pe_non fun _ => by simp only [Is]
theorem e_str (l : List Nat) {x : Str} {j} (h : x = S l := by decide +kernel) : PE X (.Constant (.str x) j pos) (tD X.K (fC (.str l))) := e_c pe_str fun _ => by simp only [Is]; rw [h]
/-- a module's text -/
theorem e_gstr (l : List Nat) {x y : Str} {tk : Tok} (hm : X.mg x = some (.str y tk)) (h : y = S l := by decide +kernel) (hg : Gl X x := by rfl) (hd : (x == ("__debug__" : Str)) = false := by decide) : PE X (.Name x pos) (tD X.K (fC (.str l))) :=
  e_c (v := .str y) (pe_glob hg hm ⟨_, rfl⟩ hd) fun _ => by simp only [Is]; rw [h]
theorem e_gint (i : Int) {x : Str} {tk : Tok} (hm : X.mg x = some (.int i tk)) (hg : Gl X x := by rfl) (hd : (x == ("__debug__" : Str)) = false := by decide) : PE X (.Name x pos) (tD X.K (fC (.int i))) :=
  e_c (v := .int i) (pe_glob hg hm ⟨_, rfl⟩ hd) fun _ => by simp only [Is]

/-! ### operations on values -/
def rD2 (K : PySem.W.Frag) (g : D → D → Option D) : R2 := fun x y H Q => ∃ Hb a b d, Same Hb H ∧ Is K Hb a x ∧ Is K Hb b y ∧ g a b = some d ∧ ∀ v Hb' H', Step Hb H Hb' H' → Is K Hb' d v → Q v H'
def rD1 (K : PySem.W.Frag) (g : D → Option D) : V → Hp → VK → Prop := fun x H Q => ∃ Hb a d, Same Hb H ∧ Is K Hb a x ∧ g a = some d ∧ ∀ v Hb' H', Step Hb H Hb' H' → Is K Hb' d v → Q v H'
def rDA (K : PySem.W.Frag) (g : List D → Option D) : List V → Hp → VK → Prop := fun xs H Q => ∃ Hb ds d, Same Hb H ∧ IsL K Hb ds xs ∧ g ds = some d ∧ ∀ v Hb' H', Step Hb H Hb' H' → Is K Hb' d v → Q v H'

theorem t_op {g : D → D → Option D} {σ : L2.St} {H : Hp} {Q : VK} (h : tD X.K (f2 g fa fb) σ H Q) : tOp (rD2 X.K g) (tD X.K fa) (tD X.K fb) σ H Q := by
  obtain ⟨H0, env, Hb, d, r, sm, ef, q⟩ := h
  obtain ⟨da, db, ea, eb, eg⟩ := bind2 ef
  exact ⟨H0, env, Hb, da, r, sm, ea, fun x Hb1 H1 s1 ix => ⟨H0, env, Hb1, db, r.step s1, s1.c, eb, fun y Hb2 H2 s2 iy =>
    ⟨Hb2, da, db, d, s2.c, ix.mono s2.b, iy, eg, fun v Hb' H' s3 iv => q v Hb' H' (s1.trans (s2.trans s3)) iv⟩⟩⟩
theorem e_op {op : Operator} {g : D → D → Option D} (ho : OpR X (binaryOp op) (rD2 X.K g)) (ha : PE X a (tD X.K fa)) (hb : PE X b (tD X.K fb)) : PE X (.BinOp a op b pos) (tD X.K (f2 g fa fb)) :=
  PE_weak (pe_op ho ha hb) fun _ _ _ h => t_op h
theorem e_un {op : UnaryOp} {g : D → Option D} (ho : UnR X (unaryOp op) (rD1 X.K g)) (ha : PE X a (tD X.K fa)) : PE X (.UnaryOp op a pos) (tD X.K (f1 g fa)) :=
  PE_weak (pe_un ho ha) fun σ H Q h => by
    obtain ⟨H0, env, Hb, d, r, sm, ef, q⟩ := h
    obtain ⟨da, ea, eg⟩ := bind1 ef
    exact ⟨H0, env, Hb, da, r, sm, ea, fun x Hb1 H1 s1 ix => ⟨Hb1, da, d, s1.c, ix, eg, fun v Hb' H' s3 iv => q v Hb' H' (s1.trans s3) iv⟩⟩
theorem e_cmp {op : CmpOp} {g : D → D → Option D} (ho : OpR X (compareOp op) (rD2 X.K g)) (ha : PE X a (tD X.K fa)) (hb : PE X b (tD X.K fb)) (hm : behindInMarks op b = false := by first | exact nobehind _ (by decide) (by decide) | rfl) :
    PE X (.Compare a [op] [b] pos) (tD X.K (f2 g fa fb)) := PE_weak (pe_cmpR ho ha hb hm) fun _ _ _ h => t_op h
/-- a <= b < c -/
def fChain (g g' : D → D → Option D) (fa fb fc : En → Option D) : En → Option D := fun env => (fa env).bind fun a => (fb env).bind fun b => (g a b).bind fun z => (asB z).bind fun k => if k then (fc env).bind fun c => g' b c else some (.bl false)
theorem asB_some {d : D} {b : Bool} (h : asB d = some b) : d = .bl b := by
  cases d <;> first | (cases h; rfl) | cases h
theorem asI_some {d : D} {b : Int} (h : asI d = some b) : d = .int b := by
  cases d <;> first | (cases h; rfl) | cases h
theorem e_chain {op op' : CmpOp} {g g' : D → D → Option D} (ho : OpR X (compareOp op) (rD2 X.K g)) (ho' : OpR X (compareOp op') (rD2 X.K g')) (ha : PE X a (tD X.K fa)) (hb : PE X b (tD X.K fb)) (hc : PE X c (tD X.K fc))
    (hm : lastMarks [op, op'] [b, c] = false := by with_unfolding_all rfl) : PE X (.Compare a [op, op'] [b, c] pos) (tD X.K (fChain g g' fa fb fc)) :=
  PE_weak (pe_chain ho ho' ha hb hc hm) fun σ H Q h => by
    obtain ⟨H0, env, Hb, d, r, sm, ef, q⟩ := h
    obtain ⟨da, ea, ef⟩ := bind1 ef
    obtain ⟨db, eb, ef⟩ := bind1 ef
    obtain ⟨z, ez, ef⟩ := bind1 ef
    obtain ⟨k, ek, eg⟩ := bind1 ef
    have hz := asB_some ek
    subst hz
    refine ⟨H0, env, Hb, da, r, sm, ea, fun x Hb1 H1 s1 ix => ⟨H0, env, Hb1, db, r.step s1, s1.c, eb, fun y Hb2 H2 s2 iy => ⟨Hb2, da, db, .bl k, s2.c, ix.mono s2.b, iy, ez, fun v Hb3 H3 s3 iv => ⟨k, by simpa only [Is] using iv, ?_⟩⟩⟩⟩
    cases k with
    | false =>
      simp at eg
      subst eg
      exact q _ Hb3 H3 (s1.trans (s2.trans s3)) (by simp only [Is])
    | true =>
      obtain ⟨dc, ec, eg⟩ := bind1 eg
      exact ⟨H0, env, Hb3, dc, ((r.step s1).step s2).step s3, s3.c, ec, fun w Hb4 H4 s4 iw => ⟨Hb4, db, dc, d, s4.c, (iy.mono s3.b).mono s4.b, iw, eg, fun v' Hb' H' s5 iv' => q v' Hb' H' (s1.trans (s2.trans (s3.trans (s4.trans s5)))) iv'⟩⟩

/-! ### argument lists, displays -/
theorem a_nil : PA X [] (tA X.K fNil) := PA_weak pa_nil fun σ H Q h => by
  obtain ⟨H0, env, Hb, d, r, sm, ef, q⟩ := h
  cases ef
  exact q [] Hb H (Step.refl sm) (by simp only [IsL])
theorem a_cons (ha : PE X e (tD X.K fa)) (hr : PA X es (tA X.K fs)) (hs : starEach (e :: es) X.env = (false, eval e X.env) :: starEach es X.env := by rfl) : PA X (e :: es) (tA X.K (fCons fa fs)) :=
  PA_weak (pa_cons ha hr hs) fun σ H Q h => by
    obtain ⟨H0, env, Hb, ds, r, sm, ef, q⟩ := h
    obtain ⟨da, db, ea, eb, eg⟩ := bind2 ef
    cases eg
    exact ⟨H0, env, Hb, da, r, sm, ea, fun x Hb1 H1 s1 ix => ⟨H0, env, Hb1, db, r.step s1, s1.c, eb, fun xs Hb2 H2 s2 ixs =>
      q (x :: xs) Hb2 H2 (s1.trans s2) (by simp only [IsL]; exact ⟨x, xs, rfl, ix.mono s2.b, ixs⟩)⟩⟩
def fTup (fs : En → Option (List D)) : En → Option D := fun env => (fs env).bind fun ds => if ds.length ≤ sizeLine then some (.tup ds) else none
def fLst (fs : En → Option (List D)) : En → Option D := fun env => (fs env).bind fun ds => if ds.length ≤ sizeLine then some (.lst ds) else none
theorem iteS {α : Type} {c : Prop} [Decidable c] {x y : α} (h : (if c then some x else none) = some y) : c ∧ x = y := by
  by_cases q : c
  · rw [if_pos q] at h
    exact ⟨q, Option.some.inj h⟩
  · rw [if_neg q] at h
    cases h
theorem is_tup_new {K : PySem.W.Frag} {Hb : Hp} {p : Addr} {ds : List D} {vs : List V} (hp : Hb p = none) (h : IsL K Hb ds vs) : Is K (upd Hb p (.tup vs)) (.tup ds) (.ref p) := by
  simp only [Is]
  exact ⟨p, vs, rfl, .inl (.inl upd_same), h.mono (same_new hp)⟩
theorem is_lst_new {K : PySem.W.Frag} {Hb : Hp} {p : Addr} {ds : List D} {vs : List V} (hp : Hb p = none) (h : IsL K Hb ds vs) : Is K (upd Hb p (.lst vs)) (.lst ds) (.ref p) := by
  simp only [Is]
  exact ⟨p, vs, rfl, upd_same, h.mono (same_new hp)⟩
theorem e_tup {x1} (h : PA X es (tA X.K fs)) : PE X (.Tuple es x1 pos) (tD X.K (fTup fs)) := PE_weak (pe_tup h) fun σ H Q hh => by
  obtain ⟨H0, env, Hb, d, r, sm, ef, q⟩ := hh
  obtain ⟨ds, es, eg⟩ := bind1 ef
  obtain ⟨hl, rfl⟩ := iteS eg
  exact ⟨H0, env, Hb, ds, r, sm, es, fun vs Hb1 H1 s1 ix => ⟨by rw [ix.length]; exact hl, fun p hp => q _ _ _ (s1.trans (Step.new s1.c hp)) (is_tup_new (s1.c.free hp) ix)⟩⟩
theorem e_lst (h : PA X es (tA X.K fs)) : PE X (.List es pos) (tD X.K (fLst fs)) := PE_weak (pe_lst h) fun σ H Q hh => by
  obtain ⟨H0, env, Hb, d, r, sm, ef, q⟩ := hh
  obtain ⟨ds, es, eg⟩ := bind1 ef
  obtain ⟨hl, rfl⟩ := iteS eg
  exact ⟨H0, env, Hb, ds, r, sm, es, fun vs Hb1 H1 s1 ix => ⟨by rw [ix.length]; exact hl, fun p hp => q _ _ _ (s1.trans (Step.new s1.c hp)) (is_lst_new (s1.c.free hp) ix)⟩⟩

/-! ### tests -/
def fB (fa : En → Option D) : En → Option Bool := fun env => (fa env).bind asB
def fAnd (fa fb : En → Option Bool) : En → Option Bool := fun env => (fa env).bind fun k => if k then fb env else some false
def fOr (fa fb : En → Option Bool) : En → Option Bool := fun env => (fa env).bind fun k => if k then some true else fb env
def fNot (fa : En → Option Bool) : En → Option Bool := fun env => (fa env).bind fun k => some (!k)
variable {ga gb : En → Option Bool} {rest : List Expr}
theorem tB_of {σ : L2.St} {H : Hp} {Q : Bool → Hp → Prop} (h : tT X.K (fB fa) σ H Q) : tB (tD X.K fa) σ H Q := by
  obtain ⟨H0, env, Hb, k, r, sm, ef, q⟩ := h
  obtain ⟨d, ed, eb⟩ := bind1 ef
  have hd := asB_some eb
  subst hd
  exact ⟨H0, env, Hb, _, r, sm, ed, fun v Hb' H' s iv => ⟨k, by simpa only [Is] using iv, q Hb' H' s⟩⟩
theorem t_val (h : PE X e (tD X.K fa)) (he : ∀ whole, isTrue e X.env whole = (do let v ← whole; standAt e.pos; holding [v] (truthy v)) := by intro _; rfl) : PT X e (tT X.K (fB fa)) :=
  PT_weak (pt_val h he) fun _ _ _ h => tB_of h
theorem t_cmp {op : CmpOp} {g : D → D → Option D} (ho : OpR X (compareOp op) (rD2 X.K g)) (ha : PE X a (tD X.K fa)) (hb : PE X b (tD X.K fb)) (hm : behindInMarks op b = false := by first | exact nobehind _ (by decide) (by decide) | rfl) :
    PT X (.Compare a [op] [b] pos) (tT X.K (fB (f2 g fa fb))) := PT_weak (pt_cmpR ho ha hb hm) fun σ H Q h => by
  obtain ⟨H0, env, Hb, k, r, sm, ef, q⟩ := h
  obtain ⟨d, ed, eb⟩ := bind1 ef
  have hd := asB_some eb
  subst hd
  exact t_op ⟨H0, env, Hb, _, r, sm, ed, fun v Hb' H' s iv => ⟨k, by simpa only [Is] using iv, q Hb' H' s⟩⟩
theorem t_and1 (ha : PT X a (tT X.K ga)) : PW X (.BoolOp .And [a] pos) (tT X.K ga) := pw_and1 ha
theorem t_or1 (ha : PT X a (tT X.K ga)) : PW X (.BoolOp .Or [a] pos) (tT X.K ga) := pw_or1 ha
theorem t_and (ha : PT X a (tT X.K ga)) (hb : PW X (.BoolOp .And (b :: rest) pos) (tT X.K gb)) : PW X (.BoolOp .And (a :: b :: rest) pos) (tT X.K (fAnd ga gb)) := PW_weak (pw_and ha hb) fun σ H Q h => by
  obtain ⟨H0, env, Hb, k, r, sm, ef, q⟩ := h
  obtain ⟨c, ec, eg⟩ := bind1 ef
  refine ⟨H0, env, Hb, c, r, sm, ec, fun Hb1 H1 s1 => ?_⟩
  cases c with
  | false =>
    simp at eg
    subst eg
    exact q Hb1 H1 s1
  | true =>
    simp at eg
    exact ⟨H0, env, Hb1, k, r.step s1, s1.c, eg, fun Hb2 H2 s2 => q Hb2 H2 (s1.trans s2)⟩
theorem t_or (ha : PT X a (tT X.K ga)) (hb : PW X (.BoolOp .Or (b :: rest) pos) (tT X.K gb)) : PW X (.BoolOp .Or (a :: b :: rest) pos) (tT X.K (fOr ga gb)) := PW_weak (pw_or ha hb) fun σ H Q h => by
  obtain ⟨H0, env, Hb, k, r, sm, ef, q⟩ := h
  obtain ⟨c, ec, eg⟩ := bind1 ef
  refine ⟨H0, env, Hb, c, r, sm, ec, fun Hb1 H1 s1 => ?_⟩
  cases c with
  | true =>
    simp at eg
    subst eg
    exact q Hb1 H1 s1
  | false =>
    simp at eg
    exact ⟨H0, env, Hb1, k, r.step s1, s1.c, eg, fun Hb2 H2 s2 => q Hb2 H2 (s1.trans s2)⟩
theorem t_not (ha : PT X a (tT X.K ga)) : PT X (.UnaryOp .Not a pos) (tT X.K (fNot ga)) := PT_weak (pt_not ha) fun σ H Q h => by
  obtain ⟨H0, env, Hb, k, r, sm, ef, q⟩ := h
  obtain ⟨c, ec, eg⟩ := bind1 ef
  cases eg
  exact ⟨H0, env, Hb, c, r, sm, ec, fun Hb1 H1 s1 => q Hb1 H1 s1⟩
/-- as values -/
def fAndV (fa fb : En → Option D) : En → Option D := fun env => ((fa env).bind asB).bind fun k => if k then fb env else some (.bl false)
def fOrV (fa fb : En → Option D) : En → Option D := fun env => ((fa env).bind asB).bind fun k => if k then some (.bl true) else fb env
def fNotV (fa : En → Option D) : En → Option D := fun env => ((fa env).bind asB).bind fun k => some (.bl (!k))
def fIf (fc : En → Option Bool) (fa fb : En → Option D) : En → Option D := fun env => (fc env).bind fun k => if k then fa env else fb env
theorem e_and (ha : PE X a (tD X.K fa)) (hb : PE X (.BoolOp .And (b :: rest) pos) (tD X.K fb)) : PE X (.BoolOp .And (a :: b :: rest) pos) (tD X.K (fAndV fa fb)) := PE_weak (pe_and ha hb) fun σ H Q h => by
  obtain ⟨H0, env, Hb, d, r, sm, ef, q⟩ := h
  obtain ⟨c, ec, eg⟩ := bind1 ef
  obtain ⟨z, ez, ec⟩ := bind1 ec
  have hz := asB_some ec
  subst hz
  refine ⟨H0, env, Hb, _, r, sm, ez, fun v Hb1 H1 s1 iv => ⟨c, by simpa only [Is] using iv, ?_⟩⟩
  cases c with
  | false =>
    simp at eg
    subst eg
    exact q _ Hb1 H1 s1 (by simp only [Is])
  | true =>
    simp at eg
    exact ⟨H0, env, Hb1, d, r.step s1, s1.c, eg, fun v' Hb2 H2 s2 iv' => q v' Hb2 H2 (s1.trans s2) iv'⟩
theorem e_or (ha : PE X a (tD X.K fa)) (hb : PE X (.BoolOp .Or (b :: rest) pos) (tD X.K fb)) : PE X (.BoolOp .Or (a :: b :: rest) pos) (tD X.K (fOrV fa fb)) := PE_weak (pe_or ha hb) fun σ H Q h => by
  obtain ⟨H0, env, Hb, d, r, sm, ef, q⟩ := h
  obtain ⟨c, ec, eg⟩ := bind1 ef
  obtain ⟨z, ez, ec⟩ := bind1 ec
  have hz := asB_some ec
  subst hz
  refine ⟨H0, env, Hb, _, r, sm, ez, fun v Hb1 H1 s1 iv => ⟨c, by simpa only [Is] using iv, ?_⟩⟩
  cases c with
  | true =>
    simp at eg
    subst eg
    exact q _ Hb1 H1 s1 (by simp only [Is])
  | false =>
    simp at eg
    exact ⟨H0, env, Hb1, d, r.step s1, s1.c, eg, fun v' Hb2 H2 s2 iv' => q v' Hb2 H2 (s1.trans s2) iv'⟩
theorem e_one {op} (ha : PE X a (tD X.K fa)) : PE X (.BoolOp op [a] pos) (tD X.K fa) := pe_one ha
theorem e_not (ha : PE X a (tD X.K fa)) : PE X (.UnaryOp .Not a pos) (tD X.K (fNotV fa)) := PE_weak (pe_not ha) fun σ H Q h => by
  obtain ⟨H0, env, Hb, d, r, sm, ef, q⟩ := h
  obtain ⟨c, ec, eg⟩ := bind1 ef
  obtain ⟨z, ez, ec⟩ := bind1 ec
  have hz := asB_some ec
  subst hz
  cases eg
  exact ⟨H0, env, Hb, _, r, sm, ez, fun v Hb1 H1 s1 iv => ⟨c, by simpa only [Is] using iv, q _ Hb1 H1 s1 (by simp only [Is])⟩⟩
theorem e_if {fc : En → Option Bool} (hc : PT X c (tT X.K fc)) (ha : PE X a (tD X.K fa)) (hb : PE X b (tD X.K fb)) : PE X (.IfExp c a b pos) (tD X.K (fIf fc fa fb)) := PE_weak (pe_ifExp hc ha hb) fun σ H Q h => by
  obtain ⟨H0, env, Hb, d, r, sm, ef, q⟩ := h
  obtain ⟨k, ec, eg⟩ := bind1 ef
  refine ⟨H0, env, Hb, _, r, sm, ec, fun Hb1 H1 s1 => ?_⟩
  cases k with
  | true =>
    simp at eg
    exact ⟨H0, env, Hb1, d, r.step s1, s1.c, eg, fun v' Hb2 H2 s2 iv' => q v' Hb2 H2 (s1.trans s2) iv'⟩
  | false =>
    simp at eg
    exact ⟨H0, env, Hb1, d, r.step s1, s1.c, eg, fun v' Hb2 H2 s2 iv' => q v' Hb2 H2 (s1.trans s2) iv'⟩
end
end Dn
set_option Elab.async false
set_option linter.all false
set_option maxRecDepth 100000
/-! Part B: operations on plain data. -/
namespace Dn
open PySem L2

/-! ### the library's own data -/
mutual
def toP : D → PyData
  | .non => .none
  | .bl b => .bool b
  | .int i => .int i
  | .str l => .str (S l)
  | .tup ds => .tuple (toPs ds)
  | .lst ds => .list (toPs ds)
  | .scr _ => .none
  | .adr _ => .none
  | .dct _ => .none
  | .own _ => .none
  | .ownd _ => .none
def toPs : List D → List PyData
  | [] => []
  | d :: ds => toP d :: toPs ds
end
def flat : D → Bool
  | .non => true
  | .bl _ => true
  | .int _ => true
  | .str _ => true
  | _ => false
def okN : Nat → D → Bool
  | 0, d => flat d
  | n + 1, .tup xs => xs.all fun x => okN n x
  | n + 1, .lst xs => xs.all fun x => okN n x
  | _ + 1, d => flat d
theorem toPs_map : ∀ ds : List D, toPs ds = ds.map toP
  | [] => rfl
  | d :: ds => by rw [toPs, toPs_map ds, List.map_cons]
mutual
theorem plain_toP : ∀ d : D, (toP d).plain = true
  | .non => by simp only [toP, PyData.plain]
  | .bl _ => by simp only [toP, PyData.plain]
  | .int _ => by simp only [toP, PyData.plain]
  | .str _ => by simp only [toP, PyData.plain]
  | .scr _ => by simp only [toP, PyData.plain]
  | .adr _ => by simp only [toP, PyData.plain]
  | .dct _ => by simp only [toP, PyData.plain]
  | .own _ => by simp only [toP, PyData.plain]
  | .ownd _ => by simp only [toP, PyData.plain]
  | .tup ds => by simp only [toP, PyData.plain]; exact plain_toPs ds
  | .lst ds => by simp only [toP, PyData.plain]; exact plain_toPs ds
theorem plain_toPs : ∀ ds : List D, PyData.plainAll (toPs ds) = true
  | [] => by simp only [toPs, PyData.plainAll]
  | d :: ds => by simp only [toPs, PyData.plainAll, plain_toP d, plain_toPs ds, Bool.and_self]
end
theorem flat_shape {d : D} (h : flat d = true) : d = .non ∨ (∃ b, d = .bl b) ∨ (∃ i, d = .int i) ∨ ∃ l, d = .str l := by
  cases d <;> first | (simp [flat] at h; done) | simp
theorem dp_flat {K : PySem.W.Frag} {H : Hp} {d : D} {v : V} (f : flat d = true) (h : Is K H d v) : Dp K H v (toP d) ∧ (toP d).depth = 0 := by
  rcases flat_shape f with e | ⟨b, e⟩ | ⟨b, e⟩ | ⟨b, e⟩ <;> subst e <;> simp only [Is] at h <;> subst h <;> simp only [toP]
  · exact ⟨.non, by simp only [PyData.depth]⟩
  · exact ⟨.bl _, by simp only [PyData.depth]⟩
  · exact ⟨.int _, by simp only [PyData.depth]⟩
  · exact ⟨.str _, by simp only [PyData.depth]⟩
theorem dp_all {K : PySem.W.Frag} {H : Hp} {n : Nat} (ih : ∀ (d : D) (v : V), okN n d = true → Is K H d v → Dp K H v (toP d) ∧ (toP d).depth ≤ n) :
    ∀ {ds : List D} {vs : List V}, (ds.all fun x => okN n x) = true → IsL K H ds vs → DpAll K H vs (toPs ds) ∧ PyData.depthAll (toPs ds) ≤ n
  | [], vs, _, h => by
    simp only [IsL] at h
    subst h
    simp only [toPs, PyData.depthAll]
    exact ⟨.nil, Nat.zero_le _⟩
  | d :: ds, vs, ok, h => by
    simp only [IsL] at h
    obtain ⟨v, r, e1, e2, e3⟩ := h
    subst e1
    rw [List.all_cons, Bool.and_eq_true] at ok
    obtain ⟨a1, a2⟩ := ih d v ok.1 e2
    obtain ⟨b1, b2⟩ := dp_all ih ok.2 e3
    simp only [toPs, PyData.depthAll]
    exact ⟨.cons a1 b1, Nat.max_le.mpr ⟨a2, b2⟩⟩
theorem dp_of {K : PySem.W.Frag} {H : Hp} : ∀ (n : Nat) (d : D) (v : V), okN n d = true → Is K H d v → Dp K H v (toP d) ∧ (toP d).depth ≤ n
  | 0, d, v, ok, h => by
    obtain ⟨a, b⟩ := dp_flat (show flat d = true from ok) h
    exact ⟨a, by omega⟩
  | n + 1, .tup ds, v, ok, h => by
    simp only [Is] at h
    obtain ⟨a, vs, e1, e2, e3⟩ := h
    subst e1
    obtain ⟨c1, c2⟩ := dp_all (dp_of n) (show (ds.all fun x => okN n x) = true from ok) e3
    simp only [toP, PyData.depth]
    exact ⟨.tup e2 c1, by omega⟩
  | n + 1, .lst ds, v, ok, h => by
    simp only [Is] at h
    obtain ⟨a, vs, e1, e2, e3⟩ := h
    subst e1
    obtain ⟨c1, c2⟩ := dp_all (dp_of n) (show (ds.all fun x => okN n x) = true from ok) e3
    simp only [toP, PyData.depth]
    exact ⟨.lst (.inl (.inl e2)) c1, by omega⟩
  | n + 1, .non, v, ok, h => by
    obtain ⟨a, b⟩ := dp_flat (show flat .non = true from ok) h
    exact ⟨a, by omega⟩
  | n + 1, .bl b, v, ok, h => by
    obtain ⟨a, b⟩ := dp_flat (show flat (.bl b) = true from ok) h
    exact ⟨a, by omega⟩
  | n + 1, .int b, v, ok, h => by
    obtain ⟨a, b⟩ := dp_flat (show flat (.int b) = true from ok) h
    exact ⟨a, by omega⟩
  | n + 1, .str b, v, ok, h => by
    obtain ⟨a, b⟩ := dp_flat (show flat (.str b) = true from ok) h
    exact ⟨a, by omega⟩
  | n + 1, .scr _, v, ok, h => absurd (show false = true from ok) (by decide)
  | n + 1, .adr _, v, ok, h => absurd (show false = true from ok) (by decide)
  | n + 1, .dct _, v, ok, h => absurd (show false = true from ok) (by decide)
  | n + 1, .own _, v, ok, h => absurd (show false = true from ok) (by decide)
  | n + 1, .ownd _, v, ok, h => absurd (show false = true from ok) (by decide)
abbrev ok60 (d : D) : Bool := okN 60 d
def eqv (a b : D) : Bool := PyData.eqv (toP a) (toP b)

/-! ### the functions -/
def addD : D → D → Option D
  | .int i, .int j => some (.int (i + j))
  | .str x, .str y => if x.length + y.length ≤ sizeLine then some (.str (x ++ y)) else none
  | .tup x, .tup y => if x.length + y.length ≤ sizeLine then some (.tup (x ++ y)) else none
  | .lst x, .lst y => if x.length + y.length ≤ sizeLine then some (.lst (x ++ y)) else none
  | _, _ => none
def subD : D → D → Option D
  | .int i, .int j => some (.int (i - j))
  | _, _ => none
def reps {α : Type} (x : List α) (n : Nat) : List α := (List.replicate n x).flatten
def mulD : D → D → Option D
  | .int i, .int j => if (-(2 ^ 64) < i ∧ i < 2 ^ 64) ∨ (-(2 ^ 64) < j ∧ j < 2 ^ 64) then some (.int (i * j)) else none
  | .str x, .int n => if x.length ≤ 1000 ∧ -1000 ≤ n ∧ n ≤ 1000 then some (.str (reps x n.toNat)) else none
  | .lst x, .int n => if x.length ≤ 1000 ∧ -1000 ≤ n ∧ n ≤ 1000 then some (.lst (reps x n.toNat)) else none
  | .tup x, .int n => if x ≠ [] ∧ x.length ≤ 1000 ∧ 2 ≤ n ∧ n ≤ 1000 then some (.tup (reps x n.toNat)) else none
  | _, _ => none
def fdivD : D → D → Option D
  | .int i, .int j => if 0 < j ∧ j < 1073741824 then some (.int (i / j)) else none
  | _, _ => none
def modD : D → D → Option D
  | .int i, .int j => if 0 < j then some (.int (i % j)) else none
  | _, _ => none
def powD : D → D → Option D
  | .int i, .int j => if 0 ≤ j ∧ j ≤ 1000000 ∧ i.natAbs < 2 ^ 64 then some (.int (i ^ j.toNat)) else none
  | _, _ => none
def negD : D → Option D
  | .int i => some (.int (-i))
  | _ => none
def eqD (a b : D) : Option D := if ok60 a = true ∧ ok60 b = true then some (.bl (eqv a b)) else none
def neD (a b : D) : Option D := if ok60 a = true ∧ ok60 b = true then some (.bl (!eqv a b)) else none
def ltD : D → D → Option D
  | .int i, .int j => some (.bl (decide (i < j)))
  | .str i, .str j => some (.bl (decide (i < j)))
  | _, _ => none
def leD : D → D → Option D
  | .int i, .int j => some (.bl (decide (i ≤ j)))
  | .str i, .str j => some (.bl (!decide (j < i)))
  | _, _ => none
def gtD : D → D → Option D
  | .int i, .int j => some (.bl (decide (j < i)))
  | .str i, .str j => some (.bl (decide (j < i)))
  | _, _ => none
def geD : D → D → Option D
  | .int i, .int j => some (.bl (decide (j ≤ i)))
  | .str i, .str j => some (.bl (!decide (i < j)))
  | _, _ => none
/-- x in c: a sign in a text, a thing in a tuple or list, a text in a dict -/
def inB : D → D → Option Bool
  | .str [c], .str z => some (decide (c ∈ z))
  | x, .tup ds => if ok60 x = true ∧ (ds.all fun d => okN 60 d) = true then some (ds.any fun d => eqv d x) else none
  | x, .lst ds => if ok60 x = true ∧ (ds.all fun d => okN 60 d) = true then some (ds.any fun d => eqv d x) else none
  | _, _ => none
def inD (x c : D) : Option D := (inB x c).bind fun k => some (.bl k)
def ninD (x c : D) : Option D := (inB x c).bind fun k => some (.bl (!k))
def isD : D → D → Option D
  | .bl a, .bl b => some (.bl (decide (a = b)))
  | d, .non => match d with
    | .own _ => none
    | .ownd _ => none
    | .non => some (.bl true)
    | _ => some (.bl false)
  | _, _ => none
def isnD : D → D → Option D
  | .bl a, .bl b => some (.bl (!decide (a = b)))
  | d, .non => match d with
    | .own _ => none
    | .ownd _ => none
    | .non => some (.bl false)
    | _ => some (.bl true)
  | _, _ => none
def ixD : D → D → Option D
  | .tup xs, .int i => atI xs i
  | .lst xs, .int i => atI xs i
  | .str l, .int i => if l.length ≤ sizeLine then (atI l i).bind fun c => some (.str [c]) else none
  | .scr ns, .int i => (atI ns i).bind fun n => some (.int n)
  | _, _ => none
def cut {α : Type} (xs : List α) (lo hi : Option Int) : List α := (xs.drop (HT.sIx xs.length 0 lo)).take (HT.sIx xs.length xs.length hi - HT.sIx xs.length 0 lo)
def slD : D → Option Int → Option Int → Option D
  | .tup xs, lo, hi => some (.tup (cut xs lo hi))
  | .lst xs, lo, hi => some (.lst (cut xs lo hi))
  | .str l, lo, hi => if l.length ≤ sizeLine then some (.str (cut l lo hi)) else none
  | _, _, _ => none

section
variable {X : Cx}
theorem is_up {K : PySem.W.Frag} {Hb H : Hp} (sm : Same Hb H) {d : D} {v : V} (h : Is K Hb d v) : Is K H d v := h.mono sm

theorem S_len (l : List Nat) : (S l).length = l.length := by simp [S, Str.length]
theorem S_app (a b : List Nat) : S a ++ S b = S (a ++ b) := SX.S_cat a b
theorem o_add : OpR X (binaryOp .Add) (rD2 X.K addD) := by
  intro pins s σ H x y v u Q I rx ry h
  obtain ⟨Hb, a, b, d, sm, ia, ib, eg, q⟩ := h
  unfold addD at eg
  split at eg
  · simp only [Is] at ia ib
    subst ia ib
    cases eg
    exact op_add pins s σ H _ _ v u Q I rx ry ⟨_, _, rfl, rfl, q _ Hb H (Step.refl sm) (by simp only [Is])⟩
  · simp only [Is] at ia ib
    subst ia ib
    obtain ⟨hl, rfl⟩ := iteS eg
    refine op_add_str pins s σ H _ _ v u Q I rx ry ⟨_, _, rfl, rfl, by rw [S_len, S_len]; exact hl, ?_⟩
    rw [S_app]
    exact q _ Hb H (Step.refl sm) (by simp only [Is])
  · have ia' := is_up sm ia
    have ib' := is_up sm ib
    simp only [Is] at ia ib ia' ib'
    obtain ⟨p, xs, rfl, hx, lx⟩ := ia
    obtain ⟨p', ys, rfl, hy, ly⟩ := ib
    obtain ⟨hl, rfl⟩ := iteS eg
    refine op_catA pins s σ H _ _ v u Q I rx ry ⟨p, p', xs, ys, rfl, rfl, sq_mono sm hx, sq_mono sm hy, by rw [lx.length, ly.length]; exact hl, fun e => ?_, fun e1 e2 => ?_, fun e1 e2 r hr => ?_⟩
    · refine q _ Hb H (Step.refl sm) ?_
      simp only [Is]
      have := lx.append ly
      rw [e] at this
      exact ⟨p', ys, rfl, hy, this⟩
    · refine q _ Hb H (Step.refl sm) ?_
      simp only [Is]
      have := lx.append ly
      rw [e2, List.append_nil] at this
      exact ⟨p, xs, rfl, hx, this⟩
    · exact q _ _ _ (Step.new sm hr) (is_tup_new (sm.free hr) (lx.append ly))
  · simp only [Is] at ia ib
    obtain ⟨p, xs, rfl, hx, lx⟩ := ia
    obtain ⟨p', ys, rfl, hy, ly⟩ := ib
    obtain ⟨hl, rfl⟩ := iteS eg
    exact op_cat pins s σ H _ _ v u Q I rx ry ⟨p, p', xs, ys, rfl, rfl, sm _ _ hx, sm _ _ hy, by rw [lx.length, ly.length]; exact hl, fun r hr => q _ _ _ (Step.new sm hr) (is_lst_new (sm.free hr) (lx.append ly))⟩
  · cases eg
theorem o_sub : OpR X (binaryOp .Sub) (rD2 X.K subD) := by
  intro pins s σ H x y v u Q I rx ry h
  obtain ⟨Hb, a, b, d, sm, ia, ib, eg, q⟩ := h
  unfold subD at eg
  split at eg
  · simp only [Is] at ia ib
    subst ia ib
    cases eg
    exact op_sub pins s σ H _ _ v u Q I rx ry ⟨_, _, rfl, rfl, q _ Hb H (Step.refl sm) (by simp only [Is])⟩
  · cases eg
theorem size1000 : 1000000 ≤ sizeLine := by decide
theorem reps_len {α : Type} (x : List α) (n : Nat) : (reps x n).length = n * x.length := by
  unfold reps
  induction n with
  | zero => simp
  | succ n ih => rw [List.replicate_succ, List.flatten_cons, List.length_append, ih, Nat.succ_mul, Nat.add_comm]
theorem fold_cat (z : Array Nat) : ∀ (n : Nat) (acc : List Nat), ((List.replicate n z).foldl (· ++ ·) acc.toArray) = (acc ++ (List.replicate n z.toList).flatten).toArray
  | 0, acc => by simp
  | n + 1, acc => by
    rw [List.replicate_succ, List.foldl_cons, List.replicate_succ, List.flatten_cons]
    have : acc.toArray ++ z = (acc ++ z.toList).toArray := by simp
    rw [this, fold_cat z n, List.append_assoc]
theorem reps_nil {α : Type} (n : Nat) : reps ([] : List α) n = [] := by
  apply List.eq_nil_of_length_eq_zero
  rw [reps_len]
  simp
theorem mul_S (l : List Nat) (n : Int) : Txt.mul (S l) n = S (reps l n.toNat) := by
  unfold Txt.mul
  by_cases h1 : n < 1
  · rw [if_pos h1, show n.toNat = 0 by omega]
    rfl
  · rw [if_neg h1]
    by_cases h2 : (n == 1 || (S l).length == 0) = true
    · rw [if_pos h2]
      rw [Bool.or_eq_true] at h2
      rcases h2 with h2 | h2
      · have : n = 1 := by simpa using h2
        subst this
        simp [reps]
      · rw [S_len] at h2
        have : l = [] := by
          cases l with
          | nil => rfl
          | cons a b => simp at h2
        subst this
        rw [reps_nil]
    · rw [if_neg h2]
      have e := fold_cat l.toArray n.toNat []
      unfold reps
      rw [show (#[] : Array Nat) = ([] : List Nat).toArray from rfl, e]
      simp [S]
theorem mulok_S (l : List Nat) (n : Int) (h1 : l.length ≤ 1000) (h2 : -1000 ≤ n) (h3 : n ≤ 1000) : MulOk (S l) n := by
  refine ⟨?_, fun a _ => ?_, fun a _ => ?_⟩
  · rw [Bool.or_eq_false_iff]
    exact ⟨decide_eq_false (by omega), decide_eq_false (by omega)⟩
  · rw [S_len]
    have hb : (1000 : Int) ≤ (2 ^ 63 - 1) / n := by
      rw [Int.le_ediv_iff_mul_le (by omega)]
      omega
    omega
  · rw [S_len]
    have : l.length * n.toNat ≤ 1000 * 1000 := Nat.mul_le_mul h1 (by omega)
    show decide (_ > sizeLine) = false
    have := size1000
    exact decide_eq_false (by omega)
theorem o_mul : OpR X (binaryOp .Mult) (rD2 X.K mulD) := by
  intro pins s σ H x y v u Q I rx ry h
  obtain ⟨Hb, a, b, d, sm, ia, ib, eg, q⟩ := h
  unfold mulD at eg
  split at eg
  · simp only [Is] at ia ib
    subst ia ib
    obtain ⟨hc, rfl⟩ := iteS eg
    exact op_mul pins s σ H _ _ v u Q I rx ry ⟨_, _, rfl, rfl, hc, q _ Hb H (Step.refl sm) (by simp only [Is])⟩
  · simp only [Is] at ia ib
    subst ia ib
    obtain ⟨⟨h1, h2, h3⟩, rfl⟩ := iteS eg
    obtain ⟨t, rfl⟩ := rx
    obtain ⟨t', rfl⟩ := ry
    refine SB.mul (mulok_S _ _ h1 h2 h3) fun t'' k => ⟨.str _, H, I.tok _, ⟨t'', rfl⟩, ?_⟩
    rw [mul_S]
    exact q _ Hb H (Step.refl sm) (by simp only [Is])
  · simp only [Is] at ia ib
    obtain ⟨p, xs, rfl, hx, lx⟩ := ia
    subst ib
    obtain ⟨⟨h1, h2, h3⟩, rfl⟩ := iteS eg
    refine op_rep pins s σ H _ _ v u Q I rx ry ⟨p, _, xs, rfl, rfl, sm _ _ hx, by omega, by omega, ?_, fun r hr => q _ _ _ (Step.new sm hr) (is_lst_new (sm.free hr) ?_)⟩
    · refine Nat.le_trans ?_ size1000
      rw [lx.length]
      refine Nat.le_trans (Nat.mul_le_mul_left _ (?_ : _ ≤ 1000)) (by omega)
      omega
    · unfold reps
      generalize Int.toNat _ = m
      induction m with
      | zero => simp [IsL]
      | succ m ih =>
        rw [List.replicate_succ, List.replicate_succ, List.flatten_cons, List.flatten_cons]
        exact lx.append ih
  · simp only [Is] at ia ib
    obtain ⟨p, xs, rfl, hx, lx⟩ := ia
    subst ib
    obtain ⟨⟨h0, h1, h2, h3⟩, rfl⟩ := iteS eg
    refine op_repT pins s σ H _ _ v u Q I rx ry ⟨p, _, xs, rfl, rfl, sq_mono sm hx, ?_, by omega, by omega, by rw [lx.length]; exact h1, fun r hr => q _ _ _ (Step.new sm hr) (is_tup_new (sm.free hr) ?_)⟩
    · intro e
      have := lx.length
      rw [e] at this
      exact h0 (List.eq_nil_of_length_eq_zero this.symm)
    · unfold reps
      generalize Int.toNat _ = m
      induction m with
      | zero => simp [IsL]
      | succ m ih =>
        rw [List.replicate_succ, List.replicate_succ, List.flatten_cons, List.flatten_cons]
        exact lx.append ih
  · cases eg
theorem o_fdiv : OpR X (binaryOp .FloorDiv) (rD2 X.K fdivD) := by
  intro pins s σ H x y v u Q I rx ry h
  obtain ⟨Hb, a, b, d, sm, ia, ib, eg, q⟩ := h
  unfold fdivD at eg
  split at eg
  · simp only [Is] at ia ib
    subst ia ib
    obtain ⟨hc, rfl⟩ := iteS eg
    exact op_fdiv pins s σ H _ _ v u Q I rx ry ⟨_, _, rfl, rfl, hc, q _ Hb H (Step.refl sm) (by simp only [Is])⟩
  · cases eg
theorem o_mod : OpR X (binaryOp .Mod) (rD2 X.K modD) := by
  intro pins s σ H x y v u Q I rx ry h
  obtain ⟨Hb, a, b, d, sm, ia, ib, eg, q⟩ := h
  unfold modD at eg
  split at eg
  · simp only [Is] at ia ib
    subst ia ib
    obtain ⟨hc, rfl⟩ := iteS eg
    exact op_mod pins s σ H _ _ v u Q I rx ry ⟨_, _, rfl, rfl, hc, q _ Hb H (Step.refl sm) (by simp only [Is])⟩
  · cases eg
theorem o_pow : OpR X (binaryOp .Pow) (rD2 X.K powD) := by
  intro pins s σ H x y v u Q I rx ry h
  obtain ⟨Hb, a, b, d, sm, ia, ib, eg, q⟩ := h
  unfold powD at eg
  split at eg
  · simp only [Is] at ia ib
    subst ia ib
    obtain ⟨hc, rfl⟩ := iteS eg
    exact op_pow pins s σ H _ _ v u Q I rx ry ⟨_, _, rfl, rfl, hc, q _ Hb H (Step.refl sm) (by simp only [Is])⟩
  · cases eg
theorem o_neg : UnR X (unaryOp .USub) (rD1 X.K negD) := by
  intro pins s σ H x v Q I rx h
  obtain ⟨Hb, a, d, sm, ia, eg, q⟩ := h
  unfold negD at eg
  split at eg
  · simp only [Is] at ia
    subst ia
    cases eg
    exact un_neg pins s σ H _ v Q I rx ⟨_, rfl, q _ Hb H (Step.refl sm) (by simp only [Is])⟩
  · cases eg
theorem o_eq (hu : X.A.units + 64 < cLine) : OpR X (compareOp .Eq) (rD2 X.K eqD) := by
  intro pins s σ H x y v u Q I rx ry h
  obtain ⟨Hb, a, b, d, sm, ia, ib, eg, q⟩ := h
  obtain ⟨⟨oa, ob⟩, rfl⟩ := iteS eg
  obtain ⟨a1, a2⟩ := dp_of 60 a x oa (is_up sm ia)
  obtain ⟨b1, b2⟩ := dp_of 60 b y ob (is_up sm ib)
  obtain ⟨as, r1⟩ := Dp.reads I _ x v a1 rx
  obtain ⟨bs, r2⟩ := Dp.reads I _ y u b1 ry
  exact PySem.SeqAt.eq_plain r1 r2 (plain_toP a) (plain_toP b) (by omega) ⟨.bl _, H, I, rfl, q _ Hb H (Step.refl sm) (by simp only [Is]; rfl)⟩
theorem o_ne (hu : X.A.units + 64 < cLine) : OpR X (compareOp .NotEq) (rD2 X.K neD) := by
  intro pins s σ H x y v u Q I rx ry h
  obtain ⟨Hb, a, b, d, sm, ia, ib, eg, q⟩ := h
  obtain ⟨⟨oa, ob⟩, rfl⟩ := iteS eg
  obtain ⟨a1, a2⟩ := dp_of 60 a x oa (is_up sm ia)
  obtain ⟨b1, b2⟩ := dp_of 60 b y ob (is_up sm ib)
  obtain ⟨as, r1⟩ := Dp.reads I _ x v a1 rx
  obtain ⟨bs, r2⟩ := Dp.reads I _ y u b1 ry
  exact PySem.SeqAt.ne_plain r1 r2 (plain_toP a) (plain_toP b) (by omega) ⟨.bl _, H, I, rfl, q _ Hb H (Step.refl sm) (by simp only [Is]; rfl)⟩
theorem o_lt : OpR X (compareOp .Lt) (rD2 X.K ltD) := by
  intro pins s σ H x y v u Q I rx ry h
  obtain ⟨Hb, a, b, d, sm, ia, ib, eg, q⟩ := h
  unfold ltD at eg
  split at eg
  · simp only [Is] at ia ib
    subst ia ib
    cases eg
    exact op_lt pins s σ H _ _ v u Q I rx ry ⟨_, _, rfl, rfl, q _ Hb H (Step.refl sm) (by simp only [Is])⟩
  · simp only [Is] at ia ib
    subst ia ib
    cases eg
    exact op_lt_str pins s σ H _ _ v u Q I rx ry ⟨_, _, rfl, rfl, q _ Hb H (Step.refl sm) (by simp only [Is, S])⟩
  · cases eg
theorem o_le : OpR X (compareOp .LtE) (rD2 X.K leD) := by
  intro pins s σ H x y v u Q I rx ry h
  obtain ⟨Hb, a, b, d, sm, ia, ib, eg, q⟩ := h
  unfold leD at eg
  split at eg
  · simp only [Is] at ia ib
    subst ia ib
    cases eg
    exact op_le pins s σ H _ _ v u Q I rx ry ⟨_, _, rfl, rfl, q _ Hb H (Step.refl sm) (by simp only [Is])⟩
  · simp only [Is] at ia ib
    subst ia ib
    cases eg
    exact op_le_str pins s σ H _ _ v u Q I rx ry ⟨_, _, rfl, rfl, q _ Hb H (Step.refl sm) (by simp only [Is, S])⟩
  · cases eg
theorem o_gt : OpR X (compareOp .Gt) (rD2 X.K gtD) := by
  intro pins s σ H x y v u Q I rx ry h
  obtain ⟨Hb, a, b, d, sm, ia, ib, eg, q⟩ := h
  unfold gtD at eg
  split at eg
  · simp only [Is] at ia ib
    subst ia ib
    cases eg
    exact op_gt pins s σ H _ _ v u Q I rx ry ⟨_, _, rfl, rfl, q _ Hb H (Step.refl sm) (by simp only [Is])⟩
  · simp only [Is] at ia ib
    subst ia ib
    cases eg
    exact op_gt_str pins s σ H _ _ v u Q I rx ry ⟨_, _, rfl, rfl, q _ Hb H (Step.refl sm) (by simp only [Is, S])⟩
  · cases eg
theorem o_ge : OpR X (compareOp .GtE) (rD2 X.K geD) := by
  intro pins s σ H x y v u Q I rx ry h
  obtain ⟨Hb, a, b, d, sm, ia, ib, eg, q⟩ := h
  unfold geD at eg
  split at eg
  · simp only [Is] at ia ib
    subst ia ib
    cases eg
    exact op_ge pins s σ H _ _ v u Q I rx ry ⟨_, _, rfl, rfl, q _ Hb H (Step.refl sm) (by simp only [Is])⟩
  · simp only [Is] at ia ib
    subst ia ib
    cases eg
    exact op_ge_str pins s σ H _ _ v u Q I rx ry ⟨_, _, rfl, rfl, q _ Hb H (Step.refl sm) (by simp only [Is, S])⟩
  · cases eg
theorem any_toPs (x : D) : ∀ ds : List D, ((toPs ds).any fun y => PyData.eqv y (toP x)) = ds.any fun d => eqv d x
  | [] => by simp [toPs]
  | d :: ds => by
    rw [toPs, List.any_cons, List.any_cons, any_toPs x ds]
    rfl
theorem in_core (neg : Bool) (hu : X.A.units + 65 < cLine) : OpR X (compareOp (if neg then .NotIn else .In)) (rD2 X.K fun x c => (inB x c).bind fun k => some (.bl (if neg then !k else k))) := by
  intro pins s σ H x y v u Q I rx ry h
  obtain ⟨Hb, a, b, d, sm, ia, ib, eg, q⟩ := h
  obtain ⟨k, ek, ed⟩ := bind1 eg
  cases ed
  unfold inB at ek
  split at ek
  · simp only [Is] at ia ib
    subst ia ib
    cases ek
    cases neg with
    | false => exact op_in_sign pins s σ H _ _ v u Q I rx ry ⟨_, _, rfl, rfl, q _ Hb H (Step.refl sm) (by simp [Is, S])⟩
    | true => exact op_notIn_sign pins s σ H _ _ v u Q I rx ry ⟨_, _, rfl, rfl, q _ Hb H (Step.refl sm) (by simp [Is, S])⟩
  · obtain ⟨⟨oa, ob⟩, rfl⟩ := iteS ek
    obtain ⟨a1, a2⟩ := dp_of 60 _ x oa (is_up sm ia)
    obtain ⟨b1, b2⟩ := dp_of 61 _ y (show okN 61 (.tup _) = true from ob) (is_up sm ib)
    obtain ⟨as, r1⟩ := Dp.reads I _ x v a1 rx
    obtain ⟨bs, r2⟩ := Dp.reads I _ y u b1 ry
    rw [toP] at r2
    cases neg with
    | false => exact PySem.SeqAt.in_tuple_data r2 r1 (plain_toPs _) (plain_toP _) (by omega) ⟨.bl _, H, I, rfl, q _ Hb H (Step.refl sm) (by simp only [Is]; rw [any_toPs]; rfl)⟩
    | true => exact PySem.SeqAt.notIn_tuple_data r2 r1 (plain_toPs _) (plain_toP _) (by omega) ⟨.bl _, H, I, rfl, q _ Hb H (Step.refl sm) (by simp only [Is]; rw [any_toPs]; rfl)⟩
  · obtain ⟨⟨oa, ob⟩, rfl⟩ := iteS ek
    obtain ⟨a1, a2⟩ := dp_of 60 _ x oa (is_up sm ia)
    obtain ⟨b1, b2⟩ := dp_of 61 _ y (show okN 61 (.lst _) = true from ob) (is_up sm ib)
    obtain ⟨as, r1⟩ := Dp.reads I _ x v a1 rx
    obtain ⟨bs, r2⟩ := Dp.reads I _ y u b1 ry
    rw [toP] at r2
    cases neg with
    | false => exact PySem.SeqAt.in_list_data r2 r1 (plain_toPs _) (plain_toP _) (by omega) ⟨.bl _, H, I, rfl, q _ Hb H (Step.refl sm) (by simp only [Is]; rw [any_toPs]; rfl)⟩
    | true => exact PySem.SeqAt.notIn_list_data r2 r1 (plain_toPs _) (plain_toP _) (by omega) ⟨.bl _, H, I, rfl, q _ Hb H (Step.refl sm) (by simp only [Is]; rw [any_toPs]; rfl)⟩
  · cases ek
theorem o_in (hu : X.A.units + 65 < cLine) : OpR X (compareOp .In) (rD2 X.K inD) := in_core false hu
theorem o_nin (hu : X.A.units + 65 < cLine) : OpR X (compareOp .NotIn) (rD2 X.K ninD) := in_core true hu
theorem is_ne_non {K : PySem.W.Frag} {H : Hp} {d : D} {v : V} (h : Is K H d v) (hd : d ≠ .non) : v ≠ .non := by
  cases d <;> simp only [Is] at h
  · exact absurd rfl hd
  · rw [h]; simp
  · rw [h]; simp
  · rw [h]; simp
  · obtain ⟨a, _, e, _⟩ := h; rw [e]; simp
  · obtain ⟨a, _, e, _⟩ := h; rw [e]; simp
  · obtain ⟨a, e, _⟩ := h; rw [e]; simp
  · rw [h]; simp
  · obtain ⟨a, _, e, _⟩ := h; rw [e]; simp
theorem isD_non {d z : D} (h : isD d .non = some z) : z = .bl (match d with | .non => true | _ => false) := by
  cases d <;> simp [isD] at h <;> exact h.symm
theorem isnD_non {d z : D} (h : isnD d .non = some z) : z = .bl (match d with | .non => false | _ => true) := by
  cases d <;> simp [isnD] at h <;> exact h.symm
theorem o_is : OpR X (compareOp .Is) (rD2 X.K isD) := by
  intro pins s σ H x y v u Q I rx ry h
  obtain ⟨Hb, a, b, d, sm, ia, ib, eg, q⟩ := h
  by_cases hb : b = .non
  · subst hb
    have hd := isD_non eg
    have ib' := ib
    simp only [Is] at ib'
    subst ib'
    refine op_isN pins s σ H _ _ v u Q I rx ry ⟨rfl, q _ Hb H (Step.refl sm) ?_⟩
    rw [hd]
    simp only [Is]
    by_cases ha : a = .non
    · subst ha
      simp only [Is] at ia
      rw [ia]
      rfl
    · rw [decide_eq_false (is_ne_non ia ha)]
      cases a <;> first | rfl | exact absurd rfl ha
  · cases a <;> cases b <;> first | (simp [isD] at eg; done) | exact absurd rfl hb | skip
    simp only [Is] at ia ib
    subst ia ib
    simp [isD] at eg
    subst eg
    exact op_isBl pins s σ H _ _ v u Q I rx ry ⟨_, _, rfl, rfl, q _ Hb H (Step.refl sm) (by simp only [Is])⟩
theorem o_isn : OpR X (compareOp .IsNot) (rD2 X.K isnD) := by
  intro pins s σ H x y v u Q I rx ry h
  obtain ⟨Hb, a, b, d, sm, ia, ib, eg, q⟩ := h
  by_cases hb : b = .non
  · subst hb
    have hd := isnD_non eg
    have ib' := ib
    simp only [Is] at ib'
    subst ib'
    refine op_notN pins s σ H _ _ v u Q I rx ry ⟨rfl, q _ Hb H (Step.refl sm) ?_⟩
    rw [hd]
    simp only [Is]
    by_cases ha : a = .non
    · subst ha
      simp only [Is] at ia
      rw [ia]
      rfl
    · rw [decide_eq_false (is_ne_non ia ha)]
      cases a <;> first | rfl | exact absurd rfl ha
  · cases a <;> cases b <;> first | (simp [isnD] at eg; done) | exact absurd rfl hb | skip
    simp only [Is] at ia ib
    subst ia ib
    simp [isnD] at eg
    subst eg
    exact op_notBl pins s σ H _ _ v u Q I rx ry ⟨_, _, rfl, rfl, q _ Hb H (Step.refl sm) (by simp only [Is])⟩

/-! ### subscripts and slices -/
theorem atI_is {K : PySem.W.Frag} {H : Hp} {ds : List D} {vs : List V} {i : Int} {d : D} (l : IsL K H ds vs) (h : atI ds i = some d) : ∃ v, atI vs i = some v ∧ Is K H d v := by
  unfold atI at h ⊢
  rw [l.length]
  cases e : ixN ds.length i with
  | none => rw [e] at h; cases h
  | some j =>
    rw [e] at h
    exact l.get h
theorem x_seq : IxR X (rD2 X.K ixD) := by
  intro value slice pins s σ H x y v u Q I rx ry h hs
  obtain ⟨Hb, a, b, d, sm, ia, ib, eg, q⟩ := h
  unfold ixD at eg
  split at eg
  · simp only [Is] at ia ib
    obtain ⟨p, xs, rfl, hx, lx⟩ := ia
    subst ib
    obtain ⟨w, e1, e2⟩ := atI_is lx eg
    exact ix_tup value slice pins s σ H _ _ v u Q I rx ry ⟨p, xs, _, w, rfl, rfl, sq_mono sm hx, e1, q _ Hb H (Step.refl sm) e2⟩ hs
  · simp only [Is] at ia ib
    obtain ⟨p, xs, rfl, hx, lx⟩ := ia
    subst ib
    obtain ⟨w, e1, e2⟩ := atI_is lx eg
    exact ix_list value slice pins s σ H _ _ v u Q I rx ry ⟨p, xs, _, w, rfl, rfl, .inl (.inl (sm _ _ hx)), e1, q _ Hb H (Step.refl sm) e2⟩ hs
  · simp only [Is] at ia ib
    subst ia ib
    split at eg
    · rename_i hl
      obtain ⟨c, ec, ed⟩ := bind1 eg
      cases ed
      exact ix_str value slice pins s σ H _ _ v u Q I rx ry ⟨_, _, c, rfl, rfl, by rw [S_len]; exact hl, ec, q _ Hb H (Step.refl sm) (by simp only [Is, S])⟩ hs
    · cases eg
  · simp only [Is] at ia ib
    obtain ⟨p, rfl, hx⟩ := ia
    subst ib
    obtain ⟨n, en, ed⟩ := bind1 eg
    cases ed
    refine ix_list value slice pins s σ H _ _ v u Q I rx ry ⟨p, _, _, .int n, rfl, rfl, sm.seq hx, ?_, q _ Hb H (Step.refl sm) (by simp only [Is])⟩ hs
    unfold atI at en ⊢
    rw [List.length_map]
    cases e : ixN _ _ with
    | none => rw [e] at en; cases en
    | some j =>
      rw [e] at en
      simp only [Option.bind_some] at en ⊢
      rw [List.getElem?_map, en]
      rfl
  · cases eg
theorem cut_is {K : PySem.W.Frag} {H : Hp} {ds : List D} {vs : List V} (l : IsL K H ds vs) (lo hi : Option Int) : IsL K H (cut ds lo hi) (cutV vs lo hi) := by
  unfold cut cutV
  rw [l.length]
  exact (l.drop _).take _
def rDS (K : PySem.W.Frag) (g : D → Option Int → Option Int → Option D) : V → Option Int → Option Int → Hp → VK → Prop := fun x lo hi H Q => ∃ Hb a d, Same Hb H ∧ Is K Hb a x ∧ g a lo hi = some d ∧ ∀ v Hb' H', Step Hb H Hb' H' → Is K Hb' d v → Q v H'
theorem x_sl : SlR X (rDS X.K slD) := by
  intro pins s σ H x v vl vu lo hi sl Q I rx hs pl pu h
  obtain ⟨Hb, a, d, sm, ia, eg, q⟩ := h
  unfold slD at eg
  split at eg
  · simp only [Is] at ia
    obtain ⟨p, xs, rfl, hx, lx⟩ := ia
    cases eg
    refine sl_tupA pins s σ H _ v vl vu lo hi sl Q I rx hs pl pu ⟨p, xs, rfl, sq_mono sm hx, fun e => ?_, fun _ r hr => ?_⟩
    · refine q _ Hb H (Step.refl sm) ?_
      simp only [Is]
      refine ⟨p, xs, rfl, hx, ?_⟩
      have := cut_is lx lo hi
      unfold cutV at this
      rw [e.1, e.2, List.drop_zero, Nat.sub_zero, List.take_length] at this
      exact this
    · exact q _ _ _ (Step.new sm hr) (is_tup_new (sm.free hr) (cut_is lx lo hi))
  · simp only [Is] at ia
    obtain ⟨p, xs, rfl, hx, lx⟩ := ia
    cases eg
    exact sl_list pins s σ H _ v vl vu lo hi sl Q I rx hs pl pu ⟨p, xs, rfl, .inl (.inl (sm _ _ hx)), fun r hr => q _ _ _ (Step.new sm hr) (is_lst_new (sm.free hr) (cut_is lx lo hi))⟩
  · simp only [Is] at ia
    subst ia
    obtain ⟨hl, rfl⟩ := iteS eg
    refine sl_str pins s σ H _ v vl vu lo hi sl Q I rx hs pl pu ⟨_, rfl, by rw [S_len]; exact hl, q _ Hb H (Step.refl sm) ?_⟩
    simp only [Is, cutS, cut, S, Str.length, List.size_toArray]
  · cases eg
variable {a b e : Expr} {pos p2 : Pos} {fa fb : En → Option D} {lo hi : Option Expr} {fl fh : En → Option (Option Int)}
theorem e_ix (ha : PE X a (tD X.K fa)) (hb : PE X b (tD X.K fb)) (hs : PlainIx b := by exact fun _ _ => rfl) : PE X (.Subscript a b pos) (tD X.K (f2 ixD fa fb)) :=
  PE_weak (pe_ix x_seq ha hb hs) fun _ _ _ h => t_op h
def fPo (fa : En → Option D) : En → Option (Option Int) := fun env => ((fa env).bind asI).bind fun i => some (some i)
def fNo : En → Option (Option Int) := fun _ => some none
theorem PO_weak {o : Option Expr} {t t' : TO} (h : PO X o t) (w : ∀ σ H Q, t' σ H Q → t σ H Q) : PO X o t' := ⟨fun pins s σ H Q I q => h.run pins s σ H Q I (w σ H Q q)⟩
theorem p_no : PO X none (tO X.K fNo) := PO_weak po_none fun σ H Q h => by
  obtain ⟨H0, env, Hb, o, r, sm, ef, q⟩ := h
  cases ef
  exact q Hb H (Step.refl sm)
theorem p_so (ha : PE X a (tD X.K fa)) : PO X (some a) (tO X.K (fPo fa)) := PO_weak (po_some ha) fun σ H Q h => by
  obtain ⟨H0, env, Hb, o, r, sm, ef, q⟩ := h
  obtain ⟨i, ei, ef⟩ := bind1 ef
  obtain ⟨d, ed, ei⟩ := bind1 ei
  have hd := asI_some ei
  subst hd
  cases ef
  exact ⟨H0, env, Hb, _, r, sm, ed, fun v Hb' H' s iv => ⟨i, by simpa only [Is] using iv, q Hb' H' s⟩⟩
def fSl (fa : En → Option D) (fl fh : En → Option (Option Int)) : En → Option D := fun env => (fa env).bind fun d => (fl env).bind fun l => (fh env).bind fun h => slD d l h
theorem e_sl (ha : PE X a (tD X.K fa)) (hl : PO X lo (tO X.K fl)) (hh : PO X hi (tO X.K fh)) : PE X (.Subscript a (.Slice lo hi none p2) pos) (tD X.K (fSl fa fl fh)) :=
  PE_weak (pe_slice x_sl ha hl hh) fun σ H Q h => by
    obtain ⟨H0, env, Hb, d, r, sm, ef, q⟩ := h
    obtain ⟨da, ea, ef⟩ := bind1 ef
    obtain ⟨l, el, ef⟩ := bind1 ef
    obtain ⟨hh, eh, ef⟩ := bind1 ef
    exact ⟨H0, env, Hb, da, r, sm, ea, fun x Hb1 H1 s1 ix => ⟨H0, env, Hb1, l, r.step s1, s1.c, el, fun Hb2 H2 s2 => ⟨H0, env, Hb2, hh, (r.step s1).step s2, s2.c, eh, fun Hb3 H3 s3 =>
      ⟨Hb3, da, d, s3.c, (ix.mono s2.b).mono s3.b, ef, fun v Hb' H' s4 iv => q v Hb' H' (s1.trans (s2.trans (s3.trans s4))) iv⟩⟩⟩⟩
end
end Dn
set_option Elab.async false
set_option linter.all false
set_option maxRecDepth 100000
/-! Part C: statements, loops, comprehensions, calls, defs. -/
namespace Dn
open PySem L2 PySem.Spec PyProof.Rows

inductive Fl where
  | nx (e : En) | rt (d : D) | bk (e : En) | ct (e : En)
/-- what is wanted behind, for each way out -/
def Out (K : PySem.W.Frag) (Hb0 H0 : Hp) (N : Ends) : Fl → Prop
  | .nx env => ∀ σ Hb H, Rel K H0 Hb H σ env → Step Hb0 H0 Hb H → N.nx σ H
  | .rt d => ∀ v Hb H, Step Hb0 H0 Hb H → Is K Hb d v → N.rt v H
  | .bk env => ∀ σ Hb H, Rel K H0 Hb H σ env → Step Hb0 H0 Hb H → N.bk σ H
  | .ct env => ∀ σ Hb H, Rel K H0 Hb H σ env → Step Hb0 H0 Hb H → N.ct σ H
def tS (K : PySem.W.Frag) (F : En → Option Fl) : TS := fun N σ H => ∃ H0 Hb0 env Hb fl, Rel K H0 Hb H σ env ∧ Step Hb0 H0 Hb H ∧ F env = some fl ∧ Out K Hb0 H0 N fl
def tG (K : PySem.W.Frag) (ts : List Nat) (g : D → En → Option En) : TG := fun v σ H Q => ∃ H0 Hb env d env', Rel K H0 Hb H σ env ∧ Same Hb H ∧ Is K Hb d v ∧ g d env = some env' ∧ ∀ σ', Rel K H0 Hb H σ' env' → wipe σ' ts = wipe σ ts → Q σ' H
def tGs (K : PySem.W.Frag) (ts : List Nat) (g : List D → En → Option En) : TGs := fun vs σ H Q => ∃ H0 Hb env ds env', Rel K H0 Hb H σ env ∧ Same Hb H ∧ IsL K Hb ds vs ∧ g ds env = some env' ∧ ∀ σ', Rel K H0 Hb H σ' env' → wipe σ' ts = wipe σ ts → Q σ' H

theorem Step.fwd {Hb0 H0 Hb1 H1 Hb2 H2 : Hp} (x : Step Hb0 H0 Hb1 H1) (y : Step Hb1 H1 Hb2 H2) : Step Hb1 H0 Hb2 H2 := ⟨x.a.trans y.a, y.b, y.c, fun p o e n => y.f p o (x.a p o e) n⟩
theorem Step.back {Hb0 H0 Hb1 H1 Hb2 H2 : Hp} (x : Step Hb0 H0 Hb1 H1) (y : Step Hb1 H0 Hb2 H2) : Step Hb0 H0 Hb2 H2 := ⟨y.a, x.b.trans y.b, y.c, fun p o e n => y.f p o e (x.f p o e n)⟩
/-- a new object that no plain thing lies in -/
theorem Step.hid {Hb H : Hp} (s : Same Hb H) {p : Addr} {o : HO} (h : H p = none) (hb : Hb p = none) : Step Hb H Hb (upd H p o) := ⟨same_new h, Same.refl _, fun b x e => by rw [upd_ne (ne_of_none e hb)]; exact s b x e, fun _ _ _ n => n⟩

section
variable {X : Cx} {a b e : Expr} {st : Stmt} {sts rest : List Stmt} {pos : Pos} {fa fb : En → Option D} {F G : En → Option Fl}
theorem PS_weak {t t' : TS} (h : PS X st t) (w : ∀ N σ H, t' N σ H → t N σ H) : PS X st t' := ⟨fun pins s σ H N I q => h.run pins s σ H N I (w N σ H q)⟩
theorem PSs_weak {t t' : TS} (h : PSs X sts t) (w : ∀ N σ H, t' N σ H → t N σ H) : PSs X sts t' := ⟨fun pins s σ H N I q => h.run pins s σ H N I (w N σ H q)⟩
theorem PG_weak {tg : Expr} {t t' : TG} (h : PG X tg t) (w : ∀ v σ H Q, t' v σ H Q → t v σ H Q) : PG X tg t' := ⟨fun pins s σ H v u Q I r q => h.run pins s σ H v u Q I r (w v σ H Q q)⟩
theorem PGs_weak {tg : List Expr} {t t' : TGs} (h : PGs X tg t) (w : ∀ v σ H Q, t' v σ H Q → t v σ H Q) : PGs X tg t' := ⟨fun pins s σ H v u Q I r q => h.run pins s σ H v u Q I r (w v σ H Q q)⟩

/-! ### wiping -/
theorem wipe_get (σ : L2.St) (j : Nat) : ∀ vs : List Nat, (wipe σ vs)[j]? = if j ∈ vs then σ[j]?.map (fun _ => none) else σ[j]?
  | [] => by simp [wipe]
  | v :: vs => by
    unfold wipe
    by_cases h : v = j
    · subst h
      by_cases hv : v < σ.length
      · rw [List.getElem?_set_self (by rw [wipe_length]; exact hv)]
        simp [List.getElem?_eq_getElem hv]
      · rw [List.getElem?_eq_none (by rw [List.length_set, wipe_length]; omega), List.getElem?_eq_none (show σ.length ≤ v by omega)]
        simp
    · rw [List.getElem?_set_ne h, wipe_get σ j vs]
      have : (j ∈ v :: vs) = (j ∈ vs) := by
        rw [List.mem_cons]
        exact propext ⟨fun q => q.resolve_left fun z => h z.symm, Or.inr⟩
      simp only [this]
theorem wipe_ext {σ τ : L2.St} {vs : List Nat} (hl : σ.length = τ.length) (h : ∀ j, j ∉ vs → σ[j]? = τ[j]?) : wipe σ vs = wipe τ vs := by
  apply List.ext_getElem?
  intro j
  rw [wipe_get, wipe_get]
  by_cases q : j ∈ vs
  · rw [if_pos q, if_pos q]
    by_cases z : j < σ.length
    · rw [List.getElem?_eq_getElem z, List.getElem?_eq_getElem (show j < τ.length by omega)]
      rfl
    · rw [List.getElem?_eq_none (by omega), List.getElem?_eq_none (by omega)]
  · rw [if_neg q, if_neg q, h j q]
theorem wipe_eq_get {σ τ : L2.St} {vs : List Nat} (h : wipe σ vs = wipe τ vs) : σ.length = τ.length ∧ ∀ j, j ∉ vs → σ[j]? = τ[j]? := by
  refine ⟨by rw [← wipe_length σ vs, ← wipe_length τ vs, h], fun j q => ?_⟩
  have := congrArg (fun l : L2.St => l[j]?) h
  simp only [wipe_get, if_neg q] at this
  exact this
theorem wipe_mono {σ τ : L2.St} {vs ws : List Nat} (hs : ∀ i ∈ vs, i ∈ ws) (h : wipe σ vs = wipe τ vs) : wipe σ ws = wipe τ ws :=
  wipe_ext (wipe_eq_get h).1 fun j q => (wipe_eq_get h).2 j fun z => q (hs j z)
theorem wipe_wipe (σ : L2.St) (vs : List Nat) : wipe (wipe σ vs) vs = wipe σ vs :=
  wipe_ext (wipe_length _ _) fun j q => by rw [wipe_get, if_neg q]
theorem wipe_set (σ : L2.St) (i : Nat) (x : Option V) : wipe (σ.set i x) [i] = wipe σ [i] := by
  refine wipe_ext (by rw [List.length_set]) fun j q => ?_
  rw [List.getElem?_set_ne]
  intro z
  exact q (by simp [z])
def wipeE (env : En) : List Nat → En
  | [] => env
  | v :: vs => (wipeE env vs).set v none
theorem Rel.wipe {K : PySem.W.Frag} {H0 Hb H : Hp} {σ : L2.St} {env : En} (r : Rel K H0 Hb H σ env) : ∀ vs : List Nat, Rel K H0 Hb H (L2.wipe σ vs) (wipeE env vs)
  | [] => r
  | v :: vs => (r.wipe vs).forget v none

theorem wipeE_some {env : En} {i : Nat} {d : D} : ∀ {vs : List Nat}, (wipeE env vs)[i]? = some (some d) → env[i]? = some (some d) ∧ i ∉ vs
  | [], h => ⟨h, by simp⟩
  | v :: vs, h => by
    unfold wipeE at h
    by_cases hi : v = i
    · subst hi
      by_cases hv : v < (wipeE env vs).length
      · rw [List.getElem?_set_self hv] at h
        cases h
      · rw [List.getElem?_eq_none (by simpa using hv)] at h
        cases h
    · rw [List.getElem?_set_ne hi] at h
      obtain ⟨h1, h2⟩ := wipeE_some h
      exact ⟨h1, by simp only [List.mem_cons, not_or]; exact ⟨fun e => hi e.symm, h2⟩⟩
theorem wipe_some' {σ : L2.St} {vs : List Nat} {i : Nat} {x : V} (h : (wipe σ vs)[i]? = some (some x)) : σ[i]? = some (some x) := (wipe_some h).1

/-! ### targets -/
def gN (i : Nat) : D → En → Option En := fun d env => some (env.set i (some d))
def gNil' : List D → En → Option En := fun ds env => match ds with
  | [] => some env
  | _ :: _ => none
def gCons' (g : D → En → Option En) (h : List D → En → Option En) : List D → En → Option En := fun ds env => match ds with
  | [] => none
  | d :: r => (g d env).bind fun env' => h r env'
def gT (g : List D → En → Option En) : D → En → Option En := fun d env => match d with
  | .tup ds => g ds env
  | _ => none
def gL (g : List D → En → Option En) : D → En → Option En := fun d env => match d with
  | .lst ds => g ds env
  | _ => none
variable {ts us : List Nat} {g : D → En → Option En} {gs : List D → En → Option En} {tg : Expr} {tgs : List Expr}
theorem g_name (i : Nat) {x : Str} (hN : X.N.Nodup) (hi : X.N[i]? = some x := by rfl) (hx : Loc X.env.scope x := by first | exact Or.inl rfl | exact Or.inr rfl) (hf : X.fn x = true ∨ X.env.scope.names.lookup x = some .local := by first | exact .inl rfl | exact .inr rfl) : PG X (.Name x pos) (tG X.K [i] (gN i)) :=
  PG_weak (pg_name hN hi hx hf) fun v σ H Q h => by
    obtain ⟨H0, Hb, env, d, env', r, sm, iv, eg, q⟩ := h
    cases eg
    exact q _ (r.set i iv) (wipe_set σ i _)
theorem g_nil : PGs X [] (tGs X.K [] gNil') := PGs_weak pgs_nil fun v σ H Q h => by
  obtain ⟨H0, Hb, env, ds, env', r, sm, iv, eg, q⟩ := h
  cases ds with
  | nil =>
    simp only [IsL] at iv
    cases eg
    exact ⟨iv, q σ r rfl⟩
  | cons d ds => cases eg
theorem g_cons (h1 : PG X tg (tG X.K ts g)) (h2 : PGs X tgs (tGs X.K us gs)) (hs : (assignEach (tg :: tgs) X.env).map (·.2) = assign tg X.env :: (assignEach tgs X.env).map (·.2) := by rfl) : PGs X (tg :: tgs) (tGs X.K (ts ++ us) (gCons' g gs)) :=
  PGs_weak (pgs_cons h1 h2 hs) fun v σ H Q h => by
    obtain ⟨H0, Hb, env, ds, env', r, sm, iv, eg, q⟩ := h
    cases ds with
    | nil => cases eg
    | cons d ds =>
      simp only [IsL] at iv
      obtain ⟨w, vr, rfl, i1, i2⟩ := iv
      obtain ⟨e1, h1, h2⟩ := bind1 eg
      refine ⟨w, vr, rfl, H0, Hb, env, d, e1, r, sm, i1, h1, fun σ1 r1 w1 => ⟨H0, Hb, e1, ds, env', r1, sm, i2, h2, fun σ2 r2 w2 => q σ2 r2 ?_⟩⟩
      exact (wipe_mono (fun i hi => List.mem_append_right _ hi) w2).trans (wipe_mono (fun i hi => List.mem_append_left _ hi) w1)
theorem g_tup {k : Nat} {n : Nat} (hc : X.calm = true) (h : PGs X tgs (tGs X.K ts gs)) (hl : ∀ ds env env', gs ds env = some env' → ds.length = n)
    (hn : (assignEach tgs X.env).length = n := by rfl) (hst : (assignEach tgs X.env).findIdx? (·.1) = none := by rfl) : PG X (.Tuple tgs k pos) (tG X.K ts (gT gs)) :=
  PG_weak (pg_tup hc h hn hst) fun v σ H Q h => by
    obtain ⟨H0, Hb, env, d, env', r, sm, iv, eg, q⟩ := h
    cases d with
    | tup ds =>
      simp only [Is] at iv
      obtain ⟨p, xs, rfl, hx, lx⟩ := iv
      exact ⟨p, xs, rfl, sq_mono sm hx, by rw [lx.length]; exact hl _ _ _ eg, H0, Hb, env, ds, env', r, sm, lx, eg, q⟩
    | _ => cases eg
theorem g_lst {k : Nat} {n : Nat} (hc : X.calm = true) (h : PGs X tgs (tGs X.K ts gs)) (hl : ∀ ds env env', gs ds env = some env' → ds.length = n)
    (hn : (assignEach tgs X.env).length = n := by rfl) (hst : (assignEach tgs X.env).findIdx? (·.1) = none := by rfl) : PG X (.Tuple tgs k pos) (tG X.K ts (gL gs)) :=
  PG_weak (pg_unl hc h hn hst) fun v σ H Q h => by
    obtain ⟨H0, Hb, env, d, env', r, sm, iv, eg, q⟩ := h
    cases d with
    | lst ds =>
      simp only [Is] at iv
      obtain ⟨p, xs, rfl, hx, lx⟩ := iv
      exact ⟨p, xs, rfl, .inl (.inl (sm _ _ hx)), by rw [lx.length]; exact hl _ _ _ eg, H0, Hb, env, ds, env', r, sm, lx, eg, q⟩
    | _ => cases eg
theorem gl_nil : ∀ (ds : List D) (env env' : En), gNil' ds env = some env' → ds.length = 0
  | [], _, _, _ => rfl
  | _ :: _, _, _, h => by cases h
theorem gl_cons {n : Nat} (h : ∀ (ds : List D) (env env' : En), gs ds env = some env' → ds.length = n) : ∀ (ds : List D) (env env' : En), gCons' g gs ds env = some env' → ds.length = n + 1
  | [], _, _, q => by cases q
  | d :: ds, env, env', q => by
    obtain ⟨e1, _, h2⟩ := bind1 q
    rw [List.length_cons, h _ _ _ h2]

/-! ### statements -/
def fAsg (fa : En → Option D) (g : D → En → Option En) : En → Option Fl := fun env => (fa env).bind fun d => (g d env).bind fun env' => some (.nx env')
def fSet (i : Nat) (fa : En → Option D) : En → Option Fl := fun env => (fa env).bind fun d => some (.nx (env.set i (some d)))
def fRet (fa : En → Option D) : En → Option Fl := fun env => (fa env).bind fun d => some (.rt d)
def fDrop (fa : En → Option D) : En → Option Fl := fun env => (fa env).bind fun _ => some (.nx env)
def fSeq (F G : En → Option Fl) : En → Option Fl := fun env => (F env).bind fun fl => match fl with
  | .nx e => G e
  | .rt d => some (.rt d)
  | .bk e => some (.bk e)
  | .ct e => some (.ct e)
def fPass : En → Option Fl := fun env => some (.nx env)
def fIfS (c : En → Option Bool) (F G : En → Option Fl) : En → Option Fl := fun env => (c env).bind fun k => if k then F env else G env
def fStuck : En → Option Fl := fun _ => none
theorem tS_asg {N : Ends} {σ : L2.St} {H : Hp} (h : tS X.K (fAsg fa g) N σ H) : tAsg (tD X.K fa) (tG X.K ts g) N σ H := by
  obtain ⟨H0, Hb0, env, Hb, fl, r, sp, ef, out⟩ := h
  obtain ⟨d, ed, ef⟩ := bind1 ef
  obtain ⟨env', eg, ef⟩ := bind1 ef
  cases ef
  exact ⟨H0, env, Hb, d, r, sp.c, ed, fun v Hb1 H1 s1 iv => ⟨H0, Hb1, env, d, env', r.step s1, s1.c, iv, eg, fun σ' r' _ => out σ' Hb1 H1 r' (sp.trans s1)⟩⟩
theorem s_asg (he : PE X e (tD X.K fa)) (hg : PG X tg (tG X.K ts g)) (hs : swapsWithSole [tg] e pos.line X.env = pure false := by rfl) (hw : swappedStores [tg] e X.env = pure none := by rfl)
    (h1 : (assignEach [tg] X.env).map (·.2) = [assign tg X.env] := by rfl) : PS X (.Assign [tg] e pos) (tS X.K (fAsg fa g)) := PS_weak (ps_asg he hg hs hw h1) fun N σ H h => tS_asg h
theorem tS_set {i : Nat} {N : Ends} {σ : L2.St} {H : Hp} (h : tS X.K (fSet i fa) N σ H) : tAsg (tD X.K fa) (gName i) N σ H := by
  obtain ⟨H0, Hb0, env, Hb, fl, r, sp, ef, out⟩ := h
  obtain ⟨d, ed, ef⟩ := bind1 ef
  cases ef
  exact ⟨H0, env, Hb, d, r, sp.c, ed, fun v Hb1 H1 s1 iv => out _ Hb1 H1 ((r.step s1).set i iv) (sp.trans s1)⟩
theorem s_set (i : Nat) {x : Str} {pos' : Pos} (hN : X.N.Nodup) (he : PE X e (tD X.K fa)) (hi : X.N[i]? = some x := by rfl) (hx : Loc X.env.scope x := by first | exact Or.inl rfl | exact Or.inr rfl) (hs : swapsWith e (some (.Name x pos')) pos.line X.env = pure false := by rfl)
    (hf : X.fn x = true ∨ X.env.scope.names.lookup x = some .local := by first | exact .inl rfl | exact .inr rfl) : PS X (.Assign [.Name x pos'] e pos) (tS X.K (fSet i fa)) := PS_weak (ps_set hN hi hx he hs hf) fun N σ H h => tS_set h
/-- a, b = x, y -/
def fPar (i j : Nat) (fs : En → Option (List D)) : En → Option Fl := fun env => (fs env).bind fun ds => match ds with
  | [d, d'] => some (.nx ((env.set i (some d)).set j (some d')))
  | _ => none
theorem s_par (i j : Nat) {x y : Str} {px py pt : Pos} {kt k2 pt2} {fs : En → Option (List D)} (hc : X.calm = true) (hN : X.N.Nodup) (ha : PA X [a, b] (tA X.K fs)) (hi : X.N[i]? = some x := by rfl) (hj : X.N[j]? = some y := by rfl) (hij : i ≠ j := by decide)
    (hx : X.env.scope.names.lookup x = some .local := by rfl) (hy : X.env.scope.names.lookup y = some .local := by rfl)
    (hw : swappedStores [.Tuple [.Name x px, .Name y py] kt pt] (.Tuple [a, b] k2 pt2) X.env = pure (some [x, y]) := by rfl)
    (hs : swapsWithSole [.Tuple [.Name x px, .Name y py] kt pt] (.Tuple [a, b] k2 pt2) pos.line X.env = pure false := by rfl) :
    PS X (.Assign [.Tuple [.Name x px, .Name y py] kt pt] (.Tuple [a, b] k2 pt2) pos) (tS X.K (fPar i j fs)) := PS_weak (ps_par hc hN hi hj hij hx hy ha hw hs) fun N σ H h => by
  obtain ⟨H0, Hb0, env, Hb, fl, r, sp, ef, out⟩ := h
  obtain ⟨ds, ed, ef⟩ := bind1 ef
  refine ⟨H0, env, Hb, ds, r, sp.c, ed, fun vs Hb1 H1 s1 iv => ?_⟩
  match ds, ef, iv with
  | [d, d'], ef, iv =>
    cases ef
    simp only [IsL] at iv
    obtain ⟨v, r1, rfl, i1, v', r2, rfl, i2, rfl⟩ := iv
    exact ⟨v, v', rfl, out _ Hb1 H1 (((r.step s1).set i i1).set j i2) (sp.trans s1)⟩
theorem s_ret (he : PE X e (tD X.K fa)) : PS X (.Return (some e) pos) (tS X.K (fRet fa)) := PS_weak (ps_ret he) fun N σ H h => by
  obtain ⟨H0, Hb0, env, Hb, fl, r, sp, ef, out⟩ := h
  obtain ⟨d, ed, ef⟩ := bind1 ef
  cases ef
  exact ⟨H0, env, Hb, d, r, sp.c, ed, fun v Hb1 H1 s1 iv => out v Hb1 H1 (sp.trans s1) iv⟩
theorem s_expr (he : PE X e (tD X.K fa)) (hs : swapsWith e none pos.line X.env = pure false := by rfl) : PS X (.Expr e pos) (tS X.K (fDrop fa)) := PS_weak (ps_expr he hs) fun N σ H h => by
  obtain ⟨H0, Hb0, env, Hb, fl, r, sp, ef, out⟩ := h
  obtain ⟨d, ed, ef⟩ := bind1 ef
  cases ef
  exact ⟨H0, env, Hb, d, r, sp.c, ed, fun v Hb1 H1 s1 iv => out σ Hb1 H1 (r.step s1) (sp.trans s1)⟩
theorem ss_nil : PSs X [] (tS X.K fPass) := PSs_weak pss_nil fun N σ H h => by
  obtain ⟨H0, Hb0, env, Hb, fl, r, sp, ef, out⟩ := h
  cases ef
  exact out σ Hb H r sp
theorem s_pass : PS X (.Pass pos) (tS X.K fPass) := PS_weak ps_pass fun N σ H h => by
  obtain ⟨H0, Hb0, env, Hb, fl, r, sp, ef, out⟩ := h
  cases ef
  exact out σ Hb H r sp
theorem s_stuck : PS X st (tS X.K fStuck) := PS_weak ps_never fun N σ H h => by
  obtain ⟨H0, Hb0, env, Hb, fl, r, sp, ef, out⟩ := h
  cases ef
theorem ss_one (h : PS X st (tS X.K F)) : PSs X [st] (tS X.K F) := pss_one h
theorem ss_cons (h1 : PS X st (tS X.K F)) (h2 : PSs X rest (tS X.K G)) : PSs X (st :: rest) (tS X.K (fSeq F G)) := PSs_weak (pss_cons h1 h2) fun N σ H h => by
  obtain ⟨H0, Hb0, env, Hb, fl, r, sp, ef, out⟩ := h
  obtain ⟨f1, e1, ef⟩ := bind1 ef
  refine ⟨H0, Hb0, env, Hb, f1, r, sp, e1, ?_⟩
  cases f1 with
  | nx e' => exact fun σ' Hb' H' r' s' => ⟨H0, Hb0, e', Hb', fl, r', s', ef, out⟩
  | rt d => cases ef; exact out
  | bk e' => cases ef; exact out
  | ct e' => cases ef; exact out
theorem s_if {c : Expr} {fc : En → Option Bool} {p q : List Stmt} (hc : PT X c (tT X.K fc)) (hp : PSs X p (tS X.K F)) (hq : PSs X q (tS X.K G)) : PS X (.If c p q pos) (tS X.K (fIfS fc F G)) := PS_weak (ps_if hc hp hq) fun N σ H h => by
  obtain ⟨H0, Hb0, env, Hb, fl, r, sp, ef, out⟩ := h
  obtain ⟨k, ek, ef⟩ := bind1 ef
  refine ⟨H0, env, Hb, k, r, sp.c, ek, fun Hb1 H1 s1 => ?_⟩
  cases k with
  | true => exact ⟨H0, Hb0, env, Hb1, fl, r.step s1, sp.trans s1, ef, out⟩
  | false => exact ⟨H0, Hb0, env, Hb1, fl, r.step s1, sp.trans s1, ef, out⟩

/-! ### while -/
def whileF (c : En → Option Bool) (B : En → Option Fl) : Nat → En → Option Fl
  | 0, _ => none
  | n + 1, env => (c env).bind fun k => if k then (B env).bind fun fl => match fl with
      | .nx e => whileF c B n e
      | .ct e => whileF c B n e
      | .bk e => some (.nx e)
      | .rt d => some (.rt d)
    else some (.nx env)
def fWhile (fuel : En → Nat) (c : En → Option Bool) (B : En → Option Fl) : En → Option Fl := fun env => whileF c B (fuel env) env
theorem s_while (fuel : En → Nat) {c : Expr} {fc : En → Option Bool} {body : List Stmt} (hp : PassesOwn (model X.prog X.w) X.A X.env X.xe) (hc : PT X c (tT X.K fc)) (hb : PSs X body (tS X.K F)) : PS X (.While c body [] pos) (tS X.K (fWhile fuel fc F)) :=
  PS_weak (ps_while hp hc hb) fun N σ H h => by
    obtain ⟨H0, Hb0, env, Hb, fl, r, sp, ef, out⟩ := h
    refine ⟨fun m σ' H' => ∃ env' Hb', Rel X.K H0 Hb' H' σ' env' ∧ Step Hb0 H0 Hb' H' ∧ whileF fc F m env' = some fl, ⟨fuel env, env, Hb, r, sp, ef⟩, fun m σ1 H1 hW => ?_⟩
    obtain ⟨e1, Hb1, r1, s1, q1⟩ := hW
    cases m with
    | zero => cases q1
    | succ m =>
      obtain ⟨k, ek, q1⟩ := bind1 q1
      refine ⟨H0, e1, Hb1, k, r1, s1.c, ek, fun Hb2 H2 s2 => ?_⟩
      cases k with
      | false =>
        cases q1
        exact out σ1 Hb2 H2 (r1.step s2) (s1.trans s2)
      | true =>
        obtain ⟨f1, ef1, q1⟩ := bind1 q1
        refine ⟨fun σ' H' => ∃ env' Hb', Rel X.K H0 Hb' H' σ' env' ∧ Step Hb0 H0 Hb' H' ∧ whileF fc F m env' = some fl, fun σ' H' hN => ⟨m, Nat.lt_succ_self m, hN⟩, H0, Hb0, e1, Hb2, f1, r1.step s2, s1.trans s2, ef1, ?_⟩
        cases f1 with
        | nx e' => exact fun σ' Hb' H' r' s' => ⟨e', Hb', r', s', q1⟩
        | ct e' => exact fun σ' Hb' H' r' s' => ⟨e', Hb', r', s', q1⟩
        | bk e' =>
          cases q1
          exact fun σ' Hb' H' r' s' => out σ' Hb' H' r' s'
        | rt d =>
          cases q1
          exact out

/-! ### what is walked -/
def WalkD (K : PySem.W.Frag) (J : It) (ds : List D) (Hb0 : Hp) : Prop :=
  ∀ Hb H, Same Hb0 Hb → Same Hb H → (∀ (i : Nat) (d : D), ds[i]? = some d → J.go i H ∧ ∀ x H', J.yld i H x H' → ∃ Hb', Step Hb H Hb' H' ∧ Is K Hb' d x) ∧ J.stop ds.length H
def tI (K : PySem.W.Frag) (it : En → Option (List D)) : TI := fun σ H R => ∃ H0 env Hb ds, Rel K H0 Hb H σ env ∧ Same Hb H ∧ it env = some ds ∧ ∀ J Hb' H', Step Hb H Hb' H' → WalkD K J ds Hb' → R J H'
def itemsD : D → Option (List D)
  | .tup ds => some ds
  | .lst ds => some ds
  | .str l => some (l.map fun c => .str [c])
  | _ => none
def fIt (fa : En → Option D) : En → Option (List D) := fun env => (fa env).bind itemsD
theorem walk_l {K : PySem.W.Frag} {Hb : Hp} {p : Addr} {ds : List D} {vs : List V} (h : Hb p = some (.lst vs)) (l : IsL K Hb ds vs) : WalkD K (Itl K p) ds Hb := fun Hb1 H1 s1 s2 => by
  have hs : SqL K H1 p vs := .inl (.inl (s2 _ _ (s1 _ _ h)))
  refine ⟨fun i d e => ?_, ⟨vs, hs, by rw [l.length]; exact Nat.le_refl _⟩⟩
  obtain ⟨v, e1, e2⟩ := l.get e
  refine ⟨⟨vs, v, hs, e1⟩, fun x H' hy => ?_⟩
  obtain ⟨rfl, f⟩ := hy
  have := f vs hs
  rw [e1] at this
  cases this
  exact ⟨Hb1, Step.refl s2, e2.mono s1⟩
theorem walk_t {K : PySem.W.Frag} {Hb : Hp} {p : Addr} {ds : List D} {vs : List V} (h : SqT K Hb p vs) (l : IsL K Hb ds vs) : WalkD K (Itt K p) ds Hb := fun Hb1 H1 s1 s2 => by
  have hs : SqT K H1 p vs := sq_mono s2 (sq_mono s1 h)
  refine ⟨fun i d e => ?_, ⟨vs, hs, by rw [l.length]; exact Nat.le_refl _⟩⟩
  obtain ⟨v, e1, e2⟩ := l.get e
  refine ⟨⟨vs, v, hs, e1⟩, fun x H' hy => ?_⟩
  obtain ⟨rfl, f⟩ := hy
  have := f vs hs
  rw [e1] at this
  cases this
  exact ⟨Hb1, Step.refl s2, e2.mono s1⟩
theorem walk_s {K : PySem.W.Frag} {Hb : Hp} (l : List Nat) : WalkD K (Its (S l)) (l.map fun c => .str [c]) Hb := fun Hb1 H1 s1 s2 => by
  refine ⟨fun i d e => ?_, by show l.toArray.size ≤ (l.map _).length; simp⟩
  rw [List.getElem?_map] at e
  cases e1 : l[i]? with
  | none => rw [e1] at e; cases e
  | some c =>
    rw [e1] at e
    cases e
    refine ⟨?_, fun x H' hy => ?_⟩
    · show i < l.toArray.size
      have := (List.getElem?_eq_some_iff.mp e1).1
      simpa using this
    · obtain ⟨rfl, c', ec, rfl⟩ := hy
      have ec : l.toArray[i]? = some c' := ec
      rw [List.getElem?_toArray, e1] at ec
      cases ec
      exact ⟨Hb1, Step.refl s2, by simp only [Is, S]⟩
theorem walk_r {K : PySem.W.Frag} {Hb : Hp} (lo : Int) (n : Nat) : WalkD K (Itr lo n) ((List.range n).map fun i => .int (lo + (i : Nat))) Hb := fun Hb1 H1 s1 s2 => by
  refine ⟨fun i d e => ?_, by show n ≤ (List.map _ _).length; simp⟩
  rw [List.getElem?_map] at e
  cases e1 : (List.range n)[i]? with
  | none => rw [e1] at e; cases e
  | some c =>
    rw [e1] at e
    cases e
    obtain ⟨h1, h2⟩ := List.getElem?_eq_some_iff.mp e1
    rw [List.getElem_range] at h2
    subst h2
    refine ⟨by show i < n; simpa using h1, fun x H' hy => ?_⟩
    obtain ⟨rfl, rfl⟩ := hy
    exact ⟨Hb1, Step.refl s2, by simp only [Is]⟩
theorem i_seq (he : PE X e (tD X.K fa)) : PI X tg e (tI X.K (fIt fa)) := ⟨fun pins s σ H R I h => by
  obtain ⟨H0, env, Hb, ds, r, sm, ef, q⟩ := h
  obtain ⟨d, ed, ef⟩ := bind1 ef
  cases d with
  | tup xs =>
    cases ef
    refine (pi_tup he).run pins s σ H R I ⟨H0, env, Hb, _, r, sm, ed, fun v Hb1 H1 s1 iv => ?_⟩
    simp only [Is] at iv
    obtain ⟨p, vs, rfl, hx, lx⟩ := iv
    exact ⟨p, rfl, ⟨vs, sq_mono s1.c hx⟩, q _ Hb1 H1 s1 (walk_t hx lx)⟩
  | lst xs =>
    cases ef
    refine (pi_list he).run pins s σ H R I ⟨H0, env, Hb, _, r, sm, ed, fun v Hb1 H1 s1 iv => ?_⟩
    simp only [Is] at iv
    obtain ⟨p, vs, rfl, hx, lx⟩ := iv
    exact ⟨p, rfl, ⟨vs, .inl (.inl (s1.c _ _ hx))⟩, q _ Hb1 H1 s1 (walk_l hx lx)⟩
  | str l =>
    cases ef
    refine (pi_str he).run pins s σ H R I ⟨H0, env, Hb, _, r, sm, ed, fun v Hb1 H1 s1 iv => ?_⟩
    simp only [Is] at iv
    subst iv
    exact ⟨_, rfl, q _ Hb1 H1 s1 (walk_s l)⟩
  | _ => cases ef⟩
def rangeD (lo hi : Int) : Option (List D) := if (-(2 ^ 62) ≤ lo ∧ lo < 2 ^ 62 ∧ -(2 ^ 62) ≤ hi ∧ hi < 2 ^ 62) then some ((List.range (hi - lo).toNat).map fun i => .int (lo + (i : Nat))) else none
def fRng1 (fs : En → Option (List D)) : En → Option (List D) := fun env => (fs env).bind fun ds => match ds with
  | [.int n] => rangeD 0 n
  | _ => none
def fRng2 (fs : En → Option (List D)) : En → Option (List D) := fun env => (fs env).bind fun ds => match ds with
  | [.int m, .int n] => rangeD m n
  | _ => none
variable {fs : En → Option (List D)} {p : Pos}
theorem i_range1 (hm : X.mg "range" = none) (ha : PA X [a] (tA X.K fs)) (hg : Gl X "range" := by rfl) (hs : starEach [a] X.env = [(false, eval a X.env)] := by rfl) : PI X tg (.Call (.Name "range" p) [a] [] pos) (tI X.K (fRng1 fs)) := ⟨fun pins s σ H R I h => by
  obtain ⟨H0, env, Hb, ds, r, sm, ef, q⟩ := h
  obtain ⟨xs, ed, ef⟩ := bind1 ef
  refine (pi_range1 hg hm ha hs).run pins s σ H R I ⟨H0, env, Hb, xs, r, sm, ed, fun vs Hb1 H1 s1 iv => ?_⟩
  split at ef
  · simp only [IsL, Is] at iv
    obtain ⟨v, r1, rfl, rfl, rfl⟩ := iv
    obtain ⟨⟨_, _, h1, h2⟩, rfl⟩ := iteS ef
    refine ⟨_, rfl, h1, h2, q _ Hb1 H1 s1 ?_⟩
    rw [Int.sub_zero]
    exact walk_r (K := X.K) (Hb := Hb1) 0 (Int.toNat _)
  · cases ef⟩
theorem i_range2 (hm : X.mg "range" = none) (ha : PA X [a, b] (tA X.K fs)) (hg : Gl X "range" := by rfl) (hs : starEach [a, b] X.env = [(false, eval a X.env), (false, eval b X.env)] := by rfl) (hs2 : starEach [b] X.env = [(false, eval b X.env)] := by rfl) : PI X tg (.Call (.Name "range" p) [a, b] [] pos) (tI X.K (fRng2 fs)) := ⟨fun pins s σ H R I h => by
  obtain ⟨H0, env, Hb, ds, r, sm, ef, q⟩ := h
  obtain ⟨xs, ed, ef⟩ := bind1 ef
  refine (pi_range2 hg hm ha hs hs2).run pins s σ H R I ⟨H0, env, Hb, xs, r, sm, ed, fun vs Hb1 H1 s1 iv => ?_⟩
  split at ef
  · simp only [IsL, Is] at iv
    obtain ⟨v, r1, rfl, rfl, v2, r2, rfl, rfl, rfl⟩ := iv
    obtain ⟨hh, rfl⟩ := iteS ef
    exact ⟨_, _, rfl, hh, q _ Hb1 H1 s1 (walk_r (K := X.K) (Hb := Hb1) _ (Int.toNat _))⟩
  · cases ef⟩

/-! ### for -/
def forF (g : D → En → Option En) (B : En → Option Fl) : List D → En → Option Fl
  | [], env => some (.nx env)
  | d :: ds, env => (g d env).bind fun e1 => (B e1).bind fun fl => match fl with
    | .nx e => forF g B ds e
    | .ct e => forF g B ds e
    | .bk e => some (.nx e)
    | .rt d => some (.rt d)
def fFor (it : En → Option (List D)) (g : D → En → Option En) (B : En → Option Fl) : En → Option Fl := fun env => (it env).bind fun ds => forF g B ds env
theorem s_for {iter : Expr} {body : List Stmt} {it : En → Option (List D)} (hp : PassesOwn (model X.prog X.w) X.A X.env X.xe) (hc : X.calm = true) (hi : PI X tg iter (tI X.K it)) (hg : PG X tg (tG X.K ts g)) (hb : PSs X body (tS X.K F))
    (hs : ∀ x, foldedSetIterable iter X.env x = pure x := by intro _; rfl) : PS X (.For tg iter body [] pos) (tS X.K (fFor it g F)) := PS_weak (ps_for hp hc hi hg hb hs) fun N σ H h => by
  obtain ⟨H0, Hb0, env, Hb, fl, r, sp, ef, out⟩ := h
  obtain ⟨ds, ed, ef⟩ := bind1 ef
  refine ⟨H0, env, Hb, ds, r, sp.c, ed, fun J Hb1 H1 s1 wk => ?_⟩
  have x1 : Step Hb0 H0 Hb1 H1 := sp.trans s1
  refine ⟨fun i m σ' H' => ∃ env' Hb', Rel X.K H0 Hb' H' σ' env' ∧ Step Hb1 H0 Hb' H' ∧ i + m = ds.length ∧ forF g F (ds.drop i) env' = some fl, ⟨ds.length, env, Hb1, r.step s1, x1.fwd (Step.refl s1.c), by omega, ef⟩, fun i m σ2 H2 hW => ?_⟩
  obtain ⟨e2, Hb2, r2, s2, im, q2⟩ := hW
  obtain ⟨wi, ws⟩ := wk Hb2 H2 s2.b s2.c
  by_cases hm : m = 0
  · subst hm
    have hi : i = ds.length := by omega
    subst hi
    rw [List.drop_length] at q2
    cases q2
    exact .inl ⟨ws, out σ2 Hb2 H2 r2 (x1.back s2)⟩
  · have hi : i < ds.length := by omega
    obtain ⟨go, yld⟩ := wi i ds[i] (List.getElem?_eq_getElem hi)
    rw [List.drop_eq_getElem_cons hi] at q2
    obtain ⟨e3, eg, q2⟩ := bind1 q2
    obtain ⟨f1, ef1, q2⟩ := bind1 q2
    refine .inr ⟨go, fun σ' H' => ∃ env' Hb', Rel X.K H0 Hb' H' σ' env' ∧ Step Hb1 H0 Hb' H' ∧ forF g F (ds.drop (i + 1)) env' = some fl, fun σ' H' hN => ?_, fun x H' hy => ?_⟩
    · obtain ⟨e', Hb', a1, a2, a4⟩ := hN
      exact ⟨m - 1, by omega, e', Hb', a1, a2, by omega, a4⟩
    · obtain ⟨Hb3, s3, iv⟩ := yld x H' hy
      refine ⟨H0, Hb3, e2, ds[i], e3, r2.step s3, s3.c, iv, eg, fun σ' r' _ => ⟨H0, Hb1, e3, Hb3, f1, r', s2.trans s3, ef1, ?_⟩⟩
      cases f1 with
      | nx e' => exact fun σ' Hb' H' r' s' => ⟨e', Hb', r', s', q2⟩
      | ct e' => exact fun σ' Hb' H' r' s' => ⟨e', Hb', r', s', q2⟩
      | bk e' =>
        cases q2
        exact fun σ' Hb' H' r' s' => out σ' Hb' H' r' (x1.back s')
      | rt d =>
        cases q2
        exact fun v Hb' H' s' iv => out v Hb' H' (x1.back s') iv

/-! ### list comprehensions -/
def lcF (g : D → En → Option En) (t : En → Option Bool) (f : En → Option D) (env : En) : List D → Option (List D)
  | [] => some []
  | d :: ds => (g d env).bind fun e1 => (t e1).bind fun k => if k then (f e1).bind fun y => (lcF g t f env ds).bind fun r => some (y :: r) else lcF g t f env ds
def fLc (it : En → Option (List D)) (g : D → En → Option En) (t : En → Option Bool) (f : En → Option D) (vs : List Nat) : En → Option D := fun env =>
  (it env).bind fun ds => if ds.length ≤ 1000000 then (lcF g t f (wipeE env vs) ds).bind fun r => some (.lst r) else none
def fYes : En → Option Bool := fun _ => some true
theorem PTs_weak {ifs : List Expr} {t t' : TT} (h : PTs X ifs t) (w : ∀ σ H Q, t' σ H Q → t σ H Q) : PTs X ifs t' := ⟨fun pins s σ H Q I q => h.run pins s σ H Q I (w σ H Q q)⟩
theorem ts_nil : PTs X [] (tT X.K fYes) := PTs_weak pts_nil fun σ H Q h => by
  obtain ⟨H0, env, Hb, k, r, sm, ef, q⟩ := h
  cases ef
  exact q Hb H (Step.refl sm)
theorem ts_one {c : Expr} {ft : En → Option Bool} (h : PT X c (tT X.K ft)) : PTs X [c] (tT X.K ft) := pts_one h
theorem t_lc {K : PySem.W.Frag} {it : En → Option (List D)} {t : En → Option Bool} {f : En → Option D} {vs : List Nat} (hts : ∀ i ∈ ts, i ∈ vs) {σ : L2.St} {H : Hp} {Q : VK} (h : tD K (fLc it g t f vs) σ H Q) :
    tLc (tI K it) (tG K ts g) (tT K t) (tD K f) vs σ H Q := by
  obtain ⟨H0, env, Hb, d, r, sm, ef, q⟩ := h
  obtain ⟨ds, ed, ef⟩ := bind1 ef
  split at ef
  · rename_i hsz
    obtain ⟨out, eo, ef⟩ := bind1 ef
    cases ef
    refine ⟨H0, env, Hb, ds, r, sm, ed, fun J Hb1 H1 s1 wk Dd hD => ?_⟩
    refine ⟨fun i m H' => ∃ Hb' acc done rest, Rel K H0 Hb' H' (wipe σ vs) (wipeE env vs) ∧ Step Hb1 H1 Hb' H' ∧ Hb' Dd = none ∧ H' Dd = some (.lst acc) ∧ IsL K Hb' done acc ∧ done.length ≤ i ∧ i + m = ds.length ∧ lcF g t f (wipeE env vs) (ds.drop i) = some rest ∧ done ++ rest = out,
      ⟨ds.length, Hb1, [], [], out, ?_, ?_, s1.c.free hD, upd_same, by simp only [IsL], Nat.zero_le _, by omega, eo, rfl⟩, fun i m H2 hW => ?_⟩
    · refine ((r.step s1).wipe vs).step (Step.hid s1.c hD (s1.c.free hD))
    · exact Step.hid s1.c hD (s1.c.free hD)
    · obtain ⟨Hb2, acc, done, rest, r2, s2, hd1, hd2, il, hlen, im, el, eout⟩ := hW
      obtain ⟨wi, ws⟩ := wk Hb2 H2 s2.b s2.c
      by_cases hm : m = 0
      · subst hm
        have hi : i = ds.length := by omega
        subst hi
        rw [List.drop_length] at el
        cases el
        rw [List.append_nil] at eout
        subst eout
        refine .inl ⟨ws, q _ (upd Hb2 Dd (.lst acc)) H2 (s1.trans ?_) (is_lst_new hd1 il)⟩
        refine ⟨s2.a, s2.b.trans (same_new hd1), fun b x e => ?_, fun b x e n => ?_⟩
        · by_cases hb : b = Dd
          · subst hb
            rw [upd_same] at e
            rw [hd2, e]
          · rw [upd_ne hb] at e
            exact s2.c b x e
        · have hb : b ≠ Dd := ne_of_none e hD
          rw [upd_ne hb]
          exact s2.f b x e n
      · have hi : i < ds.length := by omega
        obtain ⟨go, yld⟩ := wi i ds[i] (List.getElem?_eq_getElem hi)
        rw [List.drop_eq_getElem_cons hi] at el
        obtain ⟨e3, eg, el⟩ := bind1 el
        obtain ⟨k, ek, el⟩ := bind1 el
        refine .inr ⟨go, fun H' => ∃ Hb' acc done rest, Rel K H0 Hb' H' (wipe σ vs) (wipeE env vs) ∧ Step Hb1 H1 Hb' H' ∧ Hb' Dd = none ∧ H' Dd = some (.lst acc) ∧ IsL K Hb' done acc ∧ done.length ≤ i + 1 ∧ lcF g t f (wipeE env vs) (ds.drop (i + 1)) = some rest ∧ done ++ rest = out, fun H' hN => ?_, fun x H' hy => ?_⟩
        · obtain ⟨Hb', acc', done', rest', a1, a2, a3, a4, a5, a6, a7, a8⟩ := hN
          exact ⟨m - 1, by omega, Hb', acc', done', rest', a1, a2, a3, a4, a5, a6, by omega, a7, a8⟩
        · obtain ⟨Hb3, s3, iv⟩ := yld x H' hy
          refine ⟨H0, Hb3, wipeE env vs, ds[i], e3, r2.step s3, s3.c, iv, eg, fun σ' r' hw => ⟨?_, H0, e3, Hb3, k, r', s3.c, ek, fun Hb4 H4 s4 => ?_⟩⟩
          · have := wipe_mono hts hw
            rw [wipe_wipe] at this
            exact this
          · have d4 : H4 Dd = some (.lst acc) := s4.a _ _ (s3.a _ _ hd2)
            have n4 : Hb4 Dd = none := s4.f _ _ (s3.a _ _ hd2) (s3.f _ _ hd2 hd1)
            cases k with
            | false =>
              exact ⟨Hb4, acc, done, rest, (r2.step s3).step s4, s2.trans (s3.trans s4), n4, d4, il.mono (s3.b.trans s4.b), by omega, el, eout⟩
            | true =>
              obtain ⟨y, ey, el⟩ := bind1 el
              obtain ⟨rest', er, el⟩ := bind1 el
              cases el
              refine ⟨H0, e3, Hb4, y, r'.step s4, s4.c, ey, fun v Hb5 H5 s5 iv5 => ?_⟩
              have d5 : H5 Dd = some (.lst acc) := s5.a _ _ d4
              have n5 : Hb5 Dd = none := s5.f _ _ d4 n4
              have st : Step Hb1 H1 Hb5 H5 := s2.trans (s3.trans (s4.trans s5))
              have hsame : Same Hb5 (upd H5 Dd (.lst (acc ++ [v]))) := fun b o e => by
                rw [upd_ne (ne_of_none e n5)]
                exact st.c b o e
              refine ⟨acc, d5, ?_, Hb5, acc ++ [v], done ++ [y], rest', ?_, ?_, n5, upd_same, ?_, ?_, er, ?_⟩
              · rw [il.length]
                have := size1000
                omega
              · have rr := ((r2.step s3).step s4).step s5
                refine ⟨rr.len, fun j d e => ?_, rr.sep⟩
                obtain ⟨w, a1, a2⟩ := rr.val j d e
                refine ⟨w, a1, ?_⟩
                cases hown : d.isOwn with
                | false =>
                  rw [IsS.plain hown] at a2 ⊢
                  exact a2
                | true =>
                  obtain ⟨v0, b1, b2⟩ := r.val j d (by
                    have := (wipeE_some e).1
                    exact this)
                  have b3 := wipe_some' a1
                  rw [b3] at b1
                  cases b1
                  cases d with
                  | own dd =>
                    obtain ⟨p, vs', c1, c2, c3, c4, c5⟩ := a2
                    obtain ⟨p', vs'', c1', c2', c3', c4', c5'⟩ := b2
                    subst c1
                    cases c1'
                    exact ⟨p, vs', rfl, c2, c3, by rw [upd_ne (ne_of_none (s1.a _ _ c4') hD)]; exact c4, c5⟩
                  | ownd dd =>
                    obtain ⟨p, vs', c1, c2, c3, c4, c5⟩ := a2
                    obtain ⟨p', vs'', c1', c2', c3', c4', c5'⟩ := b2
                    subst c1
                    cases c1'
                    exact ⟨p, vs', rfl, c2, c3, by rw [upd_ne (ne_of_none (s1.a _ _ c4') hD)]; exact c4, c5⟩
                  | _ => cases hown
              · refine ⟨fun b o e => ?_, st.b, hsame, st.f⟩
                rw [upd_ne (ne_of_none e hD)]
                exact st.a b o e
              · have := il.mono (s3.b.trans (s4.b.trans s5.b))
                refine this.append ?_
                simp only [IsL]
                exact ⟨v, [], rfl, iv5, rfl⟩
              · rw [List.length_append, List.length_singleton]
                omega
              · rw [List.append_assoc]
                exact eout
  · cases ef
theorem e_lc {elt iter : Expr} {ifs : List Expr} {scope : Scope} {own : List (Str × Nat)} {it : En → Option (List D)} {t : En → Option Bool} {f : En → Option D} (hc : X.calm = true) (hN : X.N.Nodup) (hi : PI X tg iter (tI X.K it)) (ok : BlkOk X.N X.env.scope scope own)
    (hg : ∀ (s : Shared) (H : Hp) (C : Addr) (cl : List (Str × Addr)) (fp : List Addr), PG (X.blk s H scope (compEnvC scope cl C X.env) fp) tg (tG X.K ts g)) (ht : ∀ (s : Shared) (H : Hp) (C : Addr) (cl : List (Str × Addr)) (fp : List Addr), PTs (X.blk s H scope (compEnvC scope cl C X.env) fp) ifs (tT X.K t))
    (he : ∀ (s : Shared) (H : Hp) (C : Addr) (cl : List (Str × Addr)) (fp : List Addr), PE (X.blk s H scope (compEnvC scope cl C X.env) fp) elt (tD X.K f)) (hts : ∀ i ∈ ts, i ∈ own.map (·.2) := by decide) (hs : ∀ x, foldedSetIterable iter X.env x = pure x := by intro _; rfl) :
    PE X (.ListComp elt [⟨tg, iter, ifs, 0⟩] scope pos) (tD X.K (fLc it g t f (own.map (·.2)))) := PE_weak (pe_lc hc hN hi ok hg ht he hs) fun _ _ _ h => t_lc hts h
theorem s_setLc (i : Nat) {y : Str} {py spos : Pos} {elt iter : Expr} {ifs : List Expr} {scope : Scope} {own : List (Str × Nat)} {it : En → Option (List D)} {t : En → Option Bool} {f : En → Option D} (hc : X.calm = true) (hN : X.N.Nodup) (hi : PI X tg iter (tI X.K it)) (ok : BlkOk X.N X.env.scope scope own)
    (hg : ∀ (s : Shared) (H : Hp) (C : Addr) (cl : List (Str × Addr)) (fp : List Addr), PG (X.blk s H scope (compEnvC scope cl C X.env) fp) tg (tG X.K ts g)) (ht : ∀ (s : Shared) (H : Hp) (C : Addr) (cl : List (Str × Addr)) (fp : List Addr), PTs (X.blk s H scope (compEnvC scope cl C X.env) fp) ifs (tT X.K t))
    (he : ∀ (s : Shared) (H : Hp) (C : Addr) (cl : List (Str × Addr)) (fp : List Addr), PE (X.blk s H scope (compEnvC scope cl C X.env) fp) elt (tD X.K f)) (hsw : swapsWith (.ListComp elt [⟨tg, iter, ifs, 0⟩] scope pos) (some (.Name y py)) spos.line X.env = pure true)
    (hts : ∀ i ∈ ts, i ∈ own.map (·.2) := by decide) (hy : X.N[i]? = some y := by rfl) (hyl : X.env.scope.names.lookup y = some .local := by rfl) (hs : ∀ x, foldedSetIterable iter X.env x = pure x := by intro _; rfl) :
    PS X (.Assign [.Name y py] (.ListComp elt [⟨tg, iter, ifs, 0⟩] scope pos) spos) (tS X.K (fSet i (fLc it g t f (own.map (·.2))))) := PS_weak (ps_setLc hc hN hy hyl hsw hi ok hg ht he hs) fun N σ H h => by
  obtain ⟨H0, Hb0, env, Hb, fl, r, sp, ef, out⟩ := h
  obtain ⟨d, ed, ef⟩ := bind1 ef
  cases ef
  exact t_lc hts ⟨H0, env, Hb, d, r, sp.c, ed, fun v Hb1 H1 s1 iv => out _ Hb1 H1 ((r.step s1).set i iv) (sp.trans s1)⟩

/-! ### calls and defs -/
def spD (K : PySem.W.Frag) (sem : List D → Option D) : Sp := fun vs H Q _ => ∃ Hb ds d, Same Hb H ∧ IsL K Hb ds vs ∧ sem ds = some d ∧ ∀ v Hb' H', Step Hb H Hb' H' → Is K Hb' d v → Q v H'
def fCall (sem : List D → Option D) (fs : En → Option (List D)) : En → Option D := fun env => (fs env).bind sem
theorem t_call {sem : List D → Option D} {E : XK} {σ : L2.St} {H : Hp} {Q : VK} (h : tD X.K (fCall sem fs) σ H Q) : tCall (spD X.K sem) [] E (tA X.K fs) σ H Q := by
  obtain ⟨H0, env, Hb, d, r, sm, ef, q⟩ := h
  obtain ⟨ds, ed, ef⟩ := bind1 ef
  exact ⟨H0, env, Hb, ds, r, sm, ed, fun vs Hb1 H1 s1 iv => by
    show spD X.K sem (vs ++ []) H1 Q E
    rw [List.append_nil]
    exact ⟨Hb1, ds, d, s1.c, iv, ef, fun v Hb2 H2 s2 i2 => q v Hb2 H2 (s1.trans s2) i2⟩⟩
theorem e_call {x : Str} {es : List Expr} {f : Addr} {fd : FuncData} {ps : List Str} {k : Nat} {sem : List D → Option D} (Fo : FnOk X.prog X.w X.K X.mg X.base CX0 k f fd ps (spD X.K sem)) (hr : Room k X.A) (hm : X.mg x = some (.ref f)) (hk : PySem.W.keepIn X.K (.ref f) = true) (hb : Binds X.K fd ps [])
    (ha : PA X (e :: es) (tA X.K fs)) (hg : Gl X x := by rfl) (hdb : (x == ("__debug__" : Str)) = false := by decide) (he : starEach (e :: es) X.env = (false, eval e X.env) :: starEach es X.env := by rfl) (hpl : (backTo pos (starEach es X.env)).any (·.1) = false := by rfl) :
    PE X (.Call (.Name x p) (e :: es) [] pos) (tD X.K (fCall sem fs)) := PE_weak (pe_call Fo hr hg hm hk hb .nil pass0 ha hdb he hpl) fun _ _ _ h => t_call h
/-- built-ins -/
def fBlt (g : List D → Option D) (fs : En → Option (List D)) : En → Option D := fun env => (fs env).bind g
theorem t_cb {g : List D → Option D} {σ : L2.St} {H : Hp} {Q : VK} (h : tD X.K (fBlt g fs) σ H Q) : tCB (rDA X.K g) (tA X.K fs) σ H Q := by
  obtain ⟨H0, env, Hb, d, r, sm, ef, q⟩ := h
  obtain ⟨ds, ed, ef⟩ := bind1 ef
  exact ⟨H0, env, Hb, ds, r, sm, ed, fun vs Hb1 H1 s1 iv => ⟨Hb1, ds, d, s1.c, iv, ef, fun v Hb2 H2 s2 i2 => q v Hb2 H2 (s1.trans s2) i2⟩⟩
theorem e_blt {x : Str} {id : String} {es : List Expr} {g : List D → Option D} (hc : CallR X (.builtin id) (rDA X.K g)) (hm : X.mg x = none) (hv : bootBuiltins x = some (.builtin id)) (ha : PA X (e :: es) (tA X.K fs)) (hg : Gl X x := by rfl) (hn : x ≠ "__name__" := by decide) (hdb : (x == ("__debug__" : Str)) = false := by decide)
    (he : starEach (e :: es) X.env = (false, eval e X.env) :: starEach es X.env := by rfl) (hpl : (backTo pos (starEach es X.env)).any (·.1) = false := by rfl) : PE X (.Call (.Name x p) (e :: es) [] pos) (tD X.K (fBlt g fs)) := PE_weak (pe_callB hc hg hm hv ha hn hdb he hpl) fun _ _ _ h => t_cb h
theorem e_ty {x : Str} {T : String} {es : List Expr} {g : List D → Option D} (hc : CallR X (.type T) (rDA X.K g)) (hm : X.mg x = none) (hv : bootBuiltins x = some (.type T)) (ha : PA X (e :: es) (tA X.K fs)) (hg : Gl X x := by rfl) (hn : x ≠ "__name__" := by decide) (hdb : (x == ("__debug__" : Str)) = false := by decide)
    (he : starEach (e :: es) X.env = (false, eval e X.env) :: starEach es X.env := by rfl) (hpl : (backTo pos (starEach es X.env)).any (·.1) = false := by rfl) : PE X (.Call (.Name x p) (e :: es) [] pos) (tD X.K (fBlt g fs)) := PE_weak (pe_callTy hc hg hm hv ha hn hdb he hpl) fun _ _ _ h => t_cb h
end

def startE (n : Nat) (ds : List D) : En := ds.map some ++ List.replicate (n - ds.length) none
/-- what a def's body computes -/
def semOf (n m : Nat) (F : En → Option Fl) : List D → Option D := fun ds => if ds.length = m then (F (startE n ds)).bind fun fl => match fl with
  | .rt d => some d
  | .nx _ => some .non
  | _ => none
 else none
theorem rel_start {K : PySem.W.Frag} {Hb H : Hp} {N : List Str} {ds : List D} {vs : List V} (h : IsL K Hb ds vs) : Rel K H Hb H (L2.start N vs) (startE N.length ds) := by
  have hown : ∀ (ds : List D) (vs : List V), IsL K Hb ds vs → ∀ d ∈ ds, d.isOwn = false := by
    intro ds
    induction ds with
    | nil => intro _ _ d hd; cases hd
    | cons x xs ih =>
      intro vs h d hd
      simp only [IsL] at h
      obtain ⟨v, r, _, i1, i2⟩ := h
      rcases List.mem_cons.mp hd with rfl | hd
      · cases d <;> first | rfl | (simp only [Is] at i1)
      · exact ih r i2 d hd
  have pl := hown ds vs h
  have get : ∀ (i : Nat) (d : D), (startE N.length ds)[i]? = some (some d) → ds[i]? = some d := fun i d e => by
    unfold startE at e
    by_cases hi : i < ds.length
    · rw [List.getElem?_append_left (by simpa using hi), List.getElem?_map] at e
      cases q : ds[i]? with
      | none => rw [q] at e; cases e
      | some z => rw [q] at e; cases e; rfl
    · rw [List.getElem?_append_right (by simpa using hi), List.getElem?_replicate] at e
      split at e <;> cases e
  refine ⟨?_, fun i d e => ?_, fun i j d e a _ e1 e2 o1 _ _ _ => ?_⟩
  · unfold L2.start startE
    rw [List.length_append, List.length_append, List.length_map, List.length_map, List.length_replicate, List.length_replicate, h.length]
  · have e' := get i d e
    obtain ⟨v, h1, h2⟩ := h.get e'
    refine ⟨v, ?_, ?_⟩
    · unfold L2.start
      have hi := (List.getElem?_eq_some_iff.mp h1).1
      rw [List.getElem?_append_left (by simpa using hi), List.getElem?_map, h1]
      rfl
    · rw [IsS.plain (pl d (List.mem_of_getElem? e'))]
      exact h2
  · have := pl d (List.mem_of_getElem? (get i d e1))
    rw [this] at o1
    cases o1
section
variable {P : Program} {w : World} {K : PySem.W.Frag} {mg : Str → Option Value} {base : Heap}
theorem fn_d {x qual : Str} {st : Stmt} {f : Addr} {fd : FuncData} {N ps : List Str} {k : Nat} {F : En → Option Fl} (Fu : Fun K x qual st f fd) (S : FnScope N ps (defScope st))
    (hb : ∀ (cdv : Value) (A : Around) (outer : List Env) (s : Shared) (H : Hp) (E : XK), Room k (A.deeper (envOfC qual (defScope st) s.heap.objs.size f cdv)) → PSs (cxOf CX0 P w K mg base N qual (defScope st) f cdv A outer s H E).nox (defBody st) (tS K F)) :
    FnOk P w K mg base CX0 (k + 1) f fd ps (spD K (semOf N.length ps.length F)) := by
  refine Fu.ok S (fun vs H Q E h => ?_) (fun cdv A outer s H vs Q E hr h => ⟨_, hb cdv A outer s H E hr, ?_⟩)
  · obtain ⟨Hb, ds, d, sm, il, es, q⟩ := h
    unfold semOf at es
    split at es
    · rename_i hl
      rw [il.length, hl]
    · cases es
  · obtain ⟨Hb, ds, d, sm, il, es, q⟩ := h
    unfold semOf at es
    split at es
    · obtain ⟨fl, ef, es⟩ := bind1 es
      refine ⟨H, Hb, startE N.length ds, Hb, fl, rel_start il, Step.refl sm, ef, ?_⟩
      cases fl with
      | rt d' => cases es; exact q
      | nx e' =>
        cases es
        exact fun σ Hb' H' r' s' => q .non Hb' H' s' (by simp only [Is])
      | bk e' => cases es
      | ct e' => cases es
    · cases es
theorem fn_nice {f : Addr} {fd : FuncData} {ps : List Str} {k : Nat} {sem nice : List D → Option D} (h : FnOk P w K mg base CX0 k f fd ps (spD K sem)) (q : ∀ ds d, nice ds = some d → sem ds = some d) : FnOk P w K mg base CX0 k f fd ps (spD K nice) :=
  h.imp fun vs H Q E ⟨Hb, ds, d, a1, a2, a3, a4⟩ => ⟨Hb, ds, d, a1, a2, q ds d a3, a4⟩
/-- the law's own promise -/
def spLaw (K : PySem.W.Frag) : Sp := fun vs H Q _ => ∃ (a : Addr) (ns : List Int), vs = [.ref a] ∧ SqL K H a (ns.map V.int) ∧ ns.length ≤ 63 ∧ ∀ H', Q (.bl true) H'
theorem fn_law {f : Addr} {fd : FuncData} {k : Nat} {sem : List D → Option D} (h : FnOk P w K mg base CX0 k f fd ["script"] (spD K sem)) (q : ∀ ns : List Int, ns.length ≤ 63 → sem [.scr ns] = some (.bl true)) : FnOk P w K mg base CX0 k f fd ["script"] (spLaw K) :=
  h.imp fun vs H Q E ⟨a, ns, e, hs, hl, hq⟩ => ⟨H, [.scr ns], .bl true, Same.refl H, by
    subst e
    simp only [IsL, Is]
    exact ⟨_, _, rfl, ⟨a, rfl, hs⟩, rfl⟩, q ns hl, fun v Hb' H' _ iv => by
    simp only [Is] at iv
    subst iv
    exact hq H'⟩
end
end Dn
set_option Elab.async false
set_option linter.all false
set_option maxRecDepth 100000
/-! Part D: built-ins and methods of texts. -/
namespace Dn
open PySem L2 PySem.Spec PyProof.Rows

def strsOf : List D → Option (List (List Nat))
  | [] => some []
  | .str l :: ds => (strsOf ds).bind fun r => some (l :: r)
  | _ :: _ => none
def intsOf : List D → Option (List Int)
  | [] => some []
  | .int l :: ds => (intsOf ds).bind fun r => some (l :: r)
  | _ :: _ => none
def blsOf : List D → Option (List Bool)
  | [] => some []
  | .bl l :: ds => (blsOf ds).bind fun r => some (l :: r)
  | _ :: _ => none
theorem strsOf_eq : ∀ {ds : List D} {ls : List (List Nat)}, strsOf ds = some ls → ds = ls.map D.str
  | [], ls, h => by cases h; rfl
  | .str l :: ds, ls, h => by
    obtain ⟨r, e, h⟩ := bind1 h
    cases h
    rw [List.map_cons, strsOf_eq e]
  | .non :: _, _, h => by cases h
  | .bl _ :: _, _, h => by cases h
  | .int _ :: _, _, h => by cases h
  | .tup _ :: _, _, h => by cases h
  | .lst _ :: _, _, h => by cases h
  | .scr _ :: _, _, h => by cases h
  | .adr _ :: _, _, h => by cases h
  | .dct _ :: _, _, h => by cases h
  | .own _ :: _, _, h => by cases h
  | .ownd _ :: _, _, h => by cases h
theorem intsOf_eq : ∀ {ds : List D} {ls : List Int}, intsOf ds = some ls → ds = ls.map D.int
  | [], ls, h => by cases h; rfl
  | .int l :: ds, ls, h => by
    obtain ⟨r, e, h⟩ := bind1 h
    cases h
    rw [List.map_cons, intsOf_eq e]
  | .non :: _, _, h => by cases h
  | .bl _ :: _, _, h => by cases h
  | .str _ :: _, _, h => by cases h
  | .tup _ :: _, _, h => by cases h
  | .lst _ :: _, _, h => by cases h
  | .scr _ :: _, _, h => by cases h
  | .adr _ :: _, _, h => by cases h
  | .dct _ :: _, _, h => by cases h
  | .own _ :: _, _, h => by cases h
  | .ownd _ :: _, _, h => by cases h
theorem blsOf_eq : ∀ {ds : List D} {ls : List Bool}, blsOf ds = some ls → ds = ls.map D.bl
  | [], ls, h => by cases h; rfl
  | .bl l :: ds, ls, h => by
    obtain ⟨r, e, h⟩ := bind1 h
    cases h
    rw [List.map_cons, blsOf_eq e]
  | .non :: _, _, h => by cases h
  | .int _ :: _, _, h => by cases h
  | .str _ :: _, _, h => by cases h
  | .tup _ :: _, _, h => by cases h
  | .lst _ :: _, _, h => by cases h
  | .scr _ :: _, _, h => by cases h
  | .adr _ :: _, _, h => by cases h
  | .dct _ :: _, _, h => by cases h
  | .own _ :: _, _, h => by cases h
  | .ownd _ :: _, _, h => by cases h
theorem strsOf_map : ∀ ls : List (List Nat), strsOf (ls.map D.str) = some ls
  | [] => rfl
  | l :: ls => by rw [List.map_cons, strsOf, strsOf_map ls]; rfl
theorem intsOf_map : ∀ ls : List Int, intsOf (ls.map D.int) = some ls
  | [] => rfl
  | l :: ls => by rw [List.map_cons, intsOf, intsOf_map ls]; rfl
theorem blsOf_map : ∀ ls : List Bool, blsOf (ls.map D.bl) = some ls
  | [] => rfl
  | l :: ls => by rw [List.map_cons, blsOf, blsOf_map ls]; rfl
section
variable {K : PySem.W.Frag} {H : Hp}
theorem isl_strs : ∀ {ls : List (List Nat)} {vs : List V}, IsL K H (ls.map D.str) vs → vs = (ls.map S).map V.str
  | [], vs, h => by simpa only [List.map_nil, IsL] using h
  | l :: ls, vs, h => by
    simp only [List.map_cons, IsL, Is] at h
    obtain ⟨v, r, rfl, rfl, h⟩ := h
    rw [isl_strs h, List.map_cons, List.map_cons]
theorem isl_ints : ∀ {ls : List Int} {vs : List V}, IsL K H (ls.map D.int) vs → vs = ls.map V.int
  | [], vs, h => by simpa only [List.map_nil, IsL] using h
  | l :: ls, vs, h => by
    simp only [List.map_cons, IsL, Is] at h
    obtain ⟨v, r, rfl, rfl, h⟩ := h
    rw [isl_ints h, List.map_cons]
theorem isl_bls : ∀ {ls : List Bool} {vs : List V}, IsL K H (ls.map D.bl) vs → vs = ls.map V.bl
  | [], vs, h => by simpa only [List.map_nil, IsL] using h
  | l :: ls, vs, h => by
    simp only [List.map_cons, IsL, Is] at h
    obtain ⟨v, r, rfl, rfl, h⟩ := h
    rw [isl_bls h, List.map_cons]
theorem of_strs : ∀ (ls : List (List Nat)), IsL K H (ls.map D.str) ((ls.map S).map V.str)
  | [] => by simp only [List.map_nil, IsL]
  | l :: ls => by simp only [List.map_cons, IsL, Is]; exact ⟨_, _, rfl, rfl, of_strs ls⟩
theorem of_ints : ∀ (ls : List Int), IsL K H (ls.map D.int) (ls.map V.int)
  | [] => by simp only [List.map_nil, IsL]
  | l :: ls => by simp only [List.map_cons, IsL, Is]; exact ⟨_, _, rfl, rfl, of_ints ls⟩
/-- one argument -/
theorem isl1 {d : D} {vs : List V} (h : IsL K H [d] vs) : ∃ v, vs = [v] ∧ Is K H d v := by
  simp only [IsL] at h
  obtain ⟨v, r, rfl, i, rfl⟩ := h
  exact ⟨v, rfl, i⟩
theorem isl2 {d e : D} {vs : List V} (h : IsL K H [d, e] vs) : ∃ v w, vs = [v, w] ∧ Is K H d v ∧ Is K H e w := by
  simp only [IsL] at h
  obtain ⟨v, r, rfl, i, w, r2, rfl, i2, rfl⟩ := h
  exact ⟨v, w, rfl, i, i2⟩
end

/-! ### len, int, abs, all, sum, min, max -/
def lenG : List D → Option D
  | [.str l] => if l.length ≤ sizeLine then some (.int l.length) else none
  | [.tup l] => some (.int l.length)
  | [.lst l] => some (.int l.length)
  | [.scr l] => some (.int l.length)
  | _ => none
def intG : List D → Option D
  | [.int i] => some (.int i)
  | [.bl k] => some (.int (if k then 1 else 0))
  | [.str l] => if l.length ≤ 640 then (PySem.intText? (S l)).bind fun n => some (.int n) else none
  | _ => none
def absG : List D → Option D
  | [.int i] => some (.int (if i < 0 then -i else i))
  | _ => none
def tupG : List D → Option D
  | [.lst l] => some (.tup l)
  | [.tup l] => some (.tup l)
  | _ => none
def minOf {α : Type} (lt : α → α → Bool) (x : α) (xs : List α) : α := xs.foldl (fun a y => if lt y a then y else a) x
def maxOf {α : Type} (lt : α → α → Bool) (x : α) (xs : List α) : α := xs.foldl (fun a y => if lt a y then y else a) x
def ltS (a b : List Nat) : Bool := decide (a < b)
def ltI (a b : Int) : Bool := decide (a < b)
def minG : List D → Option D
  | [.lst ds] => match strsOf ds with
    | some (x :: xs) => some (.str (minOf ltS x xs))
    | _ => match intsOf ds with
      | some (x :: xs) => some (.int (minOf ltI x xs))
      | _ => none
  | _ => none
def maxG : List D → Option D
  | [.lst ds] => match intsOf ds with
      | some (x :: xs) => some (.int (maxOf ltI x xs))
      | _ => none
  | [.int i, .int j] => some (.int (if j > i then j else i))
  | _ => none
def allG : List D → Option D
  | [.lst ds] => (blsOf ds).bind fun bs => some (.bl (bs.all id))
  | _ => none
def sumG : List D → Option D
  | [.lst ds] => (intsOf ds).bind fun bs => some (.int bs.sum)
  | _ => none
section
variable {X : Cx}
theorem c_len : CallR X (.builtin "len") (rDA X.K lenG) := by
  intro pins s σ H xs us Q I r h
  obtain ⟨Hb, ds, d, sm, il, eg, q⟩ := h
  unfold lenG at eg
  split at eg
  · obtain ⟨v, rfl, iv⟩ := isl1 il
    simp only [Is] at iv
    subst iv
    obtain ⟨hl, rfl⟩ := iteS eg
    exact call_len_str pins s σ H _ us Q I r ⟨_, rfl, by rw [S_len]; exact hl, q _ Hb H (Step.refl sm) (by simp only [Is, S_len])⟩
  · obtain ⟨v, rfl, iv⟩ := isl1 il
    simp only [Is] at iv
    obtain ⟨p, vs, rfl, hx, lx⟩ := iv
    cases eg
    exact call_len_seq pins s σ H _ us Q I r ⟨p, vs, rfl, .inr (sq_mono sm hx), q _ Hb H (Step.refl sm) (by simp only [Is, lx.length])⟩
  · obtain ⟨v, rfl, iv⟩ := isl1 il
    simp only [Is] at iv
    obtain ⟨p, vs, rfl, hx, lx⟩ := iv
    cases eg
    exact call_len_seq pins s σ H _ us Q I r ⟨p, vs, rfl, .inl (.inl (.inl (sm _ _ hx))), q _ Hb H (Step.refl sm) (by simp only [Is, lx.length])⟩
  · obtain ⟨v, rfl, iv⟩ := isl1 il
    simp only [Is] at iv
    obtain ⟨p, rfl, hx⟩ := iv
    cases eg
    exact call_len_seq pins s σ H _ us Q I r ⟨p, _, rfl, .inl (sm.seq hx), q _ Hb H (Step.refl sm) (by simp only [Is, List.length_map])⟩
  · cases eg
theorem c_int : CallR X (.type "int") (rDA X.K intG) := by
  intro pins s σ H xs us Q I r h
  obtain ⟨Hb, ds, d, sm, il, eg, q⟩ := h
  unfold intG at eg
  split at eg
  · obtain ⟨v, rfl, iv⟩ := isl1 il
    simp only [Is] at iv
    subst iv
    cases eg
    exact call_int1 pins s σ H _ us Q I r (.inl ⟨_, rfl, q _ Hb H (Step.refl sm) (by simp only [Is])⟩)
  · obtain ⟨v, rfl, iv⟩ := isl1 il
    simp only [Is] at iv
    subst iv
    cases eg
    exact call_int1 pins s σ H _ us Q I r (.inr ⟨_, rfl, q _ Hb H (Step.refl sm) (by simp only [Is])⟩)
  · obtain ⟨v, rfl, iv⟩ := isl1 il
    simp only [Is] at iv
    subst iv
    split at eg
    · rename_i hl
      obtain ⟨n, en, ed⟩ := bind1 eg
      cases ed
      exact call_int_str pins s σ H _ us Q I r ⟨_, n, rfl, en, by rw [S_len]; exact hl, q _ Hb H (Step.refl sm) (by simp only [Is])⟩
    · cases eg
  · cases eg
theorem c_abs : CallR X (.builtin "abs") (rDA X.K absG) := by
  intro pins s σ H xs us Q I r h
  obtain ⟨Hb, ds, d, sm, il, eg, q⟩ := h
  unfold absG at eg
  split at eg
  · obtain ⟨v, rfl, iv⟩ := isl1 il
    simp only [Is] at iv
    subst iv
    cases eg
    exact call_abs pins s σ H _ us Q I r ⟨_, rfl, q _ Hb H (Step.refl sm) (by simp only [Is])⟩
  · cases eg
theorem c_all (hc : X.calm = true) : CallR X (.builtin "all") (rDA X.K allG) := by
  intro pins s σ H xs us Q I r h
  obtain ⟨Hb, ds, d, sm, il, eg, q⟩ := h
  unfold allG at eg
  split at eg
  · obtain ⟨v, rfl, iv⟩ := isl1 il
    simp only [Is] at iv
    obtain ⟨p, vs, rfl, hx, lx⟩ := iv
    obtain ⟨bs, eb, ed⟩ := bind1 eg
    cases ed
    have e := blsOf_eq eb
    subst e
    have := isl_bls lx
    subst this
    exact cr_all hc pins s σ H _ us Q I r ⟨p, bs, rfl, .inl (.inl (sm _ _ hx)), q _ Hb H (Step.refl sm) (by simp only [Is])⟩
  · cases eg
theorem c_sum (hc : X.calm = true) : CallR X (.builtin "sum") (rDA X.K sumG) := by
  intro pins s σ H xs us Q I r h
  obtain ⟨Hb, ds, d, sm, il, eg, q⟩ := h
  unfold sumG at eg
  split at eg
  · obtain ⟨v, rfl, iv⟩ := isl1 il
    simp only [Is] at iv
    obtain ⟨p, vs, rfl, hx, lx⟩ := iv
    obtain ⟨bs, eb, ed⟩ := bind1 eg
    cases ed
    have e := intsOf_eq eb
    subst e
    have := isl_ints lx
    subst this
    exact cr_sum hc pins s σ H _ us Q I r ⟨p, bs, rfl, .inl (.inl (sm _ _ hx)), q _ Hb H (Step.refl sm) (by simp only [Is])⟩
  · cases eg
theorem minOf_mem {α : Type} (lt : α → α → Bool) : ∀ (xs : List α) (x : α), minOf lt x xs ∈ x :: xs
  | [], x => List.mem_cons_self
  | y :: ys, x => by
    show minOf lt (if lt y x then y else x) ys ∈ _
    have := minOf_mem lt ys (if lt y x then y else x)
    rcases List.mem_cons.mp this with h | h
    · rw [h]
      split
      · exact List.mem_cons_of_mem _ List.mem_cons_self
      · exact List.mem_cons_self
    · exact List.mem_cons_of_mem _ (List.mem_cons_of_mem _ h)
theorem maxOf_mem {α : Type} (lt : α → α → Bool) : ∀ (xs : List α) (x : α), maxOf lt x xs ∈ x :: xs
  | [], x => List.mem_cons_self
  | y :: ys, x => by
    show maxOf lt (if lt x y then y else x) ys ∈ _
    have := maxOf_mem lt ys (if lt x y then y else x)
    rcases List.mem_cons.mp this with h | h
    · rw [h]
      split
      · exact List.mem_cons_of_mem _ List.mem_cons_self
      · exact List.mem_cons_self
    · exact List.mem_cons_of_mem _ (List.mem_cons_of_mem _ h)
theorem minOfI_le : ∀ (xs : List Int) (x : Int), ∀ y ∈ x :: xs, minOf ltI x xs ≤ y
  | [], x, y, h => by
    have : y = x := by simpa using h
    subst this
    exact Int.le_refl _
  | z :: zs, x, y, h => by
    show minOf ltI (if ltI z x then z else x) zs ≤ y
    have ih := minOfI_le zs (if ltI z x then z else x)
    have h0 := ih _ List.mem_cons_self
    have hle : (if ltI z x then z else x) ≤ x ∧ (if ltI z x then z else x) ≤ z := by
      unfold ltI
      by_cases q : z < x
      · rw [decide_eq_true q]
        simp
        omega
      · rw [decide_eq_false q]
        simp
        omega
    rcases List.mem_cons.mp h with rfl | h
    · omega
    · rcases List.mem_cons.mp h with rfl | h
      · omega
      · exact ih y (List.mem_cons_of_mem _ h)
theorem maxOfI_ge : ∀ (xs : List Int) (x : Int), ∀ y ∈ x :: xs, y ≤ maxOf ltI x xs
  | [], x, y, h => by
    have : y = x := by simpa using h
    subst this
    exact Int.le_refl _
  | z :: zs, x, y, h => by
    show y ≤ maxOf ltI (if ltI x z then z else x) zs
    have ih := maxOfI_ge zs (if ltI x z then z else x)
    have h0 := ih _ List.mem_cons_self
    have hle : x ≤ (if ltI x z then z else x) ∧ z ≤ (if ltI x z then z else x) := by
      unfold ltI
      by_cases q : x < z
      · rw [decide_eq_true q]
        simp
        omega
      · rw [decide_eq_false q]
        simp
        omega
    rcases List.mem_cons.mp h with rfl | h
    · omega
    · rcases List.mem_cons.mp h with rfl | h
      · omega
      · exact ih y (List.mem_cons_of_mem _ h)
theorem minD_strs : ∀ (ls : List (List Nat)) (l : List Nat), PySem.W.minD (.str (S l)) ((ls.map S).map PyData.str) = .str (S (minOf ltS l ls))
  | [], l => rfl
  | m :: ls, l => by
    show PySem.W.minD (if PySem.W.dataLt (.str (S m)) (.str (S l)) then .str (S m) else .str (S l)) _ = .str (S (minOf ltS (if ltS m l then m else l) ls))
    rw [PySem.W.dataLt_str]
    have : decide ((S m).cps.toList < (S l).cps.toList) = ltS m l := by simp [S, ltS]
    rw [this]
    cases ltS m l with
    | true => exact minD_strs ls m
    | false => exact minD_strs ls l
theorem readsAll_strs {h : Heap} : ∀ {us : List Value} {ls : List Str}, Vals (ls.map V.str) us → ∃ as, ReadsAll h us (ls.map PyData.str) as
  | us, [], r => by
    rw [List.map_nil] at r
    cases r
    exact ⟨_, ReadsAll.nil⟩
  | us, l :: ls, r => by
    rw [List.map_cons] at r
    cases r with
    | cons r1 r2 =>
      obtain ⟨t, rfl⟩ := r1
      obtain ⟨as, h2⟩ := readsAll_strs (h := h) r2
      exact ⟨_, ReadsAll.cons (Reads.str l t) h2⟩
theorem depth_strs : ∀ ls : List Str, PyData.depthAll (ls.map PyData.str) = 0
  | [] => by simp only [List.map_nil, PyData.depthAll]
  | l :: ls => by simp only [List.map_cons, PyData.depthAll, PyData.depth, depth_strs ls, Nat.max_self]
theorem c_min (hc : X.calm = true) (hu : X.A.units + 64 < cLine) : CallR X (.builtin "min") (rDA X.K minG) := by
  intro pins s σ H xs us Q I r h
  obtain ⟨Hb, ds, d, sm, il, eg, q⟩ := h
  unfold minG at eg
  split at eg
  · obtain ⟨v, rfl, iv⟩ := isl1 il
    simp only [Is] at iv
    obtain ⟨p, vs, rfl, hx, lx⟩ := iv
    split at eg
    · rename_i l ls eb
      cases eg
      have e := strsOf_eq eb
      subst e
      have := isl_strs lx
      subst this
      obtain ⟨its, rv, hl, hz⟩ := I.list (show SqL X.K H p _ from .inl (.inl (sm _ _ hx)))
      obtain ⟨as, ra⟩ := readsAll_strs (h := s.heap) rv
      rw [Vals.ref1 r]
      refine PySem.W.min_list_data (x := .str (S l)) (xs := (ls.map S).map PyData.str) (I.ok.hd hc) hl.isList (by simpa using ra) ⟨fun x hx y hy => ?_, fun x hx => ?_⟩ ?_ fun i v h' tk bs ev rd hk => ?_
      · have e1 : ∃ z, x = PyData.str z := by
          rcases List.mem_cons.mp hx with rfl | hx
          · exact ⟨_, rfl⟩
          · obtain ⟨z, _, rfl⟩ := List.mem_map.mp hx
            exact ⟨_, rfl⟩
        have e2 : ∃ z, y = PyData.str z := by
          rcases List.mem_cons.mp hy with rfl | hy
          · exact ⟨_, rfl⟩
          · obtain ⟨z, _, rfl⟩ := List.mem_map.mp hy
            exact ⟨_, rfl⟩
        obtain ⟨z1, rfl⟩ := e1
        obtain ⟨z2, rfl⟩ := e2
        simp only [PySem.W.alike]
      · rcases List.mem_cons.mp hx with rfl | hx
        · simp
        · obtain ⟨z, _, rfl⟩ := List.mem_map.mp hx
          simp
      · have := depth_strs ((l :: ls).map S)
        rw [List.map_cons, List.map_cons] at this
        rw [this]
        omega
      · rw [minD_strs] at rd
        have hv : ∃ z t, v = Value.str z t := by
          have hi : its[i]? = some v := by simpa using ev
          have hi2 := (List.getElem?_eq_some_iff.mp hi).1
          have hlen := rv.length
          obtain ⟨w, hw⟩ : ∃ w, (((l :: ls).map S).map V.str)[i]? = some w := ⟨_, List.getElem?_eq_getElem (by omega)⟩
          obtain ⟨u, hu1, hu2⟩ := rv.get hw
          rw [hi] at hu1
          cases hu1
          rw [List.getElem?_map] at hw
          cases e3 : ((l :: ls).map S)[i]? with
          | none => rw [e3] at hw; cases hw
          | some z =>
            rw [e3] at hw
            cases hw
            obtain ⟨t, rfl⟩ := hu2
            exact ⟨z, t, rfl⟩
        obtain ⟨z, t, rfl⟩ := hv
        cases rd
        exact ⟨.str _, H, I.kept hk, ⟨t, rfl⟩, q _ Hb H (Step.refl sm) (by simp only [Is])⟩
    · split at eg
      · rename_i n ns eb
        cases eg
        have e := intsOf_eq eb
        subst e
        have := isl_ints lx
        subst this
        refine cr_min hc pins s σ H _ us Q I r ⟨p, n :: ns, rfl, .inl (.inl (sm _ _ hx)), by simp, fun m hm hle => ?_⟩
        have : m = minOf ltI n ns := Int.le_antisymm (hle _ (minOf_mem ltI ns n)) (minOfI_le ns n m hm)
        subst this
        exact q _ Hb H (Step.refl sm) (by simp only [Is])
      · cases eg
  · cases eg
theorem c_max (hc : X.calm = true) : CallR X (.builtin "max") (rDA X.K maxG) := by
  intro pins s σ H xs us Q I r h
  obtain ⟨Hb, ds, d, sm, il, eg, q⟩ := h
  unfold maxG at eg
  split at eg
  · obtain ⟨v, rfl, iv⟩ := isl1 il
    simp only [Is] at iv
    obtain ⟨p, vs, rfl, hx, lx⟩ := iv
    split at eg
    · rename_i n ns eb
      cases eg
      have e := intsOf_eq eb
      subst e
      have := isl_ints lx
      subst this
      refine cr_max hc pins s σ H _ us Q I r ⟨p, n :: ns, rfl, .inl (.inl (sm _ _ hx)), by simp, fun m hm hle => ?_⟩
      have : m = maxOf ltI n ns := Int.le_antisymm (maxOfI_ge ns n m hm) (hle _ (maxOf_mem ltI ns n))
      subst this
      exact q _ Hb H (Step.refl sm) (by simp only [Is])
    · cases eg
  · obtain ⟨v, w, rfl, iv, iw⟩ := isl2 il
    simp only [Is] at iv iw
    subst iv iw
    cases eg
    exact call_max2 hc pins s σ H _ us Q I r ⟨_, _, rfl, q _ Hb H (Step.refl sm) (by simp only [Is])⟩
  · cases eg

/-! ### tuple(..) -/
variable {a b e o : Expr} {pos apos p : Pos} {fa fb fo : En → Option D} {fs : En → Option (List D)}
def tupD : D → Option D
  | .lst l => some (.tup l)
  | .tup l => some (.tup l)
  | _ => none
theorem e_tuple (hm : X.mg "tuple" = none) (ha : PE X a (tD X.K fa)) (hg : Gl X "tuple" := by rfl) (na : starEach [a] X.env = (false, eval a X.env) :: starEach [] X.env := by rfl) : PE X (.Call (.Name "tuple" p) [a] [] pos) (tD X.K (f1 tupD fa)) :=
  PE_weak (pe_tupleOf hg hm ha na) fun σ H Q h => by
    obtain ⟨H0, env, Hb, d, r, sm, ef, q⟩ := h
    obtain ⟨da, ea, eg⟩ := bind1 ef
    refine ⟨H0, env, Hb, da, r, sm, ea, fun v Hb1 H1 s1 iv => ?_⟩
    unfold tupD at eg
    split at eg
    · cases eg
      simp only [Is] at iv
      obtain ⟨p, vs, rfl, hx, lx⟩ := iv
      exact .inl ⟨p, vs, rfl, .inl (.inl (s1.c _ _ hx)), fun r hr => q _ _ _ (s1.trans (Step.new s1.c hr)) (is_tup_new (s1.c.free hr) lx)⟩
    · cases eg
      have iv' := iv
      simp only [Is] at iv'
      obtain ⟨p, vs, rfl, hx, lx⟩ := iv'
      exact .inr ⟨p, vs, rfl, sq_mono s1.c hx, q _ Hb1 H1 s1 iv⟩
    · cases eg

/-! ### methods of texts -/
def fM1 (g : List Nat → D → Option D) (fo fa : En → Option D) : En → Option D := fun env => (fo env).bind fun d => match d with
  | .str l => (fa env).bind fun x => g l x
  | _ => none
def rDM (K : PySem.W.Frag) (g : List Nat → D → Option D) : V → List V → Hp → VK → Prop := fun x xs H Q => ∃ Hb l y b d, Same Hb H ∧ x = .str (S l) ∧ xs = [y] ∧ Is K Hb b y ∧ g l b = some d ∧ ∀ v Hb' H', Step Hb H Hb' H' → Is K Hb' d v → Q v H'
theorem e_m1 {id : String} {name : Str} {g : List Nat → D → Option D} (slot : Slot "str" name id) (ty : typeOf (.builtin id) = pure (.type "method_descriptor")) (rule : MtR X id (rDM X.K g)) (ho : PE X o (tD X.K fo)) (he : PE X e (tD X.K fa))
    (hs : starEach [e] X.env = [(false, eval e X.env)] := by rfl) (hbase : attributeBase o name X.env (eval o X.env) = eval o X.env := by rfl) (hline : (apos.endLine == pos.line) = true := by rfl) :
    PE X (.Call (.Attribute o name apos) [e] [] pos) (tD X.K (fM1 g fo fa)) := PE_weak (pe_m1 slot ty rule ho he hs hbase hline) fun σ H Q h => by
  obtain ⟨H0, env, Hb, d, r, sm, ef, q⟩ := h
  obtain ⟨dd, eo, ef⟩ := bind1 ef
  refine ⟨H0, env, Hb, dd, r, sm, eo, fun v Hb1 H1 s1 iv => ?_⟩
  split at ef
  · simp only [Is] at iv
    subst iv
    obtain ⟨x, ex, eg⟩ := bind1 ef
    exact ⟨⟨_, rfl⟩, H0, env, Hb1, x, r.step s1, s1.c, ex, fun w Hb2 H2 s2 iw => ⟨Hb2, _, w, x, d, s2.c, rfl, rfl, iw, eg, fun v' Hb3 H3 s3 iv' => q v' Hb3 H3 (s1.trans (s2.trans s3)) iv'⟩⟩
  · cases ef
def joinL (sep : List Nat) : List (List Nat) → List Nat
  | [] => []
  | [x] => x
  | x :: rest => x ++ sep ++ joinL sep rest
theorem join_S (sep : List Nat) : ∀ ls : List (List Nat), Str.join (S sep) (ls.map S) = S (joinL sep ls)
  | [] => rfl
  | [x] => rfl
  | x :: y :: r => by
    have ih := join_S sep (y :: r)
    rw [List.map_cons] at ih
    show S x ++ S sep ++ Str.join (S sep) (S y :: r.map S) = S (x ++ sep ++ joinL sep (y :: r))
    rw [ih, S_app, S_app]
def joinD (sep : List Nat) : D → Option D
  | .lst ds => (strsOf ds).bind fun ls => if (ls.map List.length).sum + ls.length * sep.length ≤ 1000000 then some (.str (joinL sep ls)) else none
  | .tup ds => (strsOf ds).bind fun ls => if (ls.map List.length).sum + ls.length * sep.length ≤ 1000000 then some (.str (joinL sep ls)) else none
  | _ => none
theorem sum_S (ls : List (List Nat)) : ((ls.map S).map fun x : Str => x.length) = ls.map List.length := by
  rw [List.map_map]
  apply List.map_congr_left
  intro x _
  exact S_len x
theorem m_join : MtR X "str.join" (rDM X.K joinD) := by
  intro pins s σ H x xs v us Q I rx rs h
  obtain ⟨Hb, l, y, b, d, sm, rfl, rfl, ib, eg, q⟩ := h
  unfold joinD at eg
  split at eg
  · simp only [Is] at ib
    obtain ⟨p, vs, rfl, hx, lx⟩ := ib
    obtain ⟨ls, el, eg⟩ := bind1 eg
    obtain ⟨hsz, rfl⟩ := iteS eg
    have e := strsOf_eq el
    subst e
    have := isl_strs lx
    subst this
    refine mt_join pins s σ H _ _ v us Q I rx rs ⟨_, p, ls.map S, rfl, rfl, .inl (.inl (.inl (sm _ _ hx))), ?_, q _ Hb H (Step.refl sm) ?_⟩
    · rw [sum_S, List.length_map, S_len]
      omega
    · simp only [Is]
      unfold Txt.join
      rw [StrLaws.glued_eq_join, join_S]
  · simp only [Is] at ib
    obtain ⟨p, vs, rfl, hx, lx⟩ := ib
    obtain ⟨ls, el, eg⟩ := bind1 eg
    obtain ⟨hsz, rfl⟩ := iteS eg
    have e := strsOf_eq el
    subst e
    have := isl_strs lx
    subst this
    refine mt_join pins s σ H _ _ v us Q I rx rs ⟨_, p, ls.map S, rfl, rfl, .inr (sq_mono sm hx), ?_, q _ Hb H (Step.refl sm) ?_⟩
    · rw [sum_S, List.length_map, S_len]
      omega
    · simp only [Is]
      unfold Txt.join
      rw [StrLaws.glued_eq_join, join_S]
  · cases eg
theorem e_join (ho : PE X o (tD X.K fo)) (he : PE X e (tD X.K fa)) (hs : starEach [e] X.env = [(false, eval e X.env)] := by rfl) (hbase : attributeBase o "join" X.env (eval o X.env) = eval o X.env := by rfl) (hline : (apos.endLine == pos.line) = true := by rfl) :
    PE X (.Call (.Attribute o "join" apos) [e] [] pos) (tD X.K (fM1 joinD fo fa)) := e_m1 F.slot_str_join F.type_str_join m_join ho he hs hbase hline

/-! ### where a sign stands -/
def spots (l : List Nat) (c : Nat) : List Nat := (List.range l.length).filter fun i => decide (l[i]? = some c)
theorem occ_run (l : List Nat) (c lim : Nat) : ∀ (is : List Nat) (acc : Array Nat) (free : Nat), (∀ i ∈ is, free ≤ i) → is.Pairwise (· < ·) → acc.size + is.length ≤ lim →
    (forIn is (acc, free) (StrLaws.occBody (S l) (S [c]) l.length lim)).run.fst.toList = acc.toList ++ is.filter fun i => decide (l[i]? = some c)
  | [], acc, free, _, _, _ => by simp
  | i :: is, acc, free, hf, hp, hs => by
    rw [List.forIn_cons]
    unfold StrLaws.occBody
    have h1 : free ≤ i := hf i List.mem_cons_self
    have hp' := List.pairwise_cons.mp hp
    rw [List.length_cons] at hs
    have sub := StrLaws.subAt_one (S l) c i
    rw [S_len] at sub
    have esl : (S l).cps.toList = l := by simp [S]
    rw [esl] at sub
    by_cases hc : l[i]? = some c
    · have hb := sub.mpr hc
      rw [if_pos ⟨⟨⟨by show acc.size < lim; omega, h1⟩, hb.1⟩, hb.2⟩]
      show (forIn is (acc.push i, i + 1) (StrLaws.occBody (S l) (S [c]) l.length lim)).run.fst.toList = _
      rw [occ_run l c lim is (acc.push i) (i + 1) (fun j hj => hp'.1 j hj) hp'.2 (by rw [Array.size_push]; omega)]
      rw [List.filter_cons_of_pos (by simpa using hc)]
      simp
    · rw [if_neg fun h => hc (sub.mp ⟨h.1.2, h.2⟩)]
      show (forIn is (acc, free) (StrLaws.occBody (S l) (S [c]) l.length lim)).run.fst.toList = _
      rw [occ_run l c lim is acc free (fun j hj => hf j (List.mem_cons_of_mem _ hj)) hp'.2 (by omega)]
      rw [List.filter_cons_of_neg (by simpa using hc)]
theorem occ_sign (l : List Nat) (c : Nat) : Builtin.Str.occurrences (S l) (S [c]) 0 l.length (l.length + 1) = spots l c := by
  rw [StrLaws.occ_eq, occ_run l c (l.length + 1) _ #[] 0 (fun _ _ => Nat.zero_le _) (List.pairwise_lt_range' ..) (by simp)]
  simp only [Nat.sub_zero, List.nil_append]
  unfold spots
  rw [← List.range_eq_range', List.range_succ, List.filter_append]
  simp
theorem spots_len (c : Nat) : ∀ l : List Nat, (spots l c).length = l.count c
  | [] => rfl
  | x :: xs => by
    unfold spots
    rw [List.length_cons, List.range_succ_eq_map, List.filter_cons, List.filter_map]
    have ih := spots_len c xs
    unfold spots at ih
    have e : ((List.range xs.length).filter ((fun i => decide ((x :: xs)[i]? = some c)) ∘ Nat.succ)) = (List.range xs.length).filter fun i => decide (xs[i]? = some c) := by
      congr 1
    by_cases h : x = c
    · subst h
      simp only [List.getElem?_cons_zero, decide_true, if_true, List.length_cons, List.length_map, e, ih, List.count_cons_self]
    · have : ¬ (some x = some c) := fun q => h (Option.some.inj q)
      simp only [List.getElem?_cons_zero, decide_eq_false this, List.length_map, e, ih]
      rw [List.count_cons_of_ne h]
      simp [List.length_map, e, ih]
def countD (l : List Nat) : D → Option D
  | .str [c] => some (.int (l.count c))
  | _ => none
theorem m_count : MtR X "str.count" (rDM X.K countD) := by
  intro pins s σ H x xs v us Q I rx rs h
  obtain ⟨Hb, l, y, b, d, sm, rfl, rfl, ib, eg, q⟩ := h
  unfold countD at eg
  split at eg
  · simp only [Is] at ib
    subst ib
    cases eg
    refine mt_count pins s σ H _ _ v us Q I rx rs ⟨_, _, rfl, rfl, q _ Hb H (Step.refl sm) ?_⟩
    simp only [Is]
    unfold Txt.count
    rw [S_len, occ_sign, spots_len]
  · cases eg
theorem e_count (ho : PE X o (tD X.K fo)) (he : PE X e (tD X.K fa)) (hs : starEach [e] X.env = [(false, eval e X.env)] := by rfl) (hbase : attributeBase o "count" X.env (eval o X.env) = eval o X.env := by rfl) (hline : (apos.endLine == pos.line) = true := by rfl) :
    PE X (.Call (.Attribute o "count" apos) [e] [] pos) (tD X.K (fM1 countD fo fa)) := e_m1 F.slot_str_count F.type_str_count m_count ho he hs hbase hline

/-! ### s[::k] -/
def stride (l : List Nat) (k : Int) : List Nat := (Txt.sliceBy (S l) none none (k, 0)).cps.toList
def slkD : D → D → Option D
  | .str l, .int k => if l.length ≤ sizeLine ∧ k ≠ 0 then some (.str (stride l k)) else none
  | _, _ => none
theorem e_slk {p3 : Pos} (he : PE X e (tD X.K fa)) (hk : PE X b (tD X.K fb)) (hi : ∀ x t r, letTemporaryGo e (.str x t) r = pure () := by intro _ _ _; with_unfolding_all rfl)
    (hss : ∀ (x : Str) (t : Tok) (n : Addr), subscripted (.Slice none none (some b) p3) false (.str x t) (.ref n) = operate [.ref n, .str x t] (getItem (.str x t) (.ref n)) := by intro _ _ _; with_unfolding_all rfl) :
    PE X (.Subscript e (.Slice none none (some b) p3) pos) (tD X.K (f2 slkD fa fb)) := ⟨fun pins s σ H Q I h => by
  obtain ⟨H0, env, Hb, d, r, sm, ef, q⟩ := h
  obtain ⟨da, db, ea, eb, eg⟩ := bind2 ef
  unfold slkD at eg
  split at eg
  · rename_i l k
    obtain ⟨⟨hl, hk0⟩, rfl⟩ := iteS eg
    refine Subscript_ (thn (he.run pins s σ H _ I ⟨H0, env, Hb, _, r, sm, ea, fun x Hb1 H1 s1 ix => (⟨Hb1, s1, ix⟩ : ∃ Hb1, Step Hb H Hb1 H1 ∧ Is X.K Hb1 (.str l) x)⟩) fun v s1 ⟨x, H1, I1, r1, Hb1, st1, ix⟩ => ?_)
    simp only [Is] at ix
    subst ix
    obtain ⟨t, rfl⟩ := r1
    refine wpAny_Slice (thn (po_none.run pins s1 σ H1 (fun o H2 => o = none ∧ H2 = H1) I1 ⟨rfl, rfl⟩) fun vl s2 ⟨lo, H2, I2, pl, el, e2⟩ => ?_)
    subst el e2
    refine thn (po_none.run pins s2 σ H2 (fun o H3 => o = none ∧ H3 = H2) I2 ⟨rfl, rfl⟩) fun vu s3 ⟨u, H3, I3, pu, eu, e3⟩ => ?_
    subst eu e3
    refine thn ((po_some hk).run pins s3 σ H3 (fun o H4 => o = some k ∧ ∃ Hb4, Step Hb H Hb4 H4) I3 ⟨H0, env, Hb1, .int k, r.step st1, st1.c, eb, fun v' Hb4 H4 s4 iv4 => ⟨k, by simpa only [Is] using iv4, rfl, Hb4, st1.trans s4⟩⟩) fun vs s4 ⟨o, H4, I4, ps, eo, Hb4, st4⟩ => ?_
    subst eo
    have I5 : Inv X pins σ H4 { s4 with heap := s4.heap.push { cls := .type "slice", data := .fields #[vl, vu, vs] } } := I4.kept (t' := s4.toks) fun b ob q => Heap.get?_push_of_some _ q
    cases pl
    cases pu
    cases ps with
    | int _ uk =>
      show wpAny (model X.prog X.w) X.A (subscriptTail e (.Slice none none (some b) p3) (.str (S l) t) (.ref s4.heap.objs.size)) (EP X pins σ Q) X.xe { s4 with heap := s4.heap.push { cls := .type "slice", data := .fields #[.none, .none, .int k uk] } }
      refine tail_of_ItemOn ⟨"str", _, F.slot_str_getitem.lookup, typeIs_str _ _ _, wpAny_getItem_str_slice (l := none) (u := none) (st := some (k, uk)) ⟨_, Heap.get?_push_size _ rfl, rfl, rfl⟩ (by simpa using hk0)
        (post_val_or_str ⟨Nat.le_trans (Txt.sliceBy_le (S l) _ _ (k, uk) (by simpa using hk0)) (by rw [S_len]; exact hl), fun t' c => ?_⟩)⟩ (hss _ _ _) (hi _ _)
      refine ⟨.str _, H4, I5.tok _, ⟨t', rfl⟩, q _ Hb4 H4 st4 ?_⟩
      simp only [Is]
      show V.str (Txt.sliceBy (S l) none none (k, uk)) = V.str ⟨(Txt.sliceBy (S l) none none (k, 0)).cps.toList.toArray⟩
      rfl
  · cases eg⟩
end
end Dn
set_option Elab.async false
set_option linter.all false
set_option maxRecDepth 100000
/-! Part E: defs of the text, and how the functions of slots are reckoned. -/
namespace Dn
open PySem L2 PySem.Spec PyProof.Rows

theorem room65 {k : Nat} {A : Around} (r : Room k A) : A.units + 65 < cLine := by have := r.un; omega
section
variable {P : Program} {w : World} {K : PySem.W.Frag} {mg : Str → Option Value} {base : Heap}
/-- a def stands -/
def Has (K : PySem.W.Frag) (mg : Str → Option Value) (x : Str) (st : Stmt) (ps : List Str) : Prop := ∃ f fd, Fun K x x st f fd ∧ mg x = some (.ref f) ∧ Binds K fd ps []
/-- a def does what sem says -/
def Def (P : Program) (w : World) (K : PySem.W.Frag) (mg : Str → Option Value) (base : Heap) (k : Nat) (x : Str) (ps : List Str) (sem : List D → Option D) : Prop :=
  ∃ f fd, FnOk P w K mg base CX0 k f fd ps (spD K sem) ∧ mg x = some (.ref f) ∧ PySem.W.keepIn K (.ref f) = true ∧ Binds K fd ps []
theorem d_of {x : Str} {st : Stmt} {N ps : List Str} {k : Nat} {F : En → Option Fl} {nice : List D → Option D} (h : Has K mg x st ps) (S : FnScope N ps (defScope st))
    (hb : ∀ (f : Addr) (cdv : Value) (A : Around) (outer : List Env) (s : Shared) (H : Hp) (E : XK), Room k (A.deeper (envOfC x (defScope st) s.heap.objs.size f cdv)) → PSs (cxOf CX0 P w K mg base N x (defScope st) f cdv A outer s H E).nox (defBody st) (tS K F))
    (q : ∀ ds d, nice ds = some d → semOf N.length ps.length F ds = some d) : Def P w K mg base (k + 1) x ps nice := by
  obtain ⟨f, fd, Fu, hm, hb'⟩ := h
  exact ⟨f, fd, fn_nice (fn_d Fu S (hb f)) q, hm, Fu.kp, hb'⟩
theorem l_of {x : Str} {st : Stmt} {N : List Str} {k : Nat} {F : En → Option Fl} {f : Addr} {fd : FuncData} (Fu : Fun K x x st f fd) (S : FnScope N ["script"] (defScope st))
    (hb : ∀ (f : Addr) (cdv : Value) (A : Around) (outer : List Env) (s : Shared) (H : Hp) (E : XK), Room k (A.deeper (envOfC x (defScope st) s.heap.objs.size f cdv)) → PSs (cxOf CX0 P w K mg base N x (defScope st) f cdv A outer s H E).nox (defBody st) (tS K F))
    (q : ∀ ns : List Int, ns.length ≤ 63 → semOf N.length 1 F [.scr ns] = some (.bl true)) : FnOk P w K mg base CX0 (k + 1) f fd ["script"] (spLaw K) :=
  fn_law (fn_d Fu S (hb f)) q
end
section
variable {X : Cx} {e : Expr} {es : List Expr} {pos p : Pos} {fs : En → Option (List D)}
theorem e_def {x : Str} {ps : List Str} {k j : Nat} {sem : List D → Option D} (h : Def X.prog X.w X.K X.mg X.base k x ps sem) (hr : Room j X.A) (ha : PA X (e :: es) (tA X.K fs)) (hkj : k ≤ j := by decide) (hg : Gl X x := by rfl) (hdb : (x == ("__debug__" : Str)) = false := by decide)
    (he : starEach (e :: es) X.env = (false, eval e X.env) :: starEach es X.env := by rfl) (hpl : (backTo pos (starEach es X.env)).any (·.1) = false := by rfl) :
    PE X (.Call (.Name x p) (e :: es) [] pos) (tD X.K (fCall sem fs)) := by
  obtain ⟨f, fd, Fo, hm, hk, hb⟩ := h
  exact e_call Fo (hr.mono hkj) hm hk hb ha hg hdb he hpl
theorem e_gs (l : List Nat) {x y : Str} (hm : ∃ tk, X.mg x = some (.str y tk)) (h : y = S l := by decide +kernel) (hg : Gl X x := by rfl) (hd : (x == ("__debug__" : Str)) = false := by decide) : PE X (.Name x pos) (tD X.K (fC (.str l))) := by
  obtain ⟨tk, hm⟩ := hm
  exact e_gstr l hm h hg hd
theorem e_gi (i : Int) {x : Str} (hm : ∃ tk, X.mg x = some (.int i tk)) (hg : Gl X x := by rfl) (hd : (x == ("__debug__" : Str)) = false := by decide) : PE X (.Name x pos) (tD X.K (fC (.int i))) := by
  obtain ⟨tk, hm⟩ := hm
  exact e_gint i hm hg hd
end

/-! ### reckoning -/
theorem seq_nx {F G : En → Option Fl} {env e : En} (h : F env = some (.nx e)) : fSeq F G env = G e := by
  unfold fSeq
  rw [h]
  rfl
theorem seq_rt {F G : En → Option Fl} {env : En} {d : D} (h : F env = some (.rt d)) : fSeq F G env = some (.rt d) := by
  unfold fSeq
  rw [h]
  rfl
theorem set_of {i : Nat} {f : En → Option D} {env : En} {d : D} (h : f env = some d) : fSet i f env = some (.nx (env.set i (some d))) := by
  unfold fSet
  rw [h]
  rfl
theorem ret_of {f : En → Option D} {env : En} {d : D} (h : f env = some d) : fRet f env = some (.rt d) := by
  unfold fRet
  rw [h]
  rfl
theorem if_t {c : En → Option Bool} {F G : En → Option Fl} {env : En} (h : c env = some true) : fIfS c F G env = F env := by
  unfold fIfS
  rw [h]
  rfl
theorem if_f {c : En → Option Bool} {F G : En → Option Fl} {env : En} (h : c env = some false) : fIfS c F G env = G env := by
  unfold fIfS
  rw [h]
  rfl
/-- a comprehension without a test -/
theorem lc_map {α : Type} {g : D → En → Option En} {f : En → Option D} {env : En} (c : α → D) (h : α → D) : ∀ (xs : List α), (∀ x ∈ xs, ∃ e1, g (c x) env = some e1 ∧ f e1 = some (h x)) → lcF g fYes f env (xs.map c) = some (xs.map h)
  | [], _ => rfl
  | x :: xs, q => by
    obtain ⟨e1, a1, a2⟩ := q x List.mem_cons_self
    have ih := lc_map c h xs fun y hy => q y (List.mem_cons_of_mem _ hy)
    rw [List.map_cons, List.map_cons, lcF, a1]
    simp only [Option.bind_some, fYes, if_true, a2, ih]
theorem lc_filter {α : Type} {g : D → En → Option En} {t : En → Option Bool} {f : En → Option D} {env : En} (c : α → D) (k : α → Bool) (h : α → D) : ∀ (xs : List α), (∀ x ∈ xs, ∃ e1, g (c x) env = some e1 ∧ t e1 = some (k x) ∧ (k x = true → f e1 = some (h x))) → lcF g t f env (xs.map c) = some ((xs.filter k).map h)
  | [], _ => rfl
  | x :: xs, q => by
    obtain ⟨e1, a1, a2, a3⟩ := q x List.mem_cons_self
    have ih := lc_filter c k h xs fun y hy => q y (List.mem_cons_of_mem _ hy)
    rw [List.map_cons, lcF, a1]
    simp only [Option.bind_some, a2]
    cases hk : k x with
    | true =>
      rw [List.filter_cons_of_pos hk, List.map_cons]
      simp only [if_true, a3 hk, Option.bind_some, ih]
    | false =>
      rw [List.filter_cons_of_neg (by rw [hk]; decide)]
      simp only [Bool.false_eq_true, if_false, ih]
theorem lcw {it : En → Option (List D)} {g : D → En → Option En} {t : En → Option Bool} {f : En → Option D} {vs : List Nat} {env : En} {ds r : List D} (h1 : it env = some ds) (h2 : ds.length ≤ 1000000) (h3 : lcF g t f (wipeE env vs) ds = some r) : fLc it g t f vs env = some (.lst r) := by
  unfold fLc
  rw [h1]
  simp only [Option.bind_some, if_pos h2, h3]
/-- a loop that goes through -/
theorem for_inv {α : Type} {g : D → En → Option En} {B : En → Option Fl} (c : α → D) (I : List α → En → Prop) : ∀ (xs pre : List α) (env : En), I pre env → (∀ (p : List α) (x : α) (q : List α) (e : En), pre ++ xs = p ++ x :: q → I p e → ∃ e1 e2, g (c x) e = some e1 ∧ B e1 = some (.nx e2) ∧ I (p ++ [x]) e2) →
    ∃ e', forF g B (xs.map c) env = some (.nx e') ∧ I (pre ++ xs) e'
  | [], pre, env, h, _ => ⟨env, rfl, by rw [List.append_nil]; exact h⟩
  | x :: xs, pre, env, h, q => by
    obtain ⟨e1, e2, a1, a2, a3⟩ := q pre x xs env rfl h
    obtain ⟨e', b1, b2⟩ := for_inv c I xs (pre ++ [x]) e2 a3 fun p y r e hp hi => q p y r e (by rw [← hp]; simp) hi
    refine ⟨e', ?_, by simpa using b2⟩
    rw [List.map_cons, forF, a1]
    simp only [Option.bind_some, a2, b1]
theorem forw {it : En → Option (List D)} {g : D → En → Option En} {B : En → Option Fl} {env : En} {ds : List D} (h : it env = some ds) : fFor it g B env = forF g B ds env := by
  unfold fFor
  rw [h]
  rfl
end Dn
set_option Elab.async false
set_option linter.all false
set_option maxRecDepth 100000
/-! Part F: values, step by step. -/
namespace Dn
open PySem L2

section
variable {env : En} {a b c : D} {fa fb fc fo : En → Option D} {fs : En → Option (List D)} {ds : List D}
theorem v_c : fC a env = some a := rfl
theorem v_var {i : Nat} (h : env[i]? = some (some a)) (ho : a.isOwn = false) : fV i env = some a := by
  unfold fV
  rw [h]
  simp only [ho, Bool.false_eq_true, if_false]
theorem v_2 {g : D → D → Option D} (h1 : fa env = some a) (h2 : fb env = some b) (h3 : g a b = some c) : f2 g fa fb env = some c := by
  unfold f2
  rw [h1, h2]
  exact h3
theorem v_1 {g : D → Option D} (h1 : fa env = some a) (h3 : g a = some c) : f1 g fa env = some c := by
  unfold f1
  rw [h1]
  exact h3
theorem v_nil : fNil env = some [] := rfl
theorem v_cons (h1 : fa env = some a) (h2 : fs env = some ds) : fCons fa fs env = some (a :: ds) := by
  unfold fCons
  rw [h1, h2]
  rfl
theorem v_call {sem : List D → Option D} (h1 : fs env = some ds) (h2 : sem ds = some c) : fCall sem fs env = some c := by
  unfold fCall
  rw [h1]
  exact h2
theorem v_blt {sem : List D → Option D} (h1 : fs env = some ds) (h2 : sem ds = some c) : fBlt sem fs env = some c := by
  unfold fBlt
  rw [h1]
  exact h2
theorem v_tup (h1 : fs env = some ds) (h2 : ds.length ≤ sizeLine) : fTup fs env = some (.tup ds) := by
  unfold fTup
  rw [h1]
  simp only [Option.bind_some, if_pos h2]
theorem v_lst (h1 : fs env = some ds) (h2 : ds.length ≤ sizeLine) : fLst fs env = some (.lst ds) := by
  unfold fLst
  rw [h1]
  simp only [Option.bind_some, if_pos h2]
theorem v_sl {fl fh : En → Option (Option Int)} {lo hi : Option Int} (h1 : fa env = some a) (h2 : fl env = some lo) (h3 : fh env = some hi) (h4 : slD a lo hi = some c) : fSl fa fl fh env = some c := by
  unfold fSl
  rw [h1, h2, h3]
  exact h4
theorem v_no : fNo env = some none := rfl
theorem v_po {i : Int} (h : fa env = some (.int i)) : fPo fa env = some (some i) := by
  unfold fPo
  rw [h]
  rfl
theorem v_m1 {g : List Nat → D → Option D} {l : List Nat} (h1 : fo env = some (.str l)) (h2 : fa env = some a) (h3 : g l a = some c) : fM1 g fo fa env = some c := by
  unfold fM1
  rw [h1]
  simp only [Option.bind_some, h2, h3]
theorem v_b {k : Bool} (h : fa env = some (.bl k)) : fB fa env = some k := by
  unfold fB
  rw [h]
  rfl
theorem v_andt {ga gb : En → Option Bool} {k : Bool} (h1 : ga env = some true) (h2 : gb env = some k) : fAnd ga gb env = some k := by
  unfold fAnd
  rw [h1]
  simp only [Option.bind_some, if_true, h2]
theorem v_andf {ga gb : En → Option Bool} (h1 : ga env = some false) : fAnd ga gb env = some false := by
  unfold fAnd
  rw [h1]
  rfl
theorem v_ort {ga gb : En → Option Bool} (h1 : ga env = some true) : fOr ga gb env = some true := by
  unfold fOr
  rw [h1]
  rfl
theorem v_orf {ga gb : En → Option Bool} {k : Bool} (h1 : ga env = some false) (h2 : gb env = some k) : fOr ga gb env = some k := by
  unfold fOr
  rw [h1]
  simp only [Option.bind_some, Bool.false_eq_true, if_false, h2]
theorem v_not {ga : En → Option Bool} {k : Bool} (h1 : ga env = some k) : fNot ga env = some (!k) := by
  unfold fNot
  rw [h1]
  rfl
theorem v_andVt (h1 : fa env = some (.bl true)) (h2 : fb env = some c) : fAndV fa fb env = some c := by
  unfold fAndV
  rw [h1]
  simp only [Option.bind_some, asB, if_true, h2]
theorem v_andVf (h1 : fa env = some (.bl false)) : fAndV fa fb env = some (.bl false) := by
  unfold fAndV
  rw [h1]
  rfl
theorem v_orVt (h1 : fa env = some (.bl true)) : fOrV fa fb env = some (.bl true) := by
  unfold fOrV
  rw [h1]
  rfl
theorem v_orVf (h1 : fa env = some (.bl false)) (h2 : fb env = some c) : fOrV fa fb env = some c := by
  unfold fOrV
  rw [h1]
  simp only [Option.bind_some, asB, Bool.false_eq_true, if_false, h2]
theorem v_notV {k : Bool} (h1 : fa env = some (.bl k)) : fNotV fa env = some (.bl (!k)) := by
  unfold fNotV
  rw [h1]
  rfl
theorem v_it (h : fa env = some (.tup ds)) : fIt fa env = some ds := by
  unfold fIt
  rw [h]
  rfl
theorem v_itl (h : fa env = some (.lst ds)) : fIt fa env = some ds := by
  unfold fIt
  rw [h]
  rfl
theorem v_its {l : List Nat} (h : fa env = some (.str l)) : fIt fa env = some (l.map fun x => .str [x]) := by
  unfold fIt
  rw [h]
  rfl
theorem v_rng1 {n : Int} (h : fs env = some [.int n]) (h2 : -1000000 ≤ n ∧ n ≤ 1000000) : fRng1 fs env = some ((List.range n.toNat).map fun i => .int (i : Nat)) := by
  unfold fRng1
  rw [h]
  simp only [Option.bind_some, rangeD, Int.sub_zero, Int.zero_add]
  rw [if_pos (by omega)]
theorem v_rng2 {m n : Int} (h : fs env = some [.int m, .int n]) (h2 : -1000000 ≤ n ∧ n ≤ 1000000 ∧ -1000000 ≤ m ∧ m ≤ 1000000) : fRng2 fs env = some ((List.range (n - m).toNat).map fun i => .int (m + (i : Nat))) := by
  unfold fRng2
  rw [h]
  simp only [Option.bind_some, rangeD]
  rw [if_pos (by omega)]
end
/-! operations -/
theorem add_i (i j : Int) : addD (.int i) (.int j) = some (.int (i + j)) := rfl
theorem sub_i (i j : Int) : subD (.int i) (.int j) = some (.int (i - j)) := rfl
theorem mul_i {i j : Int} (h : (-(2 ^ 64) < i ∧ i < 2 ^ 64) ∨ (-(2 ^ 64) < j ∧ j < 2 ^ 64)) : mulD (.int i) (.int j) = some (.int (i * j)) := if_pos h
theorem fdiv_i {i j : Int} (h : 0 < j ∧ j < 1073741824) : fdivD (.int i) (.int j) = some (.int (i / j)) := if_pos h
theorem mod_i {i j : Int} (h : 0 < j) : modD (.int i) (.int j) = some (.int (i % j)) := if_pos h
theorem neg_i (i : Int) : negD (.int i) = some (.int (-i)) := rfl
theorem lt_i (i j : Int) : ltD (.int i) (.int j) = some (.bl (decide (i < j))) := rfl
theorem le_i (i j : Int) : leD (.int i) (.int j) = some (.bl (decide (i ≤ j))) := rfl
theorem gt_i (i j : Int) : gtD (.int i) (.int j) = some (.bl (decide (j < i))) := rfl
theorem ge_i (i j : Int) : geD (.int i) (.int j) = some (.bl (decide (j ≤ i))) := rfl
theorem eqv_i (i j : Int) : eqv (.int i) (.int j) = decide (i = j) := by
  unfold eqv
  simp only [toP, PyData.eqv]
  by_cases h : i = j
  · subst h; simp
  · simp [h]
theorem S_inj {a b : List Nat} (h : S a = S b) : a = b := SX.S_inj h
theorem eqv_s (i j : List Nat) : eqv (.str i) (.str j) = decide (i = j) := by
  unfold eqv
  simp only [toP, PyData.eqv]
  by_cases h : i = j
  · subst h; simp
  · rw [decide_eq_false h]
    rw [beq_eq_false_iff_ne]
    exact fun q => h (S_inj q)
theorem eqv_b (i j : Bool) : eqv (.bl i) (.bl j) = decide (i = j) := by
  unfold eqv
  simp only [toP, PyData.eqv]
  cases i <;> cases j <;> rfl
theorem eqv_refl (d : D) : eqv d d = true := PySem.SeqAt.eqv_refl_plain (toP d) (plain_toP d)
theorem eq_i (i j : Int) : eqD (.int i) (.int j) = some (.bl (decide (i = j))) := by
  unfold eqD
  rw [if_pos ⟨rfl, rfl⟩, eqv_i]
theorem ne_i (i j : Int) : neD (.int i) (.int j) = some (.bl (!decide (i = j))) := by
  unfold neD
  rw [if_pos ⟨rfl, rfl⟩, eqv_i]
theorem eq_s (i j : List Nat) : eqD (.str i) (.str j) = some (.bl (decide (i = j))) := by
  unfold eqD
  rw [if_pos ⟨rfl, rfl⟩, eqv_s]
theorem ne_s (i j : List Nat) : neD (.str i) (.str j) = some (.bl (!decide (i = j))) := by
  unfold neD
  rw [if_pos ⟨rfl, rfl⟩, eqv_s]
theorem eq_same {d : D} (h : okN 60 d = true) : eqD d d = some (.bl true) := by
  unfold eqD
  rw [if_pos ⟨h, h⟩, eqv_refl]
theorem ne_same {d : D} (h : okN 60 d = true) : neD d d = some (.bl false) := by
  unfold neD
  rw [if_pos ⟨h, h⟩, eqv_refl]
  rfl
theorem add_s {x y : List Nat} (h : x.length + y.length ≤ 1000000) : addD (.str x) (.str y) = some (.str (x ++ y)) := if_pos (Nat.le_trans h size1000)
theorem add_t {x y : List D} (h : x.length + y.length ≤ 1000000) : addD (.tup x) (.tup y) = some (.tup (x ++ y)) := if_pos (Nat.le_trans h size1000)
theorem add_l {x y : List D} (h : x.length + y.length ≤ 1000000) : addD (.lst x) (.lst y) = some (.lst (x ++ y)) := if_pos (Nat.le_trans h size1000)
theorem mul_s {x : List Nat} {n : Int} (h : x.length ≤ 1000 ∧ -1000 ≤ n ∧ n ≤ 1000) : mulD (.str x) (.int n) = some (.str (reps x n.toNat)) := if_pos h
theorem mul_l {x : List D} {n : Int} (h : x.length ≤ 1000 ∧ -1000 ≤ n ∧ n ≤ 1000) : mulD (.lst x) (.int n) = some (.lst (reps x n.toNat)) := if_pos h
theorem len_s {x : List Nat} (h : x.length ≤ 1000000) : lenG [.str x] = some (.int x.length) := if_pos (Nat.le_trans h size1000)
theorem len_t (x : List D) : lenG [.tup x] = some (.int x.length) := rfl
theorem len_l (x : List D) : lenG [.lst x] = some (.int x.length) := rfl
theorem len_c (x : List Int) : lenG [.scr x] = some (.int x.length) := rfl
theorem int_b (k : Bool) : intG [.bl k] = some (.int (if k then 1 else 0)) := rfl
theorem int_i (k : Int) : intG [.int k] = some (.int k) := rfl
theorem abs_i (k : Int) : absG [.int k] = some (.int (if k < 0 then -k else k)) := rfl
theorem atI_n {α : Type} {xs : List α} {i : Int} (h0 : 0 ≤ i) (h1 : i < xs.length) : atI xs i = xs[i.toNat]? := by
  unfold atI ixN
  rw [if_pos h0, if_pos h1]
  rfl
theorem ix_t {xs : List D} {i : Int} {d : D} (h0 : 0 ≤ i) (h : xs[i.toNat]? = some d) : ixD (.tup xs) (.int i) = some d := by
  show atI xs i = some d
  have := (List.getElem?_eq_some_iff.mp h).1
  rw [atI_n h0 (by omega)]
  exact h
theorem ix_l {xs : List D} {i : Int} {d : D} (h0 : 0 ≤ i) (h : xs[i.toNat]? = some d) : ixD (.lst xs) (.int i) = some d := by
  show atI xs i = some d
  have := (List.getElem?_eq_some_iff.mp h).1
  rw [atI_n h0 (by omega)]
  exact h
theorem ix_s {xs : List Nat} {i : Int} {d : Nat} (hl : xs.length ≤ 1000000) (h0 : 0 ≤ i) (h : xs[i.toNat]? = some d) : ixD (.str xs) (.int i) = some (.str [d]) := by
  show (if xs.length ≤ sizeLine then (atI xs i).bind _ else none) = _
  have := (List.getElem?_eq_some_iff.mp h).1
  rw [if_pos (Nat.le_trans hl size1000), atI_n h0 (by omega), h]
  rfl
theorem cut_from {α : Type} (xs : List α) (n : Nat) : cut xs (some (n : Int)) none = xs.drop n := by
  unfold cut
  rw [HT.sIx_nat, HT.sIx_none]
  by_cases h : n ≤ xs.length
  · rw [Nat.min_eq_left h, List.take_of_length_le (by rw [List.length_drop]; omega)]
  · rw [Nat.min_eq_right (by omega), List.drop_length, List.drop_of_length_le (by omega)]
    simp
theorem cut_to {α : Type} (xs : List α) (n : Nat) : cut xs none (some (n : Int)) = xs.take n := by
  unfold cut
  rw [HT.sIx_nat, HT.sIx_none, List.drop_zero, Nat.sub_zero]
  by_cases h : n ≤ xs.length
  · rw [Nat.min_eq_left h]
  · rw [Nat.min_eq_right (by omega), List.take_length, List.take_of_length_le (by omega)]
theorem sl_s {x : List Nat} {lo hi : Option Int} (h : x.length ≤ 1000000) : slD (.str x) lo hi = some (.str (cut x lo hi)) := if_pos (Nat.le_trans h size1000)
theorem sl_t (x : List D) (lo hi : Option Int) : slD (.tup x) lo hi = some (.tup (cut x lo hi)) := rfl
theorem sl_l (x : List D) (lo hi : Option Int) : slD (.lst x) lo hi = some (.lst (cut x lo hi)) := rfl
theorem join_l {sep : List Nat} {ls : List (List Nat)} (h : (ls.map List.length).sum + ls.length * sep.length ≤ 1000000) : joinD sep (.lst (ls.map D.str)) = some (.str (joinL sep ls)) := by
  show (strsOf (ls.map D.str)).bind _ = _
  rw [strsOf_map]
  exact if_pos h
theorem joinL_nil (ls : List (List Nat)) : joinL [] ls = ls.flatten := by
  induction ls with
  | nil => rfl
  | cons x xs ih =>
    cases xs with
    | nil => simp [joinL]
    | cons y ys =>
      show x ++ [] ++ joinL [] (y :: ys) = _
      rw [ih, List.append_nil]
      simp
theorem min_s {x : List Nat} {xs : List (List Nat)} : minG [.lst ((x :: xs).map D.str)] = some (.str (minOf ltS x xs)) := by
  unfold minG
  simp only [strsOf_map]
theorem max_i {x : Int} {xs : List Int} : maxG [.lst ((x :: xs).map D.int)] = some (.int (maxOf ltI x xs)) := by
  unfold maxG
  simp only [intsOf_map]
theorem all_b (bs : List Bool) : allG [.lst (bs.map D.bl)] = some (.bl (bs.all id)) := by
  show (blsOf (bs.map D.bl)).bind _ = _
  rw [blsOf_map]
  rfl
theorem flat_one : ∀ (l : List Nat), (l.map fun c => [c]).flatten = l
  | [] => rfl
  | c :: l => by rw [List.map_cons, List.flatten_cons, flat_one l]; rfl

/-! statements -/
section
variable {env e e' : En} {F G : En → Option Fl} {fl : Fl} {f : En → Option D} {d : D}
theorem w_seq (h1 : F env = some (.nx e)) (h2 : G e = some fl) : fSeq F G env = some fl := (seq_nx h1).trans h2
theorem w_ret (h1 : F env = some (.rt d)) : fSeq F G env = some (.rt d) := seq_rt h1
theorem w_set {i : Nat} (h : f env = some d) (he : env.set i (some d) = e) : fSet i f env = some (.nx e) := by
  rw [set_of h, he]
theorem w_ift {c : En → Option Bool} (h : c env = some true) (h2 : F env = some fl) : fIfS c F G env = some fl := (if_t h).trans h2
theorem w_iff {c : En → Option Bool} (h : c env = some false) (h2 : G env = some fl) : fIfS c F G env = some fl := (if_f h).trans h2
theorem w_pass : fPass env = some (.nx env) := rfl
theorem w_for {it : En → Option (List D)} {g : D → En → Option En} {ds : List D} (h : it env = some ds) (h2 : forF g F ds env = some fl) : fFor it g F env = some fl := (forw h).trans h2
theorem w_forn {g : D → En → Option En} : forF g F [] env = some (.nx env) := rfl
theorem w_forc {g : D → En → Option En} {x : D} {ds : List D} (h1 : g x env = some e) (h2 : F e = some (.nx e')) (h3 : forF g F ds e' = some fl) : forF g F (x :: ds) env = some fl := by
  rw [forF, h1]
  simp only [Option.bind_some, h2, h3]
theorem w_forr {g : D → En → Option En} {x d : D} {ds : List D} (h1 : g x env = some e) (h2 : F e = some (.rt d)) : forF g F (x :: ds) env = some (.rt d) := by
  rw [forF, h1]
  simp only [Option.bind_some, h2]
theorem sem_rt {n m : Nat} {ds : List D} (hl : ds.length = m) (h : F (startE n ds) = some (.rt d)) : semOf n m F ds = some d := by
  unfold semOf
  rw [if_pos hl, h]
  rfl
theorem sem_nx {n m : Nat} {ds : List D} (hl : ds.length = m) (h : F (startE n ds) = some (.nx e)) : semOf n m F ds = some .non := by
  unfold semOf
  rw [if_pos hl, h]
  rfl
end
end Dn
set_option Elab.async false
set_option linter.all false
set_option maxRecDepth 100000
/-! The law's own numbers. -/
namespace Dn
open PySem L2
local macro_rules | `(tactic| walk_at "dg") => `(tactic| first
  | with_reducible exact add_i _ _ | with_reducible exact sub_i _ _ | ((with_reducible refine mul_i ?_); omega) | ((with_reducible refine fdiv_i ?_); omega) | ((with_reducible refine mod_i ?_); omega) | with_reducible exact neg_i _
  | with_reducible exact lt_i _ _ | with_reducible exact le_i _ _ | with_reducible exact gt_i _ _ | with_reducible exact ge_i _ _ | with_reducible exact eq_i _ _ | with_reducible exact ne_i _ _ | with_reducible exact eq_s _ _ | with_reducible exact ne_s _ _
  | ((with_reducible refine add_s ?_); omega) | ((with_reducible refine add_t ?_); omega) | ((with_reducible refine add_l ?_); omega) | ((with_reducible refine mul_s ?_); omega) | ((with_reducible refine mul_l ?_); omega)
  | ((with_reducible refine len_s ?_); omega) | with_reducible exact len_t _ | with_reducible exact len_l _ | with_reducible exact len_c _ | with_reducible exact int_b _ | with_reducible exact int_i _ | with_reducible exact abs_i _
  | ((with_reducible refine sl_s ?_); omega) | with_reducible exact sl_t _ _ _ | with_reducible exact sl_l _ _ _ | ((with_reducible apply ix_t); (· omega); (· rfl)) | ((with_reducible apply ix_l); (· omega); (· rfl)) | assumption)
local macro_rules | `(tactic| walk_at "dc") => `(tactic| assumption)
local macro_rules | `(tactic| walk_at "dn") => `(tactic| first
  | with_reducible exact v_c | with_reducible exact v_nil | with_reducible exact v_no
  | ((with_reducible apply v_var); (· rfl); (· rfl))
  | ((with_reducible apply v_2); (· walk_at "dn"); (· walk_at "dn"); (· walk_at "dg"))
  | ((with_reducible apply v_1); (· walk_at "dn"); (· walk_at "dg"))
  | ((with_reducible apply v_cons); (· walk_at "dn"); (· walk_at "dn"))
  | ((with_reducible apply v_blt); (· walk_at "dn"); (· walk_at "dg"))
  | ((with_reducible apply v_call); (· walk_at "dn"); (· walk_at "dc"))
  | ((with_reducible apply v_tup); (· walk_at "dn"); (· decide))
  | ((with_reducible apply v_lst); (· walk_at "dn"); (· decide))
  | ((with_reducible apply v_po); (· walk_at "dn"))
  | ((with_reducible apply v_sl); (· walk_at "dn"); (· walk_at "dn"); (· walk_at "dn"); (· walk_at "dg"))
  | ((with_reducible apply v_m1); (· walk_at "dn"); (· walk_at "dn"); (· walk_at "dg"))
  | ((with_reducible apply v_b); (· walk_at "dn"))
  | ((with_reducible apply v_not); (· walk_at "dn"))
  | ((with_reducible apply v_notV); (· walk_at "dn"))
  | ((with_reducible apply v_rng1); (· walk_at "dn"); (· omega))
  | ((with_reducible apply v_rng2); (· walk_at "dn"); (· omega))
  | ((with_reducible apply v_it); (· walk_at "dn"))
  | ((with_reducible apply v_itl); (· walk_at "dn"))
  | ((with_reducible apply v_its); (· walk_at "dn"))
  | assumption)
def m__law_cell_at : En → Option Fl :=
  (fSeq (fIfS (fB (f2 ltD (fV 1) (fBlt lenG (fCons (fV 0) fNil))))
    (fRet (f2 ixD (fV 0) (fV 1)))
    fPass)
  (fRet (fC (.int 0))))
def n__law_cell_at : List D → Option D := semOf 2 2 m__law_cell_at
def m__law_mixed : En → Option Fl :=
  (fSeq (fSet 2 (f2 modD (f2 mulD (f2 addD (f2 addD (fCall n__law_cell_at (fCons (fV 0) (fCons (fV 1) fNil))) (f2 mulD (fC (.int 7919)) (fV 1))) (fC (.int 1))) (fC (.int 48271))) (fC (.int 2147483647))))
  (fRet (f2 modD (f2 addD (f2 addD (f2 mulD (fV 2) (fV 2)) (f2 mulD (fC (.int 7)) (fV 2))) (fV 1)) (fC (.int 2147483629)))))
def n__law_mixed : List D → Option D := semOf 3 2 m__law_mixed
def m__law_drawn : En → Option Fl :=
  (fSeq (fSet 2 (f2 modD (f2 mulD (f2 addD (f2 addD (fV 0) (f2 mulD (fC (.int 104729)) (fV 1))) (fC (.int 17))) (fC (.int 69621))) (fC (.int 2147483647))))
  (fRet (f2 modD (f2 addD (f2 addD (f2 mulD (fV 2) (fV 2)) (f2 mulD (fC (.int 3)) (fV 2))) (fV 1)) (fC (.int 2147483629)))))
def n__law_drawn : List D → Option D := semOf 3 2 m__law_drawn
theorem cell_ok (ns : List Int) (k : Int) (hk : 0 ≤ k) : ∃ c, n__law_cell_at [.scr ns, .int k] = some (.int c) := by
  by_cases h : k < (ns.length : Int)
  · have hn : k.toNat < ns.length := by omega
    have hx : ixD (.scr ns) (.int k) = some (.int ns[k.toNat]) := by
      show (atI ns k).bind _ = _
      rw [atI_n hk h, List.getElem?_eq_getElem hn]
      rfl
    refine ⟨ns[k.toNat], sem_rt rfl ?_⟩
    show m__law_cell_at [some (.scr ns), some (.int k)] = _
    unfold m__law_cell_at
    refine w_ret (w_ift ?_ (ret_of (by walk_at "dn")))
    refine v_b ?_
    rw [← decide_eq_true h]
    walk_at "dn"
  · refine ⟨0, sem_rt rfl ?_⟩
    show m__law_cell_at [some (.scr ns), some (.int k)] = _
    unfold m__law_cell_at
    refine w_seq (w_iff ?_ w_pass) (ret_of (by walk_at "dn"))
    refine v_b ?_
    rw [← decide_eq_false h]
    walk_at "dn"
theorem mixed_ok (ns : List Int) (k : Int) (hk : 0 ≤ k) (hk2 : k ≤ 1000) : ∃ m, 0 ≤ m ∧ m < 2147483629 ∧ n__law_mixed [.scr ns, .int k] = some (.int m) := by
  obtain ⟨c, hc⟩ := cell_ok ns k hk
  generalize hd : (c + 7919 * k + 1) * 48271 % 2147483647 = d
  have d0 : 0 ≤ d ∧ d < 2147483647 := by omega
  refine ⟨(d * d + 7 * d + k) % 2147483629, by omega, by omega, sem_rt rfl ?_⟩
  show m__law_mixed [some (.scr ns), some (.int k), none] = _
  unfold m__law_mixed
  refine w_seq (w_set (d := .int d) (by rw [← hd]; walk_at "dn") rfl) (ret_of ?_)
  walk_at "dn"
theorem drawn_ok (n k : Int) (hk : 0 ≤ k ∧ k ≤ 1000) : ∃ m, 0 ≤ m ∧ m < 2147483629 ∧ n__law_drawn [.int n, .int k] = some (.int m) := by
  generalize hd : (n + 104729 * k + 17) * 69621 % 2147483647 = d
  have d0 : 0 ≤ d ∧ d < 2147483647 := by omega
  refine ⟨(d * d + 3 * d + k) % 2147483629, by omega, by omega, sem_rt rfl ?_⟩
  show m__law_drawn [some (.int n), some (.int k), none] = _
  unfold m__law_drawn
  refine w_seq (w_set (d := .int d) (by rw [← hd]; walk_at "dn") rfl) (ret_of ?_)
  walk_at "dn"
end Dn
set_option Elab.async false
set_option linter.all false
set_option maxRecDepth 100000
/-! Rows: spread, turned, least_turn, are_turns. -/
namespace Dn
open PySem L2
local macro_rules | `(tactic| walk_at "dg") => `(tactic| first
  | with_reducible exact add_i _ _ | with_reducible exact sub_i _ _ | ((with_reducible refine mul_i ?_); omega) | ((with_reducible refine fdiv_i ?_); omega) | ((with_reducible refine mod_i ?_); omega) | with_reducible exact neg_i _
  | with_reducible exact lt_i _ _ | with_reducible exact le_i _ _ | with_reducible exact gt_i _ _ | with_reducible exact ge_i _ _ | with_reducible exact eq_i _ _ | with_reducible exact ne_i _ _ | with_reducible exact eq_s _ _ | with_reducible exact ne_s _ _
  | ((with_reducible refine add_s ?_); omega) | ((with_reducible refine add_t ?_); omega) | ((with_reducible refine add_l ?_); omega) | ((with_reducible refine mul_s ?_); omega) | ((with_reducible refine mul_l ?_); omega)
  | ((with_reducible refine len_s ?_); omega) | with_reducible exact len_t _ | with_reducible exact len_l _ | with_reducible exact len_c _ | with_reducible exact int_b _ | with_reducible exact int_i _ | with_reducible exact abs_i _
  | ((with_reducible refine sl_s ?_); omega) | with_reducible exact sl_t _ _ _ | with_reducible exact sl_l _ _ _ | ((with_reducible apply ix_t); (· omega); (· rfl)) | ((with_reducible apply ix_l); (· omega); (· rfl)) | assumption)
local macro_rules | `(tactic| walk_at "dc") => `(tactic| assumption)
local macro_rules | `(tactic| walk_at "dn") => `(tactic| first
  | with_reducible exact v_c | with_reducible exact v_nil | with_reducible exact v_no
  | ((with_reducible apply v_var); (· rfl); (· rfl))
  | ((with_reducible apply v_2); (· walk_at "dn"); (· walk_at "dn"); (· walk_at "dg"))
  | ((with_reducible apply v_1); (· walk_at "dn"); (· walk_at "dg"))
  | ((with_reducible apply v_cons); (· walk_at "dn"); (· walk_at "dn"))
  | ((with_reducible apply v_blt); (· walk_at "dn"); (· walk_at "dg"))
  | ((with_reducible apply v_call); (· walk_at "dn"); (· walk_at "dc"))
  | ((with_reducible apply v_tup); (· walk_at "dn"); (· decide))
  | ((with_reducible apply v_lst); (· walk_at "dn"); (· decide))
  | ((with_reducible apply v_po); (· walk_at "dn"))
  | ((with_reducible apply v_sl); (· walk_at "dn"); (· walk_at "dn"); (· walk_at "dn"); (· walk_at "dg"))
  | ((with_reducible apply v_m1); (· walk_at "dn"); (· walk_at "dn"); (· walk_at "dg"))
  | ((with_reducible apply v_b); (· walk_at "dn"))
  | ((with_reducible apply v_not); (· walk_at "dn"))
  | ((with_reducible apply v_notV); (· walk_at "dn"))
  | ((with_reducible apply v_rng1); (· walk_at "dn"); (· omega))
  | ((with_reducible apply v_rng2); (· walk_at "dn"); (· omega))
  | ((with_reducible apply v_it); (· walk_at "dn"))
  | ((with_reducible apply v_itl); (· walk_at "dn"))
  | ((with_reducible apply v_its); (· walk_at "dn"))
  | assumption)
def m_spread : En → Option Fl :=
  (fSeq (fSet 2 (fLc (fRng1 (fCons (fV 0) fNil)) (gN 3) fYes (f2 fdivD (f2 mulD (fV 3) (fV 1)) (fV 0)) [3]))
  (fRet (fM1 joinD (fC (.str [])) (fLc (fRng1 (fCons (fV 1) fNil)) (gN 4) fYes (f2 ixD (fLst (fCons (fC (.str [46])) (fCons (fC (.str [120])) fNil))) (fBlt intG (fCons (f2 inD (fV 4) (fV 2)) fNil))) [4]))))
def n_spread : List D → Option D := semOf 5 2 m_spread
def m_turned : En → Option Fl :=
  (fSeq (fSet 2 (f2 modD (f2 subD (fC (.int 0)) (fV 1)) (fBlt lenG (fCons (fV 0) fNil))))
  (fRet (f2 addD (fSl (fV 0) (fPo (fV 2)) fNo) (fSl (fV 0) fNo (fPo (fV 2))))))
def n_turned : List D → Option D := semOf 3 2 m_turned
def m_least_turn : En → Option Fl :=
  (fRet (fBlt minG (fCons (fLc (fRng1 (fCons (fBlt lenG (fCons (fV 0) fNil)) fNil)) (gN 1) fYes (fCall n_turned (fCons (fV 0) (fCons (fV 1) fNil))) [1]) fNil)))
def n_least_turn : List D → Option D := semOf 2 1 m_least_turn
def m_are_turns : En → Option Fl :=
  (fRet (fAndV (f2 eqD (fBlt lenG (fCons (fV 0) fNil)) (fBlt lenG (fCons (fV 1) fNil))) (f2 eqD (fCall n_least_turn (fCons (fV 0) fNil)) (fCall n_least_turn (fCons (fV 1) fNil)))))
def n_are_turns : List D → Option D := semOf 2 2 m_are_turns
theorem in_li (i : Int) (ns : List Int) : inD (.int i) (.lst (ns.map D.int)) = some (.bl (ns.any fun n => decide (n = i))) := by
  unfold inD inB
  have h1 : ok60 (.int i) = true := rfl
  have h2 : ((ns.map D.int).all fun d => okN 60 d) = true := by
    rw [List.all_eq_true]
    intro x hx
    obtain ⟨n, _, rfl⟩ := List.mem_map.mp hx
    rfl
  have h3 : ((ns.map D.int).any fun d => eqv d (.int i)) = ns.any fun n => decide (n = i) := by
    rw [List.any_map]
    exact congrArg (fun f => ns.any f) (funext fun n => eqv_i n i)
  simp only [h1, h2, and_self, if_true, Option.bind_some, h3]
def spreadL (m s : Nat) : List Nat := (List.range s).map fun i => if ((List.range m).any fun k => decide (k * s / m = i)) then 120 else 46
theorem sum_ones {α : Type} (f : α → List Nat) (h : ∀ x, (f x).length = 1) : ∀ xs : List α, ((xs.map f).map List.length).sum = xs.length
  | [] => rfl
  | x :: xs => by rw [List.map_cons, List.map_cons, List.sum_cons, h x, sum_ones f h xs, List.length_cons, Nat.add_comm]
theorem flat_ones {α : Type} (f : α → Nat) : ∀ xs : List α, (xs.map fun x => [f x]).flatten = xs.map f
  | [] => rfl
  | x :: xs => by rw [List.map_cons, List.flatten_cons, flat_ones f xs]; rfl
theorem e_spread {m s : Nat} (hm : m ≤ 1000) (hs : s ≤ 1000) : n_spread [.int m, .int s] = some (.str (spreadL m s)) := by
  refine sem_rt rfl ?_
  show m_spread [some (.int m), some (.int s), none, none, none] = _
  unfold m_spread
  have h1 : fLc (fRng1 (fCons (fV 0) fNil)) (gN 3) fYes (f2 fdivD (f2 mulD (fV 3) (fV 1)) (fV 0)) [3] [some (.int m), some (.int s), none, none, none] = some (.lst (((List.range m).map fun k => ((k * s / m : Nat) : Int)).map D.int)) := by
    refine lcw (v_rng1 (by walk_at "dn") (by omega)) (by simp; omega) ?_
    rw [List.map_map]
    refine lc_map (fun i : Nat => .int (i : Nat)) _ _ fun k hk => ⟨_, rfl, ?_⟩
    have hk := List.mem_range.mp hk
    have e : (((k * s / m : Nat) : Nat) : Int) = (k : Int) * (s : Int) / (m : Int) := by simp
    show _ = some (D.int ((k * s / m : Nat) : Int))
    rw [e]
    show f2 fdivD (f2 mulD (fV 3) (fV 1)) (fV 0) [some (.int m), some (.int s), none, some (.int (k : Nat)), none] = _
    walk_at "dn"
  refine w_seq (w_set h1 rfl) (ret_of ?_)
  generalize hp : ((List.range m).map fun k => ((k * s / m : Nat) : Int)) = ps
  have h2 : fLc (fRng1 (fCons (fV 1) fNil)) (gN 4) fYes (f2 ixD (fLst (fCons (fC (.str [46])) (fCons (fC (.str [120])) fNil))) (fBlt intG (fCons (f2 inD (fV 4) (fV 2)) fNil))) [4] [some (.int m), some (.int s), some (.lst (ps.map D.int)), none, none] = some (.lst (((List.range s).map fun i : Nat => [if (ps.any fun n => decide (n = (i : Int))) then 120 else 46]).map D.str)) := by
    refine lcw (v_rng1 (by walk_at "dn") (by omega)) (by simp; omega) ?_
    rw [List.map_map]
    refine lc_map (fun i : Nat => .int (i : Nat)) _ _ fun k hk => ⟨_, rfl, ?_⟩
    show f2 ixD (fLst (fCons (fC (.str [46])) (fCons (fC (.str [120])) fNil))) (fBlt intG (fCons (f2 inD (fV 4) (fV 2)) fNil)) [some (.int m), some (.int s), some (.lst (ps.map D.int)), none, some (.int (k : Nat))] = some (D.str [if (ps.any fun n => decide (n = (k : Int))) then 120 else 46])
    have hi := in_li (k : Int) ps
    refine v_2 (by walk_at "dn") (v_blt (v_cons (v_2 (by walk_at "dn") (by walk_at "dn") hi) v_nil) (int_b _)) ?_
    cases (ps.any fun n => decide (n = (k : Int))) <;> rfl
  refine v_m1 v_c h2 ?_
  rw [join_l]
  · rw [joinL_nil, flat_ones]
    refine congrArg (fun l => some (D.str l)) ?_
    unfold spreadL
    apply List.map_congr_left
    intro i _
    have e3 : (ps.any fun n => decide (n = (i : Int))) = (List.range m).any fun k => decide (k * s / m = i) := by
      rw [← hp, List.any_map]
      exact congrArg (fun f => (List.range m).any f) (funext fun k => decide_eq_decide.mpr ⟨fun q => Int.ofNat.inj q, fun q => congrArg Int.ofNat q⟩)
    rw [e3]
  · rw [sum_ones _ fun _ => rfl]
    simp
    omega
def rotL (row : List Nat) (by' : Int) : List Nat := row.drop ((0 - by') % row.length).toNat ++ row.take ((0 - by') % row.length).toNat
theorem e_turned {row : List Nat} {by' : Int} (h : 0 < row.length) (h2 : row.length ≤ 100000) : n_turned [.str row, .int by'] = some (.str (rotL row by')) := by
  refine sem_rt rfl ?_
  show m_turned [some (.str row), some (.int by'), none] = _
  unfold m_turned
  refine w_seq (w_set (by walk_at "dn") rfl) ?_
  refine ret_of ?_
  obtain ⟨n, hn, hn2⟩ : ∃ n : Nat, (n : Int) = (0 - by') % row.length ∧ n < row.length := by
    have := Int.emod_nonneg (0 - by') (show (row.length : Int) ≠ 0 by omega)
    have := Int.emod_lt_of_pos (0 - by') (show (0 : Int) < (row.length : Int) by omega)
    exact ⟨((0 - by') % row.length).toNat, by omega, by omega⟩
  unfold rotL
  rw [← hn]
  have e1 : slD (.str row) (some (n : Int)) none = some (.str (row.drop n)) := by rw [sl_s (by omega), cut_from]
  have e2 : slD (.str row) none (some (n : Int)) = some (.str (row.take n)) := by rw [sl_s (by omega), cut_to]
  refine v_2 (v_sl (by walk_at "dn") (by walk_at "dn") v_no e1) (v_sl (by walk_at "dn") v_no (by walk_at "dn") e2) (add_s ?_)
  rw [List.length_drop, List.length_take]
  omega
def turnsL (row : List Nat) : List (List Nat) := (List.range row.length).map fun k => rotL row (k : Nat)
def leastL (row : List Nat) : List Nat := match turnsL row with
  | [] => []
  | x :: xs => minOf ltS x xs
theorem turnsL_ne {row : List Nat} (h : 0 < row.length) : ∃ x xs, turnsL row = x :: xs ∧ leastL row = minOf ltS x xs := by
  cases e : turnsL row with
  | nil =>
    have := congrArg List.length e
    unfold turnsL at this
    simp at this
    rw [this] at h
    simp at h
  | cons x xs => exact ⟨x, xs, rfl, by unfold leastL; rw [e]⟩
theorem e_least {row : List Nat} (h : 0 < row.length) (h2 : row.length ≤ 1000) : n_least_turn [.str row] = some (.str (leastL row)) := by
  refine sem_rt rfl ?_
  show m_least_turn [some (.str row), none] = _
  unfold m_least_turn
  refine ret_of ?_
  obtain ⟨x, xs, e1, e2⟩ := turnsL_ne h
  have h1 : fLc (fRng1 (fCons (fBlt lenG (fCons (fV 0) fNil)) fNil)) (gN 1) fYes (fCall n_turned (fCons (fV 0) (fCons (fV 1) fNil))) [1] [some (.str row), none] = some (.lst ((turnsL row).map D.str)) := by
    refine lcw (v_rng1 (by walk_at "dn") (by omega)) (by simp; omega) ?_
    unfold turnsL
    rw [List.map_map]
    refine lc_map (fun i : Nat => .int (i : Nat)) _ _ fun k hk => ⟨_, rfl, ?_⟩
    show fCall n_turned (fCons (fV 0) (fCons (fV 1) fNil)) [some (.str row), some (.int (k : Nat))] = some (D.str (rotL row (k : Nat)))
    exact v_call (by walk_at "dn") (e_turned h (by omega))
  rw [e2]
  rw [e1] at h1
  exact v_blt (v_cons h1 v_nil) min_s
theorem e_are {one other : List Nat} (h : 0 < one.length) (h2 : one.length ≤ 1000) (h3 : 0 < other.length) (h4 : other.length ≤ 1000) : n_are_turns [.str one, .str other] = some (.bl (decide (one.length = other.length) && decide (leastL one = leastL other))) := by
  refine sem_rt rfl ?_
  show m_are_turns [some (.str one), some (.str other)] = _
  unfold m_are_turns
  refine ret_of ?_
  by_cases hl : one.length = other.length
  · rw [decide_eq_true hl, Bool.true_and]
    refine v_andVt ?_ (v_2 (v_call (by walk_at "dn") (e_least h h2)) (v_call (by walk_at "dn") (e_least h3 h4)) (eq_s _ _))
    have : (true : Bool) = decide ((one.length : Int) = (other.length : Int)) := (decide_eq_true (by omega)).symm
    rw [this]
    walk_at "dn"
  · rw [decide_eq_false hl, Bool.false_and]
    refine v_andVf ?_
    have : (false : Bool) = decide ((one.length : Int) = (other.length : Int)) := (decide_eq_false (by omega)).symm
    rw [this]
    walk_at "dn"
end Dn
set_option Elab.async false
set_option linter.all false
set_option maxRecDepth 100000
namespace K13
open PySem L2 Dn
local macro_rules | `(tactic| walk_at "dg") => `(tactic| first
  | with_reducible exact add_i _ _ | with_reducible exact sub_i _ _ | ((with_reducible refine mul_i ?_); omega) | ((with_reducible refine fdiv_i ?_); omega) | ((with_reducible refine mod_i ?_); omega) | with_reducible exact neg_i _
  | with_reducible exact lt_i _ _ | with_reducible exact le_i _ _ | with_reducible exact gt_i _ _ | with_reducible exact ge_i _ _ | with_reducible exact eq_i _ _ | with_reducible exact ne_i _ _ | with_reducible exact eq_s _ _ | with_reducible exact ne_s _ _
  | ((with_reducible refine add_s ?_); omega) | ((with_reducible refine add_t ?_); omega) | ((with_reducible refine add_l ?_); omega) | ((with_reducible refine mul_s ?_); omega) | ((with_reducible refine mul_l ?_); omega)
  | ((with_reducible refine len_s ?_); omega) | with_reducible exact len_t _ | with_reducible exact len_l _ | with_reducible exact len_c _ | with_reducible exact int_b _ | with_reducible exact int_i _ | with_reducible exact abs_i _
  | ((with_reducible refine sl_s ?_); omega) | with_reducible exact sl_t _ _ _ | with_reducible exact sl_l _ _ _ | ((with_reducible apply ix_t); (· omega); (· rfl)) | ((with_reducible apply ix_l); (· omega); (· rfl)) | assumption)
local macro_rules | `(tactic| walk_at "dc") => `(tactic| assumption)
local macro_rules | `(tactic| walk_at "dn") => `(tactic| first
  | with_reducible exact v_c | with_reducible exact v_nil | with_reducible exact v_no
  | ((with_reducible apply v_var); (· rfl); (· rfl))
  | ((with_reducible apply v_2); (· walk_at "dn"); (· walk_at "dn"); (· walk_at "dg"))
  | ((with_reducible apply v_1); (· walk_at "dn"); (· walk_at "dg"))
  | ((with_reducible apply v_cons); (· walk_at "dn"); (· walk_at "dn"))
  | ((with_reducible apply v_blt); (· walk_at "dn"); (· walk_at "dg"))
  | ((with_reducible apply v_call); (· walk_at "dn"); (· walk_at "dc"))
  | ((with_reducible apply v_tup); (· walk_at "dn"); (· decide))
  | ((with_reducible apply v_lst); (· walk_at "dn"); (· decide))
  | ((with_reducible apply v_po); (· walk_at "dn"))
  | ((with_reducible apply v_sl); (· walk_at "dn"); (· walk_at "dn"); (· walk_at "dn"); (· walk_at "dg"))
  | ((with_reducible apply v_m1); (· walk_at "dn"); (· walk_at "dn"); (· walk_at "dg"))
  | ((with_reducible apply v_b); (· walk_at "dn"))
  | ((with_reducible apply v_not); (· walk_at "dn"))
  | ((with_reducible apply v_notV); (· walk_at "dn"))
  | ((with_reducible apply v_rng1); (· walk_at "dn"); (· omega))
  | ((with_reducible apply v_rng2); (· walk_at "dn"); (· omega))
  | ((with_reducible apply v_it); (· walk_at "dn"))
  | ((with_reducible apply v_itl); (· walk_at "dn"))
  | ((with_reducible apply v_its); (· walk_at "dn"))
  | assumption)
def m_law : En → Option Fl :=
  (fSeq (fSet 1 (fCall n__law_mixed (fCons (fV 0) (fCons (fC (.int 0)) fNil))))
  (fSeq (fSet 2 (f2 addD (fC (.int 1)) (f2 modD (fV 1) (fC (.int 16)))))
  (fSeq (fSet 3 (f2 modD (f2 fdivD (fV 1) (fC (.int 16))) (f2 addD (fV 2) (fC (.int 1)))))
  (fSeq (fSet 4 (fCall n_spread (fCons (fV 3) (fCons (fV 2) fNil))))
  (fSeq (fSet 5 (fM1 joinD (fC (.str [])) (fLc (fIt (fV 4)) (gN 7) fYes (f2 ixD (fC (.str [46, 120])) (fBlt intG (fCons (f2 eqD (fV 7) (fC (.str [46]))) fNil))) [7])))
  (fSeq (fIfS (fB (f2 isnD (fCall n_are_turns (fCons (fV 5) (fCons (fCall n_spread (fCons (f2 subD (fV 2) (fV 3)) (fCons (fV 2) fNil))) fNil))) (fC (.bl true))))
    (fRet (fC (.bl false)))
    fPass)
  (fSeq (fIfS (fOr (fB (f2 neD (fCall n_least_turn (fCons (f2 slkD (fV 4) (f1 negD (fC (.int 1)))) fNil)) (fCall n_least_turn (fCons (fV 4) fNil)))) (fB (f2 neD (fM1 countD (fV 4) (fC (.str [120]))) (fV 3))))
    (fRet (fC (.bl false)))
    fPass)
  (fSeq (fFor (fIt (fTup (fCons (fC (.int 2)) (fCons (fC (.int 3)) fNil)))) (gN 6)
    (fIfS (fB (f2 neD (fCall n_spread (fCons (f2 mulD (fV 6) (fV 3)) (fCons (f2 mulD (fV 6) (fV 2)) fNil))) (f2 mulD (fV 4) (fV 6))))
      (fRet (fC (.bl false)))
      fPass))
  (fRet (fAndV (f2 eqD (fCall n_spread (fCons (fC (.int 0)) (fCons (fV 2) fNil))) (f2 mulD (fC (.str [46])) (fV 2))) (f2 eqD (fCall n_spread (fCons (fV 2) (fCons (fV 2) fNil))) (f2 mulD (fC (.str [120])) (fV 2)))))))))))))
def flipL (row : List Nat) : List Nat := row.map fun c => if c = 46 then 120 else 46
def chk (s t : Nat) : Bool :=
  let row := spreadL t s
  decide ((flipL row).length = (spreadL (s - t) s).length) && decide (leastL (flipL row) = leastL (spreadL (s - t) s)) && decide (leastL (stride row (-1)) = leastL row) && decide (row.count 120 = t)
    && decide (spreadL (2 * t) (2 * s) = reps row 2) && decide (spreadL (3 * t) (3 * s) = reps row 3) && decide (spreadL 0 s = reps [46] s) && decide (spreadL s s = reps [120] s) && decide (row.length = s) && decide ((stride row (-1)).length = s)
theorem chk_all : ((List.range 16).all fun s => (List.range (s + 2)).all fun t => chk (s + 1) t) = true := by decide +kernel
theorem spread_len (m s : Nat) : (spreadL m s).length = s := by simp [spreadL]
theorem q_law (ns : List Int) (hl : ns.length ≤ 63) : semOf 8 1 m_law [.scr ns] = some (.bl true) := by
  obtain ⟨m, h0, h1, e⟩ := mixed_ok ns 0 (by omega) (by omega)
  refine sem_rt rfl ?_
  show m_law [some (.scr ns), none, none, none, none, none, none, none] = _
  unfold m_law
  refine w_seq (w_set (d := .int m) (v_call (by walk_at "dn") e) rfl) ?_
  obtain ⟨s, hs, hs2⟩ : ∃ s : Nat, ((s + 1 : Nat) : Int) = 1 + m % 16 ∧ s < 16 := ⟨(m % 16).toNat, by omega, by omega⟩
  refine w_seq (w_set (d := .int ((s + 1 : Nat) : Int)) (by rw [hs]; walk_at "dn") rfl) ?_
  obtain ⟨t, ht, ht2⟩ : ∃ t : Nat, (t : Int) = m / 16 % (((s + 1 : Nat) : Int) + 1) ∧ t < s + 2 := by
    have := Int.emod_nonneg (m / 16) (show (((s + 1 : Nat) : Int) + 1) ≠ 0 by omega)
    have := Int.emod_lt_of_pos (m / 16) (show 0 < (((s + 1 : Nat) : Int) + 1) by omega)
    exact ⟨(m / 16 % (((s + 1 : Nat) : Int) + 1)).toNat, by omega, by omega⟩
  refine w_seq (w_set (d := .int (t : Int)) (by rw [ht]; walk_at "dn") rfl) ?_
  have a := List.all_eq_true.mp chk_all s (List.mem_range.mpr hs2)
  have b := List.all_eq_true.mp a t (List.mem_range.mpr ht2)
  generalize hS : s + 1 = S at *
  unfold chk at b
  simp only [Bool.and_eq_true, decide_eq_true_eq] at b
  obtain ⟨⟨⟨⟨⟨⟨⟨⟨⟨c1, c2⟩, c3⟩, c4⟩, c5⟩, c6⟩, c7⟩, c8⟩, c9⟩, c10⟩ := b
  have hS0 : 0 < S ∧ S ≤ 16 := by omega
  refine w_seq (w_set (d := .str (spreadL t S)) (v_call (by walk_at "dn") (e_spread (by omega) (by omega))) rfl) ?_
  generalize hrow : spreadL t S = row at *
  have hf : (flipL row).length = S := by unfold flipL; rw [List.length_map, c9]
  have h5 : fM1 joinD (fC (.str [])) (fLc (fIt (fV 4)) (gN 7) fYes (f2 ixD (fC (.str [46, 120])) (fBlt intG (fCons (f2 eqD (fV 7) (fC (.str [46]))) fNil))) [7]) [some (.scr ns), some (.int m), some (.int (S : Nat)), some (.int (t : Nat)), some (.str row), none, none, none] = some (.str (flipL row)) := by
    refine v_m1 v_c (lcw (r := (row.map fun c => [if c = 46 then 120 else 46]).map D.str) (v_its (by walk_at "dn")) (by simp; omega) ?_) ?_
    · rw [List.map_map]
      refine lc_map _ _ _ fun c _ => ⟨_, rfl, ?_⟩
      show f2 ixD (fC (.str [46, 120])) (fBlt intG (fCons (f2 eqD (fV 7) (fC (.str [46]))) fNil)) [some (.scr ns), some (.int m), some (.int (S : Nat)), some (.int (t : Nat)), some (.str row), none, none, some (.str [c])] = some (D.str [if c = 46 then 120 else 46])
      refine v_2 v_c (v_blt (v_cons (v_2 (by walk_at "dn") v_c (eq_s _ _)) v_nil) (int_b _)) ?_
      by_cases hc : c = 46
      · subst hc
        rfl
      · rw [if_neg hc, decide_eq_false (by simpa using hc)]
        rfl
    · rw [join_l, joinL_nil, flat_ones]
      · rfl
      · rw [sum_ones _ fun _ => rfl]
        simp
        omega
  refine w_seq (w_set h5 rfl) ?_
  have k1 : n_spread [.int ((S : Int) - (t : Int)), .int (S : Int)] = some (.str (spreadL (S - t) S)) := by
    rw [show (S : Int) - (t : Int) = ((S - t : Nat) : Int) by omega]
    exact e_spread (by omega) (by omega)
  refine w_seq (w_iff (v_b (k := false) (v_2 (v_call (v_cons (by walk_at "dn") (v_cons (v_call (by walk_at "dn") k1) v_nil)) (e_are (by omega) (by omega) (by rw [spread_len]; omega) (by rw [spread_len]; omega))) v_c ?_)) w_pass) ?_
  · rw [decide_eq_true c1, decide_eq_true c2]
    rfl
  refine w_seq (w_iff (v_orf (v_b (v_2 (v_call (v_cons (v_2 (by walk_at "dn") (by walk_at "dn") (c := .str (stride row (-1))) ?_) v_nil) (e_least (by omega) (by omega))) (v_call (by walk_at "dn") (e_least (by omega) (by omega))) ?_)) (v_b (k := false) (v_2 (v_m1 (by walk_at "dn") v_c rfl) (by walk_at "dn") ?_))) w_pass) ?_
  · show (if row.length ≤ sizeLine ∧ (-1 : Int) ≠ 0 then _ else _) = _
    rw [if_pos ⟨by have := size1000; omega, by decide⟩]
  · rw [c3]
    exact ne_same rfl
  · rw [ne_i, decide_eq_true (by omega)]
    rfl
  have m2 : mulD (.int 2) (.int (t : Int)) = some (.int ((2 * t : Nat) : Int)) := by rw [mul_i (by omega)]; simp
  have m2s : mulD (.int 2) (.int (S : Int)) = some (.int ((2 * S : Nat) : Int)) := by rw [mul_i (by omega)]; simp
  have m3 : mulD (.int 3) (.int (t : Int)) = some (.int ((3 * t : Nat) : Int)) := by rw [mul_i (by omega)]; simp
  have m3s : mulD (.int 3) (.int (S : Int)) = some (.int ((3 * S : Nat) : Int)) := by rw [mul_i (by omega)]; simp
  have r2 : mulD (.str row) (.int 2) = some (.str (reps row 2)) := mul_s (by omega)
  have r3 : mulD (.str row) (.int 3) = some (.str (reps row 3)) := mul_s (by omega)
  have r2' : reps row (2 : Int).toNat = spreadL (2 * t) (2 * S) := c5.symm
  have r3' : reps row (3 : Int).toNat = spreadL (3 * t) (3 * S) := c6.symm
  refine w_seq (w_for (v_it (v_tup (by walk_at "dn") (by decide))) (w_forc rfl (w_iff (v_b (k := false) (v_2 (v_call (v_cons (v_2 (by walk_at "dn") (by walk_at "dn") m2) (v_cons (v_2 (by walk_at "dn") (by walk_at "dn") m2s) v_nil)) (e_spread (by omega) (by omega))) (v_2 (by walk_at "dn") (by walk_at "dn") r2) ?_)) w_pass)
    (w_forc rfl (w_iff (v_b (k := false) (v_2 (v_call (v_cons (v_2 (by walk_at "dn") (by walk_at "dn") m3) (v_cons (v_2 (by walk_at "dn") (by walk_at "dn") m3s) v_nil)) (e_spread (by omega) (by omega))) (v_2 (by walk_at "dn") (by walk_at "dn") r3) ?_)) w_pass) w_forn))) ?_
  · rw [c5]
    exact ne_same rfl
  · rw [c6]
    exact ne_same rfl
  have k0 : n_spread [.int 0, .int (S : Int)] = some (.str (spreadL 0 S)) := e_spread (m := 0) (by omega) (by omega)
  have kS : n_spread [.int (S : Int), .int (S : Int)] = some (.str (spreadL S S)) := e_spread (by omega) (by omega)
  have u1 : mulD (.str [46]) (.int (S : Int)) = some (.str (reps [46] S)) := mul_s (n := (S : Int)) ⟨by decide, by omega, by omega⟩
  have u2 : mulD (.str [120]) (.int (S : Int)) = some (.str (reps [120] S)) := mul_s (n := (S : Int)) ⟨by decide, by omega, by omega⟩
  refine ret_of (v_andVt (v_2 (v_call (by walk_at "dn") k0) (v_2 v_c (by walk_at "dn") u1) ?_) (v_2 (v_call (by walk_at "dn") kS) (v_2 v_c (by walk_at "dn") u2) ?_))
  · rw [c7]
    exact eq_same rfl
  · rw [c8]
    exact eq_same rfl
end K13
namespace K13
open PySem L2 PySem.Spec PyProof.Rows Dn
/-! ### the text -/
def topS (i : Nat) : Stmt := PySem.Challenge.pw_padrows_k13_whole_what_spread_rows_leave.main.body.getD i (.Pass ⟨0, 0, 0, 0⟩)
abbrev st_spread : Stmt := topS 3
theorem sc_spread : FnScope ["many", "steps", "spots", "k", "step"] ["many", "steps"] (defScope st_spread) := ⟨rfl, rfl, rfl, by decide +kernel, rfl, by decide +kernel, by decide +kernel⟩
abbrev st_turned : Stmt := topS 4
theorem sc_turned : FnScope ["row", "by", "begin"] ["row", "by"] (defScope st_turned) := ⟨rfl, rfl, rfl, by decide +kernel, rfl, by decide +kernel, by decide +kernel⟩
abbrev st_least_turn : Stmt := topS 5
theorem sc_least_turn : FnScope ["row", "by"] ["row"] (defScope st_least_turn) := ⟨rfl, rfl, rfl, by decide +kernel, rfl, by decide +kernel, by decide +kernel⟩
abbrev st_are_turns : Stmt := topS 6
theorem sc_are_turns : FnScope ["one", "other"] ["one", "other"] (defScope st_are_turns) := ⟨rfl, rfl, rfl, by decide +kernel, rfl, by decide +kernel, by decide +kernel⟩
abbrev st__law_cell_at : Stmt := topS 8
theorem sc__law_cell_at : FnScope ["script", "k"] ["script", "k"] (defScope st__law_cell_at) := ⟨rfl, rfl, rfl, by decide +kernel, rfl, by decide +kernel, by decide +kernel⟩
abbrev st__law_mixed : Stmt := topS 9
theorem sc__law_mixed : FnScope ["script", "k", "drawn"] ["script", "k"] (defScope st__law_mixed) := ⟨rfl, rfl, rfl, by decide +kernel, rfl, by decide +kernel, by decide +kernel⟩
abbrev st_law : Stmt := topS 10
theorem sc_law : FnScope ["script", "number", "steps", "many", "row", "left", "often", "mark"] ["script"] (defScope st_law) := ⟨rfl, rfl, rfl, by decide +kernel, rfl, by decide +kernel, by decide +kernel⟩
structure Txt (K : PySem.W.Frag) (mg : Str → Option Value) : Prop where
  b_int : mg "int" = none
  b_len : mg "len" = none
  b_min : mg "min" = none
  b_range : mg "range" = none
  c_PLAIN : ∃ tk, mg "PLAIN" = some (.str (Str.ofString "x") tk)
  c_REST : ∃ tk, mg "REST" = some (.str (Str.ofString ".") tk)
  h_spread : Has K mg "spread" st_spread ["many", "steps"]
  h_turned : Has K mg "turned" st_turned ["row", "by"]
  h_least_turn : Has K mg "least_turn" st_least_turn ["row"]
  h_are_turns : Has K mg "are_turns" st_are_turns ["one", "other"]
  h__law_cell_at : Has K mg "_law_cell_at" st__law_cell_at ["script", "k"]
  h__law_mixed : Has K mg "_law_mixed" st__law_mixed ["script", "k"]
section
variable {P : Program} {w : World} {K : PySem.W.Frag} {mg : Str → Option Value} {base : Heap}
--@ spread
theorem d_spread (T : Txt K mg) : Def P w K mg base 1 "spread" ["many", "steps"] n_spread := by
  refine d_of (k := 0) (F := m_spread) T.h_spread sc_spread (fun f cdv A outer s H E hr => ?_) ?_
  · have hu : (A.deeper (envOfC "spread" (defScope st_spread) s.heap.objs.size f cdv)).units + 64 < cLine := hr.units
    have hv : (A.deeper (envOfC "spread" (defScope st_spread) s.heap.objs.size f cdv)).units + 65 < cLine := room65 hr
    have nd := sc_spread.nd
    exact (ss_cons (s_set 2 nd (e_lc (own := [("k", 3)]) rfl nd (i_range1 T.b_range (a_cons (e_var 0) a_nil)) (blkOk_by (by kernel_rfl)) (fun _ _ _ _ _ => (g_name 3 nd)) (fun _ _ _ _ _ => ts_nil) (fun _ _ _ _ _ => (e_op o_fdiv (e_op o_mul (e_var 3) (e_var 1)) (e_var 0)))))
    (ss_one (s_ret (e_join (e_str []) (e_lc (own := [("step", 4)]) rfl nd (i_range1 T.b_range (a_cons (e_var 1) a_nil)) (blkOk_by (by kernel_rfl)) (fun _ _ _ _ _ => (g_name 4 nd)) (fun _ _ _ _ _ => ts_nil) (fun _ _ _ _ _ => (e_ix (e_lst (a_cons (e_gs [46] T.c_REST) (a_cons (e_gs [120] T.c_PLAIN) a_nil))) (e_ty c_int T.b_int (by decide +kernel) (a_cons (e_cmp (o_in hv) (e_var 4) (e_var 2)) a_nil)))))))))
  · exact fun _ _ h => h
--@ turned
theorem d_turned (T : Txt K mg) : Def P w K mg base 1 "turned" ["row", "by"] n_turned := by
  refine d_of (k := 0) (F := m_turned) T.h_turned sc_turned (fun f cdv A outer s H E hr => ?_) ?_
  · have hu : (A.deeper (envOfC "turned" (defScope st_turned) s.heap.objs.size f cdv)).units + 64 < cLine := hr.units
    have hv : (A.deeper (envOfC "turned" (defScope st_turned) s.heap.objs.size f cdv)).units + 65 < cLine := room65 hr
    have nd := sc_turned.nd
    exact (ss_cons (s_set 2 nd (e_op o_mod (e_op o_sub e_int (e_var 1)) (e_blt c_len T.b_len (by decide +kernel) (a_cons (e_var 0) a_nil))))
    (ss_one (s_ret (e_op o_add (e_sl (e_var 0) (p_so (e_var 2)) p_no) (e_sl (e_var 0) p_no (p_so (e_var 2)))))))
  · exact fun _ _ h => h
--@ least_turn
theorem d_least_turn (T : Txt K mg) (d_turned : Def P w K mg base 1 "turned" ["row", "by"] n_turned) : Def P w K mg base 2 "least_turn" ["row"] n_least_turn := by
  refine d_of (k := 1) (F := m_least_turn) T.h_least_turn sc_least_turn (fun f cdv A outer s H E hr => ?_) ?_
  · have hu : (A.deeper (envOfC "least_turn" (defScope st_least_turn) s.heap.objs.size f cdv)).units + 64 < cLine := hr.units
    have hv : (A.deeper (envOfC "least_turn" (defScope st_least_turn) s.heap.objs.size f cdv)).units + 65 < cLine := room65 hr
    have nd := sc_least_turn.nd
    exact (ss_one (s_ret (e_blt (c_min rfl hu) T.b_min (by decide +kernel) (a_cons (e_lc (own := [("by", 1)]) rfl nd (i_range1 T.b_range (a_cons (e_blt c_len T.b_len (by decide +kernel) (a_cons (e_var 0) a_nil)) a_nil)) (blkOk_by (by kernel_rfl)) (fun _ _ _ _ _ => (g_name 1 nd)) (fun _ _ _ _ _ => ts_nil) (fun _ _ _ _ _ => (e_def d_turned hr (a_cons (e_var 0) (a_cons (e_var 1) a_nil))))) a_nil))))
  · exact fun _ _ h => h
--@ are_turns
theorem d_are_turns (T : Txt K mg) (d_least_turn : Def P w K mg base 2 "least_turn" ["row"] n_least_turn) : Def P w K mg base 3 "are_turns" ["one", "other"] n_are_turns := by
  refine d_of (k := 2) (F := m_are_turns) T.h_are_turns sc_are_turns (fun f cdv A outer s H E hr => ?_) ?_
  · have hu : (A.deeper (envOfC "are_turns" (defScope st_are_turns) s.heap.objs.size f cdv)).units + 64 < cLine := hr.units
    have hv : (A.deeper (envOfC "are_turns" (defScope st_are_turns) s.heap.objs.size f cdv)).units + 65 < cLine := room65 hr
    have nd := sc_are_turns.nd
    exact (ss_one (s_ret (e_and (e_cmp (o_eq hu) (e_blt c_len T.b_len (by decide +kernel) (a_cons (e_var 0) a_nil)) (e_blt c_len T.b_len (by decide +kernel) (a_cons (e_var 1) a_nil))) (e_one (e_cmp (o_eq hu) (e_def d_least_turn hr (a_cons (e_var 0) a_nil)) (e_def d_least_turn hr (a_cons (e_var 1) a_nil)))))))
  · exact fun _ _ h => h
--@ _law_cell_at
theorem d__law_cell_at (T : Txt K mg) : Def P w K mg base 1 "_law_cell_at" ["script", "k"] n__law_cell_at := by
  refine d_of (k := 0) (F := m__law_cell_at) T.h__law_cell_at sc__law_cell_at (fun f cdv A outer s H E hr => ?_) ?_
  · have hu : (A.deeper (envOfC "_law_cell_at" (defScope st__law_cell_at) s.heap.objs.size f cdv)).units + 64 < cLine := hr.units
    have hv : (A.deeper (envOfC "_law_cell_at" (defScope st__law_cell_at) s.heap.objs.size f cdv)).units + 65 < cLine := room65 hr
    have nd := sc__law_cell_at.nd
    exact (ss_cons (s_if (t_cmp o_lt (e_var 1) (e_blt c_len T.b_len (by decide +kernel) (a_cons (e_var 0) a_nil)))
      (ss_one (s_ret (e_ix (e_var 0) (e_var 1))))
      ss_nil)
    (ss_one (s_ret e_int)))
  · exact fun _ _ h => h
--@ _law_mixed
theorem d__law_mixed (T : Txt K mg) (d__law_cell_at : Def P w K mg base 1 "_law_cell_at" ["script", "k"] n__law_cell_at) : Def P w K mg base 2 "_law_mixed" ["script", "k"] n__law_mixed := by
  refine d_of (k := 1) (F := m__law_mixed) T.h__law_mixed sc__law_mixed (fun f cdv A outer s H E hr => ?_) ?_
  · have hu : (A.deeper (envOfC "_law_mixed" (defScope st__law_mixed) s.heap.objs.size f cdv)).units + 64 < cLine := hr.units
    have hv : (A.deeper (envOfC "_law_mixed" (defScope st__law_mixed) s.heap.objs.size f cdv)).units + 65 < cLine := room65 hr
    have nd := sc__law_mixed.nd
    exact (ss_cons (s_set 2 nd (e_op o_mod (e_op o_mul (e_op o_add (e_op o_add (e_def d__law_cell_at hr (a_cons (e_var 0) (a_cons (e_var 1) a_nil))) (e_op o_mul e_int (e_var 1))) e_int) e_int) e_int))
    (ss_one (s_ret (e_op o_mod (e_op o_add (e_op o_add (e_op o_mul (e_var 2) (e_var 2)) (e_op o_mul e_int (e_var 2))) (e_var 1)) e_int))))
  · exact fun _ _ h => h
--@ law
theorem ok_law {f : Addr} {fd : FuncData} (Fu : Fun K "law" "law" st_law f fd) (T : Txt K mg) (d__law_mixed : Def P w K mg base 2 "_law_mixed" ["script", "k"] n__law_mixed) (d_spread : Def P w K mg base 1 "spread" ["many", "steps"] n_spread) (d_are_turns : Def P w K mg base 3 "are_turns" ["one", "other"] n_are_turns) (d_least_turn : Def P w K mg base 2 "least_turn" ["row"] n_least_turn) : FnOk P w K mg base CX0 4 f fd ["script"] (spLaw K) := by
  refine l_of (k := 3) (F := m_law) Fu sc_law (fun f cdv A outer s H E hr => ?_) ?_
  · have hu : (A.deeper (envOfC "law" (defScope st_law) s.heap.objs.size f cdv)).units + 64 < cLine := hr.units
    have hv : (A.deeper (envOfC "law" (defScope st_law) s.heap.objs.size f cdv)).units + 65 < cLine := room65 hr
    have nd := sc_law.nd
    exact (ss_cons (s_set 1 nd (e_def d__law_mixed hr (a_cons (e_var 0) (a_cons e_int a_nil))))
    (ss_cons (s_set 2 nd (e_op o_add e_int (e_op o_mod (e_var 1) e_int)))
    (ss_cons (s_set 3 nd (e_op o_mod (e_op o_fdiv (e_var 1) e_int) (e_op o_add (e_var 2) e_int)))
    (ss_cons (s_set 4 nd (e_def d_spread hr (a_cons (e_var 3) (a_cons (e_var 2) a_nil))))
    (ss_cons (s_set 5 nd (e_join (e_str []) (e_lc (own := [("mark", 7)]) rfl nd (i_seq (e_var 4)) (blkOk_by (by kernel_rfl)) (fun _ _ _ _ _ => (g_name 7 nd)) (fun _ _ _ _ _ => ts_nil) (fun _ _ _ _ _ => (e_ix (e_str [46, 120]) (e_ty c_int T.b_int (by decide +kernel) (a_cons (e_cmp (o_eq hu) (e_var 7) (e_str [46])) a_nil)))))))
    (ss_cons (s_if (t_cmp o_isn (e_def d_are_turns hr (a_cons (e_var 5) (a_cons (e_def d_spread hr (a_cons (e_op o_sub (e_var 2) (e_var 3)) (a_cons (e_var 2) a_nil))) a_nil))) e_bl)
      (ss_one (s_ret e_bl))
      ss_nil)
    (ss_cons (s_if (PW.pt (t_or (t_cmp (o_ne hu) (e_def d_least_turn hr (a_cons (e_slk (e_var 4) (e_un o_neg e_int)) a_nil)) (e_def d_least_turn hr (a_cons (e_var 4) a_nil))) (t_or1 (t_cmp (o_ne hu) (e_count (e_var 4) (e_str [120])) (e_var 3)))))
      (ss_one (s_ret e_bl))
      ss_nil)
    (ss_cons (s_for PassesOwn.never rfl (i_seq (e_tup (a_cons e_int (a_cons e_int a_nil)))) (g_name 6 nd)
      (ss_one (s_if (t_cmp (o_ne hu) (e_def d_spread hr (a_cons (e_op o_mul (e_var 6) (e_var 3)) (a_cons (e_op o_mul (e_var 6) (e_var 2)) a_nil))) (e_op o_mul (e_var 4) (e_var 6)))
        (ss_one (s_ret e_bl))
        ss_nil)))
    (ss_one (s_ret (e_and (e_cmp (o_eq hu) (e_def d_spread hr (a_cons e_int (a_cons (e_var 2) a_nil))) (e_op o_mul (e_str [46]) (e_var 2))) (e_one (e_cmp (o_eq hu) (e_def d_spread hr (a_cons (e_var 2) (a_cons (e_var 2) a_nil))) (e_op o_mul (e_str [120]) (e_var 2)))))))))))))))
  · exact q_law
end
/-! ### what the top has written -/
theorem all_mk {l : PySem.W.OpenLaw} {w : World} {K : PySem.W.Frag} {h : Heap} {mg : Str → Option Value} {fa : Addr} (X : K.In h) (G : h.Ns mainGlobals mg) (hfa : mg "law" = some (.ref fa))
    {od0 an0 : Option Addr} {sl0 : Array (Option Value)} {oc0 kV0 dc0 pm0 cd0 ct0 : Value} {f0 : Addr}
    {od1 an1 : Option Addr} {sl1 : Array (Option Value)} {oc1 kV1 dc1 pm1 cd1 ct1 : Value} {f1 : Addr}
    {od2 an2 : Option Addr} {sl2 : Array (Option Value)} {oc2 kV2 dc2 pm2 cd2 ct2 : Value} {f2 : Addr}
    {od3 an3 : Option Addr} {sl3 : Array (Option Value)} {oc3 kV3 dc3 pm3 cd3 ct3 : Value} {f3 : Addr}
    {od4 an4 : Option Addr} {sl4 : Array (Option Value)} {oc4 kV4 dc4 pm4 cd4 ct4 : Value} {f4 : Addr}
    {od5 an5 : Option Addr} {sl5 : Array (Option Value)} {oc5 kV5 dc5 pm5 cd5 ct5 : Value} {f5 : Addr}
    {od6 an6 : Option Addr} {sl6 : Array (Option Value)} {oc6 kV6 dc6 pm6 cd6 ct6 : Value} {f6 : Addr}
    {t0 : Tok}
    {t1 : Tok}
    (a0 : PySem.W.nsIn K mainGlobals "spread" = some (some (.ref f0))) (l0 : K.lookup f0 = some ⟨oc0, od0, .func (PySem.W.fnOf "spread" "spread" (defArgs st_spread) (defBody st_spread) (defScope st_spread) .none kV0 dc0 pm0 an0 cd0 ct0), sl0⟩) (c0 : PySem.W.codeIn K cd0 "spread" = true) (k0 : PySem.W.keepIn K (.ref f0) = true)
    (a1 : PySem.W.nsIn K mainGlobals "turned" = some (some (.ref f1))) (l1 : K.lookup f1 = some ⟨oc1, od1, .func (PySem.W.fnOf "turned" "turned" (defArgs st_turned) (defBody st_turned) (defScope st_turned) .none kV1 dc1 pm1 an1 cd1 ct1), sl1⟩) (c1 : PySem.W.codeIn K cd1 "turned" = true) (k1 : PySem.W.keepIn K (.ref f1) = true)
    (a2 : PySem.W.nsIn K mainGlobals "least_turn" = some (some (.ref f2))) (l2 : K.lookup f2 = some ⟨oc2, od2, .func (PySem.W.fnOf "least_turn" "least_turn" (defArgs st_least_turn) (defBody st_least_turn) (defScope st_least_turn) .none kV2 dc2 pm2 an2 cd2 ct2), sl2⟩) (c2 : PySem.W.codeIn K cd2 "least_turn" = true) (k2 : PySem.W.keepIn K (.ref f2) = true)
    (a3 : PySem.W.nsIn K mainGlobals "are_turns" = some (some (.ref f3))) (l3 : K.lookup f3 = some ⟨oc3, od3, .func (PySem.W.fnOf "are_turns" "are_turns" (defArgs st_are_turns) (defBody st_are_turns) (defScope st_are_turns) .none kV3 dc3 pm3 an3 cd3 ct3), sl3⟩) (c3 : PySem.W.codeIn K cd3 "are_turns" = true) (k3 : PySem.W.keepIn K (.ref f3) = true)
    (a4 : PySem.W.nsIn K mainGlobals "_law_cell_at" = some (some (.ref f4))) (l4 : K.lookup f4 = some ⟨oc4, od4, .func (PySem.W.fnOf "_law_cell_at" "_law_cell_at" (defArgs st__law_cell_at) (defBody st__law_cell_at) (defScope st__law_cell_at) .none kV4 dc4 pm4 an4 cd4 ct4), sl4⟩) (c4 : PySem.W.codeIn K cd4 "_law_cell_at" = true) (k4 : PySem.W.keepIn K (.ref f4) = true)
    (a5 : PySem.W.nsIn K mainGlobals "_law_mixed" = some (some (.ref f5))) (l5 : K.lookup f5 = some ⟨oc5, od5, .func (PySem.W.fnOf "_law_mixed" "_law_mixed" (defArgs st__law_mixed) (defBody st__law_mixed) (defScope st__law_mixed) .none kV5 dc5 pm5 an5 cd5 ct5), sl5⟩) (c5 : PySem.W.codeIn K cd5 "_law_mixed" = true) (k5 : PySem.W.keepIn K (.ref f5) = true)
    (a6 : PySem.W.nsIn K mainGlobals "law" = some (some (.ref f6))) (l6 : K.lookup f6 = some ⟨oc6, od6, .func (PySem.W.fnOf "law" "law" (defArgs st_law) (defBody st_law) (defScope st_law) .none kV6 dc6 pm6 an6 cd6 ct6), sl6⟩) (c6 : PySem.W.codeIn K cd6 "law" = true) (k6 : PySem.W.keepIn K (.ref f6) = true)
    (z0 : PySem.W.nsIn K mainGlobals "int" = some none)
    (z1 : PySem.W.nsIn K mainGlobals "len" = some none)
    (z2 : PySem.W.nsIn K mainGlobals "min" = some none)
    (z3 : PySem.W.nsIn K mainGlobals "range" = some none)
    (y0 : PySem.W.nsIn K mainGlobals "PLAIN" = some (some (.str (Str.ofString "x") t0)))
    (y1 : PySem.W.nsIn K mainGlobals "REST" = some (some (.str (Str.ofString ".") t1))) :
    ∃ fd : FuncData, (∀ (s : Shared) (v : Value), BindsTo s fd ⟨[v], []⟩ [("script", v)]) ∧ ∀ base : Heap, K.In base → base.Ns mainGlobals mg → FnOk l.prog w K mg base CX0 4 fa fd ["script"] (spLaw K) := by
  have e := hfa.symm.trans (PySem.W.mg_of X G a6)
  cases e
  have F0 := fun_mk (st := st_spread) l0 c0 k0
  have b0 := F0.binds (ps := ["many", "steps"]) fun _ _ _ _ _ _ us hl => match us, hl with | [_, _], _ => rfl
  have F1 := fun_mk (st := st_turned) l1 c1 k1
  have b1 := F1.binds (ps := ["row", "by"]) fun _ _ _ _ _ _ us hl => match us, hl with | [_, _], _ => rfl
  have F2 := fun_mk (st := st_least_turn) l2 c2 k2
  have b2 := F2.binds (ps := ["row"]) fun _ _ _ _ _ _ us hl => match us, hl with | [_], _ => rfl
  have F3 := fun_mk (st := st_are_turns) l3 c3 k3
  have b3 := F3.binds (ps := ["one", "other"]) fun _ _ _ _ _ _ us hl => match us, hl with | [_, _], _ => rfl
  have F4 := fun_mk (st := st__law_cell_at) l4 c4 k4
  have b4 := F4.binds (ps := ["script", "k"]) fun _ _ _ _ _ _ us hl => match us, hl with | [_, _], _ => rfl
  have F5 := fun_mk (st := st__law_mixed) l5 c5 k5
  have b5 := F5.binds (ps := ["script", "k"]) fun _ _ _ _ _ _ us hl => match us, hl with | [_, _], _ => rfl
  have F6 := fun_mk (st := st_law) l6 c6 k6
  have T : Txt K mg := ⟨PySem.W.mg_none_of X G z0, PySem.W.mg_none_of X G z1, PySem.W.mg_none_of X G z2, PySem.W.mg_none_of X G z3, ⟨_, PySem.W.mg_of X G y0⟩, ⟨_, PySem.W.mg_of X G y1⟩, ⟨_, _, F0, PySem.W.mg_of X G a0, b0⟩, ⟨_, _, F1, PySem.W.mg_of X G a1, b1⟩, ⟨_, _, F2, PySem.W.mg_of X G a2, b2⟩, ⟨_, _, F3, PySem.W.mg_of X G a3, b3⟩, ⟨_, _, F4, PySem.W.mg_of X G a4, b4⟩, ⟨_, _, F5, PySem.W.mg_of X G a5, b5⟩⟩
  refine ⟨PySem.W.fnOf "law" "law" (defArgs st_law) (defBody st_law) (defScope st_law) .none kV6 dc6 pm6 an6 cd6 ct6, fun s v => .of_eq rfl, fun base _ _ => ?_⟩
  have D__law_cell_at := d__law_cell_at (P := l.prog) (w := w) (base := base) T
  have D__law_mixed := d__law_mixed (P := l.prog) (w := w) (base := base) T D__law_cell_at
  have D_spread := d_spread (P := l.prog) (w := w) (base := base) T
  have D_turned := d_turned (P := l.prog) (w := w) (base := base) T
  have D_least_turn := d_least_turn (P := l.prog) (w := w) (base := base) T D_turned
  have D_are_turns := d_are_turns (P := l.prog) (w := w) (base := base) T D_least_turn
  exact ok_law F6 T D__law_mixed D_spread D_are_turns D_least_turn
end K13
open PySem PySem.W PyProof.Rows
set_option maxRecDepth 100000 in
set_option maxHeartbeats 0 in
theorem PySem.Challenge.cw_padrows_k13_whole_what_spread_rows_leave_holds : PySem.Challenge.rw_padrows_k13_whole_what_spread_rows_leave.Holds := by
  w_on; o_law; k_head; (case hw => w_witness2)
  k_fill
  refine L2.walk_of (l := PySem.Challenge.rw_padrows_k13_whole_what_spread_rows_leave) (n := 63) (k := 4) (x := "script") (CX := fun _ => L2.CX0) (sp := fun w => Dn.spLaw _) rfl (by decide) rfl ⟨rfl, by decide, by decide⟩ (fun w h Y => PySem.W.kIn_of Y) ?F (fun _ _ a ns hl _ hS => ⟨a, ns, rfl, hS, hl, fun _ => rfl⟩) (fun _ _ _ _ _ h => h)
  case F =>
    intro w mg fa h KX G hmg
    refine' K13.all_mk KX G hmg ?a0 ?l0 ?c0 ?k0 ?a1 ?l1 ?c1 ?k1 ?a2 ?l2 ?c2 ?k2 ?a3 ?l3 ?c3 ?k3 ?a4 ?l4 ?c4 ?k4 ?a5 ?l5 ?c5 ?k5 ?a6 ?l6 ?c6 ?k6 ?z0 ?z1 ?z2 ?z3 ?y0 ?y1
    (case a0 => k_is)
    (case l0 => k_is)
    (case c0 => k_is)
    (case k0 => k_is)
    (case a1 => k_is)
    (case l1 => k_is)
    (case c1 => k_is)
    (case k1 => k_is)
    (case a2 => k_is)
    (case l2 => k_is)
    (case c2 => k_is)
    (case k2 => k_is)
    (case a3 => k_is)
    (case l3 => k_is)
    (case c3 => k_is)
    (case k3 => k_is)
    (case a4 => k_is)
    (case l4 => k_is)
    (case c4 => k_is)
    (case k4 => k_is)
    (case a5 => k_is)
    (case l5 => k_is)
    (case c5 => k_is)
    (case k5 => k_is)
    (case a6 => k_is)
    (case l6 => k_is)
    (case c6 => k_is)
    (case k6 => k_is)
    (case z0 => k_is)
    (case z1 => k_is)
    (case z2 => k_is)
    (case z3 => k_is)
    (case y0 => k_is)
    (case y1 => k_is)
