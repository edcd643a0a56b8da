import PyProof.Rows.All
import Wide.All
import OpenK.AllK
import Wide.FinOn
import PyProof.StrLawsIn
import PyProof.Rows.StrStep
import KE.KTupSum
import KE.DataMinMax
import KE.DataEq
import KE.DataCmp
import HandS.Text
import HandS.ForMost
import HandS.TupAny
import HandS.TupMul
import HandS.TupLe
import HandS.Style
import HandS.Flow
import HandS.Conv
import HandS.Codes
import HandS.IsInst
import HandS.NoneIn
import KE.SortData
import HandS.SetFor
import HandS.Strs
import KE.GoesMore
import KE.GoesNew
import KE.GoesEnum
import PySem.Challenge.RW_padrows_k31_whole_swing
set_option Elab.async false
set_option linter.all false
set_option maxRecDepth 100000
/-! Part A: plain data, how it lies in the heap, and readings that tell a plain function of plain slots. -/
namespace Dn
open PySem L2

inductive D where
  | non | bl (b : Bool) | int (i : Int) | str (l : List Nat) | tup (xs : List D) | lst (xs : List D)
  | scr (ns : List Int) | adr (a : Addr) | dct (kvs : List (List Nat × D))
  | own (xs : List D) | ownd (kvs : List (List Nat × D))

abbrev S (l : List Nat) : Str := ⟨l.toArray⟩

mutual
def Is (K : PySem.W.Frag) (H : Hp) : D → V → Prop
  | .non, v => v = .non
  | .bl b, v => v = .bl b
  | .int i, v => v = .int i
  | .str l, v => v = .str (S l)
  | .tup ds, v => ∃ a vs, v = .ref a ∧ SqT K H a vs ∧ IsL K H ds vs
  | .lst ds, v => ∃ a vs, v = .ref a ∧ H a = some (.lst vs) ∧ IsL K H ds vs
  | .scr ns, v => ∃ a, v = .ref a ∧ SqL K H a (ns.map V.int)
  | .adr a, v => v = .ref a
  | .dct kvs, v => ∃ a ks, v = .ref a ∧ H a = some (.dK ks) ∧ IsK K H kvs ks
  | .own _, _ => False
  | .ownd _, _ => False
def IsL (K : PySem.W.Frag) (H : Hp) : List D → List V → Prop
  | [], vs => vs = []
  | d :: ds, vs => ∃ v r, vs = v :: r ∧ Is K H d v ∧ IsL K H ds r
def IsK (K : PySem.W.Frag) (H : Hp) : List (List Nat × D) → List (Key × V) → Prop
  | [], ks => ks = []
  | (k, d) :: kvs, ks => ∃ v r, ks = (Sum.inr (S k), v) :: r ∧ Is K H d v ∧ IsK K H kvs r
end

section
variable {K : PySem.W.Frag} {H H' : Hp}
theorem sq_mono (e : Same H H') {a : Addr} {xs : List V} (h : SqT K H a xs) : SqT K H' a xs := by
  rcases h with (h | ⟨o, h⟩) | h
  · exact .inl (.inl (e _ _ h))
  · exact .inl (.inr ⟨o, e _ _ h⟩)
  · exact .inr h
mutual
theorem Is.mono (e : Same H H') : ∀ {d : D} {v : V}, Is K H d v → Is K H' d v
  | .non, _, h => by simpa only [Is] using h
  | .bl _, _, h => by simpa only [Is] using h
  | .int _, _, h => by simpa only [Is] using h
  | .str _, _, h => by simpa only [Is] using h
  | .adr _, _, h => by simpa only [Is] using h
  | .tup ds, v, h => by
    simp only [Is] at h ⊢
    obtain ⟨a, vs, e1, e2, e3⟩ := h
    exact ⟨a, vs, e1, sq_mono e e2, IsL.mono e e3⟩
  | .lst ds, v, h => by
    simp only [Is] at h ⊢
    obtain ⟨a, vs, e1, e2, e3⟩ := h
    exact ⟨a, vs, e1, e _ _ e2, IsL.mono e e3⟩
  | .scr ns, v, h => by
    simp only [Is] at h ⊢
    obtain ⟨a, e1, e2⟩ := h
    exact ⟨a, e1, e.seq e2⟩
  | .dct kvs, v, h => by
    simp only [Is] at h ⊢
    obtain ⟨a, vs, e1, e2, e3⟩ := h
    exact ⟨a, vs, e1, e _ _ e2, IsK.mono e e3⟩
  | .own _, _, h => by simp only [Is] at h
  | .ownd _, _, h => by simp only [Is] at h
theorem IsL.mono (e : Same H H') : ∀ {ds : List D} {vs : List V}, IsL K H ds vs → IsL K H' ds vs
  | [], _, h => by simpa only [IsL] using h
  | d :: ds, vs, h => by
    simp only [IsL] at h ⊢
    obtain ⟨v, r, e1, e2, e3⟩ := h
    exact ⟨v, r, e1, Is.mono e e2, IsL.mono e e3⟩
theorem IsK.mono (e : Same H H') : ∀ {ds : List (List Nat × D)} {vs : List (Key × V)}, IsK K H ds vs → IsK K H' ds vs
  | [], _, h => by simpa only [IsK] using h
  | (k, d) :: ds, vs, h => by
    simp only [IsK] at h ⊢
    obtain ⟨v, r, e1, e2, e3⟩ := h
    exact ⟨v, r, e1, Is.mono e e2, IsK.mono e e3⟩
end
theorem IsL.length : ∀ {ds : List D} {vs : List V}, IsL K H ds vs → vs.length = ds.length
  | [], _, h => by simp only [IsL] at h; subst h; rfl
  | d :: ds, vs, h => by
    simp only [IsL] at h
    obtain ⟨v, r, e1, _, e3⟩ := h
    subst e1
    rw [List.length_cons, List.length_cons, IsL.length e3]
theorem IsL.get : ∀ {ds : List D} {vs : List V} {i : Nat} {d : D}, IsL K H ds vs → ds[i]? = some d → ∃ v, vs[i]? = some v ∧ Is K H d v
  | [], _, _, _, _, q => by simp at q
  | d :: ds, vs, i, d', h, q => by
    simp only [IsL] at h
    obtain ⟨v, r, e1, e2, e3⟩ := h
    subst e1
    cases i with
    | zero =>
      simp at q
      subst q
      exact ⟨v, rfl, e2⟩
    | succ j =>
      simp at q
      obtain ⟨w, a, b⟩ := IsL.get e3 q
      exact ⟨w, by simpa using a, b⟩
theorem IsL.append : ∀ {ds es : List D} {vs ws : List V}, IsL K H ds vs → IsL K H es ws → IsL K H (ds ++ es) (vs ++ ws)
  | [], _, _, _, h, q => by
    simp only [IsL] at h
    subst h
    exact q
  | d :: ds, es, vs, ws, h, q => by
    simp only [IsL] at h
    obtain ⟨v, r, e1, e2, e3⟩ := h
    subst e1
    show IsL K H (d :: (ds ++ es)) (v :: (r ++ ws))
    simp only [IsL]
    exact ⟨v, r ++ ws, rfl, e2, e3.append q⟩
theorem IsL.take (n : Nat) : ∀ {ds : List D} {vs : List V}, IsL K H ds vs → IsL K H (ds.take n) (vs.take n) := by
  induction n with
  | zero => intro ds vs _; simp [IsL]
  | succ n ih =>
    intro ds vs h
    cases ds with
    | nil =>
      simp only [IsL] at h
      subst h
      simp [IsL]
    | cons d ds =>
      simp only [IsL] at h
      obtain ⟨v, r, e1, e2, e3⟩ := h
      subst e1
      simp only [List.take_succ_cons, IsL]
      exact ⟨v, _, rfl, e2, ih e3⟩
theorem IsL.drop (n : Nat) : ∀ {ds : List D} {vs : List V}, IsL K H ds vs → IsL K H (ds.drop n) (vs.drop n) := by
  induction n with
  | zero => intro ds vs h; exact h
  | succ n ih =>
    intro ds vs h
    cases ds with
    | nil =>
      simp only [IsL] at h
      subst h
      simp [IsL]
    | cons d ds =>
      simp only [IsL] at h
      obtain ⟨v, r, e1, e2, e3⟩ := h
      subst e1
      exact ih e3
theorem IsL.of_get : ∀ {ds : List D} {vs : List V}, vs.length = ds.length → (∀ (i : Nat) (d : D) (v : V), ds[i]? = some d → vs[i]? = some v → Is K H d v) → IsL K H ds vs
  | [], vs, e, _ => by
    simp only [IsL]
    exact List.eq_nil_of_length_eq_zero e
  | d :: ds, [], e, _ => by simp at e
  | d :: ds, v :: vs, e, h => by
    simp only [IsL]
    exact ⟨v, vs, rfl, h 0 d v rfl rfl, IsL.of_get (by simpa using e) fun i d' v' a b => h (i + 1) d' v' (by simpa using a) (by simpa using b)⟩
theorem IsL.set {ds : List D} {vs : List V} {d : D} {v : V} (j : Nat) (h : IsL K H ds vs) (q : Is K H d v) : IsL K H (ds.set j d) (vs.set j v) := by
  refine IsL.of_get (by rw [List.length_set, List.length_set, h.length]) fun i d' v' a b => ?_
  by_cases e : j = i
  · subst e
    rw [List.getElem?_set_self'] at a b
    cases h1 : ds[j]? with
    | none => rw [h1] at a; cases a
    | some x =>
      rw [h1] at a
      cases h2 : vs[j]? with
      | none => rw [h2] at b; cases b
      | some y =>
        rw [h2] at b
        cases a
        cases b
        exact q
  · rw [List.getElem?_set_ne e] at a b
    obtain ⟨w, c1, c2⟩ := h.get a
    rw [c1] at b
    cases b
    exact c2
end

/-! ### a step of the heap: H is the whole of it, Hb the part that plain data lies in -/
structure Step (Hb H Hb' H' : Hp) : Prop where
  a : Same H H'
  b : Same Hb Hb'
  c : Same Hb' H'
  f : ∀ p o, H p = some o → Hb p = none → Hb' p = none
theorem Step.refl {Hb H : Hp} (h : Same Hb H) : Step Hb H Hb H := ⟨Same.refl _, Same.refl _, h, fun _ _ _ n => n⟩
theorem Step.trans {Hb H Hb1 H1 Hb2 H2 : Hp} (x : Step Hb H Hb1 H1) (y : Step Hb1 H1 Hb2 H2) : Step Hb H Hb2 H2 :=
  ⟨x.a.trans y.a, x.b.trans y.b, y.c, fun p o e n => y.f p o (x.a p o e) (x.f p o e n)⟩
theorem same_new {H : Hp} {p : Addr} {o : HO} (h : H p = none) : Same H (upd H p o) := fun b x e => by
  rw [upd_ne (ne_of_none e h)]
  exact e
theorem same_upd2 {Hb H : Hp} {p : Addr} {o : HO} (s : Same Hb H) : Same (upd Hb p o) (upd H p o) := fun b x e => by
  by_cases h : b = p
  · subst h
    rw [upd_same] at e ⊢
    exact e
  · rw [upd_ne h] at e ⊢
    exact s b x e
theorem Step.new {Hb H : Hp} (s : Same Hb H) {p : Addr} {o : HO} (h : H p = none) : Step Hb H (upd Hb p o) (upd H p o) :=
  ⟨same_new h, same_new (s.free h), same_upd2 s, fun b x e n => by rw [upd_ne (ne_of_none e h)]; exact n⟩

abbrev En := List (Option D)
def D.isOwn : D → Bool
  | .own _ => true
  | .ownd _ => true
  | _ => false
/-- what a slot holds -/
def IsS (K : PySem.W.Frag) (H0 Hb H : Hp) : D → V → Prop
  | .own ds, v => ∃ a vs, v = .ref a ∧ H0 a = none ∧ Hb a = none ∧ H a = some (.lst vs) ∧ IsL K Hb ds vs
  | .ownd kvs, v => ∃ a ks, v = .ref a ∧ H0 a = none ∧ Hb a = none ∧ H a = some (.dK ks) ∧ IsK K Hb kvs ks
  | d, v => Is K Hb d v
structure Rel (K : PySem.W.Frag) (H0 Hb H : Hp) (σ : L2.St) (env : En) : Prop where
  len : σ.length = env.length
  val : ∀ (i : Nat) (d : D), env[i]? = some (some d) → ∃ v, σ[i]? = some (some v) ∧ IsS K H0 Hb H d v
  sep : ∀ (i j : Nat) (d e : D) (a : Addr), i ≠ j → env[i]? = some (some d) → env[j]? = some (some e) → d.isOwn = true → e.isOwn = true → σ[i]? = some (some (.ref a)) → σ[j]? = some (some (.ref a)) → False
section
variable {K : PySem.W.Frag} {H0 Hb H Hb' H' : Hp} {σ : L2.St} {env : En}
theorem IsS.plain {d : D} {v : V} (h : d.isOwn = false) : IsS K H0 Hb H d v = Is K Hb d v := by
  cases d <;> first | rfl | (simp [D.isOwn] at h)
theorem IsS.step (s : Step Hb H Hb' H') {d : D} {v : V} (h : IsS K H0 Hb H d v) : IsS K H0 Hb' H' d v := by
  cases d with
  | own ds =>
    obtain ⟨a, vs, e1, e2, e3, e4, e5⟩ := h
    exact ⟨a, vs, e1, e2, s.f _ _ e4 e3, s.a _ _ e4, e5.mono s.b⟩
  | ownd ds =>
    obtain ⟨a, vs, e1, e2, e3, e4, e5⟩ := h
    exact ⟨a, vs, e1, e2, s.f _ _ e4 e3, s.a _ _ e4, e5.mono s.b⟩
  | _ => exact Is.mono s.b h
theorem Rel.step (s : Step Hb H Hb' H') (r : Rel K H0 Hb H σ env) : Rel K H0 Hb' H' σ env :=
  ⟨r.len, fun i d e => let ⟨v, a, b⟩ := r.val i d e; ⟨v, a, b.step s⟩, r.sep⟩
/-- a slot gets a plain thing -/
theorem Rel.set (r : Rel K H0 Hb H σ env) (i : Nat) {d : D} {v : V} (h : Is K Hb d v) : Rel K H0 Hb H (σ.set i (some v)) (env.set i (some d)) := by
  have hd : d.isOwn = false := by cases d <;> first | rfl | (simp only [Is] at h)
  refine ⟨by rw [List.length_set, List.length_set, r.len], fun j e q => ?_, fun j k e e' a ne q1 q2 o1 o2 s1 s2 => ?_⟩
  · by_cases hj : i = j
    · subst hj
      have hi : i < env.length := by
        have := (List.getElem?_eq_some_iff.mp q).1
        rw [List.length_set] at this
        exact this
      rw [List.getElem?_set_self hi] at q
      cases q
      refine ⟨v, List.getElem?_set_self (by rw [r.len]; exact hi), ?_⟩
      rw [IsS.plain hd]
      exact h
    · rw [List.getElem?_set_ne hj] at q
      obtain ⟨w, a, b⟩ := r.val j e q
      exact ⟨w, by rw [List.getElem?_set_ne hj]; exact a, b⟩
  · have key : ∀ (m : Nat) (x : D), (env.set i (some d))[m]? = some (some x) → x.isOwn = true → i ≠ m := fun m x q o z => by
      subst z
      have hi : i < env.length := by
        have := (List.getElem?_eq_some_iff.mp q).1
        rw [List.length_set] at this
        exact this
      rw [List.getElem?_set_self hi] at q
      cases q
      rw [hd] at o
      cases o
    have n1 := key j e q1 o1
    have n2 := key k e' q2 o2
    rw [List.getElem?_set_ne n1] at q1 s1
    rw [List.getElem?_set_ne n2] at q2 s2
    exact r.sep j k e e' a ne q1 q2 o1 o2 s1 s2
/-- a slot is forgotten -/
theorem Rel.forget (r : Rel K H0 Hb H σ env) (i : Nat) (x : Option V) : Rel K H0 Hb H (σ.set i x) (env.set i none) := by
  have key : ∀ (m : Nat) (d : D), (env.set i none)[m]? = some (some d) → i ≠ m := fun m d q z => by
    subst z
    have hi : i < env.length := by
      have := (List.getElem?_eq_some_iff.mp q).1
      rw [List.length_set] at this
      exact this
    rw [List.getElem?_set_self hi] at q
    cases q
  refine ⟨by rw [List.length_set, List.length_set, r.len], fun j e q => ?_, fun j k e e' a ne q1 q2 o1 o2 s1 s2 => ?_⟩
  · have n := key j e q
    rw [List.getElem?_set_ne n] at q
    obtain ⟨w, a, b⟩ := r.val j e q
    exact ⟨w, by rw [List.getElem?_set_ne n]; exact a, b⟩
  · have n1 := key j e q1
    have n2 := key k e' q2
    rw [List.getElem?_set_ne n1] at q1 s1
    rw [List.getElem?_set_ne n2] at q2 s2
    exact r.sep j k e e' a ne q1 q2 o1 o2 s1 s2
end

/-! ### readings -/
def tD (K : PySem.W.Frag) (f : En → Option D) : TE := fun σ H Q => ∃ H0 env Hb d, Rel K H0 Hb H σ env ∧ Same Hb H ∧ f env = some d ∧ ∀ v Hb' H', Step Hb H Hb' H' → Is K Hb' d v → Q v H'
def tT (K : PySem.W.Frag) (f : En → Option Bool) : TT := fun σ H Q => ∃ H0 env Hb b, Rel K H0 Hb H σ env ∧ Same Hb H ∧ f env = some b ∧ ∀ Hb' H', Step Hb H Hb' H' → Q b H'
def tA (K : PySem.W.Frag) (f : En → Option (List D)) : TA := fun σ H Q => ∃ H0 env Hb ds, Rel K H0 Hb H σ env ∧ Same Hb H ∧ f env = some ds ∧ ∀ vs Hb' H', Step Hb H Hb' H' → IsL K Hb' ds vs → Q vs H'
def tO (K : PySem.W.Frag) (f : En → Option (Option Int)) : TO := fun σ H Q => ∃ H0 env Hb o, Rel K H0 Hb H σ env ∧ Same Hb H ∧ f env = some o ∧ ∀ Hb' H', Step Hb H Hb' H' → Q o H'

def f1 (g : D → Option D) (fa : En → Option D) : En → Option D := fun env => (fa env).bind g
def f2 (g : D → D → Option D) (fa fb : En → Option D) : En → Option D := fun env => (fa env).bind fun a => (fb env).bind fun b => g a b
def fV (i : Nat) : En → Option D := fun env => match env[i]? with
  | some (some d) => if d.isOwn then none else some d
  | _ => none
def fC (d : D) : En → Option D := fun _ => some d
def fNil : En → Option (List D) := fun _ => some []
def fCons (fa : En → Option D) (fb : En → Option (List D)) : En → Option (List D) := fun env => (fa env).bind fun a => (fb env).bind fun b => some (a :: b)
def asB : D → Option Bool
  | .bl b => some b
  | _ => none
def asI : D → Option Int
  | .int b => some b
  | _ => none

section
variable {X : Cx} {a b c e : Expr} {es : List Expr} {pos : Pos} {fa fb fc : En → Option D} {fs : En → Option (List D)}

theorem PE_weak {t t' : TE} (h : PE X e t) (w : ∀ σ H Q, t' σ H Q → t σ H Q) : PE X e t' := ⟨fun pins s σ H Q I q => h.run pins s σ H Q I (w σ H Q q)⟩
theorem PT_weak {t t' : TT} (h : PT X e t) (w : ∀ σ H Q, t' σ H Q → t σ H Q) : PT X e t' := ⟨fun pins s σ H Q I q => h.run pins s σ H Q I (w σ H Q q)⟩
theorem PW_weak {t t' : TT} (h : PW X e t) (w : ∀ σ H Q, t' σ H Q → t σ H Q) : PW X e t' := ⟨fun wh pins s σ H Q I q => h.run wh pins s σ H Q I (w σ H Q q)⟩
theorem PA_weak {t t' : TA} (h : PA X es t) (w : ∀ σ H Q, t' σ H Q → t σ H Q) : PA X es t' := ⟨fun p pins s σ H Q I q => h.run p pins s σ H Q I (w σ H Q q)⟩

theorem bind2 {α β γ : Type} {x : Option α} {y : Option β} {g : α → β → Option γ} {z : γ} (h : (x.bind fun a => y.bind fun b => g a b) = some z) : ∃ a b, x = some a ∧ y = some b ∧ g a b = some z := by
  cases x with
  | none => cases h
  | some a =>
    cases y with
    | none => cases h
    | some b => exact ⟨a, b, rfl, rfl, h⟩
theorem bind1 {α γ : Type} {x : Option α} {g : α → Option γ} {z : γ} (h : x.bind g = some z) : ∃ a, x = some a ∧ g a = some z := by
  cases x with
  | none => cases h
  | some a => exact ⟨a, rfl, h⟩

/-- names, constants -/
theorem e_var (i : Nat) {x : Str} (hN : X.N[i]? = some x := by rfl) (hv : Vis X.env.scope x := by first | exact Or.inl rfl | exact Or.inr (Or.inl rfl) | exact Or.inr (Or.inr rfl)) (hd : (x == ("__debug__" : Str)) = false := by decide)
    (hcd : (x == ("__classdict__" : Str)) = false := by decide) : PE X (.Name x pos) (tD X.K (fV i)) := PE_weak (pe_var hN hv hd hcd) fun σ H Q h => by
  obtain ⟨H0, env, Hb, d, r, sm, ef, q⟩ := h
  unfold fV at ef
  cases e1 : env[i]? with
  | none => rw [e1] at ef; cases ef
  | some o =>
    rw [e1] at ef
    cases o with
    | none => cases ef
    | some d' =>
      dsimp only at ef
      cases ho : d'.isOwn with
      | true => rw [ho] at ef; simp at ef
      | false =>
        rw [ho] at ef
        simp at ef
        subst ef
        obtain ⟨v, s1, s2⟩ := r.val i d' e1
        rw [IsS.plain ho] at s2
        exact ⟨v, s1, q v Hb H (Step.refl sm) s2⟩
theorem e_c {d : D} {v : V} (he : PE X e (tC v)) (hv : ∀ H, Is X.K H d v) : PE X e (tD X.K (fC d)) := PE_weak he fun σ H Q h => by
  obtain ⟨H0, env, Hb, d', r, sm, ef, q⟩ := h
  cases ef
  exact q v Hb H (Step.refl sm) (hv Hb)
theorem e_int {i j} : PE X (.Constant (.int i) j pos) (tD X.K (fC (.int i))) := e_c pe_int fun _ => by simp only [Is]
theorem e_bl {i j} : PE X (.Constant (.bool i) j pos) (tD X.K (fC (.bl i))) := e_c pe_bl fun _ => by simp only [Is]
theorem e_non {j} : PE X (.Constant .none j pos) (tD X.K (fC .non)) := e_c pe_non fun _ => by simp only [Is]
theorem e_str (l : List Nat) {x : Str} {j} (h : x = S l := by decide +kernel) : PE X (.Constant (.str x) j pos) (tD X.K (fC (.str l))) := e_c pe_str fun _ => by simp only [Is]; rw [h]
/-- a module's text -/
theorem e_gstr (l : List Nat) {x y : Str} {tk : Tok} (hm : X.mg x = some (.str y tk)) (h : y = S l := by decide +kernel) (hg : Gl X x := by rfl) (hd : (x == ("__debug__" : Str)) = false := by decide) : PE X (.Name x pos) (tD X.K (fC (.str l))) :=
  e_c (v := .str y) (pe_glob hg hm ⟨_, rfl⟩ hd) fun _ => by simp only [Is]; rw [h]
theorem e_gint (i : Int) {x : Str} {tk : Tok} (hm : X.mg x = some (.int i tk)) (hg : Gl X x := by rfl) (hd : (x == ("__debug__" : Str)) = false := by decide) : PE X (.Name x pos) (tD X.K (fC (.int i))) :=
  e_c (v := .int i) (pe_glob hg hm ⟨_, rfl⟩ hd) fun _ => by simp only [Is]

/-! ### operations on values -/
def rD2 (K : PySem.W.Frag) (g : D → D → Option D) : R2 := fun x y H Q => ∃ Hb a b d, Same Hb H ∧ Is K Hb a x ∧ Is K Hb b y ∧ g a b = some d ∧ ∀ v Hb' H', Step Hb H Hb' H' → Is K Hb' d v → Q v H'
def rD1 (K : PySem.W.Frag) (g : D → Option D) : V → Hp → VK → Prop := fun x H Q => ∃ Hb a d, Same Hb H ∧ Is K Hb a x ∧ g a = some d ∧ ∀ v Hb' H', Step Hb H Hb' H' → Is K Hb' d v → Q v H'
def rDA (K : PySem.W.Frag) (g : List D → Option D) : List V → Hp → VK → Prop := fun xs H Q => ∃ Hb ds d, Same Hb H ∧ IsL K Hb ds xs ∧ g ds = some d ∧ ∀ v Hb' H', Step Hb H Hb' H' → Is K Hb' d v → Q v H'

theorem t_op {g : D → D → Option D} {σ : L2.St} {H : Hp} {Q : VK} (h : tD X.K (f2 g fa fb) σ H Q) : tOp (rD2 X.K g) (tD X.K fa) (tD X.K fb) σ H Q := by
  obtain ⟨H0, env, Hb, d, r, sm, ef, q⟩ := h
  obtain ⟨da, db, ea, eb, eg⟩ := bind2 ef
  exact ⟨H0, env, Hb, da, r, sm, ea, fun x Hb1 H1 s1 ix => ⟨H0, env, Hb1, db, r.step s1, s1.c, eb, fun y Hb2 H2 s2 iy =>
    ⟨Hb2, da, db, d, s2.c, ix.mono s2.b, iy, eg, fun v Hb' H' s3 iv => q v Hb' H' (s1.trans (s2.trans s3)) iv⟩⟩⟩
theorem e_op {op : Operator} {g : D → D → Option D} (ho : OpR X (binaryOp op) (rD2 X.K g)) (ha : PE X a (tD X.K fa)) (hb : PE X b (tD X.K fb)) : PE X (.BinOp a op b pos) (tD X.K (f2 g fa fb)) :=
  PE_weak (pe_op ho ha hb) fun _ _ _ h => t_op h
theorem e_un {op : UnaryOp} {g : D → Option D} (ho : UnR X (unaryOp op) (rD1 X.K g)) (ha : PE X a (tD X.K fa)) : PE X (.UnaryOp op a pos) (tD X.K (f1 g fa)) :=
  PE_weak (pe_un ho ha) fun σ H Q h => by
    obtain ⟨H0, env, Hb, d, r, sm, ef, q⟩ := h
    obtain ⟨da, ea, eg⟩ := bind1 ef
    exact ⟨H0, env, Hb, da, r, sm, ea, fun x Hb1 H1 s1 ix => ⟨Hb1, da, d, s1.c, ix, eg, fun v Hb' H' s3 iv => q v Hb' H' (s1.trans s3) iv⟩⟩
theorem e_cmp {op : CmpOp} {g : D → D → Option D} (ho : OpR X (compareOp op) (rD2 X.K g)) (ha : PE X a (tD X.K fa)) (hb : PE X b (tD X.K fb)) (hm : behindInMarks op b = false := by first | exact nobehind _ (by decide) (by decide) | rfl) :
    PE X (.Compare a [op] [b] pos) (tD X.K (f2 g fa fb)) := PE_weak (pe_cmpR ho ha hb hm) fun _ _ _ h => t_op h
/-- a <= b < c -/
def fChain (g g' : D → D → Option D) (fa fb fc : En → Option D) : En → Option D := fun env => (fa env).bind fun a => (fb env).bind fun b => (g a b).bind fun z => (asB z).bind fun k => if k then (fc env).bind fun c => g' b c else some (.bl false)
theorem asB_some {d : D} {b : Bool} (h : asB d = some b) : d = .bl b := by
  cases d <;> first | (cases h; rfl) | cases h
theorem asI_some {d : D} {b : Int} (h : asI d = some b) : d = .int b := by
  cases d <;> first | (cases h; rfl) | cases h
theorem e_chain {op op' : CmpOp} {g g' : D → D → Option D} (ho : OpR X (compareOp op) (rD2 X.K g)) (ho' : OpR X (compareOp op') (rD2 X.K g')) (ha : PE X a (tD X.K fa)) (hb : PE X b (tD X.K fb)) (hc : PE X c (tD X.K fc))
    (hm : lastMarks [op, op'] [b, c] = false := by with_unfolding_all rfl) : PE X (.Compare a [op, op'] [b, c] pos) (tD X.K (fChain g g' fa fb fc)) :=
  PE_weak (pe_chain ho ho' ha hb hc hm) fun σ H Q h => by
    obtain ⟨H0, env, Hb, d, r, sm, ef, q⟩ := h
    obtain ⟨da, ea, ef⟩ := bind1 ef
    obtain ⟨db, eb, ef⟩ := bind1 ef
    obtain ⟨z, ez, ef⟩ := bind1 ef
    obtain ⟨k, ek, eg⟩ := bind1 ef
    have hz := asB_some ek
    subst hz
    refine ⟨H0, env, Hb, da, r, sm, ea, fun x Hb1 H1 s1 ix => ⟨H0, env, Hb1, db, r.step s1, s1.c, eb, fun y Hb2 H2 s2 iy => ⟨Hb2, da, db, .bl k, s2.c, ix.mono s2.b, iy, ez, fun v Hb3 H3 s3 iv => ⟨k, by simpa only [Is] using iv, ?_⟩⟩⟩⟩
    cases k with
    | false =>
      simp at eg
      subst eg
      exact q _ Hb3 H3 (s1.trans (s2.trans s3)) (by simp only [Is])
    | true =>
      obtain ⟨dc, ec, eg⟩ := bind1 eg
      exact ⟨H0, env, Hb3, dc, ((r.step s1).step s2).step s3, s3.c, ec, fun w Hb4 H4 s4 iw => ⟨Hb4, db, dc, d, s4.c, (iy.mono s3.b).mono s4.b, iw, eg, fun v' Hb' H' s5 iv' => q v' Hb' H' (s1.trans (s2.trans (s3.trans (s4.trans s5)))) iv'⟩⟩

/-! ### argument lists, displays -/
theorem a_nil : PA X [] (tA X.K fNil) := PA_weak pa_nil fun σ H Q h => by
  obtain ⟨H0, env, Hb, d, r, sm, ef, q⟩ := h
  cases ef
  exact q [] Hb H (Step.refl sm) (by simp only [IsL])
theorem a_cons (ha : PE X e (tD X.K fa)) (hr : PA X es (tA X.K fs)) (hs : starEach (e :: es) X.env = (false, eval e X.env) :: starEach es X.env := by rfl) : PA X (e :: es) (tA X.K (fCons fa fs)) :=
  PA_weak (pa_cons ha hr hs) fun σ H Q h => by
    obtain ⟨H0, env, Hb, ds, r, sm, ef, q⟩ := h
    obtain ⟨da, db, ea, eb, eg⟩ := bind2 ef
    cases eg
    exact ⟨H0, env, Hb, da, r, sm, ea, fun x Hb1 H1 s1 ix => ⟨H0, env, Hb1, db, r.step s1, s1.c, eb, fun xs Hb2 H2 s2 ixs =>
      q (x :: xs) Hb2 H2 (s1.trans s2) (by simp only [IsL]; exact ⟨x, xs, rfl, ix.mono s2.b, ixs⟩)⟩⟩
def fTup (fs : En → Option (List D)) : En → Option D := fun env => (fs env).bind fun ds => if ds.length ≤ sizeLine then some (.tup ds) else none
def fLst (fs : En → Option (List D)) : En → Option D := fun env => (fs env).bind fun ds => if ds.length ≤ sizeLine then some (.lst ds) else none
theorem iteS {α : Type} {c : Prop} [Decidable c] {x y : α} (h : (if c then some x else none) = some y) : c ∧ x = y := by
  by_cases q : c
  · rw [if_pos q] at h
    exact ⟨q, Option.some.inj h⟩
  · rw [if_neg q] at h
    cases h
theorem is_tup_new {K : PySem.W.Frag} {Hb : Hp} {p : Addr} {ds : List D} {vs : List V} (hp : Hb p = none) (h : IsL K Hb ds vs) : Is K (upd Hb p (.tup vs)) (.tup ds) (.ref p) := by
  simp only [Is]
  exact ⟨p, vs, rfl, .inl (.inl upd_same), h.mono (same_new hp)⟩
theorem is_lst_new {K : PySem.W.Frag} {Hb : Hp} {p : Addr} {ds : List D} {vs : List V} (hp : Hb p = none) (h : IsL K Hb ds vs) : Is K (upd Hb p (.lst vs)) (.lst ds) (.ref p) := by
  simp only [Is]
  exact ⟨p, vs, rfl, upd_same, h.mono (same_new hp)⟩
theorem e_tup {x1} (h : PA X es (tA X.K fs)) : PE X (.Tuple es x1 pos) (tD X.K (fTup fs)) := PE_weak (pe_tup h) fun σ H Q hh => by
  obtain ⟨H0, env, Hb, d, r, sm, ef, q⟩ := hh
  obtain ⟨ds, es, eg⟩ := bind1 ef
  obtain ⟨hl, rfl⟩ := iteS eg
  exact ⟨H0, env, Hb, ds, r, sm, es, fun vs Hb1 H1 s1 ix => ⟨by rw [ix.length]; exact hl, fun p hp => q _ _ _ (s1.trans (Step.new s1.c hp)) (is_tup_new (s1.c.free hp) ix)⟩⟩
theorem e_lst (h : PA X es (tA X.K fs)) : PE X (.List es pos) (tD X.K (fLst fs)) := PE_weak (pe_lst h) fun σ H Q hh => by
  obtain ⟨H0, env, Hb, d, r, sm, ef, q⟩ := hh
  obtain ⟨ds, es, eg⟩ := bind1 ef
  obtain ⟨hl, rfl⟩ := iteS eg
  exact ⟨H0, env, Hb, ds, r, sm, es, fun vs Hb1 H1 s1 ix => ⟨by rw [ix.length]; exact hl, fun p hp => q _ _ _ (s1.trans (Step.new s1.c hp)) (is_lst_new (s1.c.free hp) ix)⟩⟩

/-! ### tests -/
def fB (fa : En → Option D) : En → Option Bool := fun env => (fa env).bind asB
def fAnd (fa fb : En → Option Bool) : En → Option Bool := fun env => (fa env).bind fun k => if k then fb env else some false
def fOr (fa fb : En → Option Bool) : En → Option Bool := fun env => (fa env).bind fun k => if k then some true else fb env
def fNot (fa : En → Option Bool) : En → Option Bool := fun env => (fa env).bind fun k => some (!k)
variable {ga gb : En → Option Bool} {rest : List Expr}
theorem tB_of {σ : L2.St} {H : Hp} {Q : Bool → Hp → Prop} (h : tT X.K (fB fa) σ H Q) : tB (tD X.K fa) σ H Q := by
  obtain ⟨H0, env, Hb, k, r, sm, ef, q⟩ := h
  obtain ⟨d, ed, eb⟩ := bind1 ef
  have hd := asB_some eb
  subst hd
  exact ⟨H0, env, Hb, _, r, sm, ed, fun v Hb' H' s iv => ⟨k, by simpa only [Is] using iv, q Hb' H' s⟩⟩
theorem t_val (h : PE X e (tD X.K fa)) (he : ∀ whole, isTrue e X.env whole = (do let v ← whole; standAt e.pos; holding [v] (truthy v)) := by intro _; rfl) : PT X e (tT X.K (fB fa)) :=
  PT_weak (pt_val h he) fun _ _ _ h => tB_of h
theorem t_cmp {op : CmpOp} {g : D → D → Option D} (ho : OpR X (compareOp op) (rD2 X.K g)) (ha : PE X a (tD X.K fa)) (hb : PE X b (tD X.K fb)) (hm : behindInMarks op b = false := by first | exact nobehind _ (by decide) (by decide) | rfl) :
    PT X (.Compare a [op] [b] pos) (tT X.K (fB (f2 g fa fb))) := PT_weak (pt_cmpR ho ha hb hm) fun σ H Q h => by
  obtain ⟨H0, env, Hb, k, r, sm, ef, q⟩ := h
  obtain ⟨d, ed, eb⟩ := bind1 ef
  have hd := asB_some eb
  subst hd
  exact t_op ⟨H0, env, Hb, _, r, sm, ed, fun v Hb' H' s iv => ⟨k, by simpa only [Is] using iv, q Hb' H' s⟩⟩
theorem t_and1 (ha : PT X a (tT X.K ga)) : PW X (.BoolOp .And [a] pos) (tT X.K ga) := pw_and1 ha
theorem t_or1 (ha : PT X a (tT X.K ga)) : PW X (.BoolOp .Or [a] pos) (tT X.K ga) := pw_or1 ha
theorem t_and (ha : PT X a (tT X.K ga)) (hb : PW X (.BoolOp .And (b :: rest) pos) (tT X.K gb)) : PW X (.BoolOp .And (a :: b :: rest) pos) (tT X.K (fAnd ga gb)) := PW_weak (pw_and ha hb) fun σ H Q h => by
  obtain ⟨H0, env, Hb, k, r, sm, ef, q⟩ := h
  obtain ⟨c, ec, eg⟩ := bind1 ef
  refine ⟨H0, env, Hb, c, r, sm, ec, fun Hb1 H1 s1 => ?_⟩
  cases c with
  | false =>
    simp at eg
    subst eg
    exact q Hb1 H1 s1
  | true =>
    simp at eg
    exact ⟨H0, env, Hb1, k, r.step s1, s1.c, eg, fun Hb2 H2 s2 => q Hb2 H2 (s1.trans s2)⟩
theorem t_or (ha : PT X a (tT X.K ga)) (hb : PW X (.BoolOp .Or (b :: rest) pos) (tT X.K gb)) : PW X (.BoolOp .Or (a :: b :: rest) pos) (tT X.K (fOr ga gb)) := PW_weak (pw_or ha hb) fun σ H Q h => by
  obtain ⟨H0, env, Hb, k, r, sm, ef, q⟩ := h
  obtain ⟨c, ec, eg⟩ := bind1 ef
  refine ⟨H0, env, Hb, c, r, sm, ec, fun Hb1 H1 s1 => ?_⟩
  cases c with
  | true =>
    simp at eg
    subst eg
    exact q Hb1 H1 s1
  | false =>
    simp at eg
    exact ⟨H0, env, Hb1, k, r.step s1, s1.c, eg, fun Hb2 H2 s2 => q Hb2 H2 (s1.trans s2)⟩
theorem t_not (ha : PT X a (tT X.K ga)) : PT X (.UnaryOp .Not a pos) (tT X.K (fNot ga)) := PT_weak (pt_not ha) fun σ H Q h => by
  obtain ⟨H0, env, Hb, k, r, sm, ef, q⟩ := h
  obtain ⟨c, ec, eg⟩ := bind1 ef
  cases eg
  exact ⟨H0, env, Hb, c, r, sm, ec, fun Hb1 H1 s1 => q Hb1 H1 s1⟩
/-- as values -/
def fAndV (fa fb : En → Option D) : En → Option D := fun env => ((fa env).bind asB).bind fun k => if k then fb env else some (.bl false)
def fOrV (fa fb : En → Option D) : En → Option D := fun env => ((fa env).bind asB).bind fun k => if k then some (.bl true) else fb env
def fNotV (fa : En → Option D) : En → Option D := fun env => ((fa env).bind asB).bind fun k => some (.bl (!k))
def fIf (fc : En → Option Bool) (fa fb : En → Option D) : En → Option D := fun env => (fc env).bind fun k => if k then fa env else fb env
theorem e_and (ha : PE X a (tD X.K fa)) (hb : PE X (.BoolOp .And (b :: rest) pos) (tD X.K fb)) : PE X (.BoolOp .And (a :: b :: rest) pos) (tD X.K (fAndV fa fb)) := PE_weak (pe_and ha hb) fun σ H Q h => by
  obtain ⟨H0, env, Hb, d, r, sm, ef, q⟩ := h
  obtain ⟨c, ec, eg⟩ := bind1 ef
  obtain ⟨z, ez, ec⟩ := bind1 ec
  have hz := asB_some ec
  subst hz
  refine ⟨H0, env, Hb, _, r, sm, ez, fun v Hb1 H1 s1 iv => ⟨c, by simpa only [Is] using iv, ?_⟩⟩
  cases c with
  | false =>
    simp at eg
    subst eg
    exact q _ Hb1 H1 s1 (by simp only [Is])
  | true =>
    simp at eg
    exact ⟨H0, env, Hb1, d, r.step s1, s1.c, eg, fun v' Hb2 H2 s2 iv' => q v' Hb2 H2 (s1.trans s2) iv'⟩
theorem e_or (ha : PE X a (tD X.K fa)) (hb : PE X (.BoolOp .Or (b :: rest) pos) (tD X.K fb)) : PE X (.BoolOp .Or (a :: b :: rest) pos) (tD X.K (fOrV fa fb)) := PE_weak (pe_or ha hb) fun σ H Q h => by
  obtain ⟨H0, env, Hb, d, r, sm, ef, q⟩ := h
  obtain ⟨c, ec, eg⟩ := bind1 ef
  obtain ⟨z, ez, ec⟩ := bind1 ec
  have hz := asB_some ec
  subst hz
  refine ⟨H0, env, Hb, _, r, sm, ez, fun v Hb1 H1 s1 iv => ⟨c, by simpa only [Is] using iv, ?_⟩⟩
  cases c with
  | true =>
    simp at eg
    subst eg
    exact q _ Hb1 H1 s1 (by simp only [Is])
  | false =>
    simp at eg
    exact ⟨H0, env, Hb1, d, r.step s1, s1.c, eg, fun v' Hb2 H2 s2 iv' => q v' Hb2 H2 (s1.trans s2) iv'⟩
theorem e_one {op} (ha : PE X a (tD X.K fa)) : PE X (.BoolOp op [a] pos) (tD X.K fa) := pe_one ha
theorem e_not (ha : PE X a (tD X.K fa)) : PE X (.UnaryOp .Not a pos) (tD X.K (fNotV fa)) := PE_weak (pe_not ha) fun σ H Q h => by
  obtain ⟨H0, env, Hb, d, r, sm, ef, q⟩ := h
  obtain ⟨c, ec, eg⟩ := bind1 ef
  obtain ⟨z, ez, ec⟩ := bind1 ec
  have hz := asB_some ec
  subst hz
  cases eg
  exact ⟨H0, env, Hb, _, r, sm, ez, fun v Hb1 H1 s1 iv => ⟨c, by simpa only [Is] using iv, q _ Hb1 H1 s1 (by simp only [Is])⟩⟩
theorem e_if {fc : En → Option Bool} (hc : PT X c (tT X.K fc)) (ha : PE X a (tD X.K fa)) (hb : PE X b (tD X.K fb)) : PE X (.IfExp c a b pos) (tD X.K (fIf fc fa fb)) := PE_weak (pe_ifExp hc ha hb) fun σ H Q h => by
  obtain ⟨H0, env, Hb, d, r, sm, ef, q⟩ := h
  obtain ⟨k, ec, eg⟩ := bind1 ef
  refine ⟨H0, env, Hb, _, r, sm, ec, fun Hb1 H1 s1 => ?_⟩
  cases k with
  | true =>
    simp at eg
    exact ⟨H0, env, Hb1, d, r.step s1, s1.c, eg, fun v' Hb2 H2 s2 iv' => q v' Hb2 H2 (s1.trans s2) iv'⟩
  | false =>
    simp at eg
    exact ⟨H0, env, Hb1, d, r.step s1, s1.c, eg, fun v' Hb2 H2 s2 iv' => q v' Hb2 H2 (s1.trans s2) iv'⟩
end
end Dn
set_option Elab.async false
set_option linter.all false
set_option maxRecDepth 100000
/-! Part B: operations on plain data. -/
namespace Dn
open PySem L2

/-! ### the library's own data -/
mutual
def toP : D → PyData
  | .non => .none
  | .bl b => .bool b
  | .int i => .int i
  | .str l => .str (S l)
  | .tup ds => .tuple (toPs ds)
  | .lst ds => .list (toPs ds)
  | .scr _ => .none
  | .adr _ => .none
  | .dct _ => .none
  | .own _ => .none
  | .ownd _ => .none
def toPs : List D → List PyData
  | [] => []
  | d :: ds => toP d :: toPs ds
end
def flat : D → Bool
  | .non => true
  | .bl _ => true
  | .int _ => true
  | .str _ => true
  | _ => false
def okN : Nat → D → Bool
  | 0, d => flat d
  | n + 1, .tup xs => xs.all fun x => okN n x
  | n + 1, .lst xs => xs.all fun x => okN n x
  | _ + 1, d => flat d
theorem toPs_map : ∀ ds : List D, toPs ds = ds.map toP
  | [] => rfl
  | d :: ds => by rw [toPs, toPs_map ds, List.map_cons]
mutual
theorem plain_toP : ∀ d : D, (toP d).plain = true
  | .non => by simp only [toP, PyData.plain]
  | .bl _ => by simp only [toP, PyData.plain]
  | .int _ => by simp only [toP, PyData.plain]
  | .str _ => by simp only [toP, PyData.plain]
  | .scr _ => by simp only [toP, PyData.plain]
  | .adr _ => by simp only [toP, PyData.plain]
  | .dct _ => by simp only [toP, PyData.plain]
  | .own _ => by simp only [toP, PyData.plain]
  | .ownd _ => by simp only [toP, PyData.plain]
  | .tup ds => by simp only [toP, PyData.plain]; exact plain_toPs ds
  | .lst ds => by simp only [toP, PyData.plain]; exact plain_toPs ds
theorem plain_toPs : ∀ ds : List D, PyData.plainAll (toPs ds) = true
  | [] => by simp only [toPs, PyData.plainAll]
  | d :: ds => by simp only [toPs, PyData.plainAll, plain_toP d, plain_toPs ds, Bool.and_self]
end
theorem flat_shape {d : D} (h : flat d = true) : d = .non ∨ (∃ b, d = .bl b) ∨ (∃ i, d = .int i) ∨ ∃ l, d = .str l := by
  cases d <;> first | (simp [flat] at h; done) | simp
theorem dp_flat {K : PySem.W.Frag} {H : Hp} {d : D} {v : V} (f : flat d = true) (h : Is K H d v) : Dp K H v (toP d) ∧ (toP d).depth = 0 := by
  rcases flat_shape f with e | ⟨b, e⟩ | ⟨b, e⟩ | ⟨b, e⟩ <;> subst e <;> simp only [Is] at h <;> subst h <;> simp only [toP]
  · exact ⟨.non, by simp only [PyData.depth]⟩
  · exact ⟨.bl _, by simp only [PyData.depth]⟩
  · exact ⟨.int _, by simp only [PyData.depth]⟩
  · exact ⟨.str _, by simp only [PyData.depth]⟩
theorem dp_all {K : PySem.W.Frag} {H : Hp} {n : Nat} (ih : ∀ (d : D) (v : V), okN n d = true → Is K H d v → Dp K H v (toP d) ∧ (toP d).depth ≤ n) :
    ∀ {ds : List D} {vs : List V}, (ds.all fun x => okN n x) = true → IsL K H ds vs → DpAll K H vs (toPs ds) ∧ PyData.depthAll (toPs ds) ≤ n
  | [], vs, _, h => by
    simp only [IsL] at h
    subst h
    simp only [toPs, PyData.depthAll]
    exact ⟨.nil, Nat.zero_le _⟩
  | d :: ds, vs, ok, h => by
    simp only [IsL] at h
    obtain ⟨v, r, e1, e2, e3⟩ := h
    subst e1
    rw [List.all_cons, Bool.and_eq_true] at ok
    obtain ⟨a1, a2⟩ := ih d v ok.1 e2
    obtain ⟨b1, b2⟩ := dp_all ih ok.2 e3
    simp only [toPs, PyData.depthAll]
    exact ⟨.cons a1 b1, Nat.max_le.mpr ⟨a2, b2⟩⟩
theorem dp_of {K : PySem.W.Frag} {H : Hp} : ∀ (n : Nat) (d : D) (v : V), okN n d = true → Is K H d v → Dp K H v (toP d) ∧ (toP d).depth ≤ n
  | 0, d, v, ok, h => by
    obtain ⟨a, b⟩ := dp_flat (show flat d = true from ok) h
    exact ⟨a, by omega⟩
  | n + 1, .tup ds, v, ok, h => by
    simp only [Is] at h
    obtain ⟨a, vs, e1, e2, e3⟩ := h
    subst e1
    obtain ⟨c1, c2⟩ := dp_all (dp_of n) (show (ds.all fun x => okN n x) = true from ok) e3
    simp only [toP, PyData.depth]
    exact ⟨.tup e2 c1, by omega⟩
  | n + 1, .lst ds, v, ok, h => by
    simp only [Is] at h
    obtain ⟨a, vs, e1, e2, e3⟩ := h
    subst e1
    obtain ⟨c1, c2⟩ := dp_all (dp_of n) (show (ds.all fun x => okN n x) = true from ok) e3
    simp only [toP, PyData.depth]
    exact ⟨.lst (.inl (.inl e2)) c1, by omega⟩
  | n + 1, .non, v, ok, h => by
    obtain ⟨a, b⟩ := dp_flat (show flat .non = true from ok) h
    exact ⟨a, by omega⟩
  | n + 1, .bl b, v, ok, h => by
    obtain ⟨a, b⟩ := dp_flat (show flat (.bl b) = true from ok) h
    exact ⟨a, by omega⟩
  | n + 1, .int b, v, ok, h => by
    obtain ⟨a, b⟩ := dp_flat (show flat (.int b) = true from ok) h
    exact ⟨a, by omega⟩
  | n + 1, .str b, v, ok, h => by
    obtain ⟨a, b⟩ := dp_flat (show flat (.str b) = true from ok) h
    exact ⟨a, by omega⟩
  | n + 1, .scr _, v, ok, h => absurd (show false = true from ok) (by decide)
  | n + 1, .adr _, v, ok, h => absurd (show false = true from ok) (by decide)
  | n + 1, .dct _, v, ok, h => absurd (show false = true from ok) (by decide)
  | n + 1, .own _, v, ok, h => absurd (show false = true from ok) (by decide)
  | n + 1, .ownd _, v, ok, h => absurd (show false = true from ok) (by decide)
abbrev ok60 (d : D) : Bool := okN 60 d
def eqv (a b : D) : Bool := PyData.eqv (toP a) (toP b)

/-! ### the functions -/
def addD : D → D → Option D
  | .int i, .int j => some (.int (i + j))
  | .str x, .str y => if x.length + y.length ≤ sizeLine then some (.str (x ++ y)) else none
  | .tup x, .tup y => if x.length + y.length ≤ sizeLine then some (.tup (x ++ y)) else none
  | .lst x, .lst y => if x.length + y.length ≤ sizeLine then some (.lst (x ++ y)) else none
  | _, _ => none
def subD : D → D → Option D
  | .int i, .int j => some (.int (i - j))
  | _, _ => none
def reps {α : Type} (x : List α) (n : Nat) : List α := (List.replicate n x).flatten
def mulD : D → D → Option D
  | .int i, .int j => if (-(2 ^ 64) < i ∧ i < 2 ^ 64) ∨ (-(2 ^ 64) < j ∧ j < 2 ^ 64) then some (.int (i * j)) else none
  | .str x, .int n => if x.length ≤ 1000 ∧ -1000 ≤ n ∧ n ≤ 1000 then some (.str (reps x n.toNat)) else none
  | .lst x, .int n => if x.length ≤ 1000 ∧ -1000 ≤ n ∧ n ≤ 1000 then some (.lst (reps x n.toNat)) else none
  | .tup x, .int n => if x ≠ [] ∧ x.length ≤ 1000 ∧ 2 ≤ n ∧ n ≤ 1000 then some (.tup (reps x n.toNat)) else none
  | _, _ => none
def fdivD : D → D → Option D
  | .int i, .int j => if 0 < j ∧ j < 1073741824 then some (.int (i / j)) else none
  | _, _ => none
def modD : D → D → Option D
  | .int i, .int j => if 0 < j then some (.int (i % j)) else none
  | _, _ => none
def powD : D → D → Option D
  | .int i, .int j => if 0 ≤ j ∧ j ≤ 1000000 ∧ i.natAbs < 2 ^ 64 then some (.int (i ^ j.toNat)) else none
  | _, _ => none
def negD : D → Option D
  | .int i => some (.int (-i))
  | _ => none
def eqD (a b : D) : Option D := if ok60 a = true ∧ ok60 b = true then some (.bl (eqv a b)) else none
def neD (a b : D) : Option D := if ok60 a = true ∧ ok60 b = true then some (.bl (!eqv a b)) else none
def ltD : D → D → Option D
  | .int i, .int j => some (.bl (decide (i < j)))
  | .str i, .str j => some (.bl (decide (i < j)))
  | _, _ => none
def leD : D → D → Option D
  | .int i, .int j => some (.bl (decide (i ≤ j)))
  | .str i, .str j => some (.bl (!decide (j < i)))
  | _, _ => none
def gtD : D → D → Option D
  | .int i, .int j => some (.bl (decide (j < i)))
  | .str i, .str j => some (.bl (decide (j < i)))
  | _, _ => none
def geD : D → D → Option D
  | .int i, .int j => some (.bl (decide (j ≤ i)))
  | .str i, .str j => some (.bl (!decide (i < j)))
  | _, _ => none
/-- x in c: a sign in a text, a thing in a tuple or list, a text in a dict -/
def inB : D → D → Option Bool
  | .str [c], .str z => some (decide (c ∈ z))
  | x, .tup ds => if ok60 x = true ∧ (ds.all fun d => okN 60 d) = true then some (ds.any fun d => eqv d x) else none
  | x, .lst ds => if ok60 x = true ∧ (ds.all fun d => okN 60 d) = true then some (ds.any fun d => eqv d x) else none
  | _, _ => none
def inD (x c : D) : Option D := (inB x c).bind fun k => some (.bl k)
def ninD (x c : D) : Option D := (inB x c).bind fun k => some (.bl (!k))
def isD : D → D → Option D
  | .bl a, .bl b => some (.bl (decide (a = b)))
  | d, .non => match d with
    | .own _ => none
    | .ownd _ => none
    | .non => some (.bl true)
    | _ => some (.bl false)
  | _, _ => none
def isnD : D → D → Option D
  | .bl a, .bl b => some (.bl (!decide (a = b)))
  | d, .non => match d with
    | .own _ => none
    | .ownd _ => none
    | .non => some (.bl false)
    | _ => some (.bl true)
  | _, _ => none
def ixD : D → D → Option D
  | .tup xs, .int i => atI xs i
  | .lst xs, .int i => atI xs i
  | .str l, .int i => if l.length ≤ sizeLine then (atI l i).bind fun c => some (.str [c]) else none
  | .scr ns, .int i => (atI ns i).bind fun n => some (.int n)
  | _, _ => none
def cut {α : Type} (xs : List α) (lo hi : Option Int) : List α := (xs.drop (HT.sIx xs.length 0 lo)).take (HT.sIx xs.length xs.length hi - HT.sIx xs.length 0 lo)
def slD : D → Option Int → Option Int → Option D
  | .tup xs, lo, hi => some (.tup (cut xs lo hi))
  | .lst xs, lo, hi => some (.lst (cut xs lo hi))
  | .str l, lo, hi => if l.length ≤ sizeLine then some (.str (cut l lo hi)) else none
  | _, _, _ => none

section
variable {X : Cx}
theorem is_up {K : PySem.W.Frag} {Hb H : Hp} (sm : Same Hb H) {d : D} {v : V} (h : Is K Hb d v) : Is K H d v := h.mono sm

theorem S_len (l : List Nat) : (S l).length = l.length := by simp [S, Str.length]
theorem S_app (a b : List Nat) : S a ++ S b = S (a ++ b) := SX.S_cat a b
theorem o_add : OpR X (binaryOp .Add) (rD2 X.K addD) := by
  intro pins s σ H x y v u Q I rx ry h
  obtain ⟨Hb, a, b, d, sm, ia, ib, eg, q⟩ := h
  unfold addD at eg
  split at eg
  · simp only [Is] at ia ib
    subst ia ib
    cases eg
    exact op_add pins s σ H _ _ v u Q I rx ry ⟨_, _, rfl, rfl, q _ Hb H (Step.refl sm) (by simp only [Is])⟩
  · simp only [Is] at ia ib
    subst ia ib
    obtain ⟨hl, rfl⟩ := iteS eg
    refine op_add_str pins s σ H _ _ v u Q I rx ry ⟨_, _, rfl, rfl, by rw [S_len, S_len]; exact hl, ?_⟩
    rw [S_app]
    exact q _ Hb H (Step.refl sm) (by simp only [Is])
  · have ia' := is_up sm ia
    have ib' := is_up sm ib
    simp only [Is] at ia ib ia' ib'
    obtain ⟨p, xs, rfl, hx, lx⟩ := ia
    obtain ⟨p', ys, rfl, hy, ly⟩ := ib
    obtain ⟨hl, rfl⟩ := iteS eg
    refine op_catA pins s σ H _ _ v u Q I rx ry ⟨p, p', xs, ys, rfl, rfl, sq_mono sm hx, sq_mono sm hy, by rw [lx.length, ly.length]; exact hl, fun e => ?_, fun e1 e2 => ?_, fun e1 e2 r hr => ?_⟩
    · refine q _ Hb H (Step.refl sm) ?_
      simp only [Is]
      have := lx.append ly
      rw [e] at this
      exact ⟨p', ys, rfl, hy, this⟩
    · refine q _ Hb H (Step.refl sm) ?_
      simp only [Is]
      have := lx.append ly
      rw [e2, List.append_nil] at this
      exact ⟨p, xs, rfl, hx, this⟩
    · exact q _ _ _ (Step.new sm hr) (is_tup_new (sm.free hr) (lx.append ly))
  · simp only [Is] at ia ib
    obtain ⟨p, xs, rfl, hx, lx⟩ := ia
    obtain ⟨p', ys, rfl, hy, ly⟩ := ib
    obtain ⟨hl, rfl⟩ := iteS eg
    exact op_cat pins s σ H _ _ v u Q I rx ry ⟨p, p', xs, ys, rfl, rfl, sm _ _ hx, sm _ _ hy, by rw [lx.length, ly.length]; exact hl, fun r hr => q _ _ _ (Step.new sm hr) (is_lst_new (sm.free hr) (lx.append ly))⟩
  · cases eg
theorem o_sub : OpR X (binaryOp .Sub) (rD2 X.K subD) := by
  intro pins s σ H x y v u Q I rx ry h
  obtain ⟨Hb, a, b, d, sm, ia, ib, eg, q⟩ := h
  unfold subD at eg
  split at eg
  · simp only [Is] at ia ib
    subst ia ib
    cases eg
    exact op_sub pins s σ H _ _ v u Q I rx ry ⟨_, _, rfl, rfl, q _ Hb H (Step.refl sm) (by simp only [Is])⟩
  · cases eg
theorem size1000 : 1000000 ≤ sizeLine := by decide
theorem reps_len {α : Type} (x : List α) (n : Nat) : (reps x n).length = n * x.length := by
  unfold reps
  induction n with
  | zero => simp
  | succ n ih => rw [List.replicate_succ, List.flatten_cons, List.length_append, ih, Nat.succ_mul, Nat.add_comm]
theorem fold_cat (z : Array Nat) : ∀ (n : Nat) (acc : List Nat), ((List.replicate n z).foldl (· ++ ·) acc.toArray) = (acc ++ (List.replicate n z.toList).flatten).toArray
  | 0, acc => by simp
  | n + 1, acc => by
    rw [List.replicate_succ, List.foldl_cons, List.replicate_succ, List.flatten_cons]
    have : acc.toArray ++ z = (acc ++ z.toList).toArray := by simp
    rw [this, fold_cat z n, List.append_assoc]
theorem reps_nil {α : Type} (n : Nat) : reps ([] : List α) n = [] := by
  apply List.eq_nil_of_length_eq_zero
  rw [reps_len]
  simp
theorem mul_S (l : List Nat) (n : Int) : Txt.mul (S l) n = S (reps l n.toNat) := by
  unfold Txt.mul
  by_cases h1 : n < 1
  · rw [if_pos h1, show n.toNat = 0 by omega]
    rfl
  · rw [if_neg h1]
    by_cases h2 : (n == 1 || (S l).length == 0) = true
    · rw [if_pos h2]
      rw [Bool.or_eq_true] at h2
      rcases h2 with h2 | h2
      · have : n = 1 := by simpa using h2
        subst this
        simp [reps]
      · rw [S_len] at h2
        have : l = [] := by
          cases l with
          | nil => rfl
          | cons a b => simp at h2
        subst this
        rw [reps_nil]
    · rw [if_neg h2]
      have e := fold_cat l.toArray n.toNat []
      unfold reps
      rw [show (#[] : Array Nat) = ([] : List Nat).toArray from rfl, e]
      simp [S]
theorem mulok_S (l : List Nat) (n : Int) (h1 : l.length ≤ 1000) (h2 : -1000 ≤ n) (h3 : n ≤ 1000) : MulOk (S l) n := by
  refine ⟨?_, fun a _ => ?_, fun a _ => ?_⟩
  · rw [Bool.or_eq_false_iff]
    exact ⟨decide_eq_false (by omega), decide_eq_false (by omega)⟩
  · rw [S_len]
    have hb : (1000 : Int) ≤ (2 ^ 63 - 1) / n := by
      rw [Int.le_ediv_iff_mul_le (by omega)]
      omega
    omega
  · rw [S_len]
    have : l.length * n.toNat ≤ 1000 * 1000 := Nat.mul_le_mul h1 (by omega)
    show decide (_ > sizeLine) = false
    have := size1000
    exact decide_eq_false (by omega)
theorem o_mul : OpR X (binaryOp .Mult) (rD2 X.K mulD) := by
  intro pins s σ H x y v u Q I rx ry h
  obtain ⟨Hb, a, b, d, sm, ia, ib, eg, q⟩ := h
  unfold mulD at eg
  split at eg
  · simp only [Is] at ia ib
    subst ia ib
    obtain ⟨hc, rfl⟩ := iteS eg
    exact op_mul pins s σ H _ _ v u Q I rx ry ⟨_, _, rfl, rfl, hc, q _ Hb H (Step.refl sm) (by simp only [Is])⟩
  · simp only [Is] at ia ib
    subst ia ib
    obtain ⟨⟨h1, h2, h3⟩, rfl⟩ := iteS eg
    obtain ⟨t, rfl⟩ := rx
    obtain ⟨t', rfl⟩ := ry
    refine SB.mul (mulok_S _ _ h1 h2 h3) fun t'' k => ⟨.str _, H, I.tok _, ⟨t'', rfl⟩, ?_⟩
    rw [mul_S]
    exact q _ Hb H (Step.refl sm) (by simp only [Is])
  · simp only [Is] at ia ib
    obtain ⟨p, xs, rfl, hx, lx⟩ := ia
    subst ib
    obtain ⟨⟨h1, h2, h3⟩, rfl⟩ := iteS eg
    refine op_rep pins s σ H _ _ v u Q I rx ry ⟨p, _, xs, rfl, rfl, sm _ _ hx, by omega, by omega, ?_, fun r hr => q _ _ _ (Step.new sm hr) (is_lst_new (sm.free hr) ?_)⟩
    · refine Nat.le_trans ?_ size1000
      rw [lx.length]
      refine Nat.le_trans (Nat.mul_le_mul_left _ (?_ : _ ≤ 1000)) (by omega)
      omega
    · unfold reps
      generalize Int.toNat _ = m
      induction m with
      | zero => simp [IsL]
      | succ m ih =>
        rw [List.replicate_succ, List.replicate_succ, List.flatten_cons, List.flatten_cons]
        exact lx.append ih
  · simp only [Is] at ia ib
    obtain ⟨p, xs, rfl, hx, lx⟩ := ia
    subst ib
    obtain ⟨⟨h0, h1, h2, h3⟩, rfl⟩ := iteS eg
    refine op_repT pins s σ H _ _ v u Q I rx ry ⟨p, _, xs, rfl, rfl, sq_mono sm hx, ?_, by omega, by omega, by rw [lx.length]; exact h1, fun r hr => q _ _ _ (Step.new sm hr) (is_tup_new (sm.free hr) ?_)⟩
    · intro e
      have := lx.length
      rw [e] at this
      exact h0 (List.eq_nil_of_length_eq_zero this.symm)
    · unfold reps
      generalize Int.toNat _ = m
      induction m with
      | zero => simp [IsL]
      | succ m ih =>
        rw [List.replicate_succ, List.replicate_succ, List.flatten_cons, List.flatten_cons]
        exact lx.append ih
  · cases eg
theorem o_fdiv : OpR X (binaryOp .FloorDiv) (rD2 X.K fdivD) := by
  intro pins s σ H x y v u Q I rx ry h
  obtain ⟨Hb, a, b, d, sm, ia, ib, eg, q⟩ := h
  unfold fdivD at eg
  split at eg
  · simp only [Is] at ia ib
    subst ia ib
    obtain ⟨hc, rfl⟩ := iteS eg
    exact op_fdiv pins s σ H _ _ v u Q I rx ry ⟨_, _, rfl, rfl, hc, q _ Hb H (Step.refl sm) (by simp only [Is])⟩
  · cases eg
theorem o_mod : OpR X (binaryOp .Mod) (rD2 X.K modD) := by
  intro pins s σ H x y v u Q I rx ry h
  obtain ⟨Hb, a, b, d, sm, ia, ib, eg, q⟩ := h
  unfold modD at eg
  split at eg
  · simp only [Is] at ia ib
    subst ia ib
    obtain ⟨hc, rfl⟩ := iteS eg
    exact op_mod pins s σ H _ _ v u Q I rx ry ⟨_, _, rfl, rfl, hc, q _ Hb H (Step.refl sm) (by simp only [Is])⟩
  · cases eg
theorem o_pow : OpR X (binaryOp .Pow) (rD2 X.K powD) := by
  intro pins s σ H x y v u Q I rx ry h
  obtain ⟨Hb, a, b, d, sm, ia, ib, eg, q⟩ := h
  unfold powD at eg
  split at eg
  · simp only [Is] at ia ib
    subst ia ib
    obtain ⟨hc, rfl⟩ := iteS eg
    exact op_pow pins s σ H _ _ v u Q I rx ry ⟨_, _, rfl, rfl, hc, q _ Hb H (Step.refl sm) (by simp only [Is])⟩
  · cases eg
theorem o_neg : UnR X (unaryOp .USub) (rD1 X.K negD) := by
  intro pins s σ H x v Q I rx h
  obtain ⟨Hb, a, d, sm, ia, eg, q⟩ := h
  unfold negD at eg
  split at eg
  · simp only [Is] at ia
    subst ia
    cases eg
    exact un_neg pins s σ H _ v Q I rx ⟨_, rfl, q _ Hb H (Step.refl sm) (by simp only [Is])⟩
  · cases eg
theorem o_eq (hu : X.A.units + 64 < cLine) : OpR X (compareOp .Eq) (rD2 X.K eqD) := by
  intro pins s σ H x y v u Q I rx ry h
  obtain ⟨Hb, a, b, d, sm, ia, ib, eg, q⟩ := h
  obtain ⟨⟨oa, ob⟩, rfl⟩ := iteS eg
  obtain ⟨a1, a2⟩ := dp_of 60 a x oa (is_up sm ia)
  obtain ⟨b1, b2⟩ := dp_of 60 b y ob (is_up sm ib)
  obtain ⟨as, r1⟩ := Dp.reads I _ x v a1 rx
  obtain ⟨bs, r2⟩ := Dp.reads I _ y u b1 ry
  exact PySem.SeqAt.eq_plain r1 r2 (plain_toP a) (plain_toP b) (by omega) ⟨.bl _, H, I, rfl, q _ Hb H (Step.refl sm) (by simp only [Is]; rfl)⟩
theorem o_ne (hu : X.A.units + 64 < cLine) : OpR X (compareOp .NotEq) (rD2 X.K neD) := by
  intro pins s σ H x y v u Q I rx ry h
  obtain ⟨Hb, a, b, d, sm, ia, ib, eg, q⟩ := h
  obtain ⟨⟨oa, ob⟩, rfl⟩ := iteS eg
  obtain ⟨a1, a2⟩ := dp_of 60 a x oa (is_up sm ia)
  obtain ⟨b1, b2⟩ := dp_of 60 b y ob (is_up sm ib)
  obtain ⟨as, r1⟩ := Dp.reads I _ x v a1 rx
  obtain ⟨bs, r2⟩ := Dp.reads I _ y u b1 ry
  exact PySem.SeqAt.ne_plain r1 r2 (plain_toP a) (plain_toP b) (by omega) ⟨.bl _, H, I, rfl, q _ Hb H (Step.refl sm) (by simp only [Is]; rfl)⟩
theorem o_lt : OpR X (compareOp .Lt) (rD2 X.K ltD) := by
  intro pins s σ H x y v u Q I rx ry h
  obtain ⟨Hb, a, b, d, sm, ia, ib, eg, q⟩ := h
  unfold ltD at eg
  split at eg
  · simp only [Is] at ia ib
    subst ia ib
    cases eg
    exact op_lt pins s σ H _ _ v u Q I rx ry ⟨_, _, rfl, rfl, q _ Hb H (Step.refl sm) (by simp only [Is])⟩
  · simp only [Is] at ia ib
    subst ia ib
    cases eg
    exact op_lt_str pins s σ H _ _ v u Q I rx ry ⟨_, _, rfl, rfl, q _ Hb H (Step.refl sm) (by simp only [Is, S])⟩
  · cases eg
theorem o_le : OpR X (compareOp .LtE) (rD2 X.K leD) := by
  intro pins s σ H x y v u Q I rx ry h
  obtain ⟨Hb, a, b, d, sm, ia, ib, eg, q⟩ := h
  unfold leD at eg
  split at eg
  · simp only [Is] at ia ib
    subst ia ib
    cases eg
    exact op_le pins s σ H _ _ v u Q I rx ry ⟨_, _, rfl, rfl, q _ Hb H (Step.refl sm) (by simp only [Is])⟩
  · simp only [Is] at ia ib
    subst ia ib
    cases eg
    exact op_le_str pins s σ H _ _ v u Q I rx ry ⟨_, _, rfl, rfl, q _ Hb H (Step.refl sm) (by simp only [Is, S])⟩
  · cases eg
theorem o_gt : OpR X (compareOp .Gt) (rD2 X.K gtD) := by
  intro pins s σ H x y v u Q I rx ry h
  obtain ⟨Hb, a, b, d, sm, ia, ib, eg, q⟩ := h
  unfold gtD at eg
  split at eg
  · simp only [Is] at ia ib
    subst ia ib
    cases eg
    exact op_gt pins s σ H _ _ v u Q I rx ry ⟨_, _, rfl, rfl, q _ Hb H (Step.refl sm) (by simp only [Is])⟩
  · simp only [Is] at ia ib
    subst ia ib
    cases eg
    exact op_gt_str pins s σ H _ _ v u Q I rx ry ⟨_, _, rfl, rfl, q _ Hb H (Step.refl sm) (by simp only [Is, S])⟩
  · cases eg
theorem o_ge : OpR X (compareOp .GtE) (rD2 X.K geD) := by
  intro pins s σ H x y v u Q I rx ry h
  obtain ⟨Hb, a, b, d, sm, ia, ib, eg, q⟩ := h
  unfold geD at eg
  split at eg
  · simp only [Is] at ia ib
    subst ia ib
    cases eg
    exact op_ge pins s σ H _ _ v u Q I rx ry ⟨_, _, rfl, rfl, q _ Hb H (Step.refl sm) (by simp only [Is])⟩
  · simp only [Is] at ia ib
    subst ia ib
    cases eg
    exact op_ge_str pins s σ H _ _ v u Q I rx ry ⟨_, _, rfl, rfl, q _ Hb H (Step.refl sm) (by simp only [Is, S])⟩
  · cases eg
theorem any_toPs (x : D) : ∀ ds : List D, ((toPs ds).any fun y => PyData.eqv y (toP x)) = ds.any fun d => eqv d x
  | [] => by simp [toPs]
  | d :: ds => by
    rw [toPs, List.any_cons, List.any_cons, any_toPs x ds]
    rfl
theorem in_core (neg : Bool) (hu : X.A.units + 65 < cLine) : OpR X (compareOp (if neg then .NotIn else .In)) (rD2 X.K fun x c => (inB x c).bind fun k => some (.bl (if neg then !k else k))) := by
  intro pins s σ H x y v u Q I rx ry h
  obtain ⟨Hb, a, b, d, sm, ia, ib, eg, q⟩ := h
  obtain ⟨k, ek, ed⟩ := bind1 eg
  cases ed
  unfold inB at ek
  split at ek
  · simp only [Is] at ia ib
    subst ia ib
    cases ek
    cases neg with
    | false => exact op_in_sign pins s σ H _ _ v u Q I rx ry ⟨_, _, rfl, rfl, q _ Hb H (Step.refl sm) (by simp [Is, S])⟩
    | true => exact op_notIn_sign pins s σ H _ _ v u Q I rx ry ⟨_, _, rfl, rfl, q _ Hb H (Step.refl sm) (by simp [Is, S])⟩
  · obtain ⟨⟨oa, ob⟩, rfl⟩ := iteS ek
    obtain ⟨a1, a2⟩ := dp_of 60 _ x oa (is_up sm ia)
    obtain ⟨b1, b2⟩ := dp_of 61 _ y (show okN 61 (.tup _) = true from ob) (is_up sm ib)
    obtain ⟨as, r1⟩ := Dp.reads I _ x v a1 rx
    obtain ⟨bs, r2⟩ := Dp.reads I _ y u b1 ry
    rw [toP] at r2
    cases neg with
    | false => exact PySem.SeqAt.in_tuple_data r2 r1 (plain_toPs _) (plain_toP _) (by omega) ⟨.bl _, H, I, rfl, q _ Hb H (Step.refl sm) (by simp only [Is]; rw [any_toPs]; rfl)⟩
    | true => exact PySem.SeqAt.notIn_tuple_data r2 r1 (plain_toPs _) (plain_toP _) (by omega) ⟨.bl _, H, I, rfl, q _ Hb H (Step.refl sm) (by simp only [Is]; rw [any_toPs]; rfl)⟩
  · obtain ⟨⟨oa, ob⟩, rfl⟩ := iteS ek
    obtain ⟨a1, a2⟩ := dp_of 60 _ x oa (is_up sm ia)
    obtain ⟨b1, b2⟩ := dp_of 61 _ y (show okN 61 (.lst _) = true from ob) (is_up sm ib)
    obtain ⟨as, r1⟩ := Dp.reads I _ x v a1 rx
    obtain ⟨bs, r2⟩ := Dp.reads I _ y u b1 ry
    rw [toP] at r2
    cases neg with
    | false => exact PySem.SeqAt.in_list_data r2 r1 (plain_toPs _) (plain_toP _) (by omega) ⟨.bl _, H, I, rfl, q _ Hb H (Step.refl sm) (by simp only [Is]; rw [any_toPs]; rfl)⟩
    | true => exact PySem.SeqAt.notIn_list_data r2 r1 (plain_toPs _) (plain_toP _) (by omega) ⟨.bl _, H, I, rfl, q _ Hb H (Step.refl sm) (by simp only [Is]; rw [any_toPs]; rfl)⟩
  · cases ek
theorem o_in (hu : X.A.units + 65 < cLine) : OpR X (compareOp .In) (rD2 X.K inD) := in_core false hu
theorem o_nin (hu : X.A.units + 65 < cLine) : OpR X (compareOp .NotIn) (rD2 X.K ninD) := in_core true hu
theorem is_ne_non {K : PySem.W.Frag} {H : Hp} {d : D} {v : V} (h : Is K H d v) (hd : d ≠ .non) : v ≠ .non := by
  cases d <;> simp only [Is] at h
  · exact absurd rfl hd
  · rw [h]; simp
  · rw [h]; simp
  · rw [h]; simp
  · obtain ⟨a, _, e, _⟩ := h; rw [e]; simp
  · obtain ⟨a, _, e, _⟩ := h; rw [e]; simp
  · obtain ⟨a, e, _⟩ := h; rw [e]; simp
  · rw [h]; simp
  · obtain ⟨a, _, e, _⟩ := h; rw [e]; simp
theorem isD_non {d z : D} (h : isD d .non = some z) : z = .bl (match d with | .non => true | _ => false) := by
  cases d <;> simp [isD] at h <;> exact h.symm
theorem isnD_non {d z : D} (h : isnD d .non = some z) : z = .bl (match d with | .non => false | _ => true) := by
  cases d <;> simp [isnD] at h <;> exact h.symm
theorem o_is : OpR X (compareOp .Is) (rD2 X.K isD) := by
  intro pins s σ H x y v u Q I rx ry h
  obtain ⟨Hb, a, b, d, sm, ia, ib, eg, q⟩ := h
  by_cases hb : b = .non
  · subst hb
    have hd := isD_non eg
    have ib' := ib
    simp only [Is] at ib'
    subst ib'
    refine op_isN pins s σ H _ _ v u Q I rx ry ⟨rfl, q _ Hb H (Step.refl sm) ?_⟩
    rw [hd]
    simp only [Is]
    by_cases ha : a = .non
    · subst ha
      simp only [Is] at ia
      rw [ia]
      rfl
    · rw [decide_eq_false (is_ne_non ia ha)]
      cases a <;> first | rfl | exact absurd rfl ha
  · cases a <;> cases b <;> first | (simp [isD] at eg; done) | exact absurd rfl hb | skip
    simp only [Is] at ia ib
    subst ia ib
    simp [isD] at eg
    subst eg
    exact op_isBl pins s σ H _ _ v u Q I rx ry ⟨_, _, rfl, rfl, q _ Hb H (Step.refl sm) (by simp only [Is])⟩
theorem o_isn : OpR X (compareOp .IsNot) (rD2 X.K isnD) := by
  intro pins s σ H x y v u Q I rx ry h
  obtain ⟨Hb, a, b, d, sm, ia, ib, eg, q⟩ := h
  by_cases hb : b = .non
  · subst hb
    have hd := isnD_non eg
    have ib' := ib
    simp only [Is] at ib'
    subst ib'
    refine op_notN pins s σ H _ _ v u Q I rx ry ⟨rfl, q _ Hb H (Step.refl sm) ?_⟩
    rw [hd]
    simp only [Is]
    by_cases ha : a = .non
    · subst ha
      simp only [Is] at ia
      rw [ia]
      rfl
    · rw [decide_eq_false (is_ne_non ia ha)]
      cases a <;> first | rfl | exact absurd rfl ha
  · cases a <;> cases b <;> first | (simp [isnD] at eg; done) | exact absurd rfl hb | skip
    simp only [Is] at ia ib
    subst ia ib
    simp [isnD] at eg
    subst eg
    exact op_notBl pins s σ H _ _ v u Q I rx ry ⟨_, _, rfl, rfl, q _ Hb H (Step.refl sm) (by simp only [Is])⟩

/-! ### subscripts and slices -/
theorem atI_is {K : PySem.W.Frag} {H : Hp} {ds : List D} {vs : List V} {i : Int} {d : D} (l : IsL K H ds vs) (h : atI ds i = some d) : ∃ v, atI vs i = some v ∧ Is K H d v := by
  unfold atI at h ⊢
  rw [l.length]
  cases e : ixN ds.length i with
  | none => rw [e] at h; cases h
  | some j =>
    rw [e] at h
    exact l.get h
theorem x_seq : IxR X (rD2 X.K ixD) := by
  intro value slice pins s σ H x y v u Q I rx ry h hs
  obtain ⟨Hb, a, b, d, sm, ia, ib, eg, q⟩ := h
  unfold ixD at eg
  split at eg
  · simp only [Is] at ia ib
    obtain ⟨p, xs, rfl, hx, lx⟩ := ia
    subst ib
    obtain ⟨w, e1, e2⟩ := atI_is lx eg
    exact ix_tup value slice pins s σ H _ _ v u Q I rx ry ⟨p, xs, _, w, rfl, rfl, sq_mono sm hx, e1, q _ Hb H (Step.refl sm) e2⟩ hs
  · simp only [Is] at ia ib
    obtain ⟨p, xs, rfl, hx, lx⟩ := ia
    subst ib
    obtain ⟨w, e1, e2⟩ := atI_is lx eg
    exact ix_list value slice pins s σ H _ _ v u Q I rx ry ⟨p, xs, _, w, rfl, rfl, .inl (.inl (sm _ _ hx)), e1, q _ Hb H (Step.refl sm) e2⟩ hs
  · simp only [Is] at ia ib
    subst ia ib
    split at eg
    · rename_i hl
      obtain ⟨c, ec, ed⟩ := bind1 eg
      cases ed
      exact ix_str value slice pins s σ H _ _ v u Q I rx ry ⟨_, _, c, rfl, rfl, by rw [S_len]; exact hl, ec, q _ Hb H (Step.refl sm) (by simp only [Is, S])⟩ hs
    · cases eg
  · simp only [Is] at ia ib
    obtain ⟨p, rfl, hx⟩ := ia
    subst ib
    obtain ⟨n, en, ed⟩ := bind1 eg
    cases ed
    refine ix_list value slice pins s σ H _ _ v u Q I rx ry ⟨p, _, _, .int n, rfl, rfl, sm.seq hx, ?_, q _ Hb H (Step.refl sm) (by simp only [Is])⟩ hs
    unfold atI at en ⊢
    rw [List.length_map]
    cases e : ixN _ _ with
    | none => rw [e] at en; cases en
    | some j =>
      rw [e] at en
      simp only [Option.bind_some] at en ⊢
      rw [List.getElem?_map, en]
      rfl
  · cases eg
theorem cut_is {K : PySem.W.Frag} {H : Hp} {ds : List D} {vs : List V} (l : IsL K H ds vs) (lo hi : Option Int) : IsL K H (cut ds lo hi) (cutV vs lo hi) := by
  unfold cut cutV
  rw [l.length]
  exact (l.drop _).take _
def rDS (K : PySem.W.Frag) (g : D → Option Int → Option Int → Option D) : V → Option Int → Option Int → Hp → VK → Prop := fun x lo hi H Q => ∃ Hb a d, Same Hb H ∧ Is K Hb a x ∧ g a lo hi = some d ∧ ∀ v Hb' H', Step Hb H Hb' H' → Is K Hb' d v → Q v H'
theorem x_sl : SlR X (rDS X.K slD) := by
  intro pins s σ H x v vl vu lo hi sl Q I rx hs pl pu h
  obtain ⟨Hb, a, d, sm, ia, eg, q⟩ := h
  unfold slD at eg
  split at eg
  · simp only [Is] at ia
    obtain ⟨p, xs, rfl, hx, lx⟩ := ia
    cases eg
    refine sl_tupA pins s σ H _ v vl vu lo hi sl Q I rx hs pl pu ⟨p, xs, rfl, sq_mono sm hx, fun e => ?_, fun _ r hr => ?_⟩
    · refine q _ Hb H (Step.refl sm) ?_
      simp only [Is]
      refine ⟨p, xs, rfl, hx, ?_⟩
      have := cut_is lx lo hi
      unfold cutV at this
      rw [e.1, e.2, List.drop_zero, Nat.sub_zero, List.take_length] at this
      exact this
    · exact q _ _ _ (Step.new sm hr) (is_tup_new (sm.free hr) (cut_is lx lo hi))
  · simp only [Is] at ia
    obtain ⟨p, xs, rfl, hx, lx⟩ := ia
    cases eg
    exact sl_list pins s σ H _ v vl vu lo hi sl Q I rx hs pl pu ⟨p, xs, rfl, .inl (.inl (sm _ _ hx)), fun r hr => q _ _ _ (Step.new sm hr) (is_lst_new (sm.free hr) (cut_is lx lo hi))⟩
  · simp only [Is] at ia
    subst ia
    obtain ⟨hl, rfl⟩ := iteS eg
    refine sl_str pins s σ H _ v vl vu lo hi sl Q I rx hs pl pu ⟨_, rfl, by rw [S_len]; exact hl, q _ Hb H (Step.refl sm) ?_⟩
    simp only [Is, cutS, cut, S, Str.length, List.size_toArray]
  · cases eg
variable {a b e : Expr} {pos p2 : Pos} {fa fb : En → Option D} {lo hi : Option Expr} {fl fh : En → Option (Option Int)}
theorem e_ix (ha : PE X a (tD X.K fa)) (hb : PE X b (tD X.K fb)) (hs : PlainIx b := by exact fun _ _ => rfl) : PE X (.Subscript a b pos) (tD X.K (f2 ixD fa fb)) :=
  PE_weak (pe_ix x_seq ha hb hs) fun _ _ _ h => t_op h
def fPo (fa : En → Option D) : En → Option (Option Int) := fun env => ((fa env).bind asI).bind fun i => some (some i)
def fNo : En → Option (Option Int) := fun _ => some none
theorem PO_weak {o : Option Expr} {t t' : TO} (h : PO X o t) (w : ∀ σ H Q, t' σ H Q → t σ H Q) : PO X o t' := ⟨fun pins s σ H Q I q => h.run pins s σ H Q I (w σ H Q q)⟩
theorem p_no : PO X none (tO X.K fNo) := PO_weak po_none fun σ H Q h => by
  obtain ⟨H0, env, Hb, o, r, sm, ef, q⟩ := h
  cases ef
  exact q Hb H (Step.refl sm)
theorem p_so (ha : PE X a (tD X.K fa)) : PO X (some a) (tO X.K (fPo fa)) := PO_weak (po_some ha) fun σ H Q h => by
  obtain ⟨H0, env, Hb, o, r, sm, ef, q⟩ := h
  obtain ⟨i, ei, ef⟩ := bind1 ef
  obtain ⟨d, ed, ei⟩ := bind1 ei
  have hd := asI_some ei
  subst hd
  cases ef
  exact ⟨H0, env, Hb, _, r, sm, ed, fun v Hb' H' s iv => ⟨i, by simpa only [Is] using iv, q Hb' H' s⟩⟩
def fSl (fa : En → Option D) (fl fh : En → Option (Option Int)) : En → Option D := fun env => (fa env).bind fun d => (fl env).bind fun l => (fh env).bind fun h => slD d l h
theorem e_sl (ha : PE X a (tD X.K fa)) (hl : PO X lo (tO X.K fl)) (hh : PO X hi (tO X.K fh)) : PE X (.Subscript a (.Slice lo hi none p2) pos) (tD X.K (fSl fa fl fh)) :=
  PE_weak (pe_slice x_sl ha hl hh) fun σ H Q h => by
    obtain ⟨H0, env, Hb, d, r, sm, ef, q⟩ := h
    obtain ⟨da, ea, ef⟩ := bind1 ef
    obtain ⟨l, el, ef⟩ := bind1 ef
    obtain ⟨hh, eh, ef⟩ := bind1 ef
    exact ⟨H0, env, Hb, da, r, sm, ea, fun x Hb1 H1 s1 ix => ⟨H0, env, Hb1, l, r.step s1, s1.c, el, fun Hb2 H2 s2 => ⟨H0, env, Hb2, hh, (r.step s1).step s2, s2.c, eh, fun Hb3 H3 s3 =>
      ⟨Hb3, da, d, s3.c, (ix.mono s2.b).mono s3.b, ef, fun v Hb' H' s4 iv => q v Hb' H' (s1.trans (s2.trans (s3.trans s4))) iv⟩⟩⟩⟩
end
end Dn
set_option Elab.async false
set_option linter.all false
set_option maxRecDepth 100000
/-! Part C: statements, loops, comprehensions, calls, defs. -/
namespace Dn
open PySem L2 PySem.Spec PyProof.Rows

inductive Fl where
  | nx (e : En) | rt (d : D) | bk (e : En) | ct (e : En)
/-- what is wanted behind, for each way out -/
def Out (K : PySem.W.Frag) (Hb0 H0 : Hp) (N : Ends) : Fl → Prop
  | .nx env => ∀ σ Hb H, Rel K H0 Hb H σ env → Step Hb0 H0 Hb H → N.nx σ H
  | .rt d => ∀ v Hb H, Step Hb0 H0 Hb H → Is K Hb d v → N.rt v H
  | .bk env => ∀ σ Hb H, Rel K H0 Hb H σ env → Step Hb0 H0 Hb H → N.bk σ H
  | .ct env => ∀ σ Hb H, Rel K H0 Hb H σ env → Step Hb0 H0 Hb H → N.ct σ H
def tS (K : PySem.W.Frag) (F : En → Option Fl) : TS := fun N σ H => ∃ H0 Hb0 env Hb fl, Rel K H0 Hb H σ env ∧ Step Hb0 H0 Hb H ∧ F env = some fl ∧ Out K Hb0 H0 N fl
def tG (K : PySem.W.Frag) (ts : List Nat) (g : D → En → Option En) : TG := fun v σ H Q => ∃ H0 Hb env d env', Rel K H0 Hb H σ env ∧ Same Hb H ∧ Is K Hb d v ∧ g d env = some env' ∧ ∀ σ', Rel K H0 Hb H σ' env' → wipe σ' ts = wipe σ ts → Q σ' H
def tGs (K : PySem.W.Frag) (ts : List Nat) (g : List D → En → Option En) : TGs := fun vs σ H Q => ∃ H0 Hb env ds env', Rel K H0 Hb H σ env ∧ Same Hb H ∧ IsL K Hb ds vs ∧ g ds env = some env' ∧ ∀ σ', Rel K H0 Hb H σ' env' → wipe σ' ts = wipe σ ts → Q σ' H

theorem Step.fwd {Hb0 H0 Hb1 H1 Hb2 H2 : Hp} (x : Step Hb0 H0 Hb1 H1) (y : Step Hb1 H1 Hb2 H2) : Step Hb1 H0 Hb2 H2 := ⟨x.a.trans y.a, y.b, y.c, fun p o e n => y.f p o (x.a p o e) n⟩
theorem Step.back {Hb0 H0 Hb1 H1 Hb2 H2 : Hp} (x : Step Hb0 H0 Hb1 H1) (y : Step Hb1 H0 Hb2 H2) : Step Hb0 H0 Hb2 H2 := ⟨y.a, x.b.trans y.b, y.c, fun p o e n => y.f p o e (x.f p o e n)⟩
/-- a new object that no plain thing lies in -/
theorem Step.hid {Hb H : Hp} (s : Same Hb H) {p : Addr} {o : HO} (h : H p = none) (hb : Hb p = none) : Step Hb H Hb (upd H p o) := ⟨same_new h, Same.refl _, fun b x e => by rw [upd_ne (ne_of_none e hb)]; exact s b x e, fun _ _ _ n => n⟩

section
variable {X : Cx} {a b e : Expr} {st : Stmt} {sts rest : List Stmt} {pos : Pos} {fa fb : En → Option D} {F G : En → Option Fl}
theorem PS_weak {t t' : TS} (h : PS X st t) (w : ∀ N σ H, t' N σ H → t N σ H) : PS X st t' := ⟨fun pins s σ H N I q => h.run pins s σ H N I (w N σ H q)⟩
theorem PSs_weak {t t' : TS} (h : PSs X sts t) (w : ∀ N σ H, t' N σ H → t N σ H) : PSs X sts t' := ⟨fun pins s σ H N I q => h.run pins s σ H N I (w N σ H q)⟩
theorem PG_weak {tg : Expr} {t t' : TG} (h : PG X tg t) (w : ∀ v σ H Q, t' v σ H Q → t v σ H Q) : PG X tg t' := ⟨fun pins s σ H v u Q I r q => h.run pins s σ H v u Q I r (w v σ H Q q)⟩
theorem PGs_weak {tg : List Expr} {t t' : TGs} (h : PGs X tg t) (w : ∀ v σ H Q, t' v σ H Q → t v σ H Q) : PGs X tg t' := ⟨fun pins s σ H v u Q I r q => h.run pins s σ H v u Q I r (w v σ H Q q)⟩

/-! ### wiping -/
theorem wipe_get (σ : L2.St) (j : Nat) : ∀ vs : List Nat, (wipe σ vs)[j]? = if j ∈ vs then σ[j]?.map (fun _ => none) else σ[j]?
  | [] => by simp [wipe]
  | v :: vs => by
    unfold wipe
    by_cases h : v = j
    · subst h
      by_cases hv : v < σ.length
      · rw [List.getElem?_set_self (by rw [wipe_length]; exact hv)]
        simp [List.getElem?_eq_getElem hv]
      · rw [List.getElem?_eq_none (by rw [List.length_set, wipe_length]; omega), List.getElem?_eq_none (show σ.length ≤ v by omega)]
        simp
    · rw [List.getElem?_set_ne h, wipe_get σ j vs]
      have : (j ∈ v :: vs) = (j ∈ vs) := by
        rw [List.mem_cons]
        exact propext ⟨fun q => q.resolve_left fun z => h z.symm, Or.inr⟩
      simp only [this]
theorem wipe_ext {σ τ : L2.St} {vs : List Nat} (hl : σ.length = τ.length) (h : ∀ j, j ∉ vs → σ[j]? = τ[j]?) : wipe σ vs = wipe τ vs := by
  apply List.ext_getElem?
  intro j
  rw [wipe_get, wipe_get]
  by_cases q : j ∈ vs
  · rw [if_pos q, if_pos q]
    by_cases z : j < σ.length
    · rw [List.getElem?_eq_getElem z, List.getElem?_eq_getElem (show j < τ.length by omega)]
      rfl
    · rw [List.getElem?_eq_none (by omega), List.getElem?_eq_none (by omega)]
  · rw [if_neg q, if_neg q, h j q]
theorem wipe_eq_get {σ τ : L2.St} {vs : List Nat} (h : wipe σ vs = wipe τ vs) : σ.length = τ.length ∧ ∀ j, j ∉ vs → σ[j]? = τ[j]? := by
  refine ⟨by rw [← wipe_length σ vs, ← wipe_length τ vs, h], fun j q => ?_⟩
  have := congrArg (fun l : L2.St => l[j]?) h
  simp only [wipe_get, if_neg q] at this
  exact this
theorem wipe_mono {σ τ : L2.St} {vs ws : List Nat} (hs : ∀ i ∈ vs, i ∈ ws) (h : wipe σ vs = wipe τ vs) : wipe σ ws = wipe τ ws :=
  wipe_ext (wipe_eq_get h).1 fun j q => (wipe_eq_get h).2 j fun z => q (hs j z)
theorem wipe_wipe (σ : L2.St) (vs : List Nat) : wipe (wipe σ vs) vs = wipe σ vs :=
  wipe_ext (wipe_length _ _) fun j q => by rw [wipe_get, if_neg q]
theorem wipe_set (σ : L2.St) (i : Nat) (x : Option V) : wipe (σ.set i x) [i] = wipe σ [i] := by
  refine wipe_ext (by rw [List.length_set]) fun j q => ?_
  rw [List.getElem?_set_ne]
  intro z
  exact q (by simp [z])
def wipeE (env : En) : List Nat → En
  | [] => env
  | v :: vs => (wipeE env vs).set v none
theorem Rel.wipe {K : PySem.W.Frag} {H0 Hb H : Hp} {σ : L2.St} {env : En} (r : Rel K H0 Hb H σ env) : ∀ vs : List Nat, Rel K H0 Hb H (L2.wipe σ vs) (wipeE env vs)
  | [] => r
  | v :: vs => (r.wipe vs).forget v none

theorem wipeE_some {env : En} {i : Nat} {d : D} : ∀ {vs : List Nat}, (wipeE env vs)[i]? = some (some d) → env[i]? = some (some d) ∧ i ∉ vs
  | [], h => ⟨h, by simp⟩
  | v :: vs, h => by
    unfold wipeE at h
    by_cases hi : v = i
    · subst hi
      by_cases hv : v < (wipeE env vs).length
      · rw [List.getElem?_set_self hv] at h
        cases h
      · rw [List.getElem?_eq_none (by simpa using hv)] at h
        cases h
    · rw [List.getElem?_set_ne hi] at h
      obtain ⟨h1, h2⟩ := wipeE_some h
      exact ⟨h1, by simp only [List.mem_cons, not_or]; exact ⟨fun e => hi e.symm, h2⟩⟩
theorem wipe_some' {σ : L2.St} {vs : List Nat} {i : Nat} {x : V} (h : (wipe σ vs)[i]? = some (some x)) : σ[i]? = some (some x) := (wipe_some h).1

/-! ### targets -/
def gN (i : Nat) : D → En → Option En := fun d env => some (env.set i (some d))
def gNil' : List D → En → Option En := fun ds env => match ds with
  | [] => some env
  | _ :: _ => none
def gCons' (g : D → En → Option En) (h : List D → En → Option En) : List D → En → Option En := fun ds env => match ds with
  | [] => none
  | d :: r => (g d env).bind fun env' => h r env'
def gT (g : List D → En → Option En) : D → En → Option En := fun d env => match d with
  | .tup ds => g ds env
  | _ => none
def gL (g : List D → En → Option En) : D → En → Option En := fun d env => match d with
  | .lst ds => g ds env
  | _ => none
variable {ts us : List Nat} {g : D → En → Option En} {gs : List D → En → Option En} {tg : Expr} {tgs : List Expr}
theorem g_name (i : Nat) {x : Str} (hN : X.N.Nodup) (hi : X.N[i]? = some x := by rfl) (hx : Loc X.env.scope x := by first | exact Or.inl rfl | exact Or.inr rfl) (hf : X.fn x = true ∨ X.env.scope.names.lookup x = some .local := by first | exact .inl rfl | exact .inr rfl) : PG X (.Name x pos) (tG X.K [i] (gN i)) :=
  PG_weak (pg_name hN hi hx hf) fun v σ H Q h => by
    obtain ⟨H0, Hb, env, d, env', r, sm, iv, eg, q⟩ := h
    cases eg
    exact q _ (r.set i iv) (wipe_set σ i _)
theorem g_nil : PGs X [] (tGs X.K [] gNil') := PGs_weak pgs_nil fun v σ H Q h => by
  obtain ⟨H0, Hb, env, ds, env', r, sm, iv, eg, q⟩ := h
  cases ds with
  | nil =>
    simp only [IsL] at iv
    cases eg
    exact ⟨iv, q σ r rfl⟩
  | cons d ds => cases eg
theorem g_cons (h1 : PG X tg (tG X.K ts g)) (h2 : PGs X tgs (tGs X.K us gs)) (hs : (assignEach (tg :: tgs) X.env).map (·.2) = assign tg X.env :: (assignEach tgs X.env).map (·.2) := by rfl) : PGs X (tg :: tgs) (tGs X.K (ts ++ us) (gCons' g gs)) :=
  PGs_weak (pgs_cons h1 h2 hs) fun v σ H Q h => by
    obtain ⟨H0, Hb, env, ds, env', r, sm, iv, eg, q⟩ := h
    cases ds with
    | nil => cases eg
    | cons d ds =>
      simp only [IsL] at iv
      obtain ⟨w, vr, rfl, i1, i2⟩ := iv
      obtain ⟨e1, h1, h2⟩ := bind1 eg
      refine ⟨w, vr, rfl, H0, Hb, env, d, e1, r, sm, i1, h1, fun σ1 r1 w1 => ⟨H0, Hb, e1, ds, env', r1, sm, i2, h2, fun σ2 r2 w2 => q σ2 r2 ?_⟩⟩
      exact (wipe_mono (fun i hi => List.mem_append_right _ hi) w2).trans (wipe_mono (fun i hi => List.mem_append_left _ hi) w1)
theorem g_tup {k : Nat} {n : Nat} (hc : X.calm = true) (h : PGs X tgs (tGs X.K ts gs)) (hl : ∀ ds env env', gs ds env = some env' → ds.length = n)
    (hn : (assignEach tgs X.env).length = n := by rfl) (hst : (assignEach tgs X.env).findIdx? (·.1) = none := by rfl) : PG X (.Tuple tgs k pos) (tG X.K ts (gT gs)) :=
  PG_weak (pg_tup hc h hn hst) fun v σ H Q h => by
    obtain ⟨H0, Hb, env, d, env', r, sm, iv, eg, q⟩ := h
    cases d with
    | tup ds =>
      simp only [Is] at iv
      obtain ⟨p, xs, rfl, hx, lx⟩ := iv
      exact ⟨p, xs, rfl, sq_mono sm hx, by rw [lx.length]; exact hl _ _ _ eg, H0, Hb, env, ds, env', r, sm, lx, eg, q⟩
    | _ => cases eg
theorem g_lst {k : Nat} {n : Nat} (hc : X.calm = true) (h : PGs X tgs (tGs X.K ts gs)) (hl : ∀ ds env env', gs ds env = some env' → ds.length = n)
    (hn : (assignEach tgs X.env).length = n := by rfl) (hst : (assignEach tgs X.env).findIdx? (·.1) = none := by rfl) : PG X (.Tuple tgs k pos) (tG X.K ts (gL gs)) :=
  PG_weak (pg_unl hc h hn hst) fun v σ H Q h => by
    obtain ⟨H0, Hb, env, d, env', r, sm, iv, eg, q⟩ := h
    cases d with
    | lst ds =>
      simp only [Is] at iv
      obtain ⟨p, xs, rfl, hx, lx⟩ := iv
      exact ⟨p, xs, rfl, .inl (.inl (sm _ _ hx)), by rw [lx.length]; exact hl _ _ _ eg, H0, Hb, env, ds, env', r, sm, lx, eg, q⟩
    | _ => cases eg
theorem gl_nil : ∀ (ds : List D) (env env' : En), gNil' ds env = some env' → ds.length = 0
  | [], _, _, _ => rfl
  | _ :: _, _, _, h => by cases h
theorem gl_cons {n : Nat} (h : ∀ (ds : List D) (env env' : En), gs ds env = some env' → ds.length = n) : ∀ (ds : List D) (env env' : En), gCons' g gs ds env = some env' → ds.length = n + 1
  | [], _, _, q => by cases q
  | d :: ds, env, env', q => by
    obtain ⟨e1, _, h2⟩ := bind1 q
    rw [List.length_cons, h _ _ _ h2]

/-! ### statements -/
def fAsg (fa : En → Option D) (g : D → En → Option En) : En → Option Fl := fun env => (fa env).bind fun d => (g d env).bind fun env' => some (.nx env')
def fSet (i : Nat) (fa : En → Option D) : En → Option Fl := fun env => (fa env).bind fun d => some (.nx (env.set i (some d)))
def fRet (fa : En → Option D) : En → Option Fl := fun env => (fa env).bind fun d => some (.rt d)
def fDrop (fa : En → Option D) : En → Option Fl := fun env => (fa env).bind fun _ => some (.nx env)
def fSeq (F G : En → Option Fl) : En → Option Fl := fun env => (F env).bind fun fl => match fl with
  | .nx e => G e
  | .rt d => some (.rt d)
  | .bk e => some (.bk e)
  | .ct e => some (.ct e)
def fPass : En → Option Fl := fun env => some (.nx env)
def fIfS (c : En → Option Bool) (F G : En → Option Fl) : En → Option Fl := fun env => (c env).bind fun k => if k then F env else G env
def fStuck : En → Option Fl := fun _ => none
theorem tS_asg {N : Ends} {σ : L2.St} {H : Hp} (h : tS X.K (fAsg fa g) N σ H) : tAsg (tD X.K fa) (tG X.K ts g) N σ H := by
  obtain ⟨H0, Hb0, env, Hb, fl, r, sp, ef, out⟩ := h
  obtain ⟨d, ed, ef⟩ := bind1 ef
  obtain ⟨env', eg, ef⟩ := bind1 ef
  cases ef
  exact ⟨H0, env, Hb, d, r, sp.c, ed, fun v Hb1 H1 s1 iv => ⟨H0, Hb1, env, d, env', r.step s1, s1.c, iv, eg, fun σ' r' _ => out σ' Hb1 H1 r' (sp.trans s1)⟩⟩
theorem s_asg (he : PE X e (tD X.K fa)) (hg : PG X tg (tG X.K ts g)) (hs : swapsWithSole [tg] e pos.line X.env = pure false := by rfl) (hw : swappedStores [tg] e X.env = pure none := by rfl)
    (h1 : (assignEach [tg] X.env).map (·.2) = [assign tg X.env] := by rfl) : PS X (.Assign [tg] e pos) (tS X.K (fAsg fa g)) := PS_weak (ps_asg he hg hs hw h1) fun N σ H h => tS_asg h
theorem tS_set {i : Nat} {N : Ends} {σ : L2.St} {H : Hp} (h : tS X.K (fSet i fa) N σ H) : tAsg (tD X.K fa) (gName i) N σ H := by
  obtain ⟨H0, Hb0, env, Hb, fl, r, sp, ef, out⟩ := h
  obtain ⟨d, ed, ef⟩ := bind1 ef
  cases ef
  exact ⟨H0, env, Hb, d, r, sp.c, ed, fun v Hb1 H1 s1 iv => out _ Hb1 H1 ((r.step s1).set i iv) (sp.trans s1)⟩
theorem s_set (i : Nat) {x : Str} {pos' : Pos} (hN : X.N.Nodup) (he : PE X e (tD X.K fa)) (hi : X.N[i]? = some x := by rfl) (hx : Loc X.env.scope x := by first | exact Or.inl rfl | exact Or.inr rfl) (hs : swapsWith e (some (.Name x pos')) pos.line X.env = pure false := by rfl)
    (hf : X.fn x = true ∨ X.env.scope.names.lookup x = some .local := by first | exact .inl rfl | exact .inr rfl) : PS X (.Assign [.Name x pos'] e pos) (tS X.K (fSet i fa)) := PS_weak (ps_set hN hi hx he hs hf) fun N σ H h => tS_set h
/-- a, b = x, y -/
def fPar (i j : Nat) (fs : En → Option (List D)) : En → Option Fl := fun env => (fs env).bind fun ds => match ds with
  | [d, d'] => some (.nx ((env.set i (some d)).set j (some d')))
  | _ => none
theorem s_par (i j : Nat) {x y : Str} {px py pt : Pos} {kt k2 pt2} {fs : En → Option (List D)} (hc : X.calm = true) (hN : X.N.Nodup) (ha : PA X [a, b] (tA X.K fs)) (hi : X.N[i]? = some x := by rfl) (hj : X.N[j]? = some y := by rfl) (hij : i ≠ j := by decide)
    (hx : X.env.scope.names.lookup x = some .local := by rfl) (hy : X.env.scope.names.lookup y = some .local := by rfl)
    (hw : swappedStores [.Tuple [.Name x px, .Name y py] kt pt] (.Tuple [a, b] k2 pt2) X.env = pure (some [x, y]) := by rfl)
    (hs : swapsWithSole [.Tuple [.Name x px, .Name y py] kt pt] (.Tuple [a, b] k2 pt2) pos.line X.env = pure false := by rfl) :
    PS X (.Assign [.Tuple [.Name x px, .Name y py] kt pt] (.Tuple [a, b] k2 pt2) pos) (tS X.K (fPar i j fs)) := PS_weak (ps_par hc hN hi hj hij hx hy ha hw hs) fun N σ H h => by
  obtain ⟨H0, Hb0, env, Hb, fl, r, sp, ef, out⟩ := h
  obtain ⟨ds, ed, ef⟩ := bind1 ef
  refine ⟨H0, env, Hb, ds, r, sp.c, ed, fun vs Hb1 H1 s1 iv => ?_⟩
  match ds, ef, iv with
  | [d, d'], ef, iv =>
    cases ef
    simp only [IsL] at iv
    obtain ⟨v, r1, rfl, i1, v', r2, rfl, i2, rfl⟩ := iv
    exact ⟨v, v', rfl, out _ Hb1 H1 (((r.step s1).set i i1).set j i2) (sp.trans s1)⟩
theorem s_ret (he : PE X e (tD X.K fa)) : PS X (.Return (some e) pos) (tS X.K (fRet fa)) := PS_weak (ps_ret he) fun N σ H h => by
  obtain ⟨H0, Hb0, env, Hb, fl, r, sp, ef, out⟩ := h
  obtain ⟨d, ed, ef⟩ := bind1 ef
  cases ef
  exact ⟨H0, env, Hb, d, r, sp.c, ed, fun v Hb1 H1 s1 iv => out v Hb1 H1 (sp.trans s1) iv⟩
theorem s_expr (he : PE X e (tD X.K fa)) (hs : swapsWith e none pos.line X.env = pure false := by rfl) : PS X (.Expr e pos) (tS X.K (fDrop fa)) := PS_weak (ps_expr he hs) fun N σ H h => by
  obtain ⟨H0, Hb0, env, Hb, fl, r, sp, ef, out⟩ := h
  obtain ⟨d, ed, ef⟩ := bind1 ef
  cases ef
  exact ⟨H0, env, Hb, d, r, sp.c, ed, fun v Hb1 H1 s1 iv => out σ Hb1 H1 (r.step s1) (sp.trans s1)⟩
theorem ss_nil : PSs X [] (tS X.K fPass) := PSs_weak pss_nil fun N σ H h => by
  obtain ⟨H0, Hb0, env, Hb, fl, r, sp, ef, out⟩ := h
  cases ef
  exact out σ Hb H r sp
theorem s_pass : PS X (.Pass pos) (tS X.K fPass) := PS_weak ps_pass fun N σ H h => by
  obtain ⟨H0, Hb0, env, Hb, fl, r, sp, ef, out⟩ := h
  cases ef
  exact out σ Hb H r sp
theorem s_stuck : PS X st (tS X.K fStuck) := PS_weak ps_never fun N σ H h => by
  obtain ⟨H0, Hb0, env, Hb, fl, r, sp, ef, out⟩ := h
  cases ef
theorem ss_one (h : PS X st (tS X.K F)) : PSs X [st] (tS X.K F) := pss_one h
theorem ss_cons (h1 : PS X st (tS X.K F)) (h2 : PSs X rest (tS X.K G)) : PSs X (st :: rest) (tS X.K (fSeq F G)) := PSs_weak (pss_cons h1 h2) fun N σ H h => by
  obtain ⟨H0, Hb0, env, Hb, fl, r, sp, ef, out⟩ := h
  obtain ⟨f1, e1, ef⟩ := bind1 ef
  refine ⟨H0, Hb0, env, Hb, f1, r, sp, e1, ?_⟩
  cases f1 with
  | nx e' => exact fun σ' Hb' H' r' s' => ⟨H0, Hb0, e', Hb', fl, r', s', ef, out⟩
  | rt d => cases ef; exact out
  | bk e' => cases ef; exact out
  | ct e' => cases ef; exact out
theorem s_if {c : Expr} {fc : En → Option Bool} {p q : List Stmt} (hc : PT X c (tT X.K fc)) (hp : PSs X p (tS X.K F)) (hq : PSs X q (tS X.K G)) : PS X (.If c p q pos) (tS X.K (fIfS fc F G)) := PS_weak (ps_if hc hp hq) fun N σ H h => by
  obtain ⟨H0, Hb0, env, Hb, fl, r, sp, ef, out⟩ := h
  obtain ⟨k, ek, ef⟩ := bind1 ef
  refine ⟨H0, env, Hb, k, r, sp.c, ek, fun Hb1 H1 s1 => ?_⟩
  cases k with
  | true => exact ⟨H0, Hb0, env, Hb1, fl, r.step s1, sp.trans s1, ef, out⟩
  | false => exact ⟨H0, Hb0, env, Hb1, fl, r.step s1, sp.trans s1, ef, out⟩

/-! ### while -/
def whileF (c : En → Option Bool) (B : En → Option Fl) : Nat → En → Option Fl
  | 0, _ => none
  | n + 1, env => (c env).bind fun k => if k then (B env).bind fun fl => match fl with
      | .nx e => whileF c B n e
      | .ct e => whileF c B n e
      | .bk e => some (.nx e)
      | .rt d => some (.rt d)
    else some (.nx env)
def fWhile (fuel : En → Nat) (c : En → Option Bool) (B : En → Option Fl) : En → Option Fl := fun env => whileF c B (fuel env) env
theorem s_while (fuel : En → Nat) {c : Expr} {fc : En → Option Bool} {body : List Stmt} (hp : PassesOwn (model X.prog X.w) X.A X.env X.xe) (hc : PT X c (tT X.K fc)) (hb : PSs X body (tS X.K F)) : PS X (.While c body [] pos) (tS X.K (fWhile fuel fc F)) :=
  PS_weak (ps_while hp hc hb) fun N σ H h => by
    obtain ⟨H0, Hb0, env, Hb, fl, r, sp, ef, out⟩ := h
    refine ⟨fun m σ' H' => ∃ env' Hb', Rel X.K H0 Hb' H' σ' env' ∧ Step Hb0 H0 Hb' H' ∧ whileF fc F m env' = some fl, ⟨fuel env, env, Hb, r, sp, ef⟩, fun m σ1 H1 hW => ?_⟩
    obtain ⟨e1, Hb1, r1, s1, q1⟩ := hW
    cases m with
    | zero => cases q1
    | succ m =>
      obtain ⟨k, ek, q1⟩ := bind1 q1
      refine ⟨H0, e1, Hb1, k, r1, s1.c, ek, fun Hb2 H2 s2 => ?_⟩
      cases k with
      | false =>
        cases q1
        exact out σ1 Hb2 H2 (r1.step s2) (s1.trans s2)
      | true =>
        obtain ⟨f1, ef1, q1⟩ := bind1 q1
        refine ⟨fun σ' H' => ∃ env' Hb', Rel X.K H0 Hb' H' σ' env' ∧ Step Hb0 H0 Hb' H' ∧ whileF fc F m env' = some fl, fun σ' H' hN => ⟨m, Nat.lt_succ_self m, hN⟩, H0, Hb0, e1, Hb2, f1, r1.step s2, s1.trans s2, ef1, ?_⟩
        cases f1 with
        | nx e' => exact fun σ' Hb' H' r' s' => ⟨e', Hb', r', s', q1⟩
        | ct e' => exact fun σ' Hb' H' r' s' => ⟨e', Hb', r', s', q1⟩
        | bk e' =>
          cases q1
          exact fun σ' Hb' H' r' s' => out σ' Hb' H' r' s'
        | rt d =>
          cases q1
          exact out

/-! ### what is walked -/
def WalkD (K : PySem.W.Frag) (J : It) (ds : List D) (Hb0 : Hp) : Prop :=
  ∀ Hb H, Same Hb0 Hb → Same Hb H → (∀ (i : Nat) (d : D), ds[i]? = some d → J.go i H ∧ ∀ x H', J.yld i H x H' → ∃ Hb', Step Hb H Hb' H' ∧ Is K Hb' d x) ∧ J.stop ds.length H
def tI (K : PySem.W.Frag) (it : En → Option (List D)) : TI := fun σ H R => ∃ H0 env Hb ds, Rel K H0 Hb H σ env ∧ Same Hb H ∧ it env = some ds ∧ ∀ J Hb' H', Step Hb H Hb' H' → WalkD K J ds Hb' → R J H'
def itemsD : D → Option (List D)
  | .tup ds => some ds
  | .lst ds => some ds
  | .str l => some (l.map fun c => .str [c])
  | _ => none
def fIt (fa : En → Option D) : En → Option (List D) := fun env => (fa env).bind itemsD
theorem walk_l {K : PySem.W.Frag} {Hb : Hp} {p : Addr} {ds : List D} {vs : List V} (h : Hb p = some (.lst vs)) (l : IsL K Hb ds vs) : WalkD K (Itl K p) ds Hb := fun Hb1 H1 s1 s2 => by
  have hs : SqL K H1 p vs := .inl (.inl (s2 _ _ (s1 _ _ h)))
  refine ⟨fun i d e => ?_, ⟨vs, hs, by rw [l.length]; exact Nat.le_refl _⟩⟩
  obtain ⟨v, e1, e2⟩ := l.get e
  refine ⟨⟨vs, v, hs, e1⟩, fun x H' hy => ?_⟩
  obtain ⟨rfl, f⟩ := hy
  have := f vs hs
  rw [e1] at this
  cases this
  exact ⟨Hb1, Step.refl s2, e2.mono s1⟩
theorem walk_t {K : PySem.W.Frag} {Hb : Hp} {p : Addr} {ds : List D} {vs : List V} (h : SqT K Hb p vs) (l : IsL K Hb ds vs) : WalkD K (Itt K p) ds Hb := fun Hb1 H1 s1 s2 => by
  have hs : SqT K H1 p vs := sq_mono s2 (sq_mono s1 h)
  refine ⟨fun i d e => ?_, ⟨vs, hs, by rw [l.length]; exact Nat.le_refl _⟩⟩
  obtain ⟨v, e1, e2⟩ := l.get e
  refine ⟨⟨vs, v, hs, e1⟩, fun x H' hy => ?_⟩
  obtain ⟨rfl, f⟩ := hy
  have := f vs hs
  rw [e1] at this
  cases this
  exact ⟨Hb1, Step.refl s2, e2.mono s1⟩
theorem walk_s {K : PySem.W.Frag} {Hb : Hp} (l : List Nat) : WalkD K (Its (S l)) (l.map fun c => .str [c]) Hb := fun Hb1 H1 s1 s2 => by
  refine ⟨fun i d e => ?_, by show l.toArray.size ≤ (l.map _).length; simp⟩
  rw [List.getElem?_map] at e
  cases e1 : l[i]? with
  | none => rw [e1] at e; cases e
  | some c =>
    rw [e1] at e
    cases e
    refine ⟨?_, fun x H' hy => ?_⟩
    · show i < l.toArray.size
      have := (List.getElem?_eq_some_iff.mp e1).1
      simpa using this
    · obtain ⟨rfl, c', ec, rfl⟩ := hy
      have ec : l.toArray[i]? = some c' := ec
      rw [List.getElem?_toArray, e1] at ec
      cases ec
      exact ⟨Hb1, Step.refl s2, by simp only [Is, S]⟩
theorem walk_r {K : PySem.W.Frag} {Hb : Hp} (lo : Int) (n : Nat) : WalkD K (Itr lo n) ((List.range n).map fun i => .int (lo + (i : Nat))) Hb := fun Hb1 H1 s1 s2 => by
  refine ⟨fun i d e => ?_, by show n ≤ (List.map _ _).length; simp⟩
  rw [List.getElem?_map] at e
  cases e1 : (List.range n)[i]? with
  | none => rw [e1] at e; cases e
  | some c =>
    rw [e1] at e
    cases e
    obtain ⟨h1, h2⟩ := List.getElem?_eq_some_iff.mp e1
    rw [List.getElem_range] at h2
    subst h2
    refine ⟨by show i < n; simpa using h1, fun x H' hy => ?_⟩
    obtain ⟨rfl, rfl⟩ := hy
    exact ⟨Hb1, Step.refl s2, by simp only [Is]⟩
theorem i_seq (he : PE X e (tD X.K fa)) : PI X tg e (tI X.K (fIt fa)) := ⟨fun pins s σ H R I h => by
  obtain ⟨H0, env, Hb, ds, r, sm, ef, q⟩ := h
  obtain ⟨d, ed, ef⟩ := bind1 ef
  cases d with
  | tup xs =>
    cases ef
    refine (pi_tup he).run pins s σ H R I ⟨H0, env, Hb, _, r, sm, ed, fun v Hb1 H1 s1 iv => ?_⟩
    simp only [Is] at iv
    obtain ⟨p, vs, rfl, hx, lx⟩ := iv
    exact ⟨p, rfl, ⟨vs, sq_mono s1.c hx⟩, q _ Hb1 H1 s1 (walk_t hx lx)⟩
  | lst xs =>
    cases ef
    refine (pi_list he).run pins s σ H R I ⟨H0, env, Hb, _, r, sm, ed, fun v Hb1 H1 s1 iv => ?_⟩
    simp only [Is] at iv
    obtain ⟨p, vs, rfl, hx, lx⟩ := iv
    exact ⟨p, rfl, ⟨vs, .inl (.inl (s1.c _ _ hx))⟩, q _ Hb1 H1 s1 (walk_l hx lx)⟩
  | str l =>
    cases ef
    refine (pi_str he).run pins s σ H R I ⟨H0, env, Hb, _, r, sm, ed, fun v Hb1 H1 s1 iv => ?_⟩
    simp only [Is] at iv
    subst iv
    exact ⟨_, rfl, q _ Hb1 H1 s1 (walk_s l)⟩
  | _ => cases ef⟩
def rangeD (lo hi : Int) : Option (List D) := if (-(2 ^ 62) ≤ lo ∧ lo < 2 ^ 62 ∧ -(2 ^ 62) ≤ hi ∧ hi < 2 ^ 62) then some ((List.range (hi - lo).toNat).map fun i => .int (lo + (i : Nat))) else none
def fRng1 (fs : En → Option (List D)) : En → Option (List D) := fun env => (fs env).bind fun ds => match ds with
  | [.int n] => rangeD 0 n
  | _ => none
def fRng2 (fs : En → Option (List D)) : En → Option (List D) := fun env => (fs env).bind fun ds => match ds with
  | [.int m, .int n] => rangeD m n
  | _ => none
variable {fs : En → Option (List D)} {p : Pos}
theorem i_range1 (hm : X.mg "range" = none) (ha : PA X [a] (tA X.K fs)) (hg : Gl X "range" := by rfl) (hs : starEach [a] X.env = [(false, eval a X.env)] := by rfl) : PI X tg (.Call (.Name "range" p) [a] [] pos) (tI X.K (fRng1 fs)) := ⟨fun pins s σ H R I h => by
  obtain ⟨H0, env, Hb, ds, r, sm, ef, q⟩ := h
  obtain ⟨xs, ed, ef⟩ := bind1 ef
  refine (pi_range1 hg hm ha hs).run pins s σ H R I ⟨H0, env, Hb, xs, r, sm, ed, fun vs Hb1 H1 s1 iv => ?_⟩
  split at ef
  · simp only [IsL, Is] at iv
    obtain ⟨v, r1, rfl, rfl, rfl⟩ := iv
    obtain ⟨⟨_, _, h1, h2⟩, rfl⟩ := iteS ef
    refine ⟨_, rfl, h1, h2, q _ Hb1 H1 s1 ?_⟩
    rw [Int.sub_zero]
    exact walk_r (K := X.K) (Hb := Hb1) 0 (Int.toNat _)
  · cases ef⟩
theorem i_range2 (hm : X.mg "range" = none) (ha : PA X [a, b] (tA X.K fs)) (hg : Gl X "range" := by rfl) (hs : starEach [a, b] X.env = [(false, eval a X.env), (false, eval b X.env)] := by rfl) (hs2 : starEach [b] X.env = [(false, eval b X.env)] := by rfl) : PI X tg (.Call (.Name "range" p) [a, b] [] pos) (tI X.K (fRng2 fs)) := ⟨fun pins s σ H R I h => by
  obtain ⟨H0, env, Hb, ds, r, sm, ef, q⟩ := h
  obtain ⟨xs, ed, ef⟩ := bind1 ef
  refine (pi_range2 hg hm ha hs hs2).run pins s σ H R I ⟨H0, env, Hb, xs, r, sm, ed, fun vs Hb1 H1 s1 iv => ?_⟩
  split at ef
  · simp only [IsL, Is] at iv
    obtain ⟨v, r1, rfl, rfl, v2, r2, rfl, rfl, rfl⟩ := iv
    obtain ⟨hh, rfl⟩ := iteS ef
    exact ⟨_, _, rfl, hh, q _ Hb1 H1 s1 (walk_r (K := X.K) (Hb := Hb1) _ (Int.toNat _))⟩
  · cases ef⟩

/-! ### for -/
def forF (g : D → En → Option En) (B : En → Option Fl) : List D → En → Option Fl
  | [], env => some (.nx env)
  | d :: ds, env => (g d env).bind fun e1 => (B e1).bind fun fl => match fl with
    | .nx e => forF g B ds e
    | .ct e => forF g B ds e
    | .bk e => some (.nx e)
    | .rt d => some (.rt d)
def fFor (it : En → Option (List D)) (g : D → En → Option En) (B : En → Option Fl) : En → Option Fl := fun env => (it env).bind fun ds => forF g B ds env
theorem s_for {iter : Expr} {body : List Stmt} {it : En → Option (List D)} (hp : PassesOwn (model X.prog X.w) X.A X.env X.xe) (hc : X.calm = true) (hi : PI X tg iter (tI X.K it)) (hg : PG X tg (tG X.K ts g)) (hb : PSs X body (tS X.K F))
    (hs : ∀ x, foldedSetIterable iter X.env x = pure x := by intro _; rfl) : PS X (.For tg iter body [] pos) (tS X.K (fFor it g F)) := PS_weak (ps_for hp hc hi hg hb hs) fun N σ H h => by
  obtain ⟨H0, Hb0, env, Hb, fl, r, sp, ef, out⟩ := h
  obtain ⟨ds, ed, ef⟩ := bind1 ef
  refine ⟨H0, env, Hb, ds, r, sp.c, ed, fun J Hb1 H1 s1 wk => ?_⟩
  have x1 : Step Hb0 H0 Hb1 H1 := sp.trans s1
  refine ⟨fun i m σ' H' => ∃ env' Hb', Rel X.K H0 Hb' H' σ' env' ∧ Step Hb1 H0 Hb' H' ∧ i + m = ds.length ∧ forF g F (ds.drop i) env' = some fl, ⟨ds.length, env, Hb1, r.step s1, x1.fwd (Step.refl s1.c), by omega, ef⟩, fun i m σ2 H2 hW => ?_⟩
  obtain ⟨e2, Hb2, r2, s2, im, q2⟩ := hW
  obtain ⟨wi, ws⟩ := wk Hb2 H2 s2.b s2.c
  by_cases hm : m = 0
  · subst hm
    have hi : i = ds.length := by omega
    subst hi
    rw [List.drop_length] at q2
    cases q2
    exact .inl ⟨ws, out σ2 Hb2 H2 r2 (x1.back s2)⟩
  · have hi : i < ds.length := by omega
    obtain ⟨go, yld⟩ := wi i ds[i] (List.getElem?_eq_getElem hi)
    rw [List.drop_eq_getElem_cons hi] at q2
    obtain ⟨e3, eg, q2⟩ := bind1 q2
    obtain ⟨f1, ef1, q2⟩ := bind1 q2
    refine .inr ⟨go, fun σ' H' => ∃ env' Hb', Rel X.K H0 Hb' H' σ' env' ∧ Step Hb1 H0 Hb' H' ∧ forF g F (ds.drop (i + 1)) env' = some fl, fun σ' H' hN => ?_, fun x H' hy => ?_⟩
    · obtain ⟨e', Hb', a1, a2, a4⟩ := hN
      exact ⟨m - 1, by omega, e', Hb', a1, a2, by omega, a4⟩
    · obtain ⟨Hb3, s3, iv⟩ := yld x H' hy
      refine ⟨H0, Hb3, e2, ds[i], e3, r2.step s3, s3.c, iv, eg, fun σ' r' _ => ⟨H0, Hb1, e3, Hb3, f1, r', s2.trans s3, ef1, ?_⟩⟩
      cases f1 with
      | nx e' => exact fun σ' Hb' H' r' s' => ⟨e', Hb', r', s', q2⟩
      | ct e' => exact fun σ' Hb' H' r' s' => ⟨e', Hb', r', s', q2⟩
      | bk e' =>
        cases q2
        exact fun σ' Hb' H' r' s' => out σ' Hb' H' r' (x1.back s')
      | rt d =>
        cases q2
        exact fun v Hb' H' s' iv => out v Hb' H' (x1.back s') iv

/-! ### list comprehensions -/
def lcF (g : D → En → Option En) (t : En → Option Bool) (f : En → Option D) (env : En) : List D → Option (List D)
  | [] => some []
  | d :: ds => (g d env).bind fun e1 => (t e1).bind fun k => if k then (f e1).bind fun y => (lcF g t f env ds).bind fun r => some (y :: r) else lcF g t f env ds
def fLc (it : En → Option (List D)) (g : D → En → Option En) (t : En → Option Bool) (f : En → Option D) (vs : List Nat) : En → Option D := fun env =>
  (it env).bind fun ds => if ds.length ≤ 1000000 then (lcF g t f (wipeE env vs) ds).bind fun r => some (.lst r) else none
def fYes : En → Option Bool := fun _ => some true
theorem PTs_weak {ifs : List Expr} {t t' : TT} (h : PTs X ifs t) (w : ∀ σ H Q, t' σ H Q → t σ H Q) : PTs X ifs t' := ⟨fun pins s σ H Q I q => h.run pins s σ H Q I (w σ H Q q)⟩
theorem ts_nil : PTs X [] (tT X.K fYes) := PTs_weak pts_nil fun σ H Q h => by
  obtain ⟨H0, env, Hb, k, r, sm, ef, q⟩ := h
  cases ef
  exact q Hb H (Step.refl sm)
theorem ts_one {c : Expr} {ft : En → Option Bool} (h : PT X c (tT X.K ft)) : PTs X [c] (tT X.K ft) := pts_one h
theorem t_lc {K : PySem.W.Frag} {it : En → Option (List D)} {t : En → Option Bool} {f : En → Option D} {vs : List Nat} (hts : ∀ i ∈ ts, i ∈ vs) {σ : L2.St} {H : Hp} {Q : VK} (h : tD K (fLc it g t f vs) σ H Q) :
    tLc (tI K it) (tG K ts g) (tT K t) (tD K f) vs σ H Q := by
  obtain ⟨H0, env, Hb, d, r, sm, ef, q⟩ := h
  obtain ⟨ds, ed, ef⟩ := bind1 ef
  split at ef
  · rename_i hsz
    obtain ⟨out, eo, ef⟩ := bind1 ef
    cases ef
    refine ⟨H0, env, Hb, ds, r, sm, ed, fun J Hb1 H1 s1 wk Dd hD => ?_⟩
    refine ⟨fun i m H' => ∃ Hb' acc done rest, Rel K H0 Hb' H' (wipe σ vs) (wipeE env vs) ∧ Step Hb1 H1 Hb' H' ∧ Hb' Dd = none ∧ H' Dd = some (.lst acc) ∧ IsL K Hb' done acc ∧ done.length ≤ i ∧ i + m = ds.length ∧ lcF g t f (wipeE env vs) (ds.drop i) = some rest ∧ done ++ rest = out,
      ⟨ds.length, Hb1, [], [], out, ?_, ?_, s1.c.free hD, upd_same, by simp only [IsL], Nat.zero_le _, by omega, eo, rfl⟩, fun i m H2 hW => ?_⟩
    · refine ((r.step s1).wipe vs).step (Step.hid s1.c hD (s1.c.free hD))
    · exact Step.hid s1.c hD (s1.c.free hD)
    · obtain ⟨Hb2, acc, done, rest, r2, s2, hd1, hd2, il, hlen, im, el, eout⟩ := hW
      obtain ⟨wi, ws⟩ := wk Hb2 H2 s2.b s2.c
      by_cases hm : m = 0
      · subst hm
        have hi : i = ds.length := by omega
        subst hi
        rw [List.drop_length] at el
        cases el
        rw [List.append_nil] at eout
        subst eout
        refine .inl ⟨ws, q _ (upd Hb2 Dd (.lst acc)) H2 (s1.trans ?_) (is_lst_new hd1 il)⟩
        refine ⟨s2.a, s2.b.trans (same_new hd1), fun b x e => ?_, fun b x e n => ?_⟩
        · by_cases hb : b = Dd
          · subst hb
            rw [upd_same] at e
            rw [hd2, e]
          · rw [upd_ne hb] at e
            exact s2.c b x e
        · have hb : b ≠ Dd := ne_of_none e hD
          rw [upd_ne hb]
          exact s2.f b x e n
      · have hi : i < ds.length := by omega
        obtain ⟨go, yld⟩ := wi i ds[i] (List.getElem?_eq_getElem hi)
        rw [List.drop_eq_getElem_cons hi] at el
        obtain ⟨e3, eg, el⟩ := bind1 el
        obtain ⟨k, ek, el⟩ := bind1 el
        refine .inr ⟨go, fun H' => ∃ Hb' acc done rest, Rel K H0 Hb' H' (wipe σ vs) (wipeE env vs) ∧ Step Hb1 H1 Hb' H' ∧ Hb' Dd = none ∧ H' Dd = some (.lst acc) ∧ IsL K Hb' done acc ∧ done.length ≤ i + 1 ∧ lcF g t f (wipeE env vs) (ds.drop (i + 1)) = some rest ∧ done ++ rest = out, fun H' hN => ?_, fun x H' hy => ?_⟩
        · obtain ⟨Hb', acc', done', rest', a1, a2, a3, a4, a5, a6, a7, a8⟩ := hN
          exact ⟨m - 1, by omega, Hb', acc', done', rest', a1, a2, a3, a4, a5, a6, by omega, a7, a8⟩
        · obtain ⟨Hb3, s3, iv⟩ := yld x H' hy
          refine ⟨H0, Hb3, wipeE env vs, ds[i], e3, r2.step s3, s3.c, iv, eg, fun σ' r' hw => ⟨?_, H0, e3, Hb3, k, r', s3.c, ek, fun Hb4 H4 s4 => ?_⟩⟩
          · have := wipe_mono hts hw
            rw [wipe_wipe] at this
            exact this
          · have d4 : H4 Dd = some (.lst acc) := s4.a _ _ (s3.a _ _ hd2)
            have n4 : Hb4 Dd = none := s4.f _ _ (s3.a _ _ hd2) (s3.f _ _ hd2 hd1)
            cases k with
            | false =>
              exact ⟨Hb4, acc, done, rest, (r2.step s3).step s4, s2.trans (s3.trans s4), n4, d4, il.mono (s3.b.trans s4.b), by omega, el, eout⟩
            | true =>
              obtain ⟨y, ey, el⟩ := bind1 el
              obtain ⟨rest', er, el⟩ := bind1 el
              cases el
              refine ⟨H0, e3, Hb4, y, r'.step s4, s4.c, ey, fun v Hb5 H5 s5 iv5 => ?_⟩
              have d5 : H5 Dd = some (.lst acc) := s5.a _ _ d4
              have n5 : Hb5 Dd = none := s5.f _ _ d4 n4
              have st : Step Hb1 H1 Hb5 H5 := s2.trans (s3.trans (s4.trans s5))
              have hsame : Same Hb5 (upd H5 Dd (.lst (acc ++ [v]))) := fun b o e => by
                rw [upd_ne (ne_of_none e n5)]
                exact st.c b o e
              refine ⟨acc, d5, ?_, Hb5, acc ++ [v], done ++ [y], rest', ?_, ?_, n5, upd_same, ?_, ?_, er, ?_⟩
              · rw [il.length]
                have := size1000
                omega
              · have rr := ((r2.step s3).step s4).step s5
                refine ⟨rr.len, fun j d e => ?_, rr.sep⟩
                obtain ⟨w, a1, a2⟩ := rr.val j d e
                refine ⟨w, a1, ?_⟩
                cases hown : d.isOwn with
                | false =>
                  rw [IsS.plain hown] at a2 ⊢
                  exact a2
                | true =>
                  obtain ⟨v0, b1, b2⟩ := r.val j d (by
                    have := (wipeE_some e).1
                    exact this)
                  have b3 := wipe_some' a1
                  rw [b3] at b1
                  cases b1
                  cases d with
                  | own dd =>
                    obtain ⟨p, vs', c1, c2, c3, c4, c5⟩ := a2
                    obtain ⟨p', vs'', c1', c2', c3', c4', c5'⟩ := b2
                    subst c1
                    cases c1'
                    exact ⟨p, vs', rfl, c2, c3, by rw [upd_ne (ne_of_none (s1.a _ _ c4') hD)]; exact c4, c5⟩
                  | ownd dd =>
                    obtain ⟨p, vs', c1, c2, c3, c4, c5⟩ := a2
                    obtain ⟨p', vs'', c1', c2', c3', c4', c5'⟩ := b2
                    subst c1
                    cases c1'
                    exact ⟨p, vs', rfl, c2, c3, by rw [upd_ne (ne_of_none (s1.a _ _ c4') hD)]; exact c4, c5⟩
                  | _ => cases hown
              · refine ⟨fun b o e => ?_, st.b, hsame, st.f⟩
                rw [upd_ne (ne_of_none e hD)]
                exact st.a b o e
              · have := il.mono (s3.b.trans (s4.b.trans s5.b))
                refine this.append ?_
                simp only [IsL]
                exact ⟨v, [], rfl, iv5, rfl⟩
              · rw [List.length_append, List.length_singleton]
                omega
              · rw [List.append_assoc]
                exact eout
  · cases ef
theorem e_lc {elt iter : Expr} {ifs : List Expr} {scope : Scope} {own : List (Str × Nat)} {it : En → Option (List D)} {t : En → Option Bool} {f : En → Option D} (hc : X.calm = true) (hN : X.N.Nodup) (hi : PI X tg iter (tI X.K it)) (ok : BlkOk X.N X.env.scope scope own)
    (hg : ∀ (s : Shared) (H : Hp) (C : Addr) (cl : List (Str × Addr)) (fp : List Addr), PG (X.blk s H scope (compEnvC scope cl C X.env) fp) tg (tG X.K ts g)) (ht : ∀ (s : Shared) (H : Hp) (C : Addr) (cl : List (Str × Addr)) (fp : List Addr), PTs (X.blk s H scope (compEnvC scope cl C X.env) fp) ifs (tT X.K t))
    (he : ∀ (s : Shared) (H : Hp) (C : Addr) (cl : List (Str × Addr)) (fp : List Addr), PE (X.blk s H scope (compEnvC scope cl C X.env) fp) elt (tD X.K f)) (hts : ∀ i ∈ ts, i ∈ own.map (·.2) := by decide) (hs : ∀ x, foldedSetIterable iter X.env x = pure x := by intro _; rfl) :
    PE X (.ListComp elt [⟨tg, iter, ifs, 0⟩] scope pos) (tD X.K (fLc it g t f (own.map (·.2)))) := PE_weak (pe_lc hc hN hi ok hg ht he hs) fun _ _ _ h => t_lc hts h
theorem s_setLc (i : Nat) {y : Str} {py spos : Pos} {elt iter : Expr} {ifs : List Expr} {scope : Scope} {own : List (Str × Nat)} {it : En → Option (List D)} {t : En → Option Bool} {f : En → Option D} (hc : X.calm = true) (hN : X.N.Nodup) (hi : PI X tg iter (tI X.K it)) (ok : BlkOk X.N X.env.scope scope own)
    (hg : ∀ (s : Shared) (H : Hp) (C : Addr) (cl : List (Str × Addr)) (fp : List Addr), PG (X.blk s H scope (compEnvC scope cl C X.env) fp) tg (tG X.K ts g)) (ht : ∀ (s : Shared) (H : Hp) (C : Addr) (cl : List (Str × Addr)) (fp : List Addr), PTs (X.blk s H scope (compEnvC scope cl C X.env) fp) ifs (tT X.K t))
    (he : ∀ (s : Shared) (H : Hp) (C : Addr) (cl : List (Str × Addr)) (fp : List Addr), PE (X.blk s H scope (compEnvC scope cl C X.env) fp) elt (tD X.K f)) (hsw : swapsWith (.ListComp elt [⟨tg, iter, ifs, 0⟩] scope pos) (some (.Name y py)) spos.line X.env = pure true)
    (hts : ∀ i ∈ ts, i ∈ own.map (·.2) := by decide) (hy : X.N[i]? = some y := by rfl) (hyl : X.env.scope.names.lookup y = some .local := by rfl) (hs : ∀ x, foldedSetIterable iter X.env x = pure x := by intro _; rfl) :
    PS X (.Assign [.Name y py] (.ListComp elt [⟨tg, iter, ifs, 0⟩] scope pos) spos) (tS X.K (fSet i (fLc it g t f (own.map (·.2))))) := PS_weak (ps_setLc hc hN hy hyl hsw hi ok hg ht he hs) fun N σ H h => by
  obtain ⟨H0, Hb0, env, Hb, fl, r, sp, ef, out⟩ := h
  obtain ⟨d, ed, ef⟩ := bind1 ef
  cases ef
  exact t_lc hts ⟨H0, env, Hb, d, r, sp.c, ed, fun v Hb1 H1 s1 iv => out _ Hb1 H1 ((r.step s1).set i iv) (sp.trans s1)⟩

/-! ### calls and defs -/
def spD (K : PySem.W.Frag) (sem : List D → Option D) : Sp := fun vs H Q _ => ∃ Hb ds d, Same Hb H ∧ IsL K Hb ds vs ∧ sem ds = some d ∧ ∀ v Hb' H', Step Hb H Hb' H' → Is K Hb' d v → Q v H'
def fCall (sem : List D → Option D) (fs : En → Option (List D)) : En → Option D := fun env => (fs env).bind sem
theorem t_call {sem : List D → Option D} {E : XK} {σ : L2.St} {H : Hp} {Q : VK} (h : tD X.K (fCall sem fs) σ H Q) : tCall (spD X.K sem) [] E (tA X.K fs) σ H Q := by
  obtain ⟨H0, env, Hb, d, r, sm, ef, q⟩ := h
  obtain ⟨ds, ed, ef⟩ := bind1 ef
  exact ⟨H0, env, Hb, ds, r, sm, ed, fun vs Hb1 H1 s1 iv => by
    show spD X.K sem (vs ++ []) H1 Q E
    rw [List.append_nil]
    exact ⟨Hb1, ds, d, s1.c, iv, ef, fun v Hb2 H2 s2 i2 => q v Hb2 H2 (s1.trans s2) i2⟩⟩
theorem e_call {x : Str} {es : List Expr} {f : Addr} {fd : FuncData} {ps : List Str} {k : Nat} {sem : List D → Option D} (Fo : FnOk X.prog X.w X.K X.mg X.base CX0 k f fd ps (spD X.K sem)) (hr : Room k X.A) (hm : X.mg x = some (.ref f)) (hk : PySem.W.keepIn X.K (.ref f) = true) (hb : Binds X.K fd ps [])
    (ha : PA X (e :: es) (tA X.K fs)) (hg : Gl X x := by rfl) (hdb : (x == ("__debug__" : Str)) = false := by decide) (he : starEach (e :: es) X.env = (false, eval e X.env) :: starEach es X.env := by rfl) (hpl : (backTo pos (starEach es X.env)).any (·.1) = false := by rfl) :
    PE X (.Call (.Name x p) (e :: es) [] pos) (tD X.K (fCall sem fs)) := PE_weak (pe_call Fo hr hg hm hk hb .nil pass0 ha hdb he hpl) fun _ _ _ h => t_call h
/-- built-ins -/
def fBlt (g : List D → Option D) (fs : En → Option (List D)) : En → Option D := fun env => (fs env).bind g
theorem t_cb {g : List D → Option D} {σ : L2.St} {H : Hp} {Q : VK} (h : tD X.K (fBlt g fs) σ H Q) : tCB (rDA X.K g) (tA X.K fs) σ H Q := by
  obtain ⟨H0, env, Hb, d, r, sm, ef, q⟩ := h
  obtain ⟨ds, ed, ef⟩ := bind1 ef
  exact ⟨H0, env, Hb, ds, r, sm, ed, fun vs Hb1 H1 s1 iv => ⟨Hb1, ds, d, s1.c, iv, ef, fun v Hb2 H2 s2 i2 => q v Hb2 H2 (s1.trans s2) i2⟩⟩
theorem e_blt {x : Str} {id : String} {es : List Expr} {g : List D → Option D} (hc : CallR X (.builtin id) (rDA X.K g)) (hm : X.mg x = none) (hv : bootBuiltins x = some (.builtin id)) (ha : PA X (e :: es) (tA X.K fs)) (hg : Gl X x := by rfl) (hn : x ≠ "__name__" := by decide) (hdb : (x == ("__debug__" : Str)) = false := by decide)
    (he : starEach (e :: es) X.env = (false, eval e X.env) :: starEach es X.env := by rfl) (hpl : (backTo pos (starEach es X.env)).any (·.1) = false := by rfl) : PE X (.Call (.Name x p) (e :: es) [] pos) (tD X.K (fBlt g fs)) := PE_weak (pe_callB hc hg hm hv ha hn hdb he hpl) fun _ _ _ h => t_cb h
theorem e_ty {x : Str} {T : String} {es : List Expr} {g : List D → Option D} (hc : CallR X (.type T) (rDA X.K g)) (hm : X.mg x = none) (hv : bootBuiltins x = some (.type T)) (ha : PA X (e :: es) (tA X.K fs)) (hg : Gl X x := by rfl) (hn : x ≠ "__name__" := by decide) (hdb : (x == ("__debug__" : Str)) = false := by decide)
    (he : starEach (e :: es) X.env = (false, eval e X.env) :: starEach es X.env := by rfl) (hpl : (backTo pos (starEach es X.env)).any (·.1) = false := by rfl) : PE X (.Call (.Name x p) (e :: es) [] pos) (tD X.K (fBlt g fs)) := PE_weak (pe_callTy hc hg hm hv ha hn hdb he hpl) fun _ _ _ h => t_cb h
end

def startE (n : Nat) (ds : List D) : En := ds.map some ++ List.replicate (n - ds.length) none
/-- what a def's body computes -/
def semOf (n m : Nat) (F : En → Option Fl) : List D → Option D := fun ds => if ds.length = m then (F (startE n ds)).bind fun fl => match fl with
  | .rt d => some d
  | .nx _ => some .non
  | _ => none
 else none
theorem rel_start {K : PySem.W.Frag} {Hb H : Hp} {N : List Str} {ds : List D} {vs : List V} (h : IsL K Hb ds vs) : Rel K H Hb H (L2.start N vs) (startE N.length ds) := by
  have hown : ∀ (ds : List D) (vs : List V), IsL K Hb ds vs → ∀ d ∈ ds, d.isOwn = false := by
    intro ds
    induction ds with
    | nil => intro _ _ d hd; cases hd
    | cons x xs ih =>
      intro vs h d hd
      simp only [IsL] at h
      obtain ⟨v, r, _, i1, i2⟩ := h
      rcases List.mem_cons.mp hd with rfl | hd
      · cases d <;> first | rfl | (simp only [Is] at i1)
      · exact ih r i2 d hd
  have pl := hown ds vs h
  have get : ∀ (i : Nat) (d : D), (startE N.length ds)[i]? = some (some d) → ds[i]? = some d := fun i d e => by
    unfold startE at e
    by_cases hi : i < ds.length
    · rw [List.getElem?_append_left (by simpa using hi), List.getElem?_map] at e
      cases q : ds[i]? with
      | none => rw [q] at e; cases e
      | some z => rw [q] at e; cases e; rfl
    · rw [List.getElem?_append_right (by simpa using hi), List.getElem?_replicate] at e
      split at e <;> cases e
  refine ⟨?_, fun i d e => ?_, fun i j d e a _ e1 e2 o1 _ _ _ => ?_⟩
  · unfold L2.start startE
    rw [List.length_append, List.length_append, List.length_map, List.length_map, List.length_replicate, List.length_replicate, h.length]
  · have e' := get i d e
    obtain ⟨v, h1, h2⟩ := h.get e'
    refine ⟨v, ?_, ?_⟩
    · unfold L2.start
      have hi := (List.getElem?_eq_some_iff.mp h1).1
      rw [List.getElem?_append_left (by simpa using hi), List.getElem?_map, h1]
      rfl
    · rw [IsS.plain (pl d (List.mem_of_getElem? e'))]
      exact h2
  · have := pl d (List.mem_of_getElem? (get i d e1))
    rw [this] at o1
    cases o1
section
variable {P : Program} {w : World} {K : PySem.W.Frag} {mg : Str → Option Value} {base : Heap}
theorem fn_d {x qual : Str} {st : Stmt} {f : Addr} {fd : FuncData} {N ps : List Str} {k : Nat} {F : En → Option Fl} (Fu : Fun K x qual st f fd) (S : FnScope N ps (defScope st))
    (hb : ∀ (cdv : Value) (A : Around) (outer : List Env) (s : Shared) (H : Hp) (E : XK), Room k (A.deeper (envOfC qual (defScope st) s.heap.objs.size f cdv)) → PSs (cxOf CX0 P w K mg base N qual (defScope st) f cdv A outer s H E).nox (defBody st) (tS K F)) :
    FnOk P w K mg base CX0 (k + 1) f fd ps (spD K (semOf N.length ps.length F)) := by
  refine Fu.ok S (fun vs H Q E h => ?_) (fun cdv A outer s H vs Q E hr h => ⟨_, hb cdv A outer s H E hr, ?_⟩)
  · obtain ⟨Hb, ds, d, sm, il, es, q⟩ := h
    unfold semOf at es
    split at es
    · rename_i hl
      rw [il.length, hl]
    · cases es
  · obtain ⟨Hb, ds, d, sm, il, es, q⟩ := h
    unfold semOf at es
    split at es
    · obtain ⟨fl, ef, es⟩ := bind1 es
      refine ⟨H, Hb, startE N.length ds, Hb, fl, rel_start il, Step.refl sm, ef, ?_⟩
      cases fl with
      | rt d' => cases es; exact q
      | nx e' =>
        cases es
        exact fun σ Hb' H' r' s' => q .non Hb' H' s' (by simp only [Is])
      | bk e' => cases es
      | ct e' => cases es
    · cases es
theorem fn_nice {f : Addr} {fd : FuncData} {ps : List Str} {k : Nat} {sem nice : List D → Option D} (h : FnOk P w K mg base CX0 k f fd ps (spD K sem)) (q : ∀ ds d, nice ds = some d → sem ds = some d) : FnOk P w K mg base CX0 k f fd ps (spD K nice) :=
  h.imp fun vs H Q E ⟨Hb, ds, d, a1, a2, a3, a4⟩ => ⟨Hb, ds, d, a1, a2, q ds d a3, a4⟩
/-- the law's own promise -/
def spLaw (K : PySem.W.Frag) : Sp := fun vs H Q _ => ∃ (a : Addr) (ns : List Int), vs = [.ref a] ∧ SqL K H a (ns.map V.int) ∧ ns.length ≤ 63 ∧ ∀ H', Q (.bl true) H'
theorem fn_law {f : Addr} {fd : FuncData} {k : Nat} {sem : List D → Option D} (h : FnOk P w K mg base CX0 k f fd ["script"] (spD K sem)) (q : ∀ ns : List Int, ns.length ≤ 63 → sem [.scr ns] = some (.bl true)) : FnOk P w K mg base CX0 k f fd ["script"] (spLaw K) :=
  h.imp fun vs H Q E ⟨a, ns, e, hs, hl, hq⟩ => ⟨H, [.scr ns], .bl true, Same.refl H, by
    subst e
    simp only [IsL, Is]
    exact ⟨_, _, rfl, ⟨a, rfl, hs⟩, rfl⟩, q ns hl, fun v Hb' H' _ iv => by
    simp only [Is] at iv
    subst iv
    exact hq H'⟩
end
end Dn
set_option Elab.async false
set_option linter.all false
set_option maxRecDepth 100000
/-! Part D: built-ins and methods of texts. -/
namespace Dn
open PySem L2 PySem.Spec PyProof.Rows

def strsOf : List D → Option (List (List Nat))
  | [] => some []
  | .str l :: ds => (strsOf ds).bind fun r => some (l :: r)
  | _ :: _ => none
def intsOf : List D → Option (List Int)
  | [] => some []
  | .int l :: ds => (intsOf ds).bind fun r => some (l :: r)
  | _ :: _ => none
def blsOf : List D → Option (List Bool)
  | [] => some []
  | .bl l :: ds => (blsOf ds).bind fun r => some (l :: r)
  | _ :: _ => none
theorem strsOf_eq : ∀ {ds : List D} {ls : List (List Nat)}, strsOf ds = some ls → ds = ls.map D.str
  | [], ls, h => by cases h; rfl
  | .str l :: ds, ls, h => by
    obtain ⟨r, e, h⟩ := bind1 h
    cases h
    rw [List.map_cons, strsOf_eq e]
  | .non :: _, _, h => by cases h
  | .bl _ :: _, _, h => by cases h
  | .int _ :: _, _, h => by cases h
  | .tup _ :: _, _, h => by cases h
  | .lst _ :: _, _, h => by cases h
  | .scr _ :: _, _, h => by cases h
  | .adr _ :: _, _, h => by cases h
  | .dct _ :: _, _, h => by cases h
  | .own _ :: _, _, h => by cases h
  | .ownd _ :: _, _, h => by cases h
theorem intsOf_eq : ∀ {ds : List D} {ls : List Int}, intsOf ds = some ls → ds = ls.map D.int
  | [], ls, h => by cases h; rfl
  | .int l :: ds, ls, h => by
    obtain ⟨r, e, h⟩ := bind1 h
    cases h
    rw [List.map_cons, intsOf_eq e]
  | .non :: _, _, h => by cases h
  | .bl _ :: _, _, h => by cases h
  | .str _ :: _, _, h => by cases h
  | .tup _ :: _, _, h => by cases h
  | .lst _ :: _, _, h => by cases h
  | .scr _ :: _, _, h => by cases h
  | .adr _ :: _, _, h => by cases h
  | .dct _ :: _, _, h => by cases h
  | .own _ :: _, _, h => by cases h
  | .ownd _ :: _, _, h => by cases h
theorem blsOf_eq : ∀ {ds : List D} {ls : List Bool}, blsOf ds = some ls → ds = ls.map D.bl
  | [], ls, h => by cases h; rfl
  | .bl l :: ds, ls, h => by
    obtain ⟨r, e, h⟩ := bind1 h
    cases h
    rw [List.map_cons, blsOf_eq e]
  | .non :: _, _, h => by cases h
  | .int _ :: _, _, h => by cases h
  | .str _ :: _, _, h => by cases h
  | .tup _ :: _, _, h => by cases h
  | .lst _ :: _, _, h => by cases h
  | .scr _ :: _, _, h => by cases h
  | .adr _ :: _, _, h => by cases h
  | .dct _ :: _, _, h => by cases h
  | .own _ :: _, _, h => by cases h
  | .ownd _ :: _, _, h => by cases h
theorem strsOf_map : ∀ ls : List (List Nat), strsOf (ls.map D.str) = some ls
  | [] => rfl
  | l :: ls => by rw [List.map_cons, strsOf, strsOf_map ls]; rfl
theorem intsOf_map : ∀ ls : List Int, intsOf (ls.map D.int) = some ls
  | [] => rfl
  | l :: ls => by rw [List.map_cons, intsOf, intsOf_map ls]; rfl
theorem blsOf_map : ∀ ls : List Bool, blsOf (ls.map D.bl) = some ls
  | [] => rfl
  | l :: ls => by rw [List.map_cons, blsOf, blsOf_map ls]; rfl
section
variable {K : PySem.W.Frag} {H : Hp}
theorem isl_strs : ∀ {ls : List (List Nat)} {vs : List V}, IsL K H (ls.map D.str) vs → vs = (ls.map S).map V.str
  | [], vs, h => by simpa only [List.map_nil, IsL] using h
  | l :: ls, vs, h => by
    simp only [List.map_cons, IsL, Is] at h
    obtain ⟨v, r, rfl, rfl, h⟩ := h
    rw [isl_strs h, List.map_cons, List.map_cons]
theorem isl_ints : ∀ {ls : List Int} {vs : List V}, IsL K H (ls.map D.int) vs → vs = ls.map V.int
  | [], vs, h => by simpa only [List.map_nil, IsL] using h
  | l :: ls, vs, h => by
    simp only [List.map_cons, IsL, Is] at h
    obtain ⟨v, r, rfl, rfl, h⟩ := h
    rw [isl_ints h, List.map_cons]
theorem isl_bls : ∀ {ls : List Bool} {vs : List V}, IsL K H (ls.map D.bl) vs → vs = ls.map V.bl
  | [], vs, h => by simpa only [List.map_nil, IsL] using h
  | l :: ls, vs, h => by
    simp only [List.map_cons, IsL, Is] at h
    obtain ⟨v, r, rfl, rfl, h⟩ := h
    rw [isl_bls h, List.map_cons]
theorem of_strs : ∀ (ls : List (List Nat)), IsL K H (ls.map D.str) ((ls.map S).map V.str)
  | [] => by simp only [List.map_nil, IsL]
  | l :: ls => by simp only [List.map_cons, IsL, Is]; exact ⟨_, _, rfl, rfl, of_strs ls⟩
theorem of_ints : ∀ (ls : List Int), IsL K H (ls.map D.int) (ls.map V.int)
  | [] => by simp only [List.map_nil, IsL]
  | l :: ls => by simp only [List.map_cons, IsL, Is]; exact ⟨_, _, rfl, rfl, of_ints ls⟩
/-- one argument -/
theorem isl1 {d : D} {vs : List V} (h : IsL K H [d] vs) : ∃ v, vs = [v] ∧ Is K H d v := by
  simp only [IsL] at h
  obtain ⟨v, r, rfl, i, rfl⟩ := h
  exact ⟨v, rfl, i⟩
theorem isl2 {d e : D} {vs : List V} (h : IsL K H [d, e] vs) : ∃ v w, vs = [v, w] ∧ Is K H d v ∧ Is K H e w := by
  simp only [IsL] at h
  obtain ⟨v, r, rfl, i, w, r2, rfl, i2, rfl⟩ := h
  exact ⟨v, w, rfl, i, i2⟩
end

/-! ### len, int, abs, all, sum, min, max -/
def lenG : List D → Option D
  | [.str l] => if l.length ≤ sizeLine then some (.int l.length) else none
  | [.tup l] => some (.int l.length)
  | [.lst l] => some (.int l.length)
  | [.scr l] => some (.int l.length)
  | _ => none
def intG : List D → Option D
  | [.int i] => some (.int i)
  | [.bl k] => some (.int (if k then 1 else 0))
  | [.str l] => if l.length ≤ 640 then (PySem.intText? (S l)).bind fun n => some (.int n) else none
  | _ => none
def absG : List D → Option D
  | [.int i] => some (.int (if i < 0 then -i else i))
  | _ => none
def tupG : List D → Option D
  | [.lst l] => some (.tup l)
  | [.tup l] => some (.tup l)
  | _ => none
def minOf {α : Type} (lt : α → α → Bool) (x : α) (xs : List α) : α := xs.foldl (fun a y => if lt y a then y else a) x
def maxOf {α : Type} (lt : α → α → Bool) (x : α) (xs : List α) : α := xs.foldl (fun a y => if lt a y then y else a) x
def ltS (a b : List Nat) : Bool := decide (a < b)
def ltI (a b : Int) : Bool := decide (a < b)
def minG : List D → Option D
  | [.lst ds] => match strsOf ds with
    | some (x :: xs) => some (.str (minOf ltS x xs))
    | _ => match intsOf ds with
      | some (x :: xs) => some (.int (minOf ltI x xs))
      | _ => none
  | [.tup ds] => match intsOf ds with
      | some (x :: xs) => some (.int (minOf ltI x xs))
      | _ => none
  | [.int i, .int j] => some (.int (if j < i then j else i))
  | _ => none
def maxG : List D → Option D
  | [.lst ds] => match intsOf ds with
      | some (x :: xs) => some (.int (maxOf ltI x xs))
      | _ => none
  | [.tup ds] => match intsOf ds with
      | some (x :: xs) => some (.int (maxOf ltI x xs))
      | _ => none
  | [.int i, .int j] => some (.int (if j > i then j else i))
  | _ => none
def allG : List D → Option D
  | [.lst ds] => (blsOf ds).bind fun bs => some (.bl (bs.all id))
  | _ => none
def sumG : List D → Option D
  | [.lst ds] => (intsOf ds).bind fun bs => some (.int bs.sum)
  | [.tup ds] => (intsOf ds).bind fun bs => some (.int bs.sum)
  | _ => none
section
variable {X : Cx}
theorem c_len : CallR X (.builtin "len") (rDA X.K lenG) := by
  intro pins s σ H xs us Q I r h
  obtain ⟨Hb, ds, d, sm, il, eg, q⟩ := h
  unfold lenG at eg
  split at eg
  · obtain ⟨v, rfl, iv⟩ := isl1 il
    simp only [Is] at iv
    subst iv
    obtain ⟨hl, rfl⟩ := iteS eg
    exact call_len_str pins s σ H _ us Q I r ⟨_, rfl, by rw [S_len]; exact hl, q _ Hb H (Step.refl sm) (by simp only [Is, S_len])⟩
  · obtain ⟨v, rfl, iv⟩ := isl1 il
    simp only [Is] at iv
    obtain ⟨p, vs, rfl, hx, lx⟩ := iv
    cases eg
    exact call_len_seq pins s σ H _ us Q I r ⟨p, vs, rfl, .inr (sq_mono sm hx), q _ Hb H (Step.refl sm) (by simp only [Is, lx.length])⟩
  · obtain ⟨v, rfl, iv⟩ := isl1 il
    simp only [Is] at iv
    obtain ⟨p, vs, rfl, hx, lx⟩ := iv
    cases eg
    exact call_len_seq pins s σ H _ us Q I r ⟨p, vs, rfl, .inl (.inl (.inl (sm _ _ hx))), q _ Hb H (Step.refl sm) (by simp only [Is, lx.length])⟩
  · obtain ⟨v, rfl, iv⟩ := isl1 il
    simp only [Is] at iv
    obtain ⟨p, rfl, hx⟩ := iv
    cases eg
    exact call_len_seq pins s σ H _ us Q I r ⟨p, _, rfl, .inl (sm.seq hx), q _ Hb H (Step.refl sm) (by simp only [Is, List.length_map])⟩
  · cases eg
theorem c_int : CallR X (.type "int") (rDA X.K intG) := by
  intro pins s σ H xs us Q I r h
  obtain ⟨Hb, ds, d, sm, il, eg, q⟩ := h
  unfold intG at eg
  split at eg
  · obtain ⟨v, rfl, iv⟩ := isl1 il
    simp only [Is] at iv
    subst iv
    cases eg
    exact call_int1 pins s σ H _ us Q I r (.inl ⟨_, rfl, q _ Hb H (Step.refl sm) (by simp only [Is])⟩)
  · obtain ⟨v, rfl, iv⟩ := isl1 il
    simp only [Is] at iv
    subst iv
    cases eg
    exact call_int1 pins s σ H _ us Q I r (.inr ⟨_, rfl, q _ Hb H (Step.refl sm) (by simp only [Is])⟩)
  · obtain ⟨v, rfl, iv⟩ := isl1 il
    simp only [Is] at iv
    subst iv
    split at eg
    · rename_i hl
      obtain ⟨n, en, ed⟩ := bind1 eg
      cases ed
      exact call_int_str pins s σ H _ us Q I r ⟨_, n, rfl, en, by rw [S_len]; exact hl, q _ Hb H (Step.refl sm) (by simp only [Is])⟩
    · cases eg
  · cases eg
theorem c_abs : CallR X (.builtin "abs") (rDA X.K absG) := by
  intro pins s σ H xs us Q I r h
  obtain ⟨Hb, ds, d, sm, il, eg, q⟩ := h
  unfold absG at eg
  split at eg
  · obtain ⟨v, rfl, iv⟩ := isl1 il
    simp only [Is] at iv
    subst iv
    cases eg
    exact call_abs pins s σ H _ us Q I r ⟨_, rfl, q _ Hb H (Step.refl sm) (by simp only [Is])⟩
  · cases eg
theorem c_all (hc : X.calm = true) : CallR X (.builtin "all") (rDA X.K allG) := by
  intro pins s σ H xs us Q I r h
  obtain ⟨Hb, ds, d, sm, il, eg, q⟩ := h
  unfold allG at eg
  split at eg
  · obtain ⟨v, rfl, iv⟩ := isl1 il
    simp only [Is] at iv
    obtain ⟨p, vs, rfl, hx, lx⟩ := iv
    obtain ⟨bs, eb, ed⟩ := bind1 eg
    cases ed
    have e := blsOf_eq eb
    subst e
    have := isl_bls lx
    subst this
    exact cr_all hc pins s σ H _ us Q I r ⟨p, bs, rfl, .inl (.inl (sm _ _ hx)), q _ Hb H (Step.refl sm) (by simp only [Is])⟩
  · cases eg
theorem c_sum (hc : X.calm = true) : CallR X (.builtin "sum") (rDA X.K sumG) := by
  intro pins s σ H xs us Q I r h
  obtain ⟨Hb, ds, d, sm, il, eg, q⟩ := h
  unfold sumG at eg
  split at eg
  · obtain ⟨v, rfl, iv⟩ := isl1 il
    simp only [Is] at iv
    obtain ⟨p, vs, rfl, hx, lx⟩ := iv
    obtain ⟨bs, eb, ed⟩ := bind1 eg
    cases ed
    have e := intsOf_eq eb
    subst e
    have := isl_ints lx
    subst this
    exact cr_sum hc pins s σ H _ us Q I r ⟨p, bs, rfl, .inl (.inl (sm _ _ hx)), q _ Hb H (Step.refl sm) (by simp only [Is])⟩
  · obtain ⟨v, rfl, iv⟩ := isl1 il
    simp only [Is] at iv
    obtain ⟨p, vs, rfl, hx, lx⟩ := iv
    obtain ⟨bs, eb, ed⟩ := bind1 eg
    cases ed
    have e := intsOf_eq eb
    subst e
    have := isl_ints lx
    subst this
    obtain ⟨its, rv, hl, hz⟩ := I.tuple (sq_mono sm hx)
    rw [Vals.ref1 r]
    have hi := rv.ints
    obtain ⟨xs, ex⟩ := hi.allInts.items
    have hn : numsOf (intItems xs).toList = bs := by rw [← ex]; exact hi.numsOf
    rw [nums_intItems] at hn
    have hl' : s.heap.IsTuple p (intItems xs) := by rw [← ex]; exact hl
    refine PySem.W.ktm_sumG (I.ok.hd hc) hl' fun h' tk t' hk => ?_
    refine ⟨.int bs.sum, H, I.kept hk, ⟨t', ?_⟩, q _ Hb H (Step.refl sm) (by simp only [Is])⟩
    rw [preSum_eq, List.take_of_length_le (by simp), hn]
  · cases eg
theorem minOf_mem {α : Type} (lt : α → α → Bool) : ∀ (xs : List α) (x : α), minOf lt x xs ∈ x :: xs
  | [], x => List.mem_cons_self
  | y :: ys, x => by
    show minOf lt (if lt y x then y else x) ys ∈ _
    have := minOf_mem lt ys (if lt y x then y else x)
    rcases List.mem_cons.mp this with h | h
    · rw [h]
      split
      · exact List.mem_cons_of_mem _ List.mem_cons_self
      · exact List.mem_cons_self
    · exact List.mem_cons_of_mem _ (List.mem_cons_of_mem _ h)
theorem maxOf_mem {α : Type} (lt : α → α → Bool) : ∀ (xs : List α) (x : α), maxOf lt x xs ∈ x :: xs
  | [], x => List.mem_cons_self
  | y :: ys, x => by
    show maxOf lt (if lt x y then y else x) ys ∈ _
    have := maxOf_mem lt ys (if lt x y then y else x)
    rcases List.mem_cons.mp this with h | h
    · rw [h]
      split
      · exact List.mem_cons_of_mem _ List.mem_cons_self
      · exact List.mem_cons_self
    · exact List.mem_cons_of_mem _ (List.mem_cons_of_mem _ h)
theorem minOfI_le : ∀ (xs : List Int) (x : Int), ∀ y ∈ x :: xs, minOf ltI x xs ≤ y
  | [], x, y, h => by
    have : y = x := by simpa using h
    subst this
    exact Int.le_refl _
  | z :: zs, x, y, h => by
    show minOf ltI (if ltI z x then z else x) zs ≤ y
    have ih := minOfI_le zs (if ltI z x then z else x)
    have h0 := ih _ List.mem_cons_self
    have hle : (if ltI z x then z else x) ≤ x ∧ (if ltI z x then z else x) ≤ z := by
      unfold ltI
      by_cases q : z < x
      · rw [decide_eq_true q]
        simp
        omega
      · rw [decide_eq_false q]
        simp
        omega
    rcases List.mem_cons.mp h with rfl | h
    · omega
    · rcases List.mem_cons.mp h with rfl | h
      · omega
      · exact ih y (List.mem_cons_of_mem _ h)
theorem maxOfI_ge : ∀ (xs : List Int) (x : Int), ∀ y ∈ x :: xs, y ≤ maxOf ltI x xs
  | [], x, y, h => by
    have : y = x := by simpa using h
    subst this
    exact Int.le_refl _
  | z :: zs, x, y, h => by
    show y ≤ maxOf ltI (if ltI x z then z else x) zs
    have ih := maxOfI_ge zs (if ltI x z then z else x)
    have h0 := ih _ List.mem_cons_self
    have hle : x ≤ (if ltI x z then z else x) ∧ z ≤ (if ltI x z then z else x) := by
      unfold ltI
      by_cases q : x < z
      · rw [decide_eq_true q]
        simp
        omega
      · rw [decide_eq_false q]
        simp
        omega
    rcases List.mem_cons.mp h with rfl | h
    · omega
    · rcases List.mem_cons.mp h with rfl | h
      · omega
      · exact ih y (List.mem_cons_of_mem _ h)
theorem minD_strs : ∀ (ls : List (List Nat)) (l : List Nat), PySem.W.minD (.str (S l)) ((ls.map S).map PyData.str) = .str (S (minOf ltS l ls))
  | [], l => rfl
  | m :: ls, l => by
    show PySem.W.minD (if PySem.W.dataLt (.str (S m)) (.str (S l)) then .str (S m) else .str (S l)) _ = .str (S (minOf ltS (if ltS m l then m else l) ls))
    rw [PySem.W.dataLt_str]
    have : decide ((S m).cps.toList < (S l).cps.toList) = ltS m l := by simp [S, ltS]
    rw [this]
    cases ltS m l with
    | true => exact minD_strs ls m
    | false => exact minD_strs ls l
theorem readsAll_strs {h : Heap} : ∀ {us : List Value} {ls : List Str}, Vals (ls.map V.str) us → ∃ as, ReadsAll h us (ls.map PyData.str) as
  | us, [], r => by
    rw [List.map_nil] at r
    cases r
    exact ⟨_, ReadsAll.nil⟩
  | us, l :: ls, r => by
    rw [List.map_cons] at r
    cases r with
    | cons r1 r2 =>
      obtain ⟨t, rfl⟩ := r1
      obtain ⟨as, h2⟩ := readsAll_strs (h := h) r2
      exact ⟨_, ReadsAll.cons (Reads.str l t) h2⟩
theorem depth_strs : ∀ ls : List Str, PyData.depthAll (ls.map PyData.str) = 0
  | [] => by simp only [List.map_nil, PyData.depthAll]
  | l :: ls => by simp only [List.map_cons, PyData.depthAll, PyData.depth, depth_strs ls, Nat.max_self]
theorem readsAll_ints {h : Heap} : ∀ {us : List Value} {ls : List Int}, Vals (ls.map V.int) us → ∃ as, ReadsAll h us (ls.map PyData.int) as
  | us, [], r => by
    rw [List.map_nil] at r
    cases r
    exact ⟨_, ReadsAll.nil⟩
  | us, l :: ls, r => by
    rw [List.map_cons] at r
    cases r with
    | cons r1 r2 =>
      obtain ⟨t, rfl⟩ := r1
      obtain ⟨as, h2⟩ := readsAll_ints (h := h) r2
      exact ⟨_, ReadsAll.cons (Reads.int l t) h2⟩
theorem depth_ints0 : ∀ ls : List Int, PyData.depthAll (ls.map PyData.int) = 0
  | [] => by simp only [List.map_nil, PyData.depthAll]
  | l :: ls => by simp only [List.map_cons, PyData.depthAll, PyData.depth, depth_ints0 ls, Nat.max_self]
theorem alike_ints0 (n : Int) (ns : List Int) : PySem.W.AlikeAll (.int n :: ns.map PyData.int) := by
  refine ⟨fun x hx y hy => ?_, fun x hx => ?_⟩
  · have e1 : ∃ z, x = PyData.int z := by
      rcases List.mem_cons.mp hx with rfl | hx
      · exact ⟨_, rfl⟩
      · obtain ⟨z, _, rfl⟩ := List.mem_map.mp hx
        exact ⟨_, rfl⟩
    have e2 : ∃ z, y = PyData.int z := by
      rcases List.mem_cons.mp hy with rfl | hy
      · exact ⟨_, rfl⟩
      · obtain ⟨z, _, rfl⟩ := List.mem_map.mp hy
        exact ⟨_, rfl⟩
    obtain ⟨z1, rfl⟩ := e1
    obtain ⟨z2, rfl⟩ := e2
    simp only [PySem.W.alike]
  · rcases List.mem_cons.mp hx with rfl | hx
    · simp
    · obtain ⟨z, _, rfl⟩ := List.mem_map.mp hx
      simp
theorem minD_ints0 : ∀ (ls : List Int) (l : Int), PySem.W.minD (.int l) (ls.map PyData.int) = .int (minOf ltI l ls)
  | [], l => rfl
  | m :: ls, l => by
    show PySem.W.minD (if PySem.W.dataLt (.int m) (.int l) then .int m else .int l) _ = .int (minOf ltI (if ltI m l then m else l) ls)
    have : PySem.W.dataLt (.int m) (.int l) = ltI m l := by rw [PySem.W.dataLt_int]; rfl
    rw [this]
    cases ltI m l with
    | true => exact minD_ints0 ls m
    | false => exact minD_ints0 ls l
theorem maxD_ints0 : ∀ (ls : List Int) (l : Int), PySem.W.maxD (.int l) (ls.map PyData.int) = .int (maxOf ltI l ls)
  | [], l => rfl
  | m :: ls, l => by
    show PySem.W.maxD (if PySem.W.dataLt (.int l) (.int m) then .int m else .int l) _ = .int (maxOf ltI (if ltI l m then m else l) ls)
    have : PySem.W.dataLt (.int l) (.int m) = ltI l m := by rw [PySem.W.dataLt_int]; rfl
    rw [this]
    cases ltI l m with
    | true => exact maxD_ints0 ls m
    | false => exact maxD_ints0 ls l
theorem tup_int_at {its : List Value} {ns : List Int} {i : Nat} {v : Value} (rv : Vals (ns.map V.int) its) (hi : its.toArray[i]? = some v) : ∃ z t, v = Value.int z t := by
  have hi : its[i]? = some v := by simpa using hi
  have hi2 := (List.getElem?_eq_some_iff.mp hi).1
  have hlen := rv.length
  obtain ⟨w, hw⟩ : ∃ w, (ns.map V.int)[i]? = some w := ⟨_, List.getElem?_eq_getElem (by omega)⟩
  obtain ⟨u, hu1, hu2⟩ := rv.get hw
  rw [hi] at hu1
  cases hu1
  rw [List.getElem?_map] at hw
  cases e3 : ns[i]? with
  | none => rw [e3] at hw; cases hw
  | some z =>
    rw [e3] at hw
    cases hw
    obtain ⟨t, rfl⟩ := hu2
    exact ⟨z, t, rfl⟩
theorem c_min (hc : X.calm = true) (hu : X.A.units + 64 < cLine) : CallR X (.builtin "min") (rDA X.K minG) := by
  intro pins s σ H xs us Q I r h
  obtain ⟨Hb, ds, d, sm, il, eg, q⟩ := h
  unfold minG at eg
  split at eg
  · obtain ⟨v, rfl, iv⟩ := isl1 il
    simp only [Is] at iv
    obtain ⟨p, vs, rfl, hx, lx⟩ := iv
    split at eg
    · rename_i l ls eb
      cases eg
      have e := strsOf_eq eb
      subst e
      have := isl_strs lx
      subst this
      obtain ⟨its, rv, hl, hz⟩ := I.list (show SqL X.K H p _ from .inl (.inl (sm _ _ hx)))
      obtain ⟨as, ra⟩ := readsAll_strs (h := s.heap) rv
      rw [Vals.ref1 r]
      refine PySem.W.min_list_data (x := .str (S l)) (xs := (ls.map S).map PyData.str) (I.ok.hd hc) hl.isList (by simpa using ra) ⟨fun x hx y hy => ?_, fun x hx => ?_⟩ ?_ fun i v h' tk bs ev rd hk => ?_
      · have e1 : ∃ z, x = PyData.str z := by
          rcases List.mem_cons.mp hx with rfl | hx
          · exact ⟨_, rfl⟩
          · obtain ⟨z, _, rfl⟩ := List.mem_map.mp hx
            exact ⟨_, rfl⟩
        have e2 : ∃ z, y = PyData.str z := by
          rcases List.mem_cons.mp hy with rfl | hy
          · exact ⟨_, rfl⟩
          · obtain ⟨z, _, rfl⟩ := List.mem_map.mp hy
            exact ⟨_, rfl⟩
        obtain ⟨z1, rfl⟩ := e1
        obtain ⟨z2, rfl⟩ := e2
        simp only [PySem.W.alike]
      · rcases List.mem_cons.mp hx with rfl | hx
        · simp
        · obtain ⟨z, _, rfl⟩ := List.mem_map.mp hx
          simp
      · have := depth_strs ((l :: ls).map S)
        rw [List.map_cons, List.map_cons] at this
        rw [this]
        omega
      · rw [minD_strs] at rd
        have hv : ∃ z t, v = Value.str z t := by
          have hi : its[i]? = some v := by simpa using ev
          have hi2 := (List.getElem?_eq_some_iff.mp hi).1
          have hlen := rv.length
          obtain ⟨w, hw⟩ : ∃ w, (((l :: ls).map S).map V.str)[i]? = some w := ⟨_, List.getElem?_eq_getElem (by omega)⟩
          obtain ⟨u, hu1, hu2⟩ := rv.get hw
          rw [hi] at hu1
          cases hu1
          rw [List.getElem?_map] at hw
          cases e3 : ((l :: ls).map S)[i]? with
          | none => rw [e3] at hw; cases hw
          | some z =>
            rw [e3] at hw
            cases hw
            obtain ⟨t, rfl⟩ := hu2
            exact ⟨z, t, rfl⟩
        obtain ⟨z, t, rfl⟩ := hv
        cases rd
        exact ⟨.str _, H, I.kept hk, ⟨t, rfl⟩, q _ Hb H (Step.refl sm) (by simp only [Is])⟩
    · split at eg
      · rename_i n ns eb
        cases eg
        have e := intsOf_eq eb
        subst e
        have := isl_ints lx
        subst this
        refine cr_min hc pins s σ H _ us Q I r ⟨p, n :: ns, rfl, .inl (.inl (sm _ _ hx)), by simp, fun m hm hle => ?_⟩
        have : m = minOf ltI n ns := Int.le_antisymm (hle _ (minOf_mem ltI ns n)) (minOfI_le ns n m hm)
        subst this
        exact q _ Hb H (Step.refl sm) (by simp only [Is])
      · cases eg
  · obtain ⟨v, rfl, iv⟩ := isl1 il
    simp only [Is] at iv
    obtain ⟨p, vs, rfl, hx, lx⟩ := iv
    split at eg
    · rename_i n ns eb
      cases eg
      have e := intsOf_eq eb
      subst e
      have := isl_ints lx
      subst this
      obtain ⟨its, rv, hl, hz⟩ := I.tuple (sq_mono sm hx)
      obtain ⟨as, ra⟩ := readsAll_ints (h := s.heap) rv
      rw [Vals.ref1 r]
      refine PySem.W.min_tuple_data (x := .int n) (xs := ns.map PyData.int) (I.ok.hd hc) hl (by simpa using ra) (alike_ints0 n ns) (by have := depth_ints0 (n :: ns); rw [List.map_cons] at this; rw [this]; omega) fun i v h' tk bs ev rd hk => ?_
      rw [minD_ints0] at rd
      obtain ⟨z, t, rfl⟩ := tup_int_at rv ev
      cases rd
      exact ⟨.int _, H, I.kept hk, ⟨t, rfl⟩, q _ Hb H (Step.refl sm) (by simp only [Is])⟩
    · cases eg
  · obtain ⟨v, w, rfl, iv, iw⟩ := isl2 il
    simp only [Is] at iv iw
    subst iv iw
    cases eg
    exact call_min2 hc pins s σ H _ us Q I r ⟨_, _, rfl, q _ Hb H (Step.refl sm) (by simp only [Is])⟩
  · cases eg
theorem c_max (hc : X.calm = true) (hu : X.A.units + 64 < cLine) : CallR X (.builtin "max") (rDA X.K maxG) := by
  intro pins s σ H xs us Q I r h
  obtain ⟨Hb, ds, d, sm, il, eg, q⟩ := h
  unfold maxG at eg
  split at eg
  · obtain ⟨v, rfl, iv⟩ := isl1 il
    simp only [Is] at iv
    obtain ⟨p, vs, rfl, hx, lx⟩ := iv
    split at eg
    · rename_i n ns eb
      cases eg
      have e := intsOf_eq eb
      subst e
      have := isl_ints lx
      subst this
      refine cr_max hc pins s σ H _ us Q I r ⟨p, n :: ns, rfl, .inl (.inl (sm _ _ hx)), by simp, fun m hm hle => ?_⟩
      have : m = maxOf ltI n ns := Int.le_antisymm (maxOfI_ge ns n m hm) (hle _ (maxOf_mem ltI ns n))
      subst this
      exact q _ Hb H (Step.refl sm) (by simp only [Is])
    · cases eg
  · obtain ⟨v, rfl, iv⟩ := isl1 il
    simp only [Is] at iv
    obtain ⟨p, vs, rfl, hx, lx⟩ := iv
    split at eg
    · rename_i n ns eb
      cases eg
      have e := intsOf_eq eb
      subst e
      have := isl_ints lx
      subst this
      obtain ⟨its, rv, hl, hz⟩ := I.tuple (sq_mono sm hx)
      obtain ⟨as, ra⟩ := readsAll_ints (h := s.heap) rv
      rw [Vals.ref1 r]
      refine PySem.W.max_tuple_data (x := .int n) (xs := ns.map PyData.int) (I.ok.hd hc) hl (by simpa using ra) (alike_ints0 n ns) (by have := depth_ints0 (n :: ns); rw [List.map_cons] at this; rw [this]; omega) fun i v h' tk bs ev rd hk => ?_
      rw [maxD_ints0] at rd
      obtain ⟨z, t, rfl⟩ := tup_int_at rv ev
      cases rd
      exact ⟨.int _, H, I.kept hk, ⟨t, rfl⟩, q _ Hb H (Step.refl sm) (by simp only [Is])⟩
    · cases eg
  · obtain ⟨v, w, rfl, iv, iw⟩ := isl2 il
    simp only [Is] at iv iw
    subst iv iw
    cases eg
    exact call_max2 hc pins s σ H _ us Q I r ⟨_, _, rfl, q _ Hb H (Step.refl sm) (by simp only [Is])⟩
  · cases eg

/-! ### tuple(..) -/
variable {a b e o : Expr} {pos apos p : Pos} {fa fb fo : En → Option D} {fs : En → Option (List D)}
def tupD : D → Option D
  | .lst l => some (.tup l)
  | .tup l => some (.tup l)
  | _ => none
theorem e_tuple (hm : X.mg "tuple" = none) (ha : PE X a (tD X.K fa)) (hg : Gl X "tuple" := by rfl) (na : starEach [a] X.env = (false, eval a X.env) :: starEach [] X.env := by rfl) : PE X (.Call (.Name "tuple" p) [a] [] pos) (tD X.K (f1 tupD fa)) :=
  PE_weak (pe_tupleOf hg hm ha na) fun σ H Q h => by
    obtain ⟨H0, env, Hb, d, r, sm, ef, q⟩ := h
    obtain ⟨da, ea, eg⟩ := bind1 ef
    refine ⟨H0, env, Hb, da, r, sm, ea, fun v Hb1 H1 s1 iv => ?_⟩
    unfold tupD at eg
    split at eg
    · cases eg
      simp only [Is] at iv
      obtain ⟨p, vs, rfl, hx, lx⟩ := iv
      exact .inl ⟨p, vs, rfl, .inl (.inl (s1.c _ _ hx)), fun r hr => q _ _ _ (s1.trans (Step.new s1.c hr)) (is_tup_new (s1.c.free hr) lx)⟩
    · cases eg
      have iv' := iv
      simp only [Is] at iv'
      obtain ⟨p, vs, rfl, hx, lx⟩ := iv'
      exact .inr ⟨p, vs, rfl, sq_mono s1.c hx, q _ Hb1 H1 s1 iv⟩
    · cases eg

/-! ### methods of texts -/
def fM1 (g : List Nat → D → Option D) (fo fa : En → Option D) : En → Option D := fun env => (fo env).bind fun d => match d with
  | .str l => (fa env).bind fun x => g l x
  | _ => none
def rDM (K : PySem.W.Frag) (g : List Nat → D → Option D) : V → List V → Hp → VK → Prop := fun x xs H Q => ∃ Hb l y b d, Same Hb H ∧ x = .str (S l) ∧ xs = [y] ∧ Is K Hb b y ∧ g l b = some d ∧ ∀ v Hb' H', Step Hb H Hb' H' → Is K Hb' d v → Q v H'
theorem e_m1 {id : String} {name : Str} {g : List Nat → D → Option D} (slot : Slot "str" name id) (ty : typeOf (.builtin id) = pure (.type "method_descriptor")) (rule : MtR X id (rDM X.K g)) (ho : PE X o (tD X.K fo)) (he : PE X e (tD X.K fa))
    (hs : starEach [e] X.env = [(false, eval e X.env)] := by rfl) (hbase : attributeBase o name X.env (eval o X.env) = eval o X.env := by rfl) (hline : (apos.endLine == pos.line) = true := by rfl) :
    PE X (.Call (.Attribute o name apos) [e] [] pos) (tD X.K (fM1 g fo fa)) := PE_weak (pe_m1 slot ty rule ho he hs hbase hline) fun σ H Q h => by
  obtain ⟨H0, env, Hb, d, r, sm, ef, q⟩ := h
  obtain ⟨dd, eo, ef⟩ := bind1 ef
  refine ⟨H0, env, Hb, dd, r, sm, eo, fun v Hb1 H1 s1 iv => ?_⟩
  split at ef
  · simp only [Is] at iv
    subst iv
    obtain ⟨x, ex, eg⟩ := bind1 ef
    exact ⟨⟨_, rfl⟩, H0, env, Hb1, x, r.step s1, s1.c, ex, fun w Hb2 H2 s2 iw => ⟨Hb2, _, w, x, d, s2.c, rfl, rfl, iw, eg, fun v' Hb3 H3 s3 iv' => q v' Hb3 H3 (s1.trans (s2.trans s3)) iv'⟩⟩
  · cases ef
def joinL (sep : List Nat) : List (List Nat) → List Nat
  | [] => []
  | [x] => x
  | x :: rest => x ++ sep ++ joinL sep rest
theorem join_S (sep : List Nat) : ∀ ls : List (List Nat), Str.join (S sep) (ls.map S) = S (joinL sep ls)
  | [] => rfl
  | [x] => rfl
  | x :: y :: r => by
    have ih := join_S sep (y :: r)
    rw [List.map_cons] at ih
    show S x ++ S sep ++ Str.join (S sep) (S y :: r.map S) = S (x ++ sep ++ joinL sep (y :: r))
    rw [ih, S_app, S_app]
def joinD (sep : List Nat) : D → Option D
  | .lst ds => (strsOf ds).bind fun ls => if (ls.map List.length).sum + ls.length * sep.length ≤ 1000000 then some (.str (joinL sep ls)) else none
  | .tup ds => (strsOf ds).bind fun ls => if (ls.map List.length).sum + ls.length * sep.length ≤ 1000000 then some (.str (joinL sep ls)) else none
  | _ => none
theorem sum_S (ls : List (List Nat)) : ((ls.map S).map fun x : Str => x.length) = ls.map List.length := by
  rw [List.map_map]
  apply List.map_congr_left
  intro x _
  exact S_len x
theorem m_join : MtR X "str.join" (rDM X.K joinD) := by
  intro pins s σ H x xs v us Q I rx rs h
  obtain ⟨Hb, l, y, b, d, sm, rfl, rfl, ib, eg, q⟩ := h
  unfold joinD at eg
  split at eg
  · simp only [Is] at ib
    obtain ⟨p, vs, rfl, hx, lx⟩ := ib
    obtain ⟨ls, el, eg⟩ := bind1 eg
    obtain ⟨hsz, rfl⟩ := iteS eg
    have e := strsOf_eq el
    subst e
    have := isl_strs lx
    subst this
    refine mt_join pins s σ H _ _ v us Q I rx rs ⟨_, p, ls.map S, rfl, rfl, .inl (.inl (.inl (sm _ _ hx))), ?_, q _ Hb H (Step.refl sm) ?_⟩
    · rw [sum_S, List.length_map, S_len]
      omega
    · simp only [Is]
      unfold Txt.join
      rw [StrLaws.glued_eq_join, join_S]
  · simp only [Is] at ib
    obtain ⟨p, vs, rfl, hx, lx⟩ := ib
    obtain ⟨ls, el, eg⟩ := bind1 eg
    obtain ⟨hsz, rfl⟩ := iteS eg
    have e := strsOf_eq el
    subst e
    have := isl_strs lx
    subst this
    refine mt_join pins s σ H _ _ v us Q I rx rs ⟨_, p, ls.map S, rfl, rfl, .inr (sq_mono sm hx), ?_, q _ Hb H (Step.refl sm) ?_⟩
    · rw [sum_S, List.length_map, S_len]
      omega
    · simp only [Is]
      unfold Txt.join
      rw [StrLaws.glued_eq_join, join_S]
  · cases eg
theorem e_join (ho : PE X o (tD X.K fo)) (he : PE X e (tD X.K fa)) (hs : starEach [e] X.env = [(false, eval e X.env)] := by rfl) (hbase : attributeBase o "join" X.env (eval o X.env) = eval o X.env := by rfl) (hline : (apos.endLine == pos.line) = true := by rfl) :
    PE X (.Call (.Attribute o "join" apos) [e] [] pos) (tD X.K (fM1 joinD fo fa)) := e_m1 F.slot_str_join F.type_str_join m_join ho he hs hbase hline

/-! ### where a sign stands -/
def spots (l : List Nat) (c : Nat) : List Nat := (List.range l.length).filter fun i => decide (l[i]? = some c)
theorem occ_run (l : List Nat) (c lim : Nat) : ∀ (is : List Nat) (acc : Array Nat) (free : Nat), (∀ i ∈ is, free ≤ i) → is.Pairwise (· < ·) → acc.size + is.length ≤ lim →
    (forIn is (acc, free) (StrLaws.occBody (S l) (S [c]) l.length lim)).run.fst.toList = acc.toList ++ is.filter fun i => decide (l[i]? = some c)
  | [], acc, free, _, _, _ => by simp
  | i :: is, acc, free, hf, hp, hs => by
    rw [List.forIn_cons]
    unfold StrLaws.occBody
    have h1 : free ≤ i := hf i List.mem_cons_self
    have hp' := List.pairwise_cons.mp hp
    rw [List.length_cons] at hs
    have sub := StrLaws.subAt_one (S l) c i
    rw [S_len] at sub
    have esl : (S l).cps.toList = l := by simp [S]
    rw [esl] at sub
    by_cases hc : l[i]? = some c
    · have hb := sub.mpr hc
      rw [if_pos ⟨⟨⟨by show acc.size < lim; omega, h1⟩, hb.1⟩, hb.2⟩]
      show (forIn is (acc.push i, i + 1) (StrLaws.occBody (S l) (S [c]) l.length lim)).run.fst.toList = _
      rw [occ_run l c lim is (acc.push i) (i + 1) (fun j hj => hp'.1 j hj) hp'.2 (by rw [Array.size_push]; omega)]
      rw [List.filter_cons_of_pos (by simpa using hc)]
      simp
    · rw [if_neg fun h => hc (sub.mp ⟨h.1.2, h.2⟩)]
      show (forIn is (acc, free) (StrLaws.occBody (S l) (S [c]) l.length lim)).run.fst.toList = _
      rw [occ_run l c lim is acc free (fun j hj => hf j (List.mem_cons_of_mem _ hj)) hp'.2 (by omega)]
      rw [List.filter_cons_of_neg (by simpa using hc)]
theorem occ_sign (l : List Nat) (c : Nat) : Builtin.Str.occurrences (S l) (S [c]) 0 l.length (l.length + 1) = spots l c := by
  rw [StrLaws.occ_eq, occ_run l c (l.length + 1) _ #[] 0 (fun _ _ => Nat.zero_le _) (List.pairwise_lt_range' ..) (by simp)]
  simp only [Nat.sub_zero, List.nil_append]
  unfold spots
  rw [← List.range_eq_range', List.range_succ, List.filter_append]
  simp
theorem spots_len (c : Nat) : ∀ l : List Nat, (spots l c).length = l.count c
  | [] => rfl
  | x :: xs => by
    unfold spots
    rw [List.length_cons, List.range_succ_eq_map, List.filter_cons, List.filter_map]
    have ih := spots_len c xs
    unfold spots at ih
    have e : ((List.range xs.length).filter ((fun i => decide ((x :: xs)[i]? = some c)) ∘ Nat.succ)) = (List.range xs.length).filter fun i => decide (xs[i]? = some c) := by
      congr 1
    by_cases h : x = c
    · subst h
      simp only [List.getElem?_cons_zero, decide_true, if_true, List.length_cons, List.length_map, e, ih, List.count_cons_self]
    · have : ¬ (some x = some c) := fun q => h (Option.some.inj q)
      simp only [List.getElem?_cons_zero, decide_eq_false this, List.length_map, e, ih]
      rw [List.count_cons_of_ne h]
      simp [List.length_map, e, ih]
def countD (l : List Nat) : D → Option D
  | .str [c] => some (.int (l.count c))
  | _ => none
theorem m_count : MtR X "str.count" (rDM X.K countD) := by
  intro pins s σ H x xs v us Q I rx rs h
  obtain ⟨Hb, l, y, b, d, sm, rfl, rfl, ib, eg, q⟩ := h
  unfold countD at eg
  split at eg
  · simp only [Is] at ib
    subst ib
    cases eg
    refine mt_count pins s σ H _ _ v us Q I rx rs ⟨_, _, rfl, rfl, q _ Hb H (Step.refl sm) ?_⟩
    simp only [Is]
    unfold Txt.count
    rw [S_len, occ_sign, spots_len]
  · cases eg
theorem e_count (ho : PE X o (tD X.K fo)) (he : PE X e (tD X.K fa)) (hs : starEach [e] X.env = [(false, eval e X.env)] := by rfl) (hbase : attributeBase o "count" X.env (eval o X.env) = eval o X.env := by rfl) (hline : (apos.endLine == pos.line) = true := by rfl) :
    PE X (.Call (.Attribute o "count" apos) [e] [] pos) (tD X.K (fM1 countD fo fa)) := e_m1 F.slot_str_count F.type_str_count m_count ho he hs hbase hline

/-! ### s[::k] -/
def stride (l : List Nat) (k : Int) : List Nat := (Txt.sliceBy (S l) none none (k, 0)).cps.toList
def slkD : D → D → Option D
  | .str l, .int k => if l.length ≤ sizeLine ∧ k ≠ 0 then some (.str (stride l k)) else none
  | _, _ => none
theorem e_slk {p3 : Pos} (he : PE X e (tD X.K fa)) (hk : PE X b (tD X.K fb)) (hi : ∀ x t r, letTemporaryGo e (.str x t) r = pure () := by intro _ _ _; with_unfolding_all rfl)
    (hss : ∀ (x : Str) (t : Tok) (n : Addr), subscripted (.Slice none none (some b) p3) false (.str x t) (.ref n) = operate [.ref n, .str x t] (getItem (.str x t) (.ref n)) := by intro _ _ _; with_unfolding_all rfl) :
    PE X (.Subscript e (.Slice none none (some b) p3) pos) (tD X.K (f2 slkD fa fb)) := ⟨fun pins s σ H Q I h => by
  obtain ⟨H0, env, Hb, d, r, sm, ef, q⟩ := h
  obtain ⟨da, db, ea, eb, eg⟩ := bind2 ef
  unfold slkD at eg
  split at eg
  · rename_i l k
    obtain ⟨⟨hl, hk0⟩, rfl⟩ := iteS eg
    refine Subscript_ (thn (he.run pins s σ H _ I ⟨H0, env, Hb, _, r, sm, ea, fun x Hb1 H1 s1 ix => (⟨Hb1, s1, ix⟩ : ∃ Hb1, Step Hb H Hb1 H1 ∧ Is X.K Hb1 (.str l) x)⟩) fun v s1 ⟨x, H1, I1, r1, Hb1, st1, ix⟩ => ?_)
    simp only [Is] at ix
    subst ix
    obtain ⟨t, rfl⟩ := r1
    refine wpAny_Slice (thn (po_none.run pins s1 σ H1 (fun o H2 => o = none ∧ H2 = H1) I1 ⟨rfl, rfl⟩) fun vl s2 ⟨lo, H2, I2, pl, el, e2⟩ => ?_)
    subst el e2
    refine thn (po_none.run pins s2 σ H2 (fun o H3 => o = none ∧ H3 = H2) I2 ⟨rfl, rfl⟩) fun vu s3 ⟨u, H3, I3, pu, eu, e3⟩ => ?_
    subst eu e3
    refine thn ((po_some hk).run pins s3 σ H3 (fun o H4 => o = some k ∧ ∃ Hb4, Step Hb H Hb4 H4) I3 ⟨H0, env, Hb1, .int k, r.step st1, st1.c, eb, fun v' Hb4 H4 s4 iv4 => ⟨k, by simpa only [Is] using iv4, rfl, Hb4, st1.trans s4⟩⟩) fun vs s4 ⟨o, H4, I4, ps, eo, Hb4, st4⟩ => ?_
    subst eo
    have I5 : Inv X pins σ H4 { s4 with heap := s4.heap.push { cls := .type "slice", data := .fields #[vl, vu, vs] } } := I4.kept (t' := s4.toks) fun b ob q => Heap.get?_push_of_some _ q
    cases pl
    cases pu
    cases ps with
    | int _ uk =>
      show wpAny (model X.prog X.w) X.A (subscriptTail e (.Slice none none (some b) p3) (.str (S l) t) (.ref s4.heap.objs.size)) (EP X pins σ Q) X.xe { s4 with heap := s4.heap.push { cls := .type "slice", data := .fields #[.none, .none, .int k uk] } }
      refine tail_of_ItemOn ⟨"str", _, F.slot_str_getitem.lookup, typeIs_str _ _ _, wpAny_getItem_str_slice (l := none) (u := none) (st := some (k, uk)) ⟨_, Heap.get?_push_size _ rfl, rfl, rfl⟩ (by simpa using hk0)
        (post_val_or_str ⟨Nat.le_trans (Txt.sliceBy_le (S l) _ _ (k, uk) (by simpa using hk0)) (by rw [S_len]; exact hl), fun t' c => ?_⟩)⟩ (hss _ _ _) (hi _ _)
      refine ⟨.str _, H4, I5.tok _, ⟨t', rfl⟩, q _ Hb4 H4 st4 ?_⟩
      simp only [Is]
      show V.str (Txt.sliceBy (S l) none none (k, uk)) = V.str ⟨(Txt.sliceBy (S l) none none (k, 0)).cps.toList.toArray⟩
      rfl
  · cases eg⟩
end
end Dn
set_option Elab.async false
set_option linter.all false
set_option maxRecDepth 100000
/-! Part E: defs of the text, and how the functions of slots are reckoned. -/
namespace Dn
open PySem L2 PySem.Spec PyProof.Rows

theorem room65 {k : Nat} {A : Around} (r : Room k A) : A.units + 65 < cLine := by have := r.un; omega
section
variable {P : Program} {w : World} {K : PySem.W.Frag} {mg : Str → Option Value} {base : Heap}
/-- a def stands -/
def Has (K : PySem.W.Frag) (mg : Str → Option Value) (x : Str) (st : Stmt) (ps : List Str) : Prop := ∃ f fd, Fun K x x st f fd ∧ mg x = some (.ref f) ∧ Binds K fd ps []
/-- a def does what sem says -/
def Def (P : Program) (w : World) (K : PySem.W.Frag) (mg : Str → Option Value) (base : Heap) (k : Nat) (x : Str) (ps : List Str) (sem : List D → Option D) : Prop :=
  ∃ f fd, FnOk P w K mg base CX0 k f fd ps (spD K sem) ∧ mg x = some (.ref f) ∧ PySem.W.keepIn K (.ref f) = true ∧ Binds K fd ps []
theorem d_of {x : Str} {st : Stmt} {N ps : List Str} {k : Nat} {F : En → Option Fl} {nice : List D → Option D} (h : Has K mg x st ps) (S : FnScope N ps (defScope st))
    (hb : ∀ (f : Addr) (cdv : Value) (A : Around) (outer : List Env) (s : Shared) (H : Hp) (E : XK), Room k (A.deeper (envOfC x (defScope st) s.heap.objs.size f cdv)) → PSs (cxOf CX0 P w K mg base N x (defScope st) f cdv A outer s H E).nox (defBody st) (tS K F))
    (q : ∀ ds d, nice ds = some d → semOf N.length ps.length F ds = some d) : Def P w K mg base (k + 1) x ps nice := by
  obtain ⟨f, fd, Fu, hm, hb'⟩ := h
  exact ⟨f, fd, fn_nice (fn_d Fu S (hb f)) q, hm, Fu.kp, hb'⟩
theorem l_of {x : Str} {st : Stmt} {N : List Str} {k : Nat} {F : En → Option Fl} {f : Addr} {fd : FuncData} (Fu : Fun K x x st f fd) (S : FnScope N ["script"] (defScope st))
    (hb : ∀ (f : Addr) (cdv : Value) (A : Around) (outer : List Env) (s : Shared) (H : Hp) (E : XK), Room k (A.deeper (envOfC x (defScope st) s.heap.objs.size f cdv)) → PSs (cxOf CX0 P w K mg base N x (defScope st) f cdv A outer s H E).nox (defBody st) (tS K F))
    (q : ∀ ns : List Int, ns.length ≤ 63 → semOf N.length 1 F [.scr ns] = some (.bl true)) : FnOk P w K mg base CX0 (k + 1) f fd ["script"] (spLaw K) :=
  fn_law (fn_d Fu S (hb f)) q
end
section
variable {X : Cx} {e : Expr} {es : List Expr} {pos p : Pos} {fs : En → Option (List D)}
theorem e_def {x : Str} {ps : List Str} {k j : Nat} {sem : List D → Option D} (h : Def X.prog X.w X.K X.mg X.base k x ps sem) (hr : Room j X.A) (ha : PA X (e :: es) (tA X.K fs)) (hkj : k ≤ j := by decide) (hg : Gl X x := by rfl) (hdb : (x == ("__debug__" : Str)) = false := by decide)
    (he : starEach (e :: es) X.env = (false, eval e X.env) :: starEach es X.env := by rfl) (hpl : (backTo pos (starEach es X.env)).any (·.1) = false := by rfl) :
    PE X (.Call (.Name x p) (e :: es) [] pos) (tD X.K (fCall sem fs)) := by
  obtain ⟨f, fd, Fo, hm, hk, hb⟩ := h
  exact e_call Fo (hr.mono hkj) hm hk hb ha hg hdb he hpl
theorem e_gs (l : List Nat) {x y : Str} (hm : ∃ tk, X.mg x = some (.str y tk)) (h : y = S l := by decide +kernel) (hg : Gl X x := by rfl) (hd : (x == ("__debug__" : Str)) = false := by decide) : PE X (.Name x pos) (tD X.K (fC (.str l))) := by
  obtain ⟨tk, hm⟩ := hm
  exact e_gstr l hm h hg hd
theorem e_gi (i : Int) {x : Str} (hm : ∃ tk, X.mg x = some (.int i tk)) (hg : Gl X x := by rfl) (hd : (x == ("__debug__" : Str)) = false := by decide) : PE X (.Name x pos) (tD X.K (fC (.int i))) := by
  obtain ⟨tk, hm⟩ := hm
  exact e_gint i hm hg hd
end

/-! ### reckoning -/
theorem seq_nx {F G : En → Option Fl} {env e : En} (h : F env = some (.nx e)) : fSeq F G env = G e := by
  unfold fSeq
  rw [h]
  rfl
theorem seq_rt {F G : En → Option Fl} {env : En} {d : D} (h : F env = some (.rt d)) : fSeq F G env = some (.rt d) := by
  unfold fSeq
  rw [h]
  rfl
theorem set_of {i : Nat} {f : En → Option D} {env : En} {d : D} (h : f env = some d) : fSet i f env = some (.nx (env.set i (some d))) := by
  unfold fSet
  rw [h]
  rfl
theorem ret_of {f : En → Option D} {env : En} {d : D} (h : f env = some d) : fRet f env = some (.rt d) := by
  unfold fRet
  rw [h]
  rfl
theorem if_t {c : En → Option Bool} {F G : En → Option Fl} {env : En} (h : c env = some true) : fIfS c F G env = F env := by
  unfold fIfS
  rw [h]
  rfl
theorem if_f {c : En → Option Bool} {F G : En → Option Fl} {env : En} (h : c env = some false) : fIfS c F G env = G env := by
  unfold fIfS
  rw [h]
  rfl
/-- a comprehension without a test -/
theorem lc_map {α : Type} {g : D → En → Option En} {f : En → Option D} {env : En} (c : α → D) (h : α → D) : ∀ (xs : List α), (∀ x ∈ xs, ∃ e1, g (c x) env = some e1 ∧ f e1 = some (h x)) → lcF g fYes f env (xs.map c) = some (xs.map h)
  | [], _ => rfl
  | x :: xs, q => by
    obtain ⟨e1, a1, a2⟩ := q x List.mem_cons_self
    have ih := lc_map c h xs fun y hy => q y (List.mem_cons_of_mem _ hy)
    rw [List.map_cons, List.map_cons, lcF, a1]
    simp only [Option.bind_some, fYes, if_true, a2, ih]
theorem lc_filter {α : Type} {g : D → En → Option En} {t : En → Option Bool} {f : En → Option D} {env : En} (c : α → D) (k : α → Bool) (h : α → D) : ∀ (xs : List α), (∀ x ∈ xs, ∃ e1, g (c x) env = some e1 ∧ t e1 = some (k x) ∧ (k x = true → f e1 = some (h x))) → lcF g t f env (xs.map c) = some ((xs.filter k).map h)
  | [], _ => rfl
  | x :: xs, q => by
    obtain ⟨e1, a1, a2, a3⟩ := q x List.mem_cons_self
    have ih := lc_filter c k h xs fun y hy => q y (List.mem_cons_of_mem _ hy)
    rw [List.map_cons, lcF, a1]
    simp only [Option.bind_some, a2]
    cases hk : k x with
    | true =>
      rw [List.filter_cons_of_pos hk, List.map_cons]
      simp only [if_true, a3 hk, Option.bind_some, ih]
    | false =>
      rw [List.filter_cons_of_neg (by rw [hk]; decide)]
      simp only [Bool.false_eq_true, if_false, ih]
theorem lcw {it : En → Option (List D)} {g : D → En → Option En} {t : En → Option Bool} {f : En → Option D} {vs : List Nat} {env : En} {ds r : List D} (h1 : it env = some ds) (h2 : ds.length ≤ 1000000) (h3 : lcF g t f (wipeE env vs) ds = some r) : fLc it g t f vs env = some (.lst r) := by
  unfold fLc
  rw [h1]
  simp only [Option.bind_some, if_pos h2, h3]
/-- a loop that goes through -/
theorem for_inv {α : Type} {g : D → En → Option En} {B : En → Option Fl} (c : α → D) (I : List α → En → Prop) : ∀ (xs pre : List α) (env : En), I pre env → (∀ (p : List α) (x : α) (q : List α) (e : En), pre ++ xs = p ++ x :: q → I p e → ∃ e1 e2, g (c x) e = some e1 ∧ B e1 = some (.nx e2) ∧ I (p ++ [x]) e2) →
    ∃ e', forF g B (xs.map c) env = some (.nx e') ∧ I (pre ++ xs) e'
  | [], pre, env, h, _ => ⟨env, rfl, by rw [List.append_nil]; exact h⟩
  | x :: xs, pre, env, h, q => by
    obtain ⟨e1, e2, a1, a2, a3⟩ := q pre x xs env rfl h
    obtain ⟨e', b1, b2⟩ := for_inv c I xs (pre ++ [x]) e2 a3 fun p y r e hp hi => q p y r e (by rw [← hp]; simp) hi
    refine ⟨e', ?_, by simpa using b2⟩
    rw [List.map_cons, forF, a1]
    simp only [Option.bind_some, a2, b1]
theorem forw {it : En → Option (List D)} {g : D → En → Option En} {B : En → Option Fl} {env : En} {ds : List D} (h : it env = some ds) : fFor it g B env = forF g B ds env := by
  unfold fFor
  rw [h]
  rfl
end Dn
set_option Elab.async false
set_option linter.all false
set_option maxRecDepth 100000
/-! Part F: values, step by step. -/
namespace Dn
open PySem L2

section
variable {env : En} {a b c : D} {fa fb fc fo : En → Option D} {fs : En → Option (List D)} {ds : List D}
theorem v_c : fC a env = some a := rfl
theorem v_var {i : Nat} (h : env[i]? = some (some a)) (ho : a.isOwn = false) : fV i env = some a := by
  unfold fV
  rw [h]
  simp only [ho, Bool.false_eq_true, if_false]
theorem v_2 {g : D → D → Option D} (h1 : fa env = some a) (h2 : fb env = some b) (h3 : g a b = some c) : f2 g fa fb env = some c := by
  unfold f2
  rw [h1, h2]
  exact h3
theorem v_1 {g : D → Option D} (h1 : fa env = some a) (h3 : g a = some c) : f1 g fa env = some c := by
  unfold f1
  rw [h1]
  exact h3
theorem v_nil : fNil env = some [] := rfl
theorem v_cons (h1 : fa env = some a) (h2 : fs env = some ds) : fCons fa fs env = some (a :: ds) := by
  unfold fCons
  rw [h1, h2]
  rfl
theorem v_call {sem : List D → Option D} (h1 : fs env = some ds) (h2 : sem ds = some c) : fCall sem fs env = some c := by
  unfold fCall
  rw [h1]
  exact h2
theorem v_blt {sem : List D → Option D} (h1 : fs env = some ds) (h2 : sem ds = some c) : fBlt sem fs env = some c := by
  unfold fBlt
  rw [h1]
  exact h2
theorem v_tup (h1 : fs env = some ds) (h2 : ds.length ≤ sizeLine) : fTup fs env = some (.tup ds) := by
  unfold fTup
  rw [h1]
  simp only [Option.bind_some, if_pos h2]
theorem v_lst (h1 : fs env = some ds) (h2 : ds.length ≤ sizeLine) : fLst fs env = some (.lst ds) := by
  unfold fLst
  rw [h1]
  simp only [Option.bind_some, if_pos h2]
theorem v_sl {fl fh : En → Option (Option Int)} {lo hi : Option Int} (h1 : fa env = some a) (h2 : fl env = some lo) (h3 : fh env = some hi) (h4 : slD a lo hi = some c) : fSl fa fl fh env = some c := by
  unfold fSl
  rw [h1, h2, h3]
  exact h4
theorem v_no : fNo env = some none := rfl
theorem v_po {i : Int} (h : fa env = some (.int i)) : fPo fa env = some (some i) := by
  unfold fPo
  rw [h]
  rfl
theorem v_m1 {g : List Nat → D → Option D} {l : List Nat} (h1 : fo env = some (.str l)) (h2 : fa env = some a) (h3 : g l a = some c) : fM1 g fo fa env = some c := by
  unfold fM1
  rw [h1]
  simp only [Option.bind_some, h2, h3]
theorem v_b {k : Bool} (h : fa env = some (.bl k)) : fB fa env = some k := by
  unfold fB
  rw [h]
  rfl
theorem v_andt {ga gb : En → Option Bool} {k : Bool} (h1 : ga env = some true) (h2 : gb env = some k) : fAnd ga gb env = some k := by
  unfold fAnd
  rw [h1]
  simp only [Option.bind_some, if_true, h2]
theorem v_andf {ga gb : En → Option Bool} (h1 : ga env = some false) : fAnd ga gb env = some false := by
  unfold fAnd
  rw [h1]
  rfl
theorem v_ort {ga gb : En → Option Bool} (h1 : ga env = some true) : fOr ga gb env = some true := by
  unfold fOr
  rw [h1]
  rfl
theorem v_orf {ga gb : En → Option Bool} {k : Bool} (h1 : ga env = some false) (h2 : gb env = some k) : fOr ga gb env = some k := by
  unfold fOr
  rw [h1]
  simp only [Option.bind_some, Bool.false_eq_true, if_false, h2]
theorem v_not {ga : En → Option Bool} {k : Bool} (h1 : ga env = some k) : fNot ga env = some (!k) := by
  unfold fNot
  rw [h1]
  rfl
theorem v_andVt (h1 : fa env = some (.bl true)) (h2 : fb env = some c) : fAndV fa fb env = some c := by
  unfold fAndV
  rw [h1]
  simp only [Option.bind_some, asB, if_true, h2]
theorem v_andVf (h1 : fa env = some (.bl false)) : fAndV fa fb env = some (.bl false) := by
  unfold fAndV
  rw [h1]
  rfl
theorem v_orVt (h1 : fa env = some (.bl true)) : fOrV fa fb env = some (.bl true) := by
  unfold fOrV
  rw [h1]
  rfl
theorem v_orVf (h1 : fa env = some (.bl false)) (h2 : fb env = some c) : fOrV fa fb env = some c := by
  unfold fOrV
  rw [h1]
  simp only [Option.bind_some, asB, Bool.false_eq_true, if_false, h2]
theorem v_notV {k : Bool} (h1 : fa env = some (.bl k)) : fNotV fa env = some (.bl (!k)) := by
  unfold fNotV
  rw [h1]
  rfl
theorem v_it (h : fa env = some (.tup ds)) : fIt fa env = some ds := by
  unfold fIt
  rw [h]
  rfl
theorem v_itl (h : fa env = some (.lst ds)) : fIt fa env = some ds := by
  unfold fIt
  rw [h]
  rfl
theorem v_its {l : List Nat} (h : fa env = some (.str l)) : fIt fa env = some (l.map fun x => .str [x]) := by
  unfold fIt
  rw [h]
  rfl
theorem v_rng1 {n : Int} (h : fs env = some [.int n]) (h2 : -1000000 ≤ n ∧ n ≤ 1000000) : fRng1 fs env = some ((List.range n.toNat).map fun i => .int (i : Nat)) := by
  unfold fRng1
  rw [h]
  simp only [Option.bind_some, rangeD, Int.sub_zero, Int.zero_add]
  rw [if_pos (by omega)]
theorem v_rng2 {m n : Int} (h : fs env = some [.int m, .int n]) (h2 : -1000000 ≤ n ∧ n ≤ 1000000 ∧ -1000000 ≤ m ∧ m ≤ 1000000) : fRng2 fs env = some ((List.range (n - m).toNat).map fun i => .int (m + (i : Nat))) := by
  unfold fRng2
  rw [h]
  simp only [Option.bind_some, rangeD]
  rw [if_pos (by omega)]
end
/-! operations -/
theorem add_i (i j : Int) : addD (.int i) (.int j) = some (.int (i + j)) := rfl
theorem sub_i (i j : Int) : subD (.int i) (.int j) = some (.int (i - j)) := rfl
theorem mul_i {i j : Int} (h : (-(2 ^ 64) < i ∧ i < 2 ^ 64) ∨ (-(2 ^ 64) < j ∧ j < 2 ^ 64)) : mulD (.int i) (.int j) = some (.int (i * j)) := if_pos h
theorem fdiv_i {i j : Int} (h : 0 < j ∧ j < 1073741824) : fdivD (.int i) (.int j) = some (.int (i / j)) := if_pos h
theorem mod_i {i j : Int} (h : 0 < j) : modD (.int i) (.int j) = some (.int (i % j)) := if_pos h
theorem neg_i (i : Int) : negD (.int i) = some (.int (-i)) := rfl
theorem lt_i (i j : Int) : ltD (.int i) (.int j) = some (.bl (decide (i < j))) := rfl
theorem le_i (i j : Int) : leD (.int i) (.int j) = some (.bl (decide (i ≤ j))) := rfl
theorem gt_i (i j : Int) : gtD (.int i) (.int j) = some (.bl (decide (j < i))) := rfl
theorem ge_i (i j : Int) : geD (.int i) (.int j) = some (.bl (decide (j ≤ i))) := rfl
theorem eqv_i (i j : Int) : eqv (.int i) (.int j) = decide (i = j) := by
  unfold eqv
  simp only [toP, PyData.eqv]
  by_cases h : i = j
  · subst h; simp
  · simp [h]
theorem S_inj {a b : List Nat} (h : S a = S b) : a = b := SX.S_inj h
theorem eqv_s (i j : List Nat) : eqv (.str i) (.str j) = decide (i = j) := by
  unfold eqv
  simp only [toP, PyData.eqv]
  by_cases h : i = j
  · subst h; simp
  · rw [decide_eq_false h]
    rw [beq_eq_false_iff_ne]
    exact fun q => h (S_inj q)
theorem eqv_b (i j : Bool) : eqv (.bl i) (.bl j) = decide (i = j) := by
  unfold eqv
  simp only [toP, PyData.eqv]
  cases i <;> cases j <;> rfl
theorem eqv_refl (d : D) : eqv d d = true := PySem.SeqAt.eqv_refl_plain (toP d) (plain_toP d)
theorem eq_i (i j : Int) : eqD (.int i) (.int j) = some (.bl (decide (i = j))) := by
  unfold eqD
  rw [if_pos ⟨rfl, rfl⟩, eqv_i]
theorem ne_i (i j : Int) : neD (.int i) (.int j) = some (.bl (!decide (i = j))) := by
  unfold neD
  rw [if_pos ⟨rfl, rfl⟩, eqv_i]
theorem eq_s (i j : List Nat) : eqD (.str i) (.str j) = some (.bl (decide (i = j))) := by
  unfold eqD
  rw [if_pos ⟨rfl, rfl⟩, eqv_s]
theorem ne_s (i j : List Nat) : neD (.str i) (.str j) = some (.bl (!decide (i = j))) := by
  unfold neD
  rw [if_pos ⟨rfl, rfl⟩, eqv_s]
theorem eq_same {d : D} (h : okN 60 d = true) : eqD d d = some (.bl true) := by
  unfold eqD
  rw [if_pos ⟨h, h⟩, eqv_refl]
theorem ne_same {d : D} (h : okN 60 d = true) : neD d d = some (.bl false) := by
  unfold neD
  rw [if_pos ⟨h, h⟩, eqv_refl]
  rfl
theorem add_s {x y : List Nat} (h : x.length + y.length ≤ 1000000) : addD (.str x) (.str y) = some (.str (x ++ y)) := if_pos (Nat.le_trans h size1000)
theorem add_t {x y : List D} (h : x.length + y.length ≤ 1000000) : addD (.tup x) (.tup y) = some (.tup (x ++ y)) := if_pos (Nat.le_trans h size1000)
theorem add_l {x y : List D} (h : x.length + y.length ≤ 1000000) : addD (.lst x) (.lst y) = some (.lst (x ++ y)) := if_pos (Nat.le_trans h size1000)
theorem mul_s {x : List Nat} {n : Int} (h : x.length ≤ 1000 ∧ -1000 ≤ n ∧ n ≤ 1000) : mulD (.str x) (.int n) = some (.str (reps x n.toNat)) := if_pos h
theorem mul_l {x : List D} {n : Int} (h : x.length ≤ 1000 ∧ -1000 ≤ n ∧ n ≤ 1000) : mulD (.lst x) (.int n) = some (.lst (reps x n.toNat)) := if_pos h
theorem len_s {x : List Nat} (h : x.length ≤ 1000000) : lenG [.str x] = some (.int x.length) := if_pos (Nat.le_trans h size1000)
theorem len_t (x : List D) : lenG [.tup x] = some (.int x.length) := rfl
theorem len_l (x : List D) : lenG [.lst x] = some (.int x.length) := rfl
theorem len_c (x : List Int) : lenG [.scr x] = some (.int x.length) := rfl
theorem int_b (k : Bool) : intG [.bl k] = some (.int (if k then 1 else 0)) := rfl
theorem int_i (k : Int) : intG [.int k] = some (.int k) := rfl
theorem abs_i (k : Int) : absG [.int k] = some (.int (if k < 0 then -k else k)) := rfl
theorem atI_n {α : Type} {xs : List α} {i : Int} (h0 : 0 ≤ i) (h1 : i < xs.length) : atI xs i = xs[i.toNat]? := by
  unfold atI ixN
  rw [if_pos h0, if_pos h1]
  rfl
theorem ix_t {xs : List D} {i : Int} {d : D} (h0 : 0 ≤ i) (h : xs[i.toNat]? = some d) : ixD (.tup xs) (.int i) = some d := by
  show atI xs i = some d
  have := (List.getElem?_eq_some_iff.mp h).1
  rw [atI_n h0 (by omega)]
  exact h
theorem ix_l {xs : List D} {i : Int} {d : D} (h0 : 0 ≤ i) (h : xs[i.toNat]? = some d) : ixD (.lst xs) (.int i) = some d := by
  show atI xs i = some d
  have := (List.getElem?_eq_some_iff.mp h).1
  rw [atI_n h0 (by omega)]
  exact h
theorem ix_s {xs : List Nat} {i : Int} {d : Nat} (hl : xs.length ≤ 1000000) (h0 : 0 ≤ i) (h : xs[i.toNat]? = some d) : ixD (.str xs) (.int i) = some (.str [d]) := by
  show (if xs.length ≤ sizeLine then (atI xs i).bind _ else none) = _
  have := (List.getElem?_eq_some_iff.mp h).1
  rw [if_pos (Nat.le_trans hl size1000), atI_n h0 (by omega), h]
  rfl
theorem cut_from {α : Type} (xs : List α) (n : Nat) : cut xs (some (n : Int)) none = xs.drop n := by
  unfold cut
  rw [HT.sIx_nat, HT.sIx_none]
  by_cases h : n ≤ xs.length
  · rw [Nat.min_eq_left h, List.take_of_length_le (by rw [List.length_drop]; omega)]
  · rw [Nat.min_eq_right (by omega), List.drop_length, List.drop_of_length_le (by omega)]
    simp
theorem cut_to {α : Type} (xs : List α) (n : Nat) : cut xs none (some (n : Int)) = xs.take n := by
  unfold cut
  rw [HT.sIx_nat, HT.sIx_none, List.drop_zero, Nat.sub_zero]
  by_cases h : n ≤ xs.length
  · rw [Nat.min_eq_left h]
  · rw [Nat.min_eq_right (by omega), List.take_length, List.take_of_length_le (by omega)]
theorem sl_s {x : List Nat} {lo hi : Option Int} (h : x.length ≤ 1000000) : slD (.str x) lo hi = some (.str (cut x lo hi)) := if_pos (Nat.le_trans h size1000)
theorem sl_t (x : List D) (lo hi : Option Int) : slD (.tup x) lo hi = some (.tup (cut x lo hi)) := rfl
theorem sl_l (x : List D) (lo hi : Option Int) : slD (.lst x) lo hi = some (.lst (cut x lo hi)) := rfl
theorem join_l {sep : List Nat} {ls : List (List Nat)} (h : (ls.map List.length).sum + ls.length * sep.length ≤ 1000000) : joinD sep (.lst (ls.map D.str)) = some (.str (joinL sep ls)) := by
  show (strsOf (ls.map D.str)).bind _ = _
  rw [strsOf_map]
  exact if_pos h
theorem joinL_nil (ls : List (List Nat)) : joinL [] ls = ls.flatten := by
  induction ls with
  | nil => rfl
  | cons x xs ih =>
    cases xs with
    | nil => simp [joinL]
    | cons y ys =>
      show x ++ [] ++ joinL [] (y :: ys) = _
      rw [ih, List.append_nil]
      simp
theorem min_s {x : List Nat} {xs : List (List Nat)} : minG [.lst ((x :: xs).map D.str)] = some (.str (minOf ltS x xs)) := by
  unfold minG
  simp only [strsOf_map]
theorem max_i {x : Int} {xs : List Int} : maxG [.lst ((x :: xs).map D.int)] = some (.int (maxOf ltI x xs)) := by
  unfold maxG
  simp only [intsOf_map]
theorem all_b (bs : List Bool) : allG [.lst (bs.map D.bl)] = some (.bl (bs.all id)) := by
  show (blsOf (bs.map D.bl)).bind _ = _
  rw [blsOf_map]
  rfl
theorem flat_one : ∀ (l : List Nat), (l.map fun c => [c]).flatten = l
  | [] => rfl
  | c :: l => by rw [List.map_cons, List.flatten_cons, flat_one l]; rfl

/-! statements -/
section
variable {env e e' : En} {F G : En → Option Fl} {fl : Fl} {f : En → Option D} {d : D}
theorem w_seq (h1 : F env = some (.nx e)) (h2 : G e = some fl) : fSeq F G env = some fl := (seq_nx h1).trans h2
theorem w_ret (h1 : F env = some (.rt d)) : fSeq F G env = some (.rt d) := seq_rt h1
theorem w_set {i : Nat} (h : f env = some d) (he : env.set i (some d) = e) : fSet i f env = some (.nx e) := by
  rw [set_of h, he]
theorem w_ift {c : En → Option Bool} (h : c env = some true) (h2 : F env = some fl) : fIfS c F G env = some fl := (if_t h).trans h2
theorem w_iff {c : En → Option Bool} (h : c env = some false) (h2 : G env = some fl) : fIfS c F G env = some fl := (if_f h).trans h2
theorem w_pass : fPass env = some (.nx env) := rfl
theorem w_for {it : En → Option (List D)} {g : D → En → Option En} {ds : List D} (h : it env = some ds) (h2 : forF g F ds env = some fl) : fFor it g F env = some fl := (forw h).trans h2
theorem w_forn {g : D → En → Option En} : forF g F [] env = some (.nx env) := rfl
theorem w_forc {g : D → En → Option En} {x : D} {ds : List D} (h1 : g x env = some e) (h2 : F e = some (.nx e')) (h3 : forF g F ds e' = some fl) : forF g F (x :: ds) env = some fl := by
  rw [forF, h1]
  simp only [Option.bind_some, h2, h3]
theorem w_forr {g : D → En → Option En} {x d : D} {ds : List D} (h1 : g x env = some e) (h2 : F e = some (.rt d)) : forF g F (x :: ds) env = some (.rt d) := by
  rw [forF, h1]
  simp only [Option.bind_some, h2]
theorem sem_rt {n m : Nat} {ds : List D} (hl : ds.length = m) (h : F (startE n ds) = some (.rt d)) : semOf n m F ds = some d := by
  unfold semOf
  rw [if_pos hl, h]
  rfl
theorem sem_nx {n m : Nat} {ds : List D} (hl : ds.length = m) (h : F (startE n ds) = some (.nx e)) : semOf n m F ds = some .non := by
  unfold semOf
  rw [if_pos hl, h]
  rfl
end
end Dn
set_option Elab.async false
set_option linter.all false
set_option maxRecDepth 100000
/-! The law's own numbers. -/
namespace Dn
open PySem L2
local macro_rules | `(tactic| walk_at "dg") => `(tactic| first
  | with_reducible exact add_i _ _ | with_reducible exact sub_i _ _ | ((with_reducible refine mul_i ?_); omega) | ((with_reducible refine fdiv_i ?_); omega) | ((with_reducible refine mod_i ?_); omega) | with_reducible exact neg_i _
  | with_reducible exact lt_i _ _ | with_reducible exact le_i _ _ | with_reducible exact gt_i _ _ | with_reducible exact ge_i _ _ | with_reducible exact eq_i _ _ | with_reducible exact ne_i _ _ | with_reducible exact eq_s _ _ | with_reducible exact ne_s _ _
  | ((with_reducible refine add_s ?_); omega) | ((with_reducible refine add_t ?_); omega) | ((with_reducible refine add_l ?_); omega) | ((with_reducible refine mul_s ?_); omega) | ((with_reducible refine mul_l ?_); omega)
  | ((with_reducible refine len_s ?_); omega) | with_reducible exact len_t _ | with_reducible exact len_l _ | with_reducible exact len_c _ | with_reducible exact int_b _ | with_reducible exact int_i _ | with_reducible exact abs_i _
  | ((with_reducible refine sl_s ?_); omega) | with_reducible exact sl_t _ _ _ | with_reducible exact sl_l _ _ _ | ((with_reducible apply ix_t); (· omega); (· rfl)) | ((with_reducible apply ix_l); (· omega); (· rfl)) | with_reducible assumption)
local macro_rules | `(tactic| walk_at "dc") => `(tactic| with_reducible assumption)
local macro_rules | `(tactic| walk_at "dn") => `(tactic| first
  | with_reducible exact v_c | with_reducible exact v_nil | with_reducible exact v_no
  | ((with_reducible apply v_var); (· rfl); (· rfl))
  | ((with_reducible apply v_2); (· walk_at "dn"); (· walk_at "dn"); (· walk_at "dg"))
  | ((with_reducible apply v_1); (· walk_at "dn"); (· walk_at "dg"))
  | ((with_reducible apply v_cons); (· walk_at "dn"); (· walk_at "dn"))
  | ((with_reducible apply v_blt); (· walk_at "dn"); (· walk_at "dg"))
  | ((with_reducible apply v_call); (· walk_at "dn"); (· walk_at "dc"))
  | ((with_reducible apply v_tup); (· walk_at "dn"); (· first | decide | (simp only [List.length_cons, List.length_nil]; decide)))
  | ((with_reducible apply v_lst); (· walk_at "dn"); (· first | decide | (simp only [List.length_cons, List.length_nil]; decide)))
  | ((with_reducible apply v_po); (· walk_at "dn"))
  | ((with_reducible apply v_sl); (· walk_at "dn"); (· walk_at "dn"); (· walk_at "dn"); (· walk_at "dg"))
  | ((with_reducible apply v_m1); (· walk_at "dn"); (· walk_at "dn"); (· walk_at "dg"))
  | ((with_reducible apply v_b); (· walk_at "dn"))
  | ((with_reducible apply v_not); (· walk_at "dn"))
  | ((with_reducible apply v_notV); (· walk_at "dn"))
  | ((with_reducible apply v_rng1); (· walk_at "dn"); (· omega))
  | ((with_reducible apply v_rng2); (· walk_at "dn"); (· omega))
  | ((with_reducible apply v_it); (· walk_at "dn"))
  | ((with_reducible apply v_itl); (· walk_at "dn"))
  | ((with_reducible apply v_its); (· walk_at "dn"))
  | with_reducible assumption)
local macro_rules | `(tactic| walk_at "dt") => `(tactic| first
  | with_reducible exact v_c | with_reducible exact v_nil | with_reducible exact v_no
  | ((with_reducible apply v_var); (· rfl); (· rfl))
  | ((with_reducible apply v_2) <;> walk_at "dt")
  | ((with_reducible apply v_1) <;> walk_at "dt")
  | ((with_reducible apply v_cons) <;> walk_at "dt")
  | ((with_reducible apply v_blt) <;> walk_at "dt")
  | ((with_reducible apply v_call) <;> walk_at "dt")
  | ((with_reducible apply v_tup) <;> walk_at "dt")
  | ((with_reducible apply v_lst) <;> walk_at "dt")
  | ((with_reducible apply v_po) <;> walk_at "dt")
  | ((with_reducible apply v_sl) <;> walk_at "dt")
  | ((with_reducible apply v_m1) <;> walk_at "dt")
  | ((with_reducible apply v_b) <;> walk_at "dt")
  | ((with_reducible apply v_notV) <;> walk_at "dt")
  | ((with_reducible apply v_not) <;> walk_at "dt")
  | ((with_reducible apply v_rng1) <;> first | omega | walk_at "dt")
  | ((with_reducible apply v_rng2) <;> first | omega | walk_at "dt")
  | walk_at "dg"
  | (show List.length _ ≤ sizeLine; first | decide | (simp only [List.length_cons, List.length_nil]; decide))
  | skip)
local macro_rules | `(tactic| walk_at "ds") => `(tactic| first
  | ((with_reducible apply w_ss) <;> first | walk_at "d1" | skip)
  | ((with_reducible apply w_r) <;> first | walk_at "d1" | skip)
  | ((with_reducible apply w_sp) <;> first | walk_at "d1" | skip)
  | ((with_reducible apply w_so) <;> first | walk_at "d1" | skip)
  | (with_reducible apply w_sv)
  | (with_reducible apply w_sq))
local macro_rules | `(tactic| walk_at "dx") => `(tactic| simp only [put, jn, List.set_cons_zero, List.set_cons_succ])
noncomputable def m__law_cell_at : En → Option Fl :=
  (fSeq (fIfS (fB (f2 ltD (fV 1) (fBlt lenG (fCons (fV 0) fNil))))
    (fRet (f2 ixD (fV 0) (fV 1)))
    fPass)
  (fRet (fC (.int 0))))
noncomputable def n__law_cell_at : List D → Option D := semOf 2 2 m__law_cell_at
noncomputable def m__law_mixed : En → Option Fl :=
  (fSeq (fSet 2 (f2 modD (f2 mulD (f2 addD (f2 addD (fCall n__law_cell_at (fCons (fV 0) (fCons (fV 1) fNil))) (f2 mulD (fC (.int 7919)) (fV 1))) (fC (.int 1))) (fC (.int 48271))) (fC (.int 2147483647))))
  (fRet (f2 modD (f2 addD (f2 addD (f2 mulD (fV 2) (fV 2)) (f2 mulD (fC (.int 7)) (fV 2))) (fV 1)) (fC (.int 2147483629)))))
noncomputable def n__law_mixed : List D → Option D := semOf 3 2 m__law_mixed
noncomputable def m__law_drawn : En → Option Fl :=
  (fSeq (fSet 2 (f2 modD (f2 mulD (f2 addD (f2 addD (fV 0) (f2 mulD (fC (.int 104729)) (fV 1))) (fC (.int 17))) (fC (.int 69621))) (fC (.int 2147483647))))
  (fRet (f2 modD (f2 addD (f2 addD (f2 mulD (fV 2) (fV 2)) (f2 mulD (fC (.int 3)) (fV 2))) (fV 1)) (fC (.int 2147483629)))))
noncomputable def n__law_drawn : List D → Option D := semOf 3 2 m__law_drawn
theorem cell_ok (ns : List Int) (k : Int) (hk : 0 ≤ k) : ∃ c, n__law_cell_at [.scr ns, .int k] = some (.int c) := by
  by_cases h : k < (ns.length : Int)
  · have hn : k.toNat < ns.length := by omega
    have hx : ixD (.scr ns) (.int k) = some (.int ns[k.toNat]) := by
      show (atI ns k).bind _ = _
      rw [atI_n hk h, List.getElem?_eq_getElem hn]
      rfl
    refine ⟨ns[k.toNat], sem_rt rfl ?_⟩
    show m__law_cell_at [some (.scr ns), some (.int k)] = _
    unfold m__law_cell_at
    refine w_ret (w_ift ?_ (ret_of (by walk_at "dn")))
    refine v_b ?_
    rw [← decide_eq_true h]
    walk_at "dn"
  · refine ⟨0, sem_rt rfl ?_⟩
    show m__law_cell_at [some (.scr ns), some (.int k)] = _
    unfold m__law_cell_at
    refine w_seq (w_iff ?_ w_pass) (ret_of (by walk_at "dn"))
    refine v_b ?_
    rw [← decide_eq_false h]
    walk_at "dn"
theorem mixed_ok (ns : List Int) (k : Int) (hk : 0 ≤ k) (hk2 : k ≤ 1000) : ∃ m, 0 ≤ m ∧ m < 2147483629 ∧ n__law_mixed [.scr ns, .int k] = some (.int m) := by
  obtain ⟨c, hc⟩ := cell_ok ns k hk
  generalize hd : (c + 7919 * k + 1) * 48271 % 2147483647 = d
  have d0 : 0 ≤ d ∧ d < 2147483647 := by omega
  refine ⟨(d * d + 7 * d + k) % 2147483629, by omega, by omega, sem_rt rfl ?_⟩
  show m__law_mixed [some (.scr ns), some (.int k), none] = _
  unfold m__law_mixed
  refine w_seq (w_set (d := .int d) (by rw [← hd]; walk_at "dn") rfl) (ret_of ?_)
  walk_at "dn"
theorem drawn_ok (n k : Int) (hk : 0 ≤ k ∧ k ≤ 1000) : ∃ m, 0 ≤ m ∧ m < 2147483629 ∧ n__law_drawn [.int n, .int k] = some (.int m) := by
  generalize hd : (n + 104729 * k + 17) * 69621 % 2147483647 = d
  have d0 : 0 ≤ d ∧ d < 2147483647 := by omega
  refine ⟨(d * d + 3 * d + k) % 2147483629, by omega, by omega, sem_rt rfl ?_⟩
  show m__law_drawn [some (.int n), some (.int k), none] = _
  unfold m__law_drawn
  refine w_seq (w_set (d := .int d) (by rw [← hd]; walk_at "dn") rfl) (ret_of ?_)
  walk_at "dn"
end Dn
set_option Elab.async false
set_option linter.all false
set_option maxRecDepth 100000
/-! Rows: spread, turned, least_turn, are_turns. -/
namespace Dn
open PySem L2
local macro_rules | `(tactic| walk_at "dg") => `(tactic| first
  | with_reducible exact add_i _ _ | with_reducible exact sub_i _ _ | ((with_reducible refine mul_i ?_); omega) | ((with_reducible refine fdiv_i ?_); omega) | ((with_reducible refine mod_i ?_); omega) | with_reducible exact neg_i _
  | with_reducible exact lt_i _ _ | with_reducible exact le_i _ _ | with_reducible exact gt_i _ _ | with_reducible exact ge_i _ _ | with_reducible exact eq_i _ _ | with_reducible exact ne_i _ _ | with_reducible exact eq_s _ _ | with_reducible exact ne_s _ _
  | ((with_reducible refine add_s ?_); omega) | ((with_reducible refine add_t ?_); omega) | ((with_reducible refine add_l ?_); omega) | ((with_reducible refine mul_s ?_); omega) | ((with_reducible refine mul_l ?_); omega)
  | ((with_reducible refine len_s ?_); omega) | with_reducible exact len_t _ | with_reducible exact len_l _ | with_reducible exact len_c _ | with_reducible exact int_b _ | with_reducible exact int_i _ | with_reducible exact abs_i _
  | ((with_reducible refine sl_s ?_); omega) | with_reducible exact sl_t _ _ _ | with_reducible exact sl_l _ _ _ | ((with_reducible apply ix_t); (· omega); (· rfl)) | ((with_reducible apply ix_l); (· omega); (· rfl)) | with_reducible assumption)
local macro_rules | `(tactic| walk_at "dc") => `(tactic| with_reducible assumption)
local macro_rules | `(tactic| walk_at "dn") => `(tactic| first
  | with_reducible exact v_c | with_reducible exact v_nil | with_reducible exact v_no
  | ((with_reducible apply v_var); (· rfl); (· rfl))
  | ((with_reducible apply v_2); (· walk_at "dn"); (· walk_at "dn"); (· walk_at "dg"))
  | ((with_reducible apply v_1); (· walk_at "dn"); (· walk_at "dg"))
  | ((with_reducible apply v_cons); (· walk_at "dn"); (· walk_at "dn"))
  | ((with_reducible apply v_blt); (· walk_at "dn"); (· walk_at "dg"))
  | ((with_reducible apply v_call); (· walk_at "dn"); (· walk_at "dc"))
  | ((with_reducible apply v_tup); (· walk_at "dn"); (· first | decide | (simp only [List.length_cons, List.length_nil]; decide)))
  | ((with_reducible apply v_lst); (· walk_at "dn"); (· first | decide | (simp only [List.length_cons, List.length_nil]; decide)))
  | ((with_reducible apply v_po); (· walk_at "dn"))
  | ((with_reducible apply v_sl); (· walk_at "dn"); (· walk_at "dn"); (· walk_at "dn"); (· walk_at "dg"))
  | ((with_reducible apply v_m1); (· walk_at "dn"); (· walk_at "dn"); (· walk_at "dg"))
  | ((with_reducible apply v_b); (· walk_at "dn"))
  | ((with_reducible apply v_not); (· walk_at "dn"))
  | ((with_reducible apply v_notV); (· walk_at "dn"))
  | ((with_reducible apply v_rng1); (· walk_at "dn"); (· omega))
  | ((with_reducible apply v_rng2); (· walk_at "dn"); (· omega))
  | ((with_reducible apply v_it); (· walk_at "dn"))
  | ((with_reducible apply v_itl); (· walk_at "dn"))
  | ((with_reducible apply v_its); (· walk_at "dn"))
  | with_reducible assumption)
local macro_rules | `(tactic| walk_at "dt") => `(tactic| first
  | with_reducible exact v_c | with_reducible exact v_nil | with_reducible exact v_no
  | ((with_reducible apply v_var); (· rfl); (· rfl))
  | ((with_reducible apply v_2) <;> walk_at "dt")
  | ((with_reducible apply v_1) <;> walk_at "dt")
  | ((with_reducible apply v_cons) <;> walk_at "dt")
  | ((with_reducible apply v_blt) <;> walk_at "dt")
  | ((with_reducible apply v_call) <;> walk_at "dt")
  | ((with_reducible apply v_tup) <;> walk_at "dt")
  | ((with_reducible apply v_lst) <;> walk_at "dt")
  | ((with_reducible apply v_po) <;> walk_at "dt")
  | ((with_reducible apply v_sl) <;> walk_at "dt")
  | ((with_reducible apply v_m1) <;> walk_at "dt")
  | ((with_reducible apply v_b) <;> walk_at "dt")
  | ((with_reducible apply v_notV) <;> walk_at "dt")
  | ((with_reducible apply v_not) <;> walk_at "dt")
  | ((with_reducible apply v_rng1) <;> first | omega | walk_at "dt")
  | ((with_reducible apply v_rng2) <;> first | omega | walk_at "dt")
  | walk_at "dg"
  | (show List.length _ ≤ sizeLine; first | decide | (simp only [List.length_cons, List.length_nil]; decide))
  | skip)
local macro_rules | `(tactic| walk_at "ds") => `(tactic| first
  | ((with_reducible apply w_ss) <;> first | walk_at "d1" | skip)
  | ((with_reducible apply w_r) <;> first | walk_at "d1" | skip)
  | ((with_reducible apply w_sp) <;> first | walk_at "d1" | skip)
  | ((with_reducible apply w_so) <;> first | walk_at "d1" | skip)
  | (with_reducible apply w_sv)
  | (with_reducible apply w_sq))
local macro_rules | `(tactic| walk_at "dx") => `(tactic| simp only [put, jn, List.set_cons_zero, List.set_cons_succ])
noncomputable def m_spread : En → Option Fl :=
  (fSeq (fSet 2 (fLc (fRng1 (fCons (fV 0) fNil)) (gN 3) fYes (f2 fdivD (f2 mulD (fV 3) (fV 1)) (fV 0)) [3]))
  (fRet (fM1 joinD (fC (.str [])) (fLc (fRng1 (fCons (fV 1) fNil)) (gN 4) fYes (f2 ixD (fLst (fCons (fC (.str [46])) (fCons (fC (.str [120])) fNil))) (fBlt intG (fCons (f2 inD (fV 4) (fV 2)) fNil))) [4]))))
noncomputable def n_spread : List D → Option D := semOf 5 2 m_spread
noncomputable def m_turned : En → Option Fl :=
  (fSeq (fSet 2 (f2 modD (f2 subD (fC (.int 0)) (fV 1)) (fBlt lenG (fCons (fV 0) fNil))))
  (fRet (f2 addD (fSl (fV 0) (fPo (fV 2)) fNo) (fSl (fV 0) fNo (fPo (fV 2))))))
noncomputable def n_turned : List D → Option D := semOf 3 2 m_turned
noncomputable def m_least_turn : En → Option Fl :=
  (fRet (fBlt minG (fCons (fLc (fRng1 (fCons (fBlt lenG (fCons (fV 0) fNil)) fNil)) (gN 1) fYes (fCall n_turned (fCons (fV 0) (fCons (fV 1) fNil))) [1]) fNil)))
noncomputable def n_least_turn : List D → Option D := semOf 2 1 m_least_turn
noncomputable def m_are_turns : En → Option Fl :=
  (fRet (fAndV (f2 eqD (fBlt lenG (fCons (fV 0) fNil)) (fBlt lenG (fCons (fV 1) fNil))) (f2 eqD (fCall n_least_turn (fCons (fV 0) fNil)) (fCall n_least_turn (fCons (fV 1) fNil)))))
noncomputable def n_are_turns : List D → Option D := semOf 2 2 m_are_turns
theorem in_li (i : Int) (ns : List Int) : inD (.int i) (.lst (ns.map D.int)) = some (.bl (ns.any fun n => decide (n = i))) := by
  unfold inD inB
  have h1 : ok60 (.int i) = true := rfl
  have h2 : ((ns.map D.int).all fun d => okN 60 d) = true := by
    rw [List.all_eq_true]
    intro x hx
    obtain ⟨n, _, rfl⟩ := List.mem_map.mp hx
    rfl
  have h3 : ((ns.map D.int).any fun d => eqv d (.int i)) = ns.any fun n => decide (n = i) := by
    rw [List.any_map]
    exact congrArg (fun f => ns.any f) (funext fun n => eqv_i n i)
  simp only [h1, h2, and_self, if_true, Option.bind_some, h3]
def spreadL (m s : Nat) : List Nat := (List.range s).map fun i => if ((List.range m).any fun k => decide (k * s / m = i)) then 120 else 46
theorem sum_ones {α : Type} (f : α → List Nat) (h : ∀ x, (f x).length = 1) : ∀ xs : List α, ((xs.map f).map List.length).sum = xs.length
  | [] => rfl
  | x :: xs => by rw [List.map_cons, List.map_cons, List.sum_cons, h x, sum_ones f h xs, List.length_cons, Nat.add_comm]
theorem flat_ones {α : Type} (f : α → Nat) : ∀ xs : List α, (xs.map fun x => [f x]).flatten = xs.map f
  | [] => rfl
  | x :: xs => by rw [List.map_cons, List.flatten_cons, flat_ones f xs]; rfl
theorem e_spread {m s : Nat} (hm : m ≤ 1000) (hs : s ≤ 1000) : n_spread [.int m, .int s] = some (.str (spreadL m s)) := by
  refine sem_rt rfl ?_
  show m_spread [some (.int m), some (.int s), none, none, none] = _
  unfold m_spread
  have h1 : fLc (fRng1 (fCons (fV 0) fNil)) (gN 3) fYes (f2 fdivD (f2 mulD (fV 3) (fV 1)) (fV 0)) [3] [some (.int m), some (.int s), none, none, none] = some (.lst (((List.range m).map fun k => ((k * s / m : Nat) : Int)).map D.int)) := by
    refine lcw (v_rng1 (by walk_at "dn") (by omega)) (by simp; omega) ?_
    rw [List.map_map]
    refine lc_map (fun i : Nat => .int (i : Nat)) _ _ fun k hk => ⟨_, rfl, ?_⟩
    have hk := List.mem_range.mp hk
    have e : (((k * s / m : Nat) : Nat) : Int) = (k : Int) * (s : Int) / (m : Int) := by simp
    show _ = some (D.int ((k * s / m : Nat) : Int))
    rw [e]
    show f2 fdivD (f2 mulD (fV 3) (fV 1)) (fV 0) [some (.int m), some (.int s), none, some (.int (k : Nat)), none] = _
    walk_at "dn"
  refine w_seq (w_set h1 rfl) (ret_of ?_)
  generalize hp : ((List.range m).map fun k => ((k * s / m : Nat) : Int)) = ps
  have h2 : fLc (fRng1 (fCons (fV 1) fNil)) (gN 4) fYes (f2 ixD (fLst (fCons (fC (.str [46])) (fCons (fC (.str [120])) fNil))) (fBlt intG (fCons (f2 inD (fV 4) (fV 2)) fNil))) [4] [some (.int m), some (.int s), some (.lst (ps.map D.int)), none, none] = some (.lst (((List.range s).map fun i : Nat => [if (ps.any fun n => decide (n = (i : Int))) then 120 else 46]).map D.str)) := by
    refine lcw (v_rng1 (by walk_at "dn") (by omega)) (by simp; omega) ?_
    rw [List.map_map]
    refine lc_map (fun i : Nat => .int (i : Nat)) _ _ fun k hk => ⟨_, rfl, ?_⟩
    show f2 ixD (fLst (fCons (fC (.str [46])) (fCons (fC (.str [120])) fNil))) (fBlt intG (fCons (f2 inD (fV 4) (fV 2)) fNil)) [some (.int m), some (.int s), some (.lst (ps.map D.int)), none, some (.int (k : Nat))] = some (D.str [if (ps.any fun n => decide (n = (k : Int))) then 120 else 46])
    have hi := in_li (k : Int) ps
    refine v_2 (by walk_at "dn") (v_blt (v_cons (v_2 (by walk_at "dn") (by walk_at "dn") hi) v_nil) (int_b _)) ?_
    cases (ps.any fun n => decide (n = (k : Int))) <;> rfl
  refine v_m1 v_c h2 ?_
  rw [join_l]
  · rw [joinL_nil, flat_ones]
    refine congrArg (fun l => some (D.str l)) ?_
    unfold spreadL
    apply List.map_congr_left
    intro i _
    have e3 : (ps.any fun n => decide (n = (i : Int))) = (List.range m).any fun k => decide (k * s / m = i) := by
      rw [← hp, List.any_map]
      exact congrArg (fun f => (List.range m).any f) (funext fun k => decide_eq_decide.mpr ⟨fun q => Int.ofNat.inj q, fun q => congrArg Int.ofNat q⟩)
    rw [e3]
  · rw [sum_ones _ fun _ => rfl]
    simp
    omega
def rotL (row : List Nat) (by' : Int) : List Nat := row.drop ((0 - by') % row.length).toNat ++ row.take ((0 - by') % row.length).toNat
theorem e_turned {row : List Nat} {by' : Int} (h : 0 < row.length) (h2 : row.length ≤ 100000) : n_turned [.str row, .int by'] = some (.str (rotL row by')) := by
  refine sem_rt rfl ?_
  show m_turned [some (.str row), some (.int by'), none] = _
  unfold m_turned
  refine w_seq (w_set (by walk_at "dn") rfl) ?_
  refine ret_of ?_
  obtain ⟨n, hn, hn2⟩ : ∃ n : Nat, (n : Int) = (0 - by') % row.length ∧ n < row.length := by
    have := Int.emod_nonneg (0 - by') (show (row.length : Int) ≠ 0 by omega)
    have := Int.emod_lt_of_pos (0 - by') (show (0 : Int) < (row.length : Int) by omega)
    exact ⟨((0 - by') % row.length).toNat, by omega, by omega⟩
  unfold rotL
  rw [← hn]
  have e1 : slD (.str row) (some (n : Int)) none = some (.str (row.drop n)) := by rw [sl_s (by omega), cut_from]
  have e2 : slD (.str row) none (some (n : Int)) = some (.str (row.take n)) := by rw [sl_s (by omega), cut_to]
  refine v_2 (v_sl (by walk_at "dn") (by walk_at "dn") v_no e1) (v_sl (by walk_at "dn") v_no (by walk_at "dn") e2) (add_s ?_)
  rw [List.length_drop, List.length_take]
  omega
def turnsL (row : List Nat) : List (List Nat) := (List.range row.length).map fun k => rotL row (k : Nat)
def leastL (row : List Nat) : List Nat := match turnsL row with
  | [] => []
  | x :: xs => minOf ltS x xs
theorem turnsL_ne {row : List Nat} (h : 0 < row.length) : ∃ x xs, turnsL row = x :: xs ∧ leastL row = minOf ltS x xs := by
  cases e : turnsL row with
  | nil =>
    have := congrArg List.length e
    unfold turnsL at this
    simp at this
    rw [this] at h
    simp at h
  | cons x xs => exact ⟨x, xs, rfl, by unfold leastL; rw [e]⟩
theorem e_least {row : List Nat} (h : 0 < row.length) (h2 : row.length ≤ 1000) : n_least_turn [.str row] = some (.str (leastL row)) := by
  refine sem_rt rfl ?_
  show m_least_turn [some (.str row), none] = _
  unfold m_least_turn
  refine ret_of ?_
  obtain ⟨x, xs, e1, e2⟩ := turnsL_ne h
  have h1 : fLc (fRng1 (fCons (fBlt lenG (fCons (fV 0) fNil)) fNil)) (gN 1) fYes (fCall n_turned (fCons (fV 0) (fCons (fV 1) fNil))) [1] [some (.str row), none] = some (.lst ((turnsL row).map D.str)) := by
    refine lcw (v_rng1 (by walk_at "dn") (by omega)) (by simp; omega) ?_
    unfold turnsL
    rw [List.map_map]
    refine lc_map (fun i : Nat => .int (i : Nat)) _ _ fun k hk => ⟨_, rfl, ?_⟩
    show fCall n_turned (fCons (fV 0) (fCons (fV 1) fNil)) [some (.str row), some (.int (k : Nat))] = some (D.str (rotL row (k : Nat)))
    exact v_call (by walk_at "dn") (e_turned h (by omega))
  rw [e2]
  rw [e1] at h1
  exact v_blt (v_cons h1 v_nil) min_s
theorem e_are {one other : List Nat} (h : 0 < one.length) (h2 : one.length ≤ 1000) (h3 : 0 < other.length) (h4 : other.length ≤ 1000) : n_are_turns [.str one, .str other] = some (.bl (decide (one.length = other.length) && decide (leastL one = leastL other))) := by
  refine sem_rt rfl ?_
  show m_are_turns [some (.str one), some (.str other)] = _
  unfold m_are_turns
  refine ret_of ?_
  by_cases hl : one.length = other.length
  · rw [decide_eq_true hl, Bool.true_and]
    refine v_andVt ?_ (v_2 (v_call (by walk_at "dn") (e_least h h2)) (v_call (by walk_at "dn") (e_least h3 h4)) (eq_s _ _))
    have : (true : Bool) = decide ((one.length : Int) = (other.length : Int)) := (decide_eq_true (by omega)).symm
    rw [this]
    walk_at "dn"
  · rw [decide_eq_false hl, Bool.false_and]
    refine v_andVf ?_
    have : (false : Bool) = decide ((one.length : Int) = (other.length : Int)) := (decide_eq_false (by omega)).symm
    rw [this]
    walk_at "dn"
end Dn
set_option Elab.async false
set_option linter.all false
set_option maxRecDepth 100000
/-! Part G: zip and enumerate over lists, tuples, texts. -/
namespace Dn
open PySem L2 PySem.Spec PyProof.Rows

/-- a thing that is walked -/
inductive Sr where
  | l (a : Addr) (xs : List V) | t (a : Addr) (xs : List V) | s (z : Str) (u : Tok)
def Sr.cond (K : PySem.W.Frag) (H : Hp) : Sr → Prop
  | .l a xs => SqL K H a xs
  | .t a xs => SqT K H a xs
  | .s _ _ => True
def Sr.vals : Sr → List V
  | .l _ xs => xs
  | .t _ xs => xs
  | .s z _ => z.cps.toList.map fun c => V.str ⟨#[c]⟩
def Sr.at (it : Addr) (i : Nat) (h : Heap) : Sr → Prop
  | .l a _ => h.IsListIter it a i
  | .t a _ => h.IsTupleIter it a i
  | .s z u => h.IsStrIter it (strIterType z) z u i
def Sr.val : Sr → Value → Prop
  | .l a _, v => v = .ref a
  | .t a _, v => v = .ref a
  | .s z u, v => v = .str z u
def Sr.ob : Sr → Obj
  | .l a _ => { cls := .type "list_iterator", data := .fields #[.ref a, .int 0 0] }
  | .t a _ => { cls := .type "tuple_iterator", data := .fields #[.ref a, .int 0 0] }
  | .s z u => { cls := .type (strIterType z), data := .fields #[.str z u, .int 0 0] }
theorem Sr.is_obj {it : Addr} {i : Nat} {h : Heap} : ∀ {r : Sr}, r.at it i h → ∃ o, h.get? it = some o ∧ ∀ v, o.data ≠ .cell v
  | .l a xs, ⟨o, ho, _, hd⟩ => ⟨o, ho, fun v q => by rw [hd] at q; cases q⟩
  | .t a xs, ⟨o, ho, _, hd⟩ => ⟨o, ho, fun v q => by rw [hd] at q; cases q⟩
  | .s z u, ⟨o, ho, _, hd⟩ => ⟨o, ho, fun v q => by rw [hd] at q; cases q⟩
theorem Sr.stay {it : Addr} {i : Nat} {h h' : Heap} (k : ∀ o, h.get? it = some o → h'.get? it = some o) : ∀ {r : Sr}, r.at it i h → r.at it i h'
  | .l a xs, ⟨o, ho, q⟩ => ⟨o, k o ho, q⟩
  | .t a xs, ⟨o, ho, q⟩ => ⟨o, k o ho, q⟩
  | .s z u, ⟨o, ho, q⟩ => ⟨o, k o ho, q⟩
theorem Sr.at0 {it : Addr} {h : Heap} : ∀ {r : Sr}, h.get? it = some r.ob → r.at it 0 h
  | .l a xs, e => ⟨_, e, rfl, rfl⟩
  | .t a xs, e => ⟨_, e, rfl, rfl⟩
  | .s z u, e => ⟨_, e, rfl, rfl⟩
section
variable {X : Cx} {pins : List (Addr × Obj)} {σ : L2.St} {H : Hp} {s : Shared}
theorem sqT_ne (I : Inv X pins σ H s) {a : Addr} {xs : List V} (h : SqT X.K H a xs) {b : Addr} (f : FpOk X pins H b) : a ≠ b := fun e => by
  subst e
  rcases h with (h | ⟨o, h⟩) | ⟨o, its, n, hk, _⟩
  · rw [f.1] at h; cases h
  · rw [f.1] at h; cases h
  · have hb := I.ok.mod.kin _ _ hk
    rcases f.2.2.2.1 with z | z
    · exact I.ok.noex _ _ hb z
    · exact absurd (Nat.lt_of_lt_of_le (Heap.lt_size hb) (Nat.le_trans I.ok.bsz z)) (Nat.lt_irrefl _)
theorem sqL_ne (I : Inv X pins σ H s) {a : Addr} {xs : List V} (h : SqL X.K H a xs) {b : Addr} (f : FpOk X pins H b) : a ≠ b := fun e => by
  subst e
  rcases h with (h | ⟨o, h⟩) | ⟨o, its, n, hk, _⟩
  · rw [f.1] at h; cases h
  · rw [f.1] at h; cases h
  · have hb := I.ok.mod.kin _ _ hk
    rcases f.2.2.2.1 with z | z
    · exact I.ok.noex _ _ hb z
    · exact absurd (Nat.lt_of_lt_of_le (Heap.lt_size hb) (Nat.le_trans I.ok.bsz z)) (Nat.lt_irrefl _)
/-- what its iterator draws, as things stand -/
theorem Sr.draws (I : Inv X pins σ H s) (hc : X.calm = true) (r : Sr) (c : r.cond X.K H) {it : Addr} (f : FpOk X pins H it) :
    ∃ (fp : List Addr) (Pr : Nat → Value → Prop) (hr : Heap → Prop), Draws X.prog X.w X.A.in1 it (it :: fp) r.vals.length Pr (fun i h => r.at it i h ∧ hr h) ∧ hr s.heap ∧ (∀ j v, Pr j v → ∃ x, r.vals[j]? = some x ∧ RelV x v) ∧ ∀ b ∈ fp, ∀ e, FpOk X pins H e → b ≠ e := by
  cases r with
  | l a xs =>
    obtain ⟨its, rv, p, _⟩ := I.list c
    refine ⟨[a], _, _, by have := Draws.list (prog := X.prog) (w := X.w) (A := X.A.in1) (I.ok.hd hc) it a (sqL_ne I c f) its.toArray; rw [List.size_toArray, ← rv.length] at this; exact this, p.isList, fun j v e => ?_, fun b hb e fe => ?_⟩
    · have e : its[j]? = some v := by simpa using e
      have hj := (List.getElem?_eq_some_iff.mp e).1
      have hl := rv.length
      obtain ⟨u, h1, h2⟩ := rv.get (List.getElem?_eq_getElem (show j < xs.length by omega))
      rw [e] at h1
      cases h1
      exact ⟨_, List.getElem?_eq_getElem (by show j < xs.length; omega), h2⟩
    · have : b = a := by simpa using hb
      subst this
      exact sqL_ne I c fe
  | t a xs =>
    obtain ⟨its, rv, p, _⟩ := I.tuple c
    refine ⟨[a], _, _, by have := Draws.tuple (prog := X.prog) (w := X.w) (A := X.A.in1) (I.ok.hd hc) it a (sqT_ne I c f) its.toArray; rw [List.size_toArray, ← rv.length] at this; exact this, p, fun j v e => ?_, fun b hb e fe => ?_⟩
    · have e : its[j]? = some v := by simpa using e
      have hj := (List.getElem?_eq_some_iff.mp e).1
      have hl := rv.length
      obtain ⟨u, h1, h2⟩ := rv.get (List.getElem?_eq_getElem (show j < xs.length by omega))
      rw [e] at h1
      cases h1
      exact ⟨_, List.getElem?_eq_getElem (by show j < xs.length; omega), h2⟩
    · have : b = a := by simpa using hb
      subst this
      exact sqT_ne I c fe
  | s z u =>
    have D := Draws.text (prog := X.prog) (w := X.w) (A := X.A.in1) (I.ok.hd hc) it z u
    have len_s : ∀ {h : Heap}, Sr.at it (Sr.s z u).vals.length h (Sr.s z u) → h.IsStrIter it (strIterType z) z u z.cps.size := fun {h} y => by
      have e : (Sr.s z u).vals.length = z.cps.size := by simp [Sr.vals]
      rw [e] at y
      exact y
    refine ⟨[], _, fun _ => True, ⟨fun i h st => D.live i h st.1, fun i h h' st k => ⟨D.frame i h h' st.1 k, trivial⟩, fun i s Q E hi st q => D.item i s Q E (by simpa [Sr.vals] using hi) st.1 fun x h' tk a1 a2 a3 => q x h' tk a1 ⟨a2, trivial⟩ a3, fun s Q E st q => D.done s Q E (len_s st.1) q⟩, trivial, fun j v e => ?_, fun b hb => by cases hb⟩
    obtain ⟨c, u', e1, rfl⟩ := e
    refine ⟨.str ⟨#[c]⟩, ?_, ⟨u', rfl⟩⟩
    show (z.cps.toList.map _)[j]? = _
    rw [List.getElem?_map]
    have : z.cps.toList[j]? = some c := by simpa using e1
    rw [this]
    rfl
theorem Sr.begins (I : Inv X pins σ H s) : ∀ (r : Sr) (c : r.cond X.K H) {v : Value}, r.val v → ∃ hr : Heap → Prop, Begins v r.ob hr ∧ hr s.heap
  | .l a xs, c, v, e => by
    obtain ⟨its, rv, p, _⟩ := I.list c
    cases e
    exact ⟨_, begins_list a its.toArray, p.isList⟩
  | .t a xs, c, v, e => by
    obtain ⟨its, rv, p, _⟩ := I.tuple c
    cases e
    exact ⟨_, begins_tuple a its.toArray, p⟩
  | .s z u, c, v, e => by
    cases e
    exact ⟨_, begins_text z u, trivial⟩
end
/-- new tuples, one a turn -/
def itJ (n : Nat) (rows : Nat → List V) (cond : Hp → Prop) : It :=
  ⟨fun i H => i < n ∧ cond H, fun i H v H' => ∃ T, v = .ref T ∧ H T = none ∧ H' = upd H T (.tup (rows i)), fun i H => i = n ∧ cond H⟩
theorem turn_j {P : Program} {w : World} {K : PySem.W.Frag} {elts : List Expr} {k : Nat} {pos : Pos} {n : Nat} {rows : Nat → List V} {cond : Hp → Prop} {fpT : List Addr} {I0 : Addr} {tn : Nat → Heap → Prop} (mem : I0 ∈ fpT)
    (obj : ∀ i h, tn i h → ∀ b ∈ fpT, ∃ o, h.get? b = some o ∧ ∀ v, o.data ≠ .cell v) (keep : ∀ i h h', tn i h → (∀ b ∈ fpT, ∀ o, h.get? b = some o → h'.get? b = some o) → tn i h') (hsz : ∀ i, (rows i).length ≤ sizeLine)
    (W : ∀ (X : Cx) (pins : List (Addr × Obj)) (σ : L2.St) (H : Hp) (s : Shared), X.prog = P → X.w = w → X.K = K → X.calm = true → Inv X pins σ H s → (∀ b ∈ fpT, FpOk X pins H b) → cond H → ∀ i, tn i s.heap →
      ∃ fp wr Y St, GoesN P w X.A (.Tuple elts k pos) I0 fp wr n Y St ∧ St i s.heap ∧ (∀ b ∈ wr, b ∈ fpT) ∧ (∀ j h, St j h → tn j h) ∧ ∀ j h0 v h, j < n → Y j h0 v h → ∃ T vals, v = .ref T ∧ h0.objs.size ≤ T ∧ h.IsTuple T vals ∧ Vals (rows j) vals.toList)
    (self : ∀ (A : Around) (i : Nat) (s : Shared) (Q : Value → Shared → Prop) (E : Value → Shared → Prop), tn i s.heap → Q (.ref I0) s → wpAny (model P w) A (pyIter (.ref I0)) Q E s) :
    Turn P w K (.Tuple elts k pos) (itJ n rows cond) fpT I0 tn where
  mem := mem
  obj := obj
  keep := keep
  self := self
  item := by
    intro X hP hw hK hc i pins s σ H E I hf st hg
    obtain ⟨hi, hcd⟩ := hg
    obtain ⟨fp, wr, Y, St, G, s0, hwr, hst, hY⟩ := W X pins σ H s hP hw hK hc I hf hcd i st
    subst hP hw hK
    have old : ∀ b ∈ fpT, b < s.heap.objs.size := fun b hb => by
      obtain ⟨o, e, _⟩ := obj i s.heap st b hb
      exact Heap.lt_size e
    have g := G.goes i s (fun v s2 => ∃ x H', Inv X pins σ H' s2 ∧ RelV x v ∧ (itJ n rows cond).yld i H x H' ∧ tn (i + 1) s2.heap ∧ ∀ b ∈ fpT, H' b = none) E hi s0 fun v h' tk hy st' hk htk => by
      obtain ⟨T, vals, rfl, hT, hIs, hV⟩ := hY i s.heap v h' hi hy
      have I1 : Inv X pins σ (upd H T (.tup (rows i))) { s with heap := h', toks := tk } :=
        I.turnedNew (ch := fpT) (fun b o hb q => hk b o (fun z => hb (hwr b z)) q) hf hT ⟨hsz i, vals.toList, hV, by rw [show vals.toList.toArray = vals by simp]; exact hIs⟩
      refine ⟨.ref T, _, I1, rfl, ⟨T, rfl, I.hok.fresh hT, rfl⟩, hst _ _ st', fun b hb => ?_⟩
      rw [upd_ne (Nat.ne_of_lt (Nat.lt_of_lt_of_le (old b hb) hT))]
      exact (hf b hb).1
    exact g
  done := by
    intro X hP hw hK hc i pins s σ H E I hf st hg
    obtain ⟨hi, hcd⟩ := hg
    obtain ⟨fp, wr, Y, St, G, s0, hwr, hst, hY⟩ := W X pins σ H s hP hw hK hc I hf hcd i st
    subst hP hw hK
    subst hi
    exact G.stops s (fun s1 => Inv X pins σ H s1) E s0 fun h' tk hk _ => I.turnedL (ch := fpT) (fun b o hb q => hk b o (fun z => hb (hwr b z)) q) hf
theorem walk_j {K : PySem.W.Frag} {n : Nat} {rows : Nat → List V} {cond : Hp → Prop} {ds : List D} {Hb : Hp} (hn : ds.length = n) (hc : ∀ H, Same Hb H → cond H) (hr : ∀ (i : Nat) (d : D), ds[i]? = some d → ∃ es, d = .tup es ∧ IsL K Hb es (rows i)) : WalkD K (itJ n rows cond) ds Hb := fun Hb1 H1 s1 s2 => by
  refine ⟨fun i d e => ⟨⟨by have := (List.getElem?_eq_some_iff.mp e).1; omega, hc H1 (s1.trans s2)⟩, fun x H' hy => ?_⟩, ⟨hn, hc H1 (s1.trans s2)⟩⟩
  obtain ⟨T, rfl, hT, rfl⟩ := hy
  obtain ⟨es, rfl, il⟩ := hr i d e
  exact ⟨_, Step.new s2 hT, is_tup_new (s2.free hT) (il.mono s1)⟩

/-! ### zip of two -/
def pairs2 (xs ys : List V) (i : Nat) : List V := [xs.getD i .non, ys.getD i .non]
theorem turn_z2 {P : Program} {w : World} {K : PySem.W.Frag} {elts : List Expr} {k : Nat} {pos : Pos} (r1 r2 : Sr) (z TI TO i1 i2 : Addr) (hd : [z, TI, TO, i1, i2].Nodup) :
    Turn P w K (.Tuple elts k pos) (itJ (min r1.vals.length r2.vals.length) (pairs2 r1.vals r2.vals) fun H => r1.cond K H ∧ r2.cond K H) [z, TI, TO, i1, i2] z
      (fun i h => IsZip h z TI TO .none ∧ IsTupOf2 h TI (.ref i1) (.ref i2) ∧ (∃ a1 a2, IsTupOf2 h TO a1 a2) ∧ r1.at i1 i h ∧ r2.at i2 i h) := by
  refine turn_j (by simp) (fun i h st b hb => ?_) (fun i h h' st k => ?_) (fun i => by show 2 ≤ sizeLine; decide) (fun X pins σ H s hP hw hK hc I hf hcd i st => ?_) fun A i s Q E st q => wpAny_pyIter_zip st.1 q
  · obtain ⟨hz, hTI, ⟨x, y, hTO⟩, h1, h2⟩ := st
    have e' : b = z ∨ b = TI ∨ b = TO ∨ b = i1 ∨ b = i2 := by simpa using hb
    rcases e' with rfl | rfl | rfl | rfl | rfl
    · exact ⟨_, hz, fun v q => nomatch q⟩
    · exact ⟨_, hTI, fun v q => nomatch q⟩
    · exact ⟨_, hTO, fun v q => nomatch q⟩
    · exact Sr.is_obj h1
    · exact Sr.is_obj h2
  · obtain ⟨hz, hTI, ⟨x, y, hTO⟩, h1, h2⟩ := st
    exact ⟨k z (by simp) _ hz, k TI (by simp) _ hTI, ⟨x, y, k TO (by simp) _ hTO⟩, Sr.stay (k i1 (by simp)) h1, Sr.stay (k i2 (by simp)) h2⟩
  · obtain ⟨hz, hTI, hTO, h1, h2⟩ := st
    subst hP hw hK
    obtain ⟨fp1, P1, q1, D1, v1, e1, n1⟩ := r1.draws I hc hcd.1 (hf i1 (by simp))
    obtain ⟨fp2, P2, q2, D2, v2, e2, n2⟩ := r2.draws I hc hcd.2 (hf i2 (by simp))
    have no1 : ∀ b ∈ [z, TI, TO, i1, i2], b ∉ fp1 := fun b hb m => n1 b m b (hf b hb) rfl
    have no2 : ∀ b ∈ [z, TI, TO, i1, i2], b ∉ fp2 := fun b hb m => n2 b m b (hf b hb) rfl
    simp only [List.nodup_cons, List.mem_cons, List.not_mem_nil, or_false, not_or, List.nodup_nil, and_true, not_false_eq_true] at hd
    obtain ⟨⟨a1, a2, a3, a4⟩, ⟨b1, b2, b3⟩, ⟨c1, c2⟩, d1⟩ := hd
    have S2 : ZipSep2 z TI TO i1 i2 (i1 :: fp1) (i2 :: fp2) := ⟨fun q => a1 q.symm, fun q => a2 q.symm, b1, b2, List.mem_cons_self, by simp only [List.mem_cons, not_or]; exact ⟨a3, no1 z (by simp)⟩, by simp only [List.mem_cons, not_or]; exact ⟨c1, no1 TO (by simp)⟩, b3, List.mem_cons_self,
      by simp only [List.mem_cons, not_or]; exact ⟨a4, no2 z (by simp)⟩, by simp only [List.mem_cons, not_or]; exact ⟨c2, no2 TO (by simp)⟩, by simp only [List.mem_cons, not_or]; exact ⟨d1, no2 i1 (by simp)⟩, by simp only [List.mem_cons, not_or]; exact ⟨fun q => d1 q.symm, no1 i2 (by simp)⟩⟩
    refine ⟨_, _, _, _, GoesN.zip2 S2 D1 D2, ⟨hz, hTI, hTO, ⟨h1, v1⟩, ⟨h2, v2⟩⟩, fun b hb => ?_, fun j h st => ⟨st.1, st.2.1, st.2.2.1, st.2.2.2.1.1, st.2.2.2.2.1⟩, fun j h0 v h hj hy => ?_⟩
    · have e' : b = z ∨ b = TO ∨ b = i1 ∨ b = i2 := by simpa using hb
      rcases e' with rfl | rfl | rfl | rfl <;> simp
    · obtain ⟨T, x, y, ev, hT, p1, p2, hIs⟩ := hy
      obtain ⟨x', g1, g2⟩ := e1 j x p1
      obtain ⟨y', g3, g4⟩ := e2 j y p2
      refine ⟨T, _, ev, hT, hIs, ?_⟩
      show Vals [r1.vals.getD j .non, r2.vals.getD j .non] [x, y]
      rw [List.getD_eq_getElem?_getD, List.getD_eq_getElem?_getD, g1, g3]
      exact .cons g2 (.cons g4 .nil)
theorem turn_z3 {P : Program} {w : World} {K : PySem.W.Frag} {elts : List Expr} {k : Nat} {pos : Pos} (r1 r2 r3 : Sr) (z TI TO i1 i2 i3 : Addr) (hd : [z, TI, TO, i1, i2, i3].Nodup) :
    Turn P w K (.Tuple elts k pos) (itJ (min (min r1.vals.length r2.vals.length) r3.vals.length) (fun i => [r1.vals.getD i .non, r2.vals.getD i .non, r3.vals.getD i .non]) fun H => r1.cond K H ∧ r2.cond K H ∧ r3.cond K H) [z, TI, TO, i1, i2, i3] z
      (fun i h => IsZip h z TI TO .none ∧ IsTupOf3 h TI (.ref i1) (.ref i2) (.ref i3) ∧ (∃ a1 a2 a3, IsTupOf3 h TO a1 a2 a3) ∧ r1.at i1 i h ∧ r2.at i2 i h ∧ r3.at i3 i h) := by
  refine turn_j (by simp) (fun i h st b hb => ?_) (fun i h h' st k => ?_) (fun i => by show 3 ≤ sizeLine; decide) (fun X pins σ H s hP hw hK hc I hf hcd i st => ?_) fun A i s Q E st q => wpAny_pyIter_zip st.1 q
  · obtain ⟨hz, hTI, ⟨x, y, u, hTO⟩, h1, h2, h3⟩ := st
    have e' : b = z ∨ b = TI ∨ b = TO ∨ b = i1 ∨ b = i2 ∨ b = i3 := by simpa using hb
    rcases e' with rfl | rfl | rfl | rfl | rfl | rfl
    · exact ⟨_, hz, fun v q => nomatch q⟩
    · exact ⟨_, hTI, fun v q => nomatch q⟩
    · exact ⟨_, hTO, fun v q => nomatch q⟩
    · exact Sr.is_obj h1
    · exact Sr.is_obj h2
    · exact Sr.is_obj h3
  · obtain ⟨hz, hTI, ⟨x, y, u, hTO⟩, h1, h2, h3⟩ := st
    exact ⟨k z (by simp) _ hz, k TI (by simp) _ hTI, ⟨x, y, u, k TO (by simp) _ hTO⟩, Sr.stay (k i1 (by simp)) h1, Sr.stay (k i2 (by simp)) h2, Sr.stay (k i3 (by simp)) h3⟩
  · obtain ⟨hz, hTI, hTO, h1, h2, h3⟩ := st
    subst hP hw hK
    obtain ⟨fp1, P1, q1, D1, v1, e1, n1⟩ := r1.draws I hc hcd.1 (hf i1 (by simp))
    obtain ⟨fp2, P2, q2, D2, v2, e2, n2⟩ := r2.draws I hc hcd.2.1 (hf i2 (by simp))
    obtain ⟨fp3, P3, q3, D3, v3, e3, n3⟩ := r3.draws I hc hcd.2.2 (hf i3 (by simp))
    have no1 : ∀ b ∈ [z, TI, TO, i1, i2, i3], b ∉ fp1 := fun b hb m => n1 b m b (hf b hb) rfl
    have no2 : ∀ b ∈ [z, TI, TO, i1, i2, i3], b ∉ fp2 := fun b hb m => n2 b m b (hf b hb) rfl
    have no3 : ∀ b ∈ [z, TI, TO, i1, i2, i3], b ∉ fp3 := fun b hb m => n3 b m b (hf b hb) rfl
    simp only [List.nodup_cons, List.mem_cons, List.not_mem_nil, or_false, not_or, List.nodup_nil, and_true, not_false_eq_true] at hd
    obtain ⟨⟨a1, a2, a3, a4, a5⟩, ⟨b1, b2, b3, b4⟩, ⟨c1, c2, c3⟩, ⟨d1, d2⟩, f1⟩ := hd
    have mk : ∀ {b i : Addr} {fp : List Addr}, b ≠ i → b ∉ fp → b ∉ i :: fp := fun h1 h2 => by simp only [List.mem_cons, not_or]; exact ⟨h1, h2⟩
    have S3 : ZipSep3 z TI TO i1 i2 i3 (i1 :: fp1) (i2 :: fp2) (i3 :: fp3) :=
      { TIz := fun q => a1 q.symm, TOz := fun q => a2 q.symm, TITO := b1, TIi1 := b2, mem1 := List.mem_cons_self, zf1 := mk a3 (no1 z (by simp)), Tf1 := mk c1 (no1 TO (by simp)), TIi2 := b3, mem2 := List.mem_cons_self, zf2 := mk a4 (no2 z (by simp)), Tf2 := mk c2 (no2 TO (by simp)),
        TIi3 := b4, mem3 := List.mem_cons_self, zf3 := mk a5 (no3 z (by simp)), Tf3 := mk c3 (no3 TO (by simp)), sep1_2 := mk d1 (no2 i1 (by simp)), sep1_3 := mk d2 (no3 i1 (by simp)), sep2_1 := mk (fun q => d1 q.symm) (no1 i2 (by simp)), sep2_3 := mk f1 (no3 i2 (by simp)),
        sep3_1 := mk (fun q => d2 q.symm) (no1 i3 (by simp)), sep3_2 := mk (fun q => f1 q.symm) (no2 i3 (by simp)) }
    refine ⟨_, _, _, _, GoesN.zip3 S3 D1 D2 D3, ⟨hz, hTI, hTO, ⟨h1, v1⟩, ⟨h2, v2⟩, ⟨h3, v3⟩⟩, fun b hb => ?_, fun j h st => ⟨st.1, st.2.1, st.2.2.1, st.2.2.2.1.1, st.2.2.2.2.1.1, st.2.2.2.2.2.1⟩, fun j h0 v h hj hy => ?_⟩
    · have e' : b = z ∨ b = TO ∨ b = i1 ∨ b = i2 ∨ b = i3 := by simpa using hb
      rcases e' with rfl | rfl | rfl | rfl | rfl <;> simp
    · obtain ⟨T, x, y, u, ev, hT, p1, p2, p3, hIs⟩ := hy
      obtain ⟨x', g1, g2⟩ := e1 j x p1
      obtain ⟨y', g3, g4⟩ := e2 j y p2
      obtain ⟨u', g5, g6⟩ := e3 j u p3
      refine ⟨T, _, ev, hT, hIs, ?_⟩
      show Vals [r1.vals.getD j .non, r2.vals.getD j .non, r3.vals.getD j .non] [x, y, u]
      rw [List.getD_eq_getElem?_getD, List.getD_eq_getElem?_getD, List.getD_eq_getElem?_getD, g1, g3, g5]
      exact .cons g2 (.cons g4 (.cons g6 .nil))
theorem turn_en {P : Program} {w : World} {K : PySem.W.Frag} {elts : List Expr} {k : Nat} {pos : Pos} (r1 : Sr) (e it : Addr) (hd : e ≠ it) :
    Turn P w K (.Tuple elts k pos) (itJ r1.vals.length (fun i => [.int ((i : Nat) : Int), r1.vals.getD i .non]) fun H => r1.cond K H) [e, it] e
      (fun i h => (∃ old, IsEnum h e it (0 + (i : Int)) old) ∧ r1.at it i h) := by
  refine turn_j (by simp) (fun i h st b hb => ?_) (fun i h h' st k => ?_) (fun i => by show 2 ≤ sizeLine; decide) (fun X pins σ H s hP hw hK hc I hf hcd i st => ?_) fun A i s Q E st q => wpAny_pyIter_enum st.1.choose_spec q
  · obtain ⟨⟨old, he⟩, h1⟩ := st
    have e' : b = e ∨ b = it := by simpa using hb
    rcases e' with rfl | rfl
    · exact ⟨_, he, fun v q => nomatch q⟩
    · exact Sr.is_obj h1
  · obtain ⟨⟨old, he⟩, h1⟩ := st
    exact ⟨⟨old, k e (by simp) _ he⟩, Sr.stay (k it (by simp)) h1⟩
  · obtain ⟨he, h1⟩ := st
    subst hP hw hK
    obtain ⟨fp1, P1, q1, D1, v1, e1, n1⟩ := r1.draws I hc hcd (hf it (by simp))
    have ne : e ∉ it :: fp1 := by simp only [List.mem_cons, not_or]; exact ⟨hd, fun m => n1 e m e (hf e (by simp)) rfl⟩
    refine ⟨_, _, _, _, GoesN.enumFrom 0 D1 e hd ne List.mem_cons_self, ⟨he, h1, v1⟩, fun b hb => by simpa using hb, fun j h st => ⟨st.1, st.2.1⟩, fun j h0 v h hj hy => ?_⟩
    obtain ⟨T, t, x, ev, hT, p1, hIs⟩ := hy
    obtain ⟨x', g1, g2⟩ := e1 j x p1
    refine ⟨T, _, ev, hT, hIs, ?_⟩
    show Vals [.int (j : Int), r1.vals.getD j .non] [.int (0 + (j : Int)) t, x]
    rw [List.getD_eq_getElem?_getD, g1, Int.zero_add]
    exact .cons ⟨t, rfl⟩ (.cons g2 .nil)

/-! ### the source of a plain thing -/
theorem src_of {K : PySem.W.Frag} {Hb : Hp} {d : D} {v : V} {u : Value} {xs : List D} (h : Is K Hb d v) (e : itemsD d = some xs) (r : RelV v u) : ∃ q : Sr, q.val u ∧ (∀ H, Same Hb H → q.cond K H) ∧ IsL K Hb xs q.vals := by
  cases d with
  | tup ds =>
    cases e
    simp only [Is] at h
    obtain ⟨p, vs, rfl, hx, lx⟩ := h
    exact ⟨.t p vs, r, fun H sm => sq_mono sm hx, lx⟩
  | lst ds =>
    cases e
    simp only [Is] at h
    obtain ⟨p, vs, rfl, hx, lx⟩ := h
    exact ⟨.l p vs, r, fun H sm => .inl (.inl (sm _ _ hx)), lx⟩
  | str l =>
    cases e
    simp only [Is] at h
    subst h
    obtain ⟨t, rfl⟩ := r
    refine ⟨.s (S l) t, rfl, fun _ _ => trivial, ?_⟩
    show IsL K Hb (l.map fun c => D.str [c]) (l.map fun c => V.str ⟨#[c]⟩)
    induction l with
    | nil => simp [IsL]
    | cons c l ih =>
      simp only [List.map_cons, IsL, Is]
      exact ⟨_, _, rfl, rfl, ih⟩
  | _ => cases e
theorem isl_getD {K : PySem.W.Frag} {Hb : Hp} {xs : List D} {vs : List V} (h : IsL K Hb xs vs) {i : Nat} {x : D} (e : xs[i]? = some x) : Is K Hb x (vs.getD i .non) := by
  obtain ⟨v, a, b⟩ := h.get e
  rw [List.getD_eq_getElem?_getD, a]
  exact b
def zip2D (xs ys : List D) : List D := List.zipWith (fun x y => D.tup [x, y]) xs ys
def zip3D (xs ys zs : List D) : List D := List.zipWith (fun x (p : D × D) => D.tup [x, p.1, p.2]) xs (ys.zip zs)
def enumD (xs : List D) : List D := List.zipWith (fun (i : Nat) x => D.tup [.int (i : Nat), x]) (List.range xs.length) xs
def fZip2 (fa fb : En → Option D) : En → Option (List D) := fun env => (fa env).bind fun a => (fb env).bind fun b => (itemsD a).bind fun xs => (itemsD b).bind fun ys => some (zip2D xs ys)
def fZip3 (fa fb fc : En → Option D) : En → Option (List D) := fun env => (fa env).bind fun a => (fb env).bind fun b => (fc env).bind fun c => (itemsD a).bind fun xs => (itemsD b).bind fun ys => (itemsD c).bind fun zs => some (zip3D xs ys zs)
def fEnum (fa : En → Option D) : En → Option (List D) := fun env => (fa env).bind fun a => (itemsD a).bind fun xs => some (enumD xs)
section
variable {X : Cx} {a b c e : Expr} {elts : List Expr} {kk : Nat} {p pos tpos : Pos} {fa fb fc : En → Option D}
theorem i_zip2 (hm : X.mg "zip" = none) (ha : PE X a (tD X.K fa)) (hb : PE X b (tD X.K fb)) (hg : Gl X "zip" := by rfl) (hs : starEach [a, b] X.env = (false, eval a X.env) :: starEach [b] X.env := by rfl) (hs2 : starEach [b] X.env = (false, eval b X.env) :: starEach [] X.env := by rfl) (hpl : (backTo pos (starEach [b] X.env)).any (·.1) = false := by rfl) :
    PI X (.Tuple elts kk tpos) (.Call (.Name "zip" p) [a, b] [] pos) (tI X.K (fZip2 fa fb)) := ⟨fun pins s σ H R I h => by
  obtain ⟨H0, env, Hb, ds, r, sm, ef, q⟩ := h
  obtain ⟨da, ea, ef⟩ := bind1 ef
  obtain ⟨db, eb, ef⟩ := bind1 ef
  obtain ⟨xs, ex, ef⟩ := bind1 ef
  obtain ⟨ys, ey, ef⟩ := bind1 ef
  cases ef
  have hA : PA X [a, b] (tA X.K (fCons fa (fCons fb fNil))) := a_cons ha (a_cons hb a_nil hs2) hs
  refine Call_ (ld_blt I hg hm PyProof.Rows.boot_zip (PyProof.Rows.callWith_type1 (thn (hA.run pos pins s σ H (fun vs H1 => ∃ Hb1, Step Hb H Hb1 H1 ∧ IsL X.K Hb1 [da, db] vs) I ⟨H0, env, Hb, [da, db], r, sm, by unfold fCons fNil; rw [ea, eb]; rfl, fun vs Hb1 H1 s1 iv => ⟨Hb1, s1, iv⟩⟩) fun us s1 ⟨vs, H1, I1, rv, Hb1, st1, iv⟩ => ?_) hs hpl))
  obtain ⟨v1, v2, rfl, i1, i2⟩ := isl2 iv
  cases rv with
  | cons r1 rv =>
    cases rv with
    | cons r2 rv =>
      cases rv
      obtain ⟨q1, w1, c1, l1⟩ := src_of i1 ex r1
      obtain ⟨q2, w2, c2, l2⟩ := src_of i2 ey r2
      obtain ⟨b1, B1, k1⟩ := q1.begins I1 (c1 H1 st1.c) w1
      obtain ⟨b2, B2, k2⟩ := q2.begins I1 (c2 H1 st1.c) w2
      refine zip_begins2 B1 B2 k1 k2 fun h' hz hTI hTO g1 g2 hsz hk => wpAny_pyIter_zip hz ?_
      have I2 : Inv X pins σ H1 { s1 with heap := h' } := I1.kept (t' := s1.toks) hk
      refine ⟨s1.heap.objs.size + 4, [s1.heap.objs.size + 4, s1.heap.objs.size + 2, s1.heap.objs.size + 3, s1.heap.objs.size, s1.heap.objs.size + 1], _, _, H1, rfl, I2, turn_z2 q1 q2 _ _ _ _ _ ?_, ⟨hz, hTI, ⟨_, _, hTO⟩, Sr.at0 g1, Sr.at0 g2⟩, fun x hx => ?_, q _ Hb1 H1 st1 ?_⟩
      · generalize s1.heap.objs.size = n
        have : (n : Nat) = n := rfl
        simp
      · have hle : s1.heap.objs.size ≤ x := by
          generalize s1.heap.objs.size = n at hx
          have e' : x = n + 4 ∨ x = n + 2 ∨ x = n + 3 ∨ x = n ∨ x = n + 1 := by simpa using hx
          rcases e' with z | z | z | z | z <;> rw [z] <;> first | exact Nat.le_refl _ | exact Nat.le_add_right _ _
        exact I1.fpOk hle (I1.hok.fresh hle)
      · refine walk_j ?_ (fun H' s' => ⟨c1 H' s', c2 H' s'⟩) fun i d e => ?_
        · unfold zip2D
          rw [List.length_zipWith, l1.length, l2.length]
        · unfold zip2D at e
          rw [List.getElem?_zipWith] at e
          cases e1 : xs[i]? with
          | none => rw [e1] at e; cases e
          | some x =>
            cases e2 : ys[i]? with
            | none => rw [e1, e2] at e; cases e
            | some y =>
              rw [e1, e2] at e
              cases e
              refine ⟨_, rfl, ?_⟩
              simp only [IsL, pairs2]
              exact ⟨_, _, rfl, isl_getD l1 e1, _, _, rfl, isl_getD l2 e2, rfl⟩⟩
theorem i_zip3 (hm : X.mg "zip" = none) (ha : PE X a (tD X.K fa)) (hb : PE X b (tD X.K fb)) (hc : PE X c (tD X.K fc)) (hg : Gl X "zip" := by rfl) (hs : starEach [a, b, c] X.env = (false, eval a X.env) :: starEach [b, c] X.env := by rfl) (hs2 : starEach [b, c] X.env = (false, eval b X.env) :: starEach [c] X.env := by rfl)
    (hs3 : starEach [c] X.env = (false, eval c X.env) :: starEach [] X.env := by rfl) (hpl : (backTo pos (starEach [b, c] X.env)).any (·.1) = false := by rfl) : PI X (.Tuple elts kk tpos) (.Call (.Name "zip" p) [a, b, c] [] pos) (tI X.K (fZip3 fa fb fc)) := ⟨fun pins s σ H R I h => by
  obtain ⟨H0, env, Hb, ds, r, sm, ef, q⟩ := h
  obtain ⟨da, ea, ef⟩ := bind1 ef
  obtain ⟨db, eb, ef⟩ := bind1 ef
  obtain ⟨dc, ec, ef⟩ := bind1 ef
  obtain ⟨xs, ex, ef⟩ := bind1 ef
  obtain ⟨ys, ey, ef⟩ := bind1 ef
  obtain ⟨zs, ez, ef⟩ := bind1 ef
  cases ef
  have hA : PA X [a, b, c] (tA X.K (fCons fa (fCons fb (fCons fc fNil)))) := a_cons ha (a_cons hb (a_cons hc a_nil hs3) hs2) hs
  refine Call_ (ld_blt I hg hm PyProof.Rows.boot_zip (PyProof.Rows.callWith_type1 (thn (hA.run pos pins s σ H (fun vs H1 => ∃ Hb1, Step Hb H Hb1 H1 ∧ IsL X.K Hb1 [da, db, dc] vs) I ⟨H0, env, Hb, [da, db, dc], r, sm, by unfold fCons fNil; rw [ea, eb, ec]; rfl, fun vs Hb1 H1 s1 iv => ⟨Hb1, s1, iv⟩⟩) fun us s1 ⟨vs, H1, I1, rv, Hb1, st1, iv⟩ => ?_) hs hpl))
  simp only [IsL] at iv
  obtain ⟨v1, t1, rfl, i1, v2, t2, rfl, i2, v3, t3, rfl, i3, rfl⟩ := iv
  cases rv with
  | cons r1 rv =>
    cases rv with
    | cons r2 rv =>
      cases rv with
      | cons r3 rv =>
        cases rv
        obtain ⟨q1, w1, c1, l1⟩ := src_of i1 ex r1
        obtain ⟨q2, w2, c2, l2⟩ := src_of i2 ey r2
        obtain ⟨q3, w3, c3, l3⟩ := src_of i3 ez r3
        obtain ⟨b1, B1, k1⟩ := q1.begins I1 (c1 H1 st1.c) w1
        obtain ⟨b2, B2, k2⟩ := q2.begins I1 (c2 H1 st1.c) w2
        obtain ⟨b3, B3, k3⟩ := q3.begins I1 (c3 H1 st1.c) w3
        refine zip_begins3 B1 B2 B3 k1 k2 k3 fun h' hz hTI hTO g1 g2 g3 hsz hk => wpAny_pyIter_zip hz ?_
        have I2 : Inv X pins σ H1 { s1 with heap := h' } := I1.kept (t' := s1.toks) hk
        refine ⟨s1.heap.objs.size + 5, [s1.heap.objs.size + 5, s1.heap.objs.size + 3, s1.heap.objs.size + 4, s1.heap.objs.size, s1.heap.objs.size + 1, s1.heap.objs.size + 2], _, _, H1, rfl, I2, turn_z3 q1 q2 q3 _ _ _ _ _ _ ?_, ⟨hz, hTI, ⟨_, _, _, hTO⟩, Sr.at0 g1, Sr.at0 g2, Sr.at0 g3⟩, fun x hx => ?_, q _ Hb1 H1 st1 ?_⟩
        · generalize s1.heap.objs.size = n
          have : (n : Nat) = n := rfl
          simp
        · have hle : s1.heap.objs.size ≤ x := by
            generalize s1.heap.objs.size = n at hx
            have e' : x = n + 5 ∨ x = n + 3 ∨ x = n + 4 ∨ x = n ∨ x = n + 1 ∨ x = n + 2 := by simpa using hx
            rcases e' with z | z | z | z | z | z <;> rw [z] <;> first | exact Nat.le_refl _ | exact Nat.le_add_right _ _
          exact I1.fpOk hle (I1.hok.fresh hle)
        · refine walk_j ?_ (fun H' s' => ⟨c1 H' s', c2 H' s', c3 H' s'⟩) fun i d e => ?_
          · unfold zip3D
            rw [List.length_zipWith, List.length_zip, l1.length, l2.length, l3.length]
            omega
          · unfold zip3D at e
            rw [List.getElem?_zipWith] at e
            cases e1 : xs[i]? with
            | none => rw [e1] at e; cases e
            | some x =>
              cases e2 : (ys.zip zs)[i]? with
              | none => rw [e1, e2] at e; cases e
              | some y =>
                rw [e1, e2] at e
                cases e
                obtain ⟨y1, y2⟩ := y
                obtain ⟨e3, e4⟩ := List.getElem?_zip_eq_some.mp e2
                refine ⟨_, rfl, ?_⟩
                simp only [IsL]
                exact ⟨_, _, rfl, isl_getD l1 e1, _, _, rfl, isl_getD l2 e3, _, _, rfl, isl_getD l3 e4, rfl⟩⟩
set_option maxHeartbeats 1000000 in
theorem en_meets {v : Value} {ob : Obj} {Hr : Heap → Prop} (B : Begins v ob Hr) :
    Meets (Builtin.«enumerate.__new__» ⟨[.type "enumerate", v], []⟩) (fun _ R s => Hr s.heap ∧ R (.ok (.ret (.ref (s.heap.push ob).objs.size))) { s with heap := (s.heap.push ob).push { cls := .type "enumerate", data := .fields #[.none, .bool false, .ref s.heap.objs.size, rawInt 0, .none, .none] } }) :=
  .of_wp fun prog w A R s h => by
    obtain ⟨hp, gn, dr, tk, os⟩ := s
    obtain ⟨hr, h⟩ := h
    have hsub := sub_enumerate
    have go : ∀ {A' : Around} {E : Value → Shared → Prop} {Q : Value → Shared → Prop}, Q (.ref hp.objs.size) ⟨hp.push ob, gn, dr, tk, os⟩ → wpAny (model prog w) A' (pyIter v) Q E ⟨hp, gn, dr, tk, os⟩ := fun z => B.iter prog w _ _ ⟨hp, gn, dr, tk, os⟩ _ hr z
    wp_walk using go
    refine wpAny_stack_any fun sk => wpAny_pure ?_
    split
    · rename_i cc _ _ _ _ _
      cases (cc == Value.type "enumerate") <;> (wp_walk using go; exact ⟨_, rfl, h⟩)
    · wp_walk using go
      exact ⟨_, rfl, h⟩
theorem en_begins {prog : Program} {w : World} {A : Around} {E : Value → Shared → Prop} {s : Shared} {v : Value} {ob : Obj} {Hr : Heap → Prop} {Q : Value → Shared → Prop} (B : Begins v ob Hr) (h1 : Hr s.heap)
    (h : ∀ h', IsEnum h' (s.heap.objs.size + 1) s.heap.objs.size 0 .none → h'.get? s.heap.objs.size = some ob → (∀ b o, s.heap.get? b = some o → h'.get? b = some o) → Q (.ref (s.heap.objs.size + 1)) { s with heap := h' }) : wpAny (model prog w) A (call (.type "enumerate") [v]) Q E s := by
  refine callType_new F.called_enumerate (by decide) (F.typeCall_enumerate_1 _) (F.newCall_enumerate_1 _) (fun obj => F.args_object_init_2 obj _) F.entry_enumerate_new (en_meets B) ⟨h1, ?_⟩
  have hz : (s.heap.push ob).objs.size = s.heap.objs.size + 1 := Heap.size_push ..
  have he : IsEnum ((s.heap.push ob).push { cls := .type "enumerate", data := .fields #[.none, .bool false, .ref s.heap.objs.size, rawInt 0, .none, .none] }) (s.heap.objs.size + 1) s.heap.objs.size 0 .none := by
    have z := Heap.get?_push_size (s.heap.push ob) (o := { cls := .type "enumerate", data := .fields #[.none, .bool false, .ref s.heap.objs.size, rawInt 0, .none, .none] }) rfl
    rw [hz] at z
    exact z
  show _ ∧ _
  rw [hz]
  exact ⟨⟨_, he, rfl⟩, h _ he (Heap.get?_push_of_some _ (Heap.get?_push_size _ B.free)) fun b o x => Heap.get?_push_of_some _ (Heap.get?_push_of_some _ x)⟩
theorem i_enum (hm : X.mg "enumerate" = none) (ha : PE X a (tD X.K fa)) (hg : Gl X "enumerate" := by rfl) (hs : starEach [a] X.env = (false, eval a X.env) :: starEach [] X.env := by rfl) :
    PI X (.Tuple elts kk tpos) (.Call (.Name "enumerate" p) [a] [] pos) (tI X.K (fEnum fa)) := ⟨fun pins s σ H R I h => by
  obtain ⟨H0, env, Hb, ds, r, sm, ef, q⟩ := h
  obtain ⟨da, ea, ef⟩ := bind1 ef
  obtain ⟨xs, ex, ef⟩ := bind1 ef
  cases ef
  have hA : PA X [a] (tA X.K (fCons fa fNil)) := a_cons ha a_nil hs
  refine Call_ (ld_blt I hg hm boot_enumerate (PyProof.Rows.callWith_type1 (thn (hA.run pos pins s σ H (fun vs H1 => ∃ Hb1, Step Hb H Hb1 H1 ∧ IsL X.K Hb1 [da] vs) I ⟨H0, env, Hb, [da], r, sm, by unfold fCons fNil; rw [ea]; rfl, fun vs Hb1 H1 s1 iv => ⟨Hb1, s1, iv⟩⟩) fun us s1 ⟨vs, H1, I1, rv, Hb1, st1, iv⟩ => ?_) hs rfl))
  obtain ⟨v1, rfl, i1⟩ := isl1 iv
  cases rv with
  | cons r1 rv =>
    cases rv
    obtain ⟨q1, w1, c1, l1⟩ := src_of i1 ex r1
    obtain ⟨b1, B1, k1⟩ := q1.begins I1 (c1 H1 st1.c) w1
    refine en_begins B1 k1 fun h' he g1 hk => wpAny_pyIter_enum he ?_
    have I2 : Inv X pins σ H1 { s1 with heap := h' } := I1.kept (t' := s1.toks) hk
    refine ⟨s1.heap.objs.size + 1, [s1.heap.objs.size + 1, s1.heap.objs.size], _, _, H1, rfl, I2, turn_en q1 _ _ (Nat.succ_ne_self _), ⟨⟨_, he⟩, Sr.at0 g1⟩, fun x hx => ?_, q _ Hb1 H1 st1 ?_⟩
    · have hle : s1.heap.objs.size ≤ x := by
        generalize s1.heap.objs.size = n at hx
        have e' : x = n + 1 ∨ x = n := by simpa using hx
        rcases e' with z | z <;> rw [z] <;> first | exact Nat.le_refl _ | exact Nat.le_add_right _ _
      exact I1.fpOk hle (I1.hok.fresh hle)
    · refine walk_j ?_ (fun H' s' => c1 H' s') fun i d e => ?_
      · unfold enumD
        rw [List.length_zipWith, List.length_range, l1.length, Nat.min_self]
      · unfold enumD at e
        rw [List.getElem?_zipWith] at e
        cases e1 : xs[i]? with
        | none =>
          rw [e1] at e
          cases e0 : (List.range xs.length)[i]? with
          | none => rw [e0] at e; cases e
          | some j => rw [e0] at e; cases e
        | some x =>
          have hi := (List.getElem?_eq_some_iff.mp e1).1
          have e0 : (List.range xs.length)[i]? = some i := by rw [List.getElem?_eq_getElem (by simpa using hi), List.getElem_range]
          rw [e0, e1] at e
          cases e
          refine ⟨_, rfl, ?_⟩
          simp only [IsL, Is]
          exact ⟨_, _, rfl, rfl, _, _, rfl, isl_getD l1 e1, rfl⟩⟩
end
end Dn
set_option Elab.async false
set_option linter.all false
set_option maxRecDepth 100000
/-! Part H: sorted, min, max, sum of tuples too, str.index, sorted(set(..)). -/
namespace Dn
open PySem L2 PySem.Spec PyProof.Rows

section
variable {prog : Program} {w : World} {A : Around} {E : Value → Shared → Prop} {s : Shared}
theorem collect_tup {l : Addr} {vs : List Value} {Q : List Value → Shared → Prop} (hl : s.heap.IsTuple l vs.toArray)
    (h : Q vs { s with heap := (s.heap.push (seqObj "list" #[] 0)).update s.heap.objs.size (Obj.mapSeq (· ++ vs.toArray)) }) (hsz : vs.length ≤ sizeLine) :
    wpAny (model prog w) A (collect (.ref l)) Q E s := by
  obtain ⟨o, ho, hc, n, hd⟩ := id hl
  unfold collect
  refine wpAny_bind (wpAny_runValue (codeAny_builtin entry_proto_collect' ?_))
  show wpAny _ _ (do again (.builtin "list.__iadd__" ⟨[← newList [], .ref l], []⟩)) _ _ s
  refine wpAny_bind (wpAny_newList (wpAny_pure ⟨Code.quiet_builtin _ (by decide +kernel), codeAny_builtin entry_list_iadd' ?_⟩))
  show wpAny _ _ (Builtin.List.listExtendWith (.ref s.heap.objs.size) (.ref l) (.ref s.heap.objs.size)) _ _ { s with heap := s.heap.push (seqObj "list" #[] 0) }
  unfold Builtin.List.listExtendWith
  have ho' : (s.heap.push (seqObj "list" #[] 0)).get? l = some o := Heap.get?_push_of_some _ ho
  refine wpAny_bind (wpAny_typeOf (T := "tuple") ⟨o, ho', hc⟩ ?_)
  have ht : (Value.type "tuple" == Value.type "tuple") = true := by rfl
  rw [if_pos (by rw [ht]; simp)]
  refine wpAny_bind (listItems_at ho' hd ?_)
  refine wpAny_bind (listItems_at (xs := #[]) (n := 0) (Heap.get?_push_size _ rfl) rfl ?_)
  rw [if_neg (by simp)]
  refine wpAny_bind (listUpdate_at (xs := #[]) (n := 0) (Heap.get?_push_size _ rfl) rfl ?_ (Nat.zero_le _) (by show (#[] ++ vs.toArray).size ≤ sizeLine + 1; simp only [Array.size_append, List.size_toArray, List.length_nil]; omega))
  refine wpAny_pure ?_
  show wpAny (model prog w) A (do
      let o ← load s.heap.objs.size
      match o.data with
      | .seq xs _ => pure xs.toList
      | _ => unsupported "internal:collect") Q E { s with heap := (s.heap.push (seqObj "list" #[] 0)).update s.heap.objs.size (Obj.mapSeq (· ++ vs.toArray)) }
  refine wpAny_bind (wpAny_load (get?_update_seq (Heap.get?_push_size _ rfl) _) ?_)
  show wpAny _ _ (pure ((#[] : Array Value) ++ vs.toArray).toList) Q E _
  rw [show ((#[] : Array Value) ++ vs.toArray).toList = vs by simp]
  exact wpAny_pure h
open PySem.W in
theorem sorted_tup_of {l : Addr} {vs : List Value} {Q : Value → Shared → Prop} (hl : s.heap.IsTuple l vs.toArray) (hL : vs.length ≤ sizeLine)
    (body : ∀ E' : Value → Shared → Prop, wpAny (model prog w) A.in1.in1 (Builtin.«list.sort» ⟨[.ref (s.heap.objs.size + 1)], []⟩) (fun f s' => f = .done (.ret .none) ∧ Q (.ref (s.heap.objs.size + 1)) s') E' { s with heap := copyHeap s.heap vs }) :
    wpAny (model prog w) A (call (.builtin "sorted") [.ref l]) Q E s := by
  refine Calls.call_function_entry kind_sorted plain_sorted entry_sorted (args_sorted1 _) ?_
  unfold Builtin.«sorted»
  refine wpAny_bind (m := checkCount "sorted" 1 1 _) (wpAny_pure ?_)
  refine wpAny_bind (collect_tup hl ?_ hL)
  refine wpAny_bind (wpAny_newList ?_ hL)
  have hsz : ((s.heap.push (seqObj "list" #[] 0)).update s.heap.objs.size (Obj.mapSeq (· ++ vs.toArray))).objs.size = s.heap.objs.size + 1 := by
    rw [Heap.size_update, size_push']
  show wpAny _ _ _ _ _ { s with heap := copyHeap s.heap vs }
  rw [hsz]
  refine wpAny_bind (wpAny_holding (wpAny_call_entry slot_list_sort ⟨_, copyHeap_at s.heap vs, rfl⟩ entry_list_sort ?body (args_list_sort _)))
  case body =>
    show wpAny (model prog w) A.in1.in1 (Builtin.«list.sort» ⟨[.ref (s.heap.objs.size + 1)], []⟩) _ _ _
    refine wpAny_mono (body _) (fun f s' hf => ?_) fun _ _ e => e
    obtain ⟨rfl, hq⟩ := hf
    exact ⟨_, rfl, wpAny_pure ⟨_, rfl, hq⟩⟩
open PySem.W in
theorem sorted_tup_data {β : Type} {R : Value → β → Prop} {enc : β → PyData} {vs : List Value} {bs : List β} {l : Addr} {Q : Value → Shared → Prop} (hl : s.heap.IsTuple l vs.toArray) (e : EachIs R vs bs) (er : EachIs (fun v b => ∃ as, Reads s.heap v (enc b) as) vs bs) (hal : AllAlike (bs.map enc)) (hk : Sortable (bs.map enc)) (hL : bs.length ≤ sizeLine)
    (hu : ∀ b, b ∈ bs → A.units + 2 + (enc b).depth < cLine) (h : ∀ out, out.length = bs.length → EachIs R out (bs.mergeSort (dataLe false enc)) → Q (.ref (s.heap.objs.size + 1)) { s with heap := sortedAll s.heap vs (List.toArray out) }) :
    wpAny (model prog w) A (call (.builtin "sorted") [.ref l]) Q E s := by
  have er' : EachIs (fun v b => ∃ as, Reads (sortingHeap (copyHeap s.heap vs) (s.heap.objs.size + 1) vs) v (enc b) as) vs bs := er.mono fun _ _ ⟨as, r⟩ => ⟨as, PyProof.Rows.Reads.keeps (fun _ _ => sorting_copy_old) r⟩
  have S := SortsAt.data (prog := prog) (w := w) (A := A.in1.in1) (s := { s with heap := sortingHeap (copyHeap s.heap vs) (s.heap.objs.size + 1) vs }) (each_map (R := fun v d => ∃ as, Reads (sortingHeap (copyHeap s.heap vs) (s.heap.objs.size + 1) vs) v d as) enc er') hal hk (bound_map hu)
  have hL' : vs.length ≤ sizeLine := by rw [e.length]; exact hL
  refine sorted_tup_of hl hL' fun _ => list_sort_vals (s := { s with heap := copyHeap s.heap vs }) (copyHeap_at s.heap vs) S hL' ⟨rfl, ?_⟩
  exact h _ (by rw [sortVals_length false rfl]; exact e.length) (sortVals_data false e er' hal)
end

/-! ### sorted -/
def isT1 : D → Bool
  | .tup (_ :: _) => true
  | _ => false
def notT : D → Bool
  | .int _ => true
  | .str _ => true
  | .bl _ => true
  | .lst _ => true
  | _ => false
def srtOk (ds : List D) : Bool := (ds.all fun a => okN 50 a && ds.all fun b => PySem.W.alike (toP a) (toP b)) && ((ds.all isT1) || (ds.all notT))
def leP : D → D → Bool := PySem.W.dataLe false toP
def sortedG : List D → Option D
  | [.lst ds] => if srtOk ds = true then some (.lst (ds.mergeSort leP)) else none
  | [.tup ds] => if srtOk ds = true then some (.lst (ds.mergeSort leP)) else none
  | _ => none
section
variable {X : Cx}
open PySem.W (EachIs AllAlike Sortable)
theorem each_zip {K : PySem.W.Frag} {H : Hp} : ∀ {ds : List D} {vs : List V} {us : List Value}, IsL K H ds vs → Vals vs us → EachIs (fun (v : Value) (b : V × D) => RelV b.1 v ∧ Is K H b.2 b.1) us (vs.zip ds) ∧ (vs.zip ds).map Prod.snd = ds
  | [], vs, us, h, r => by
    simp only [IsL] at h
    subst h
    cases r
    exact ⟨.nil, rfl⟩
  | d :: ds, vs, us, h, r => by
    simp only [IsL] at h
    obtain ⟨v, vs', rfl, i, h⟩ := h
    cases r with
    | cons r1 r2 =>
      obtain ⟨a, b⟩ := each_zip h r2
      exact ⟨.cons ⟨r1, i⟩ a, by rw [List.zip_cons_cons, List.map_cons, b]⟩
theorem zip_each {K : PySem.W.Frag} {H : Hp} : ∀ {bs : List (V × D)} {us : List Value}, EachIs (fun (v : Value) (b : V × D) => RelV b.1 v ∧ Is K H b.2 b.1) us bs → Vals (bs.map Prod.fst) us ∧ IsL K H (bs.map Prod.snd) (bs.map Prod.fst)
  | [], _, .nil => ⟨.nil, by simp only [List.map_nil, IsL]⟩
  | b :: bs, _, .cons h1 h2 => by
    obtain ⟨a, c⟩ := zip_each h2
    refine ⟨.cons h1.1 a, ?_⟩
    simp only [List.map_cons, IsL]
    exact ⟨_, _, rfl, h1.2, c⟩
theorem each_reads {pins : List (Addr × Obj)} {s : Shared} {σ : L2.St} {H : Hp} (I : Inv X pins σ H s) : ∀ {bs : List (V × D)} {us : List Value}, (∀ b ∈ bs, okN 50 b.2 = true) → EachIs (fun (v : Value) (b : V × D) => RelV b.1 v ∧ Is X.K H b.2 b.1) us bs → EachIs (fun v b => ∃ as, Reads s.heap v (toP b.2) as) us bs
  | [], _, _, .nil => .nil
  | b :: bs, _, ok, .cons h1 h2 => by
    have a1 := (dp_of 50 b.2 b.1 (ok b List.mem_cons_self) h1.2).1
    exact .cons (Dp.reads I _ _ _ a1 h1.1) (each_reads I (fun c hc => ok c (List.mem_cons_of_mem _ hc)) h2)
theorem each_depth {K : PySem.W.Frag} {H : Hp} : ∀ {bs : List (V × D)} {us : List Value}, (∀ b ∈ bs, okN 50 b.2 = true) → EachIs (fun (v : Value) (b : V × D) => RelV b.1 v ∧ Is K H b.2 b.1) us bs → ∀ b ∈ bs, (toP b.2).depth ≤ 50
  | [], _, _, .nil, b, hb => by cases hb
  | c :: bs, _, ok, .cons h1 h2, b, hb => by
    rcases List.mem_cons.mp hb with rfl | hb
    · exact (dp_of 50 b.2 b.1 (ok b List.mem_cons_self) h1.2).2
    · exact each_depth (fun c hc => ok c (List.mem_cons_of_mem _ hc)) h2 b hb
theorem srt_ok {ds : List D} (h : srtOk ds = true) : (∀ a ∈ ds, okN 50 a = true) ∧ AllAlike (ds.map toP) ∧ Sortable (ds.map toP) := by
  unfold srtOk at h
  rw [Bool.and_eq_true, Bool.or_eq_true] at h
  obtain ⟨h1, h2⟩ := h
  have q : ∀ a ∈ ds, okN 50 a = true ∧ ∀ b ∈ ds, PySem.W.alike (toP a) (toP b) = true := fun a ha => by
    have := List.all_eq_true.mp h1 a ha
    rw [Bool.and_eq_true] at this
    exact ⟨this.1, fun b hb => List.all_eq_true.mp this.2 b hb⟩
  refine ⟨fun a ha => (q a ha).1, fun d hd d' hd' => ?_, ?_⟩
  · obtain ⟨a, ha, rfl⟩ := List.mem_map.mp hd
    obtain ⟨b, hb, rfl⟩ := List.mem_map.mp hd'
    exact (q a ha).2 b hb
  · rcases h2 with h2 | h2
    · refine .inl fun d hd => ?_
      obtain ⟨a, ha, rfl⟩ := List.mem_map.mp hd
      have := List.all_eq_true.mp h2 a ha
      unfold isT1 at this
      split at this
      · exact ⟨_, _, by simp only [toP, toPs]; rfl⟩
      · cases this
    · refine .inr fun d hd => ?_
      obtain ⟨a, ha, rfl⟩ := List.mem_map.mp hd
      have := List.all_eq_true.mp h2 a ha
      unfold notT at this
      split at this <;> first | (simp only [toP]; exact ⟨by simp, by simp⟩) | cases this
theorem c_sorted (hu : X.A.units + 64 < cLine) : CallR X (.builtin "sorted") (rDA X.K sortedG) := by
  intro pins s σ H xs us Q I r h
  obtain ⟨Hb, ds, d, sm, il, eg, q⟩ := h
  have main : ∀ (es : List D) (vs : List V) (its : List Value), IsL X.K Hb es vs → Vals vs its → vs.length ≤ sizeLine → srtOk es = true →
      (∀ v Hb' H', Step Hb H Hb' H' → Is X.K Hb' (.lst (es.mergeSort leP)) v → Q v H') →
      EachIs (fun (v : Value) (b : V × D) => RelV b.1 v ∧ Is X.K Hb b.2 b.1) its (vs.zip es) ∧ EachIs (fun v b => ∃ as, Reads s.heap v (toP b.2) as) its (vs.zip es) ∧ AllAlike ((vs.zip es).map fun b => toP b.2) ∧ Sortable ((vs.zip es).map fun b => toP b.2) ∧
      (vs.zip es).length ≤ sizeLine ∧ (∀ b ∈ vs.zip es, X.A.units + 2 + (toP b.2).depth < cLine) ∧
      ∀ out : List Value, out.length = (vs.zip es).length → EachIs (fun (v : Value) (b : V × D) => RelV b.1 v ∧ Is X.K Hb b.2 b.1) out ((vs.zip es).mergeSort (PySem.W.dataLe false fun b => toP b.2)) → EP X pins σ Q (.ref (s.heap.objs.size + 1)) { s with heap := sortedAll s.heap its (List.toArray out) } := by
    intro es vs its lx rv hz ok q
    obtain ⟨e1, e2⟩ := each_zip lx rv
    obtain ⟨o1, o2, o3⟩ := srt_ok ok
    have mem : ∀ b ∈ vs.zip es, b.2 ∈ es := fun b hb => by rw [← e2]; exact List.mem_map_of_mem hb
    have em : ((vs.zip es).map fun b => toP b.2) = es.map toP := by
      conv => rhs; rw [← e2]
      rw [List.map_map] <;> rfl
    have hz' : (vs.zip es).length ≤ sizeLine := by
      rw [List.length_zip, lx.length, Nat.min_self, ← lx.length]
      exact hz
    have e1' : EachIs (fun (v : Value) (b : V × D) => RelV b.1 v ∧ Is X.K H b.2 b.1) its (vs.zip es) := e1.mono fun _ _ x => ⟨x.1, x.2.mono sm⟩
    refine ⟨e1, each_reads I (fun b hb => o1 _ (mem b hb)) e1', by rw [em]; exact o2, by rw [em]; exact o3, hz', fun b hb => ?_, fun out hl eo => ?_⟩
    · have := each_depth (fun b hb => o1 _ (mem b hb)) e1 b hb
      omega
    · obtain ⟨z1, z2⟩ := zip_each eo
      have ez : (((vs.zip es).mergeSort (PySem.W.dataLe false fun b => toP b.2)).map Prod.snd) = es.mergeSort leP := by
        rw [List.map_mergeSort (r := PySem.W.dataLe false fun b : V × D => toP b.2) (s := leP) (f := Prod.snd) fun a _ b _ => rfl, e2]
      rw [ez] at z2
      obtain ⟨ep, he'⟩ := PyProof.Rows.sortedAll_at s.heap its out.toArray
      have hlen : (((vs.zip es).mergeSort (PySem.W.dataLe false fun b => toP b.2)).map Prod.fst).length ≤ sizeLine := by
        rw [List.length_map, List.length_mergeSort]
        exact hz'
      have hf : H (s.heap.objs.size + 1) = none := I.hok.fresh (Nat.le_succ _)
      refine ⟨.ref _, upd H (s.heap.objs.size + 1) (.lst _), I.laid (t' := s.toks) (fun _ _ => PyProof.Rows.sortedAll_old) (Nat.le_succ _) ⟨hlen, out, ep, z1, he'⟩, rfl, q _ _ _ (Step.new sm hf) ?_⟩
      exact is_lst_new (sm.free hf) z2
  unfold sortedG at eg
  split at eg
  · obtain ⟨v, rfl, iv⟩ := isl1 il
    simp only [Is] at iv
    obtain ⟨p, vs, rfl, hx, lx⟩ := iv
    obtain ⟨ok, rfl⟩ := iteS eg
    obtain ⟨its, rv, hl, hz⟩ := I.list (show SqL X.K H p _ from .inl (.inl (sm _ _ hx)))
    obtain ⟨m1, m2, m3, m4, m5, m6, m7⟩ := main _ vs its lx rv hz ok q
    rw [Vals.ref1 r]
    exact PySem.W.sorted_data hl.isList m1 m2 m3 m4 m5 m6 m7
  · obtain ⟨v, rfl, iv⟩ := isl1 il
    simp only [Is] at iv
    obtain ⟨p, vs, rfl, hx, lx⟩ := iv
    obtain ⟨ok, rfl⟩ := iteS eg
    obtain ⟨its, rv, hl, hz⟩ := I.tuple (sq_mono sm hx)
    obtain ⟨m1, m2, m3, m4, m5, m6, m7⟩ := main _ vs its lx rv hz ok q
    rw [Vals.ref1 r]
    exact sorted_tup_data hl m1 m2 m3 m4 m5 m6 m7
  · cases eg

/-! ### where a sign stands first -/
theorem occ_full (l : List Nat) (c : Nat) : ∀ (is : List Nat) (acc : Array Nat) (free : Nat), acc.size = 1 → (forIn is (acc, free) (StrLaws.occBody (S l) (S [c]) l.length 1)).run.fst.toList = acc.toList
  | [], acc, free, _ => by simp
  | i :: is, acc, free, h => by
    rw [List.forIn_cons]
    unfold StrLaws.occBody
    rw [if_neg fun q => by have : acc.size < 1 := q.1.1.1; omega]
    show (forIn is (acc, free) (StrLaws.occBody (S l) (S [c]) l.length 1)).run.fst.toList = _
    exact occ_full l c is acc free h
theorem occ_first (l : List Nat) (c : Nat) : ∀ (is : List Nat), (forIn is ((#[] : Array Nat), 0) (StrLaws.occBody (S l) (S [c]) l.length 1)).run.fst.toList = (is.filter fun i => decide (l[i]? = some c)).take 1
  | [] => by simp
  | i :: is => by
    rw [List.forIn_cons]
    have sub := StrLaws.subAt_one (S l) c i
    rw [S_len] at sub
    have esl : (S l).cps.toList = l := by simp [S]
    rw [esl] at sub
    by_cases hc : l[i]? = some c
    · have hb := sub.mpr hc
      unfold StrLaws.occBody
      rw [if_pos ⟨⟨⟨by show (0 : Nat) < 1; omega, Nat.zero_le _⟩, hb.1⟩, hb.2⟩]
      show (forIn is ((#[] : Array Nat).push i, i + 1) (StrLaws.occBody (S l) (S [c]) l.length 1)).run.fst.toList = _
      rw [occ_full l c is _ _ rfl, List.filter_cons_of_pos (by simpa using hc)]
      rfl
    · unfold StrLaws.occBody
      rw [if_neg fun h => hc (sub.mp ⟨h.1.2, h.2⟩)]
      show (forIn is ((#[] : Array Nat), 0) (StrLaws.occBody (S l) (S [c]) l.length 1)).run.fst.toList = _
      rw [occ_first l c is, List.filter_cons_of_neg (by simpa using hc)]
theorem spots_head (c : Nat) : ∀ l : List Nat, c ∈ l → (spots l c).take 1 = [l.idxOf c]
  | [], h => by cases h
  | x :: xs, h => by
    unfold spots
    rw [List.length_cons, List.range_succ_eq_map, List.filter_cons, List.filter_map]
    have e : ((List.range xs.length).filter ((fun i => decide ((x :: xs)[i]? = some c)) ∘ Nat.succ)) = (List.range xs.length).filter fun i => decide (xs[i]? = some c) := by
      congr 1
    by_cases hx : x = c
    · subst hx
      simp
    · have hm : c ∈ xs := by
        rcases List.mem_cons.mp h with q | q
        · exact absurd q.symm hx
        · exact q
      have ih := spots_head c xs hm
      unfold spots at ih
      have : ¬ (some x = some c) := fun q => hx (Option.some.inj q)
      rw [List.getElem?_cons_zero, decide_eq_false this, if_neg (by simp), e, ← List.map_take, ih, List.idxOf_cons]
      have : (x == c) = false := by simpa using hx
      rw [this]
      rfl
theorem occ_idx (l : List Nat) (c : Nat) (h : c ∈ l) : Builtin.Str.occurrences (S l) (S [c]) 0 l.length 1 = [l.idxOf c] := by
  rw [StrLaws.occ_eq, occ_first l c]
  simp only [Nat.sub_zero]
  rw [← List.range_eq_range', List.range_succ, List.filter_append]
  have := spots_head c l h
  unfold spots at this
  simpa using this
def indexD (l : List Nat) : D → Option D
  | .str [c] => if c ∈ l then some (.int (l.idxOf c)) else none
  | _ => none
theorem m_index : MtR X "str.index" (rDM X.K indexD) := by
  intro pins s σ H x xs v us Q I rx rs h
  obtain ⟨Hb, l, y, b, d, sm, rfl, rfl, ib, eg, q⟩ := h
  unfold indexD at eg
  split at eg
  · rename_i c
    simp only [Is] at ib
    subst ib
    obtain ⟨hm, rfl⟩ := iteS eg
    obtain ⟨t, rfl⟩ := rx
    obtain ⟨u, rfl, ru⟩ := rs.one
    obtain ⟨t2, rfl⟩ := ru
    refine call_gives PySem.F.slot_str_index (typeIs_str _ _ _) PySem.F.entry_str_index (PySem.F.args_str_index_2 _ _) (PySem.gives_str_index (S l) (S [c]) t t2 (l.idxOf c) [] ?_) ?_
    · rw [S_len]
      exact occ_idx l c hm
    · exact ⟨.int _, H, I.tok _, ⟨_, rfl⟩, q _ Hb H (Step.refl sm) (by simp only [Is])⟩
  · cases eg
variable {a b e o : Expr} {pos apos p p2 pos2 : Pos} {fa fb fo : En → Option D} {fs : En → Option (List D)}
theorem e_index (ho : PE X o (tD X.K fo)) (he : PE X e (tD X.K fa)) (hs : starEach [e] X.env = [(false, eval e X.env)] := by rfl) (hbase : attributeBase o "index" X.env (eval o X.env) = eval o X.env := by rfl) (hline : (apos.endLine == pos.line) = true := by rfl) :
    PE X (.Call (.Attribute o "index" apos) [e] [] pos) (tD X.K (fM1 indexD fo fa)) := e_m1 F.slot_str_index F.type_str_index m_index ho he hs hbase hline

/-! ### sorted(set(t)), a tuple of ints -/
def uniqI (ns : List Int) : List Int := ns.eraseDups.mergeSort fun a b => decide (a ≤ b)
theorem nodup_eraseDups {α : Type} [BEq α] [LawfulBEq α] (l : List α) : l.eraseDups.Nodup := by
  induction h : l.length using Nat.strongRecOn generalizing l with
  | ind n ih =>
    cases l with
    | nil => simp
    | cons x xs =>
      rw [List.eraseDups_cons, List.nodup_cons]
      subst h
      have hl : (xs.filter fun b => !b == x).length < (x :: xs).length := by
        have := List.length_filter_le (fun b => !b == x) xs
        rw [List.length_cons]
        omega
      refine ⟨fun q => ?_, ih _ hl _ rfl⟩
      rw [List.mem_eraseDups] at q
      have := (List.mem_filter.mp q).2
      simp at this
theorem uniqI_mem (ns : List Int) (k : Int) : k ∈ uniqI ns ↔ k ∈ ns := by
  unfold uniqI
  rw [List.mem_mergeSort, List.mem_eraseDups]
theorem uniqI_rises (ns : List Int) : (uniqI ns).Pairwise (· < ·) := by
  have h1 : (uniqI ns).Pairwise fun a b => decide (a ≤ b) = true := List.pairwise_mergeSort (fun a b c h h' => by simp at *; omega) (fun a b => by simp; omega) _
  have h2 : (uniqI ns).Nodup := (List.mergeSort_perm _ _).nodup_iff.mpr (nodup_eraseDups ns)
  refine List.Pairwise.imp₂ (fun x y h h' => ?_) h1 h2
  have : x ≤ y := by simpa using h
  have : x ≠ y := h'
  omega
theorem rises_eq {xs ys : List Int} (hx : xs.Pairwise (· < ·)) (hy : ys.Pairwise (· < ·)) (h : ∀ k, k ∈ xs ↔ k ∈ ys) : xs = ys := by
  have nd : ∀ {l : List Int}, l.Pairwise (· < ·) → l.Nodup := fun h => h.imp fun q e => by omega
  exact List.Perm.eq_of_pairwise (le := fun a b : Int => a < b) (fun a b _ _ h h' => by omega) hx hy ((List.perm_ext_iff_of_nodup (nd hx) (nd hy)).mpr h)
def sortSetD : D → Option D
  | .tup ds => (intsOf ds).bind fun ns => if ns.length < 64 then some (.lst ((uniqI ns).map D.int)) else none
  | _ => none
def rMkSet (X : Cx) : List V → Hp → VK → Prop := fun xs H Q => ∃ (p : Addr) (ns : List Int), xs = [V.ref p] ∧ SqT X.K H p (ns.map V.int) ∧ ns.length < 64 ∧
  ∀ (a : Addr) (c : Nat), H a = none → c ≤ ns.length → Q (.ref a) (upd H a (SetO X.w a (fun j => decide (j ∈ ns)) c))
theorem cr_mkSet (hc : X.calm = true) : CallR X (.type "set") (rMkSet X) := by
  intro pins s σ H xs us Q I r h
  obtain ⟨p, ns, rfl, hx, hl, q⟩ := h
  obtain ⟨its, rv, ht, hz⟩ := I.tuple hx
  rw [Vals.ref1 r]
  have hi := rv.ints
  refine call_set_tupI ns (I.ok.hd hc) ht (by simpa using hi) (by unfold scanBound; omega) fun h' tk c R hcn k => ?_
  exact ⟨.ref _, upd H s.heap.objs.size (SetO X.w s.heap.objs.size _ c), I.laid (t' := tk) k (Nat.le_refl _) (setO_new R), rfl, q _ _ (I.hok.fresh (Nat.le_refl _)) hcn⟩
theorem e_sset (hc : X.calm = true) (hm : X.mg "sorted" = none) (hm2 : X.mg "set" = none) (ha : PE X a (tD X.K fa)) (hg : Gl X "sorted" := by rfl) (hg2 : Gl X "set" := by rfl)
    (na : starEach [.Call (.Name "set" p2) [a] [] pos2] X.env = (false, eval (.Call (.Name "set" p2) [a] [] pos2) X.env) :: starEach [] X.env := by rfl) (na2 : starEach [a] X.env = (false, eval a X.env) :: starEach [] X.env := by rfl) :
    PE X (.Call (.Name "sorted" p) [.Call (.Name "set" p2) [a] [] pos2] [] pos) (tD X.K (f1 sortSetD fa)) := by
  refine PE_weak (pe_callB (cr_sortedSet hc) hg hm (by decide +kernel) (pa_cons (pe_callTy (cr_mkSet hc) hg2 hm2 (by decide +kernel) (pa_cons ha pa_nil na2) (he := na2)) pa_nil na) (he := na)) fun σ H Q h => ?_
  obtain ⟨H0, env, Hb, d, r, sm, ef, q⟩ := h
  obtain ⟨da, ea, eg⟩ := bind1 ef
  refine ⟨H0, env, Hb, da, r, sm, ea, fun v Hb1 H1 s1 iv => ?_⟩
  unfold sortSetD at eg
  split at eg
  · obtain ⟨ns, en, eg⟩ := bind1 eg
    obtain ⟨hl, rfl⟩ := iteS eg
    have e := intsOf_eq en
    subst e
    simp only [Is] at iv
    obtain ⟨p, vs, rfl, hx, lx⟩ := iv
    have := isl_ints lx
    subst this
    refine ⟨p, ns, rfl, sq_mono s1.c hx, hl, fun z c hz hcn => ?_⟩
    refine ⟨z, _, c, rfl, upd_same, by omega, fun ns' p' rises hmem _ hp => ?_⟩
    have e : ns' = uniqI ns := rises_eq rises (uniqI_rises ns) fun k => by rw [hmem k, uniqI_mem]; simp
    subst e
    have st : Step Hb1 H1 (upd Hb1 z (SetO X.w z (fun j => decide (j ∈ ns)) c)) (upd H1 z (SetO X.w z (fun j => decide (j ∈ ns)) c)) := Step.new s1.c hz
    exact q _ _ _ (s1.trans (st.trans (Step.new st.c hp))) (is_lst_new (st.c.free hp) (of_ints _))
  · cases eg
variable {c : Expr} {fc : En → Option D}
theorem t_chain {op op' : CmpOp} {g g' : D → D → Option D} (ho : OpR X (compareOp op) (rD2 X.K g)) (ho' : OpR X (compareOp op') (rD2 X.K g')) (ha : PE X a (tD X.K fa)) (hb : PE X b (tD X.K fb)) (hc : PE X c (tD X.K fc))
    (hm : lastMarks [op, op'] [b, c] = false := by with_unfolding_all rfl) : PT X (.Compare a [op, op'] [b, c] pos) (tT X.K (fB (fChain g g' fa fb fc))) :=
  PT_weak (pt_chain ho ho' ha hb hc hm) fun σ H Q h => by
    obtain ⟨H0, env, Hb, k0, r, sm, ef, q0⟩ := h
    obtain ⟨d, ef, e0⟩ := bind1 ef
    have hd := asB_some e0
    subst hd
    have q : ∀ v Hb' H', Step Hb H Hb' H' → Is X.K Hb' (.bl k0) v → ∃ k, v = .bl k ∧ Q k H' := fun v Hb' H' s iv => ⟨k0, by simpa only [Is] using iv, q0 Hb' H' s⟩
    obtain ⟨da, ea, ef⟩ := bind1 ef
    obtain ⟨db, eb, ef⟩ := bind1 ef
    obtain ⟨z, ez, ef⟩ := bind1 ef
    obtain ⟨k, ek, eg⟩ := bind1 ef
    have hz := asB_some ek
    subst hz
    refine ⟨H0, env, Hb, da, r, sm, ea, fun x Hb1 H1 s1 ix => ⟨H0, env, Hb1, db, r.step s1, s1.c, eb, fun y Hb2 H2 s2 iy => ⟨Hb2, da, db, .bl k, s2.c, ix.mono s2.b, iy, ez, fun v Hb3 H3 s3 iv => ⟨k, by simpa only [Is] using iv, ?_⟩⟩⟩⟩
    cases k with
    | false =>
      simp at eg
      subst eg
      exact q _ Hb3 H3 (s1.trans (s2.trans s3)) (by simp only [Is])
    | true =>
      obtain ⟨dc, ec, eg⟩ := bind1 eg
      exact ⟨H0, env, Hb3, dc, ((r.step s1).step s2).step s3, s3.c, ec, fun w Hb4 H4 s4 iw => ⟨Hb4, db, dc, _, s4.c, (iy.mono s3.b).mono s4.b, iw, eg, fun v' Hb' H' s5 iv' => q v' Hb' H' (s1.trans (s2.trans (s3.trans (s4.trans s5)))) iv'⟩⟩

/-! ### argument lists, displays -/
end
end Dn
set_option Elab.async false
set_option linter.all false
set_option maxRecDepth 100000
/-! Rows: struck, laid, marks drawn. -/
namespace Dn
open PySem L2
local macro_rules | `(tactic| walk_at "dg") => `(tactic| first
  | with_reducible exact add_i _ _ | with_reducible exact sub_i _ _ | ((with_reducible refine mul_i ?_); omega) | ((with_reducible refine fdiv_i ?_); omega) | ((with_reducible refine mod_i ?_); omega) | with_reducible exact neg_i _
  | with_reducible exact lt_i _ _ | with_reducible exact le_i _ _ | with_reducible exact gt_i _ _ | with_reducible exact ge_i _ _ | with_reducible exact eq_i _ _ | with_reducible exact ne_i _ _ | with_reducible exact eq_s _ _ | with_reducible exact ne_s _ _
  | ((with_reducible refine add_s ?_); omega) | ((with_reducible refine add_t ?_); omega) | ((with_reducible refine add_l ?_); omega) | ((with_reducible refine mul_s ?_); omega) | ((with_reducible refine mul_l ?_); omega)
  | ((with_reducible refine len_s ?_); omega) | with_reducible exact len_t _ | with_reducible exact len_l _ | with_reducible exact len_c _ | with_reducible exact int_b _ | with_reducible exact int_i _ | with_reducible exact abs_i _
  | ((with_reducible refine sl_s ?_); omega) | with_reducible exact sl_t _ _ _ | with_reducible exact sl_l _ _ _ | ((with_reducible apply ix_t); (· omega); (· rfl)) | ((with_reducible apply ix_l); (· omega); (· rfl)) | with_reducible assumption)
local macro_rules | `(tactic| walk_at "dc") => `(tactic| with_reducible assumption)
local macro_rules | `(tactic| walk_at "dn") => `(tactic| first
  | with_reducible exact v_c | with_reducible exact v_nil | with_reducible exact v_no
  | ((with_reducible apply v_var); (· rfl); (· rfl))
  | ((with_reducible apply v_2); (· walk_at "dn"); (· walk_at "dn"); (· walk_at "dg"))
  | ((with_reducible apply v_1); (· walk_at "dn"); (· walk_at "dg"))
  | ((with_reducible apply v_cons); (· walk_at "dn"); (· walk_at "dn"))
  | ((with_reducible apply v_blt); (· walk_at "dn"); (· walk_at "dg"))
  | ((with_reducible apply v_call); (· walk_at "dn"); (· walk_at "dc"))
  | ((with_reducible apply v_tup); (· walk_at "dn"); (· first | decide | (simp only [List.length_cons, List.length_nil]; decide)))
  | ((with_reducible apply v_lst); (· walk_at "dn"); (· first | decide | (simp only [List.length_cons, List.length_nil]; decide)))
  | ((with_reducible apply v_po); (· walk_at "dn"))
  | ((with_reducible apply v_sl); (· walk_at "dn"); (· walk_at "dn"); (· walk_at "dn"); (· walk_at "dg"))
  | ((with_reducible apply v_m1); (· walk_at "dn"); (· walk_at "dn"); (· walk_at "dg"))
  | ((with_reducible apply v_b); (· walk_at "dn"))
  | ((with_reducible apply v_not); (· walk_at "dn"))
  | ((with_reducible apply v_notV); (· walk_at "dn"))
  | ((with_reducible apply v_rng1); (· walk_at "dn"); (· omega))
  | ((with_reducible apply v_rng2); (· walk_at "dn"); (· omega))
  | ((with_reducible apply v_it); (· walk_at "dn"))
  | ((with_reducible apply v_itl); (· walk_at "dn"))
  | ((with_reducible apply v_its); (· walk_at "dn"))
  | with_reducible assumption)
local macro_rules | `(tactic| walk_at "dt") => `(tactic| first
  | with_reducible exact v_c | with_reducible exact v_nil | with_reducible exact v_no
  | ((with_reducible apply v_var); (· rfl); (· rfl))
  | ((with_reducible apply v_2) <;> walk_at "dt")
  | ((with_reducible apply v_1) <;> walk_at "dt")
  | ((with_reducible apply v_cons) <;> walk_at "dt")
  | ((with_reducible apply v_blt) <;> walk_at "dt")
  | ((with_reducible apply v_call) <;> walk_at "dt")
  | ((with_reducible apply v_tup) <;> walk_at "dt")
  | ((with_reducible apply v_lst) <;> walk_at "dt")
  | ((with_reducible apply v_po) <;> walk_at "dt")
  | ((with_reducible apply v_sl) <;> walk_at "dt")
  | ((with_reducible apply v_m1) <;> walk_at "dt")
  | ((with_reducible apply v_b) <;> walk_at "dt")
  | ((with_reducible apply v_notV) <;> walk_at "dt")
  | ((with_reducible apply v_not) <;> walk_at "dt")
  | ((with_reducible apply v_rng1) <;> first | omega | walk_at "dt")
  | ((with_reducible apply v_rng2) <;> first | omega | walk_at "dt")
  | walk_at "dg"
  | (show List.length _ ≤ sizeLine; first | decide | (simp only [List.length_cons, List.length_nil]; decide))
  | skip)
local macro_rules | `(tactic| walk_at "ds") => `(tactic| first
  | ((with_reducible apply w_ss) <;> first | walk_at "d1" | skip)
  | ((with_reducible apply w_r) <;> first | walk_at "d1" | skip)
  | ((with_reducible apply w_sp) <;> first | walk_at "d1" | skip)
  | ((with_reducible apply w_so) <;> first | walk_at "d1" | skip)
  | (with_reducible apply w_sv)
  | (with_reducible apply w_sq))
local macro_rules | `(tactic| walk_at "dx") => `(tactic| simp only [put, jn, List.set_cons_zero, List.set_cons_succ])
noncomputable def m_struck : En → Option Fl :=
  (fRet (f1 tupD (fLc (fEnum (fV 0)) (gT (gCons' (gN 1) (gCons' (gN 2) gNil'))) (fB (f2 neD (fV 2) (fC (.str [46])))) (fV 1) [1, 2])))
noncomputable def n_struck : List D → Option D := semOf 3 1 m_struck
noncomputable def m_laid : En → Option Fl :=
  (fRet (fM1 joinD (fC (.str [])) (fLc (fZip2 (fV 0) (fV 1)) (gT (gCons' (gN 2) (gCons' (gN 3) gNil'))) fYes (f2 ixD (fC (.str [46, 120, 88])) (fBlt maxG (fCons (fM1 indexD (fC (.str [46, 120, 88])) (fV 2)) (fCons (fM1 indexD (fC (.str [46, 120, 88])) (fV 3)) fNil)))) [2, 3])))
noncomputable def n_laid : List D → Option D := semOf 4 2 m_laid
noncomputable def m__law_marks : En → Option Fl :=
  (fSeq (fSet 2 (fC (.str [])))
  (fSeq (fFor (fRng1 (fCons (fV 1) fNil)) (gN 3)
    (fSeq (fSet 4 (f2 fdivD (fCall n__law_drawn (fCons (fV 0) (fCons (fV 3) fNil))) (fC (.int 4))))
    (fSet 2 (f2 addD (fV 2) (f2 ixD (fC (.str [46, 46, 46, 120, 120, 88])) (f2 modD (fV 4) (fC (.int 6))))))))
  (fRet (fV 2))))
noncomputable def n__law_marks : List D → Option D := semOf 5 2 m__law_marks
theorem enum_at (xs : List D) : enumD xs = (List.range xs.length).map fun i => D.tup [.int (i : Nat), xs.getD i .non] := by
  unfold enumD
  refine List.ext_getElem (by simp) fun i h1 h2 => ?_
  have h3 : i < xs.length := by simpa using h2
  simp [List.getElem_zipWith, List.getD_eq_getElem?_getD, List.getElem?_eq_getElem h3]
theorem zip2_at (xs ys : List D) (h : xs.length = ys.length) : zip2D xs ys = (List.range xs.length).map fun i => D.tup [xs.getD i .non, ys.getD i .non] := by
  unfold zip2D
  refine List.ext_getElem (by simp [h]) fun i h1 h2 => ?_
  have h3 : i < xs.length := by simpa using h2
  have h4 : i < ys.length := by omega
  simp [List.getElem_zipWith, List.getD_eq_getElem?_getD, List.getElem?_eq_getElem h3, List.getElem?_eq_getElem h4]
theorem zip3_at (xs ys zs : List D) (h : xs.length = ys.length) (h' : xs.length = zs.length) : zip3D xs ys zs = (List.range xs.length).map fun i => D.tup [xs.getD i .non, ys.getD i .non, zs.getD i .non] := by
  unfold zip3D
  refine List.ext_getElem (by simp [← h, ← h']) fun i h1 h2 => ?_
  have h3 : i < xs.length := by simpa using h2
  have h4 : i < ys.length := by omega
  have h5 : i < zs.length := by omega
  simp [List.getElem_zipWith, List.getD_eq_getElem?_getD, List.getElem?_eq_getElem h3, List.getElem?_eq_getElem h4, List.getElem?_eq_getElem h5]
theorem v_enum {fa : En → Option D} {env : En} {a : D} {xs : List D} (h : fa env = some a) (h2 : itemsD a = some xs) : fEnum fa env = some (enumD xs) := by
  unfold fEnum
  rw [h]
  simp only [Option.bind_some, h2]
theorem v_zip2 {fa fb : En → Option D} {env : En} {a b : D} {xs ys : List D} (h : fa env = some a) (h1 : fb env = some b) (h2 : itemsD a = some xs) (h3 : itemsD b = some ys) : fZip2 fa fb env = some (zip2D xs ys) := by
  unfold fZip2
  rw [h, h1]
  simp only [Option.bind_some, h2, h3]
theorem v_zip3 {fa fb fc : En → Option D} {env : En} {a b c : D} {xs ys zs : List D} (h : fa env = some a) (h1 : fb env = some b) (hc : fc env = some c) (h2 : itemsD a = some xs) (h3 : itemsD b = some ys) (h4 : itemsD c = some zs) : fZip3 fa fb fc env = some (zip3D xs ys zs) := by
  unfold fZip3
  rw [h, h1, hc]
  simp only [Option.bind_some, h2, h3, h4]
theorem getD_signs {row : List Nat} {i : Nat} (h : i < row.length) : (row.map fun x => D.str [x]).getD i .non = .str [row.getD i 46] := by
  simp [List.getD_eq_getElem?_getD, List.getElem?_eq_getElem h]
def strkN (row : List Nat) : List Nat := (List.range row.length).filter fun i => !decide (row.getD i 46 = 46)
def strk (row : List Nat) : List Int := (strkN row).map fun i : Nat => (i : Int)
theorem e_struck {row : List Nat} (h : row.length ≤ 1000) : n_struck [.str row] = some (.tup ((strk row).map D.int)) := by
  refine sem_rt rfl ?_
  show m_struck [some (.str row), none, none] = _
  unfold m_struck
  refine ret_of (v_1 (a := .lst ((strk row).map D.int)) (lcw (v_enum (by walk_at "dn") rfl) ?_ ?_) rfl)
  · rw [enum_at]
    simp
    omega
  · rw [enum_at, List.length_map]
    unfold strk strkN
    rw [List.map_map]
    refine lc_filter (fun i : Nat => D.tup [.int (i : Nat), (row.map fun x => D.str [x]).getD i .non]) _ _ (List.range row.length) fun i hi => ?_
    rw [getD_signs (List.mem_range.mp hi)]
    refine ⟨[some (.str row), some (.int (i : Nat)), some (.str [row.getD i 46])], rfl, ?_, fun _ => rfl⟩
    refine v_b (v_2 (by walk_at "dn") v_c ?_)
    rw [ne_s]
    simp
def isM (c : Nat) : Prop := c = 46 ∨ c = 120 ∨ c = 88
def isRow (l : List Nat) : Prop := ∀ c ∈ l, isM c
def rk (c : Nat) : Int := if c = 88 then 2 else if c = 120 then 1 else 0
def mx (c d : Nat) : Nat := if c = 88 ∨ d = 88 then 88 else if c = 120 ∨ d = 120 then 120 else 46
theorem e_rk {c : Nat} (h : isM c) : indexD [46, 120, 88] (.str [c]) = some (.int (rk c)) := by
  rcases h with rfl | rfl | rfl <;> rfl
def layL (a b : List Nat) : List Nat := List.zipWith mx a b
theorem layL_at (a b : List Nat) (h : a.length = b.length) : layL a b = (List.range a.length).map fun i => mx (a.getD i 46) (b.getD i 46) := by
  unfold layL
  refine List.ext_getElem (by simp [h]) fun i h1 h2 => ?_
  have h3 : i < a.length := by simpa using h2
  have h4 : i < b.length := by omega
  simp [List.getElem_zipWith, List.getD_eq_getElem?_getD, List.getElem?_eq_getElem h3, List.getElem?_eq_getElem h4]
theorem isM_at {l : List Nat} (h : isRow l) (i : Nat) : isM (l.getD i 46) := by
  rw [List.getD_eq_getElem?_getD]
  cases e : l[i]? with
  | none => exact .inl rfl
  | some c => exact h c (List.mem_of_getElem? e)
theorem e_laid {a b : List Nat} (ha : isRow a) (hb : isRow b) (h : a.length = b.length) (h2 : a.length ≤ 1000) : n_laid [.str a, .str b] = some (.str (layL a b)) := by
  refine sem_rt rfl ?_
  show m_laid [some (.str a), some (.str b), none, none] = _
  unfold m_laid
  refine ret_of (v_m1 v_c (lcw (r := ((List.range a.length).map fun i => [mx (a.getD i 46) (b.getD i 46)]).map D.str) (v_zip2 (by walk_at "dn") (by walk_at "dn") rfl rfl) ?_ ?_) ?_)
  · rw [zip2_at _ _ (by simp [h])]
    simp
    omega
  · rw [zip2_at _ _ (by simp [h]), List.length_map, List.map_map]
    refine lc_map (fun i : Nat => D.tup [(a.map fun x => D.str [x]).getD i .non, (b.map fun x => D.str [x]).getD i .non]) _ _ fun i hi => ?_
    rw [getD_signs (List.mem_range.mp hi), getD_signs (by rw [← h]; exact List.mem_range.mp hi)]
    refine ⟨[some (.str a), some (.str b), some (.str [a.getD i 46]), some (.str [b.getD i 46])], rfl, ?_⟩
    refine v_2 v_c (v_blt (v_cons (v_m1 v_c (by walk_at "dn") (e_rk (isM_at ha i))) (v_cons (v_m1 v_c (by walk_at "dn") (e_rk (isM_at hb i))) v_nil)) rfl) ?_
    show _ = some (D.str [mx (a.getD i 46) (b.getD i 46)])
    rcases isM_at ha i with e | e | e <;> rcases isM_at hb i with e' | e' | e' <;> rw [e, e'] <;> rfl
  · rw [join_l, joinL_nil, flat_ones, layL_at a b h]
    rw [sum_ones _ fun _ => rfl]
    simp
    omega
theorem e_marks (n : Int) {s : Nat} (hs : s ≤ 1000) : ∃ row, n__law_marks [.int n, .int s] = some (.str row) ∧ row.length = s ∧ isRow row := by
  have key := for_inv (g := gN 3) (B := (fSeq (fSet 4 (f2 fdivD (fCall n__law_drawn (fCons (fV 0) (fCons (fV 3) fNil))) (fC (.int 4)))) (fSet 2 (f2 addD (fV 2) (f2 ixD (fC (.str [46, 46, 46, 120, 120, 88])) (f2 modD (fV 4) (fC (.int 6))))))))
    (fun i : Nat => D.int (i : Nat)) (fun p e => ∃ row x y, e = [some (.int n), some (.int s), some (.str row), x, y] ∧ row.length = p.length ∧ isRow row) (List.range s) [] [some (.int n), some (.int s), some (.str []), none, none] ⟨[], none, none, rfl, rfl, fun c h => by cases h⟩ ?_
  · obtain ⟨e', h1, row, x, y, rfl, hl, hr⟩ := key
    refine ⟨row, sem_rt rfl ?_, by simpa using hl, hr⟩
    show m__law_marks [some (.int n), some (.int s), none, none, none] = _
    unfold m__law_marks
    refine w_seq (w_set v_c rfl) (w_seq (w_for (v_rng1 (n := (s : Int)) (by walk_at "dn") (by omega)) h1) (ret_of ?_))
    walk_at "dn"
  · rintro p i q e hp ⟨row, x, y, rfl, hl, hr⟩
    have hi : i ∈ List.range s := by
      have : i ∈ ([] : List Nat) ++ List.range s := by rw [hp]; simp
      simpa using this
    have hi := List.mem_range.mp hi
    have hpl : p.length ≤ s := by
      have := congrArg List.length hp
      simp at this
      omega
    obtain ⟨m, h0, h1, em⟩ := drawn_ok n (i : Int) (by omega)
    have hx : ∃ c, isM c ∧ ixD (.str [46, 46, 46, 120, 120, 88]) (.int (m / 4 % 6)) = some (.str [c]) := by
      have h6 : m / 4 % 6 = 0 ∨ m / 4 % 6 = 1 ∨ m / 4 % 6 = 2 ∨ m / 4 % 6 = 3 ∨ m / 4 % 6 = 4 ∨ m / 4 % 6 = 5 := by omega
      rcases h6 with e | e | e | e | e | e <;> rw [e]
      · exact ⟨46, .inl rfl, rfl⟩
      · exact ⟨46, .inl rfl, rfl⟩
      · exact ⟨46, .inl rfl, rfl⟩
      · exact ⟨120, .inr (.inl rfl), rfl⟩
      · exact ⟨120, .inr (.inl rfl), rfl⟩
      · exact ⟨88, .inr (.inr rfl), rfl⟩
    obtain ⟨c, hc, hx⟩ := hx
    refine ⟨_, [some (.int n), some (.int s), some (.str (row ++ [c])), some (.int (i : Nat)), some (.int (m / 4))], rfl, ?_, row ++ [c], _, _, rfl, by simp [hl], ?_⟩
    · show fSeq _ _ [some (.int n), some (.int s), some (.str row), some (.int (i : Nat)), y] = _
      refine w_seq (w_set (v_2 (v_call (by walk_at "dn") em) v_c (fdiv_i (by omega))) rfl) ?_
      refine w_set (d := .str (row ++ [c])) (v_2 (by walk_at "dn") (v_2 v_c (by walk_at "dn") hx) (add_s ?_)) rfl
      simp
      omega
    · intro d hd
      rcases List.mem_append.mp hd with h | h
      · exact hr d h
      · rw [List.mem_singleton.mp h]
        exact hc
theorem w_nf {fa fb : En → Option D} {env : En} {x y : D} (h1 : fa env = some x) (h2 : fb env = some y) (h3 : x = y) (h4 : okN 60 x = true) : fB (f2 neD fa fb) env = some false := by
  subst h3
  exact v_b (v_2 h1 h2 (ne_same h4))
theorem okN_strs (n : Nat) (ls : List (List Nat)) : ((ls.map D.str).all fun x => okN n x) = true := by
  rw [List.all_eq_true]
  intro x hx
  obtain ⟨l, _, rfl⟩ := List.mem_map.mp hx
  cases n <;> rfl
theorem okN_ints (n : Nat) (ls : List Int) : ((ls.map D.int).all fun x => okN n x) = true := by
  rw [List.all_eq_true]
  intro x hx
  obtain ⟨l, _, rfl⟩ := List.mem_map.mp hx
  cases n <;> rfl
theorem ok_tints (ls : List Int) : okN 60 (.tup (ls.map D.int)) = true := okN_ints 59 ls
theorem ok_lints (ls : List Int) : okN 60 (.lst (ls.map D.int)) = true := okN_ints 59 ls
theorem ok_lstrs (ls : List (List Nat)) : okN 60 (.lst (ls.map D.str)) = true := okN_strs 59 ls
theorem mx_row {c d : Nat} (h : isM c) (h' : isM d) : isM (mx c d) := by
  rcases h with rfl | rfl | rfl <;> rcases h' with rfl | rfl | rfl <;> simp [mx, isM]
theorem lay_row {a b : List Nat} (ha : isRow a) (hb : isRow b) (h : a.length = b.length) : isRow (layL a b) := by
  intro c hc
  rw [layL_at a b h] at hc
  obtain ⟨i, _, rfl⟩ := List.mem_map.mp hc
  exact mx_row (isM_at ha i) (isM_at hb i)
theorem lay_len {a b : List Nat} (h : a.length = b.length) : (layL a b).length = a.length := by
  unfold layL
  rw [List.length_zipWith, ← h, Nat.min_self]
theorem lay_get {a b : List Nat} (h : a.length = b.length) {i : Nat} (hi : i < a.length) : (layL a b).getD i 46 = mx (a.getD i 46) (b.getD i 46) := by
  rw [layL_at a b h]
  simp [List.getD_eq_getElem?_getD, hi]
theorem row_ext {a b : List Nat} (h : a.length = b.length) (q : ∀ i, i < a.length → a.getD i 46 = b.getD i 46) : a = b := by
  refine List.ext_getElem h fun i h1 h2 => ?_
  have := q i h1
  simpa [List.getD_eq_getElem?_getD, List.getElem?_eq_getElem h1, List.getElem?_eq_getElem h2] using this
theorem rot_len (row : List Nat) (b : Int) : (rotL row b).length = row.length := by
  unfold rotL
  rw [List.length_append, List.length_drop, List.length_take]
  omega
theorem rot_row {row : List Nat} (h : isRow row) (b : Int) : isRow (rotL row b) := by
  intro c hc
  unfold rotL at hc
  rcases List.mem_append.mp hc with q | q
  · exact h c (List.mem_of_mem_drop q)
  · exact h c (List.mem_of_mem_take q)
theorem reps_one (c n : Nat) : reps [c] n = List.replicate n c := by
  unfold reps
  induction n with
  | zero => rfl
  | succ n ih => rw [List.replicate_succ, List.flatten_cons, ih, List.replicate_succ]; rfl
theorem strkN_rises (row : List Nat) : (strkN row).Pairwise (· < ·) := List.Pairwise.filter _ List.pairwise_lt_range
theorem strk_rises (row : List Nat) : (strk row).Pairwise (· < ·) := by
  unfold strk
  rw [List.pairwise_map]
  exact (strkN_rises row).imp fun h => by omega
theorem mem_strkN {row : List Nat} {i : Nat} : i ∈ strkN row ↔ i < row.length ∧ row.getD i 46 ≠ 46 := by
  unfold strkN
  rw [List.mem_filter, List.mem_range]
  simp
theorem mem_strk {row : List Nat} {k : Int} : k ∈ strk row ↔ ∃ i : Nat, k = (i : Int) ∧ i < row.length ∧ row.getD i 46 ≠ 46 := by
  unfold strk
  rw [List.mem_map]
  constructor
  · rintro ⟨i, h, rfl⟩
    exact ⟨i, rfl, mem_strkN.mp h⟩
  · rintro ⟨i, rfl, h⟩
    exact ⟨i, mem_strkN.mpr h, rfl⟩
theorem strk_len (row : List Nat) : (strk row).length ≤ row.length := by
  unfold strk strkN
  rw [List.length_map]
  have := List.length_filter_le (fun i => !decide (row.getD i 46 = 46)) (List.range row.length)
  simpa using this
theorem at_get {row : List Nat} {i : Nat} (h : i < row.length) : row[i]? = some (row.getD i 46) := by
  rw [List.getD_eq_getElem?_getD, List.getElem?_eq_getElem h]
  rfl
end Dn
set_option Elab.async false
set_option linter.all false
set_option maxRecDepth 100000
/-! Part I: lists that a slot owns: made, written, told as plain ones. -/
namespace Dn
open PySem L2 PySem.Spec PyProof.Rows

def tN (K : PySem.W.Frag) (f : En → Option (List D)) : TE := fun σ H Q => ∃ H0 env Hb ds, Rel K H0 Hb H σ env ∧ Same Hb H ∧ f env = some ds ∧
  ∀ a vs Hb' H', Step Hb H Hb' H' → H a = none → Hb' a = none → H' a = some (.lst vs) → IsL K Hb' ds vs → Q (.ref a) H'
section
variable {X : Cx} {a b e o : Expr} {es : List Expr} {pos apos cpos tpos : Pos} {fa fb fv : En → Option D} {fs fn : En → Option (List D)} {F : En → Option Fl} {sts : List Stmt}
def fNL (fs : En → Option (List D)) : En → Option (List D) := fun env => (fs env).bind fun ds => if ds.length ≤ sizeLine then some ds else none
theorem n_lst (h : PA X es (tA X.K fs)) : PE X (.List es pos) (tN X.K (fNL fs)) := PE_weak (pe_lst h) fun σ H Q hh => by
  obtain ⟨H0, env, Hb, d, r, sm, ef, q⟩ := hh
  obtain ⟨ds, es, eg⟩ := bind1 ef
  obtain ⟨hl, rfl⟩ := iteS eg
  exact ⟨H0, env, Hb, ds, r, sm, es, fun vs Hb1 H1 s1 ix => ⟨by rw [ix.length]; exact hl, fun p hp =>
    q p vs Hb1 _ (s1.trans (Step.hid s1.c hp (s1.c.free hp))) (s1.a.free hp) (s1.c.free hp) upd_same ix⟩⟩
def mulN : D → D → Option (List D)
  | .lst x, .int n => if x.length ≤ 1000 ∧ -1000 ≤ n ∧ n ≤ 1000 then some (reps x n.toNat) else none
  | _, _ => none
def fNM (fa fb : En → Option D) : En → Option (List D) := fun env => (fa env).bind fun a => (fb env).bind fun b => mulN a b
theorem n_mul (ha : PE X a (tD X.K fa)) (hb : PE X b (tD X.K fb)) : PE X (.BinOp a .Mult b pos) (tN X.K (fNM fa fb)) := PE_weak (pe_op op_rep ha hb) fun σ H Q hh => by
  obtain ⟨H0, env, Hb, d, r, sm, ef, q⟩ := hh
  obtain ⟨da, db, ea, eb, eg⟩ := bind2 ef
  refine ⟨H0, env, Hb, da, r, sm, ea, fun x Hb1 H1 s1 ix => ⟨H0, env, Hb1, db, r.step s1, s1.c, eb, fun y Hb2 H2 s2 iy => ?_⟩⟩
  unfold mulN at eg
  split at eg
  · obtain ⟨⟨h1, h2, h3⟩, rfl⟩ := iteS eg
    have ix' := ix.mono s2.b
    simp only [Is] at ix' iy
    obtain ⟨p, xs, rfl, hx, lx⟩ := ix'
    subst iy
    have s12 := s1.trans s2
    refine ⟨p, _, xs, rfl, rfl, s2.c _ _ hx, by omega, by omega, ?_, fun z hz => q z _ Hb2 _ (s12.trans (Step.hid s2.c hz (s2.c.free hz))) (s12.a.free hz) (s2.c.free hz) upd_same ?_⟩
    · refine Nat.le_trans ?_ size1000
      rw [lx.length]
      refine Nat.le_trans (Nat.mul_le_mul_left _ (?_ : _ ≤ 1000)) (by omega)
      omega
    · unfold reps
      generalize Int.toNat _ = m
      induction m with
      | zero => simp [IsL]
      | succ m ih =>
        rw [List.replicate_succ, List.replicate_succ, List.flatten_cons, List.flatten_cons]
        exact lx.append ih
  · cases eg

/-! ### slots that own -/
theorem Rel.own {K : PySem.W.Frag} {H0 Hb H Hb' H' : Hp} {σ : L2.St} {env : En} (r : Rel K H0 Hb H σ env) (s : Step Hb H Hb' H') (i : Nat) {p : Addr} {d : D} (hp : H p = none) (hd : IsS K H0 Hb' H' d (.ref p)) : Rel K H0 Hb' H' (σ.set i (some (.ref p))) (env.set i (some d)) := by
  have r' := r.step s
  have ownA : ∀ (j : Nat) (e : D) (q : Addr), env[j]? = some (some e) → e.isOwn = true → σ[j]? = some (some (.ref q)) → q ≠ p := fun j e q he ho hs z => by
    obtain ⟨v, h1, h2⟩ := r.val j e he
    rw [hs] at h1
    cases h1
    cases e with
    | own ds =>
      obtain ⟨a, vs, e1, e2, e3, e4, e5⟩ := h2
      cases e1
      rw [z, hp] at e4
      cases e4
    | ownd ds =>
      obtain ⟨a, vs, e1, e2, e3, e4, e5⟩ := h2
      cases e1
      rw [z, hp] at e4
      cases e4
    | _ => cases ho
  refine ⟨by rw [List.length_set, List.length_set, r.len], fun j e q => ?_, fun j k e e' a ne q1 q2 o1 o2 s1 s2 => ?_⟩
  · by_cases hj : i = j
    · subst hj
      have hi : i < env.length := by
        have := (List.getElem?_eq_some_iff.mp q).1
        rw [List.length_set] at this
        exact this
      rw [List.getElem?_set_self hi] at q
      cases q
      exact ⟨_, List.getElem?_set_self (by rw [r.len]; exact hi), hd⟩
    · rw [List.getElem?_set_ne hj] at q
      obtain ⟨w, a, b⟩ := r'.val j e q
      exact ⟨w, by rw [List.getElem?_set_ne hj]; exact a, b⟩
  · have hset : ∀ (m : Nat), i = m → (σ.set i (some (.ref p)))[m]? = some (some (.ref a)) → a = p := fun m hm hs => by
      subst hm
      have hi : i < σ.length := by
        have := (List.getElem?_eq_some_iff.mp hs).1
        rw [List.length_set] at this
        exact this
      rw [List.getElem?_set_self hi] at hs
      cases hs
      rfl
    by_cases hj : i = j
    · have := hset j hj s1
      subst this
      rw [List.getElem?_set_ne (by omega)] at q2 s2
      exact ownA k e' _ q2 o2 s2 rfl
    · by_cases hk : i = k
      · have := hset k hk s2
        subst this
        rw [List.getElem?_set_ne hj] at q1 s1
        exact ownA j e _ q1 o1 s1 rfl
      · rw [List.getElem?_set_ne hj] at q1 s1
        rw [List.getElem?_set_ne hk] at q2 s2
        exact r.sep j k e e' a ne q1 q2 o1 o2 s1 s2
def fOwn (i : Nat) (fn : En → Option (List D)) : En → Option Fl := fun env => (fn env).bind fun ds => some (.nx (env.set i (some (.own ds))))
theorem s_own (i : Nat) {x : Str} {pos' : Pos} (hN : X.N.Nodup) (he : PE X e (tN X.K fn)) (hi : X.N[i]? = some x := by rfl) (hx : Loc X.env.scope x := by first | exact Or.inl rfl | exact Or.inr rfl) (hs : swapsWith e (some (.Name x pos')) pos.line X.env = pure false := by rfl)
    (hf : X.fn x = true ∨ X.env.scope.names.lookup x = some .local := by first | exact .inl rfl | exact .inr rfl) : PS X (.Assign [.Name x pos'] e pos) (tS X.K (fOwn i fn)) := PS_weak (ps_set hN hi hx he hs hf) fun N σ H h => by
  obtain ⟨H0, Hb0, env, Hb, fl, r, sp, ef, out⟩ := h
  obtain ⟨ds, ed, ef⟩ := bind1 ef
  cases ef
  exact ⟨H0, env, Hb, ds, r, sp.c, ed, fun p vs Hb1 H1 s1 hp hb h1 il => out _ Hb1 H1 (r.own s1 i hp ⟨p, vs, rfl, sp.a.free hp, hb, h1, il⟩) (sp.trans s1)⟩
/-- an owned object is rewritten -/
theorem Rel.put {K : PySem.W.Frag} {H0 Hb H : Hp} {σ : L2.St} {env : En} (r : Rel K H0 Hb H σ env) {i : Nat} {p : Addr} {d d' : D} {ob : HO} (hi : env[i]? = some (some d)) (hd : d.isOwn = true) (hs : σ[i]? = some (some (.ref p))) (hd2 : d'.isOwn = true) (hn : IsS K H0 Hb (upd H p ob) d' (.ref p)) : Rel K H0 Hb (upd H p ob) σ (env.set i (some d')) := by
  have hlt := (List.getElem?_eq_some_iff.mp hi).1
  have other : ∀ (j : Nat) (e : D), i ≠ j → env[j]? = some (some e) → e.isOwn = true → σ[j]? ≠ some (some (.ref p)) := fun j e hne he ho hz => r.sep i j d e p hne hi he hd ho hs hz
  refine ⟨by rw [List.length_set, r.len], fun j e q => ?_, fun j k e e' a ne q1 q2 o1 o2 s1 s2 => ?_⟩
  · by_cases hj : i = j
    · subst hj
      rw [List.getElem?_set_self hlt] at q
      cases q
      exact ⟨_, hs, hn⟩
    · rw [List.getElem?_set_ne hj] at q
      obtain ⟨w, a, b⟩ := r.val j e q
      refine ⟨w, a, ?_⟩
      cases ho : e.isOwn with
      | false =>
        rw [IsS.plain ho] at b ⊢
        exact b
      | true =>
        have := other j e hj q ho
        cases e with
        | own ds =>
          obtain ⟨z, vs, e1, e2, e3, e4, e5⟩ := b
          refine ⟨z, vs, e1, e2, e3, ?_, e5⟩
          rw [upd_ne fun hz => this (by rw [a, e1, hz])]
          exact e4
        | ownd ds =>
          obtain ⟨z, vs, e1, e2, e3, e4, e5⟩ := b
          refine ⟨z, vs, e1, e2, e3, ?_, e5⟩
          rw [upd_ne fun hz => this (by rw [a, e1, hz])]
          exact e4
        | _ => cases ho
  · have key : ∀ (m : Nat) (x : D), (env.set i (some d'))[m]? = some (some x) → x.isOwn = true → ∃ y, env[m]? = some (some y) ∧ y.isOwn = true := fun m x q o => by
      by_cases hm : i = m
      · subst hm
        exact ⟨d, hi, hd⟩
      · rw [List.getElem?_set_ne hm] at q
        exact ⟨x, q, o⟩
    obtain ⟨y, y1, y2⟩ := key j e q1 o1
    obtain ⟨z, z1, z2⟩ := key k e' q2 o2
    exact r.sep j k y z a ne y1 z1 y2 z2 s1 s2
theorem Step.put {Hb0 H0 Hb H : Hp} (s : Step Hb0 H0 Hb H) {p : Addr} {ob : HO} (h0 : H0 p = none) (hb : Hb p = none) : Step Hb0 H0 Hb (upd H p ob) :=
  ⟨fun b x e => by rw [upd_ne (ne_of_none e h0)]; exact s.a b x e, s.b, fun b x e => by rw [upd_ne (ne_of_none e hb)]; exact s.c b x e, s.f⟩
/-- x[k] = v -/
def itemF (i : Nat) (k d : D) (env : En) : Option Fl := match env[i]?, k with
  | some (some (.own ds)), .int k => (ixN ds.length k).bind fun j => some (.nx (env.set i (some (.own (ds.set j d)))))
  | _, _ => none
def fItem (i : Nat) (fk fv : En → Option D) : En → Option Fl := fun env => (fv env).bind fun d => (fk env).bind fun k => itemF i k d env
theorem s_item (i : Nat) {x : Str} {xpos : Pos} {k : Expr} {fk : En → Option D} (hv : PE X e (tD X.K fv)) (hk : PE X k (tD X.K fk)) (hi : X.N[i]? = some x := by rfl) (hvis : Vis X.env.scope x := by first | exact Or.inl rfl | exact Or.inr (Or.inl rfl) | exact Or.inr (Or.inr rfl))
    (hd : (x == ("__debug__" : Str)) = false := by decide) (hcd : (x == ("__classdict__" : Str)) = false := by decide)
    (ha : ∀ v, assign (.Subscript (.Name x xpos) k tpos) X.env v = (do
      let ov ← holding [v] (eval (.Name x xpos) X.env)
      let iv ← holding [v, ov] (eval k X.env)
      standAt tpos
      holding [v, ov, iv] (setItem ov iv v)
      release [v, ov, iv] []) := by intro _; rfl)
    (hs : swapsWithSole [.Subscript (.Name x xpos) k tpos] e pos.line X.env = pure false := by rfl) (hw : swappedStores [.Subscript (.Name x xpos) k tpos] e X.env = pure none := by rfl)
    (h1 : (assignEach [.Subscript (.Name x xpos) k tpos] X.env).map (·.2) = [assign (.Subscript (.Name x xpos) k tpos) X.env] := by rfl) :
    PS X (.Assign [.Subscript (.Name x xpos) k tpos] e pos) (tS X.K (fItem i fk fv)) := PS_weak (ps_asg hv (pg_sub (pe_var hi hvis hd hcd) hk set_list ha) hs hw h1) fun N σ H h => by
  obtain ⟨H0, Hb0, env, Hb, fl, r, sp, ef, out⟩ := h
  obtain ⟨d, ed, ef⟩ := bind1 ef
  obtain ⟨kd, ek, ef⟩ := bind1 ef
  refine ⟨H0, env, Hb, d, r, sp.c, ed, fun v Hb1 H1 s1 iv => ?_⟩
  unfold itemF at ef
  split at ef
  · rename_i ds k0 hslot
    obtain ⟨j, hj, ef⟩ := bind1 ef
    cases ef
    obtain ⟨w, hσ, hown⟩ := r.val i _ hslot
    obtain ⟨p, vs, rfl, _⟩ := id hown
    refine ⟨_, hσ, H0, env, Hb1, .int k0, r.step s1, s1.c, ek, fun y Hb2 H2 s2 iy => ?_⟩
    simp only [Is] at iy
    subst iy
    have s12 := s1.trans s2
    obtain ⟨p', vs, e1, e2, e3, e4, e5⟩ := hown.step s12
    cases e1
    refine ⟨p, vs, k0, j, rfl, rfl, e4, by rw [e5.length]; exact hj, out _ Hb2 _ (((r.step s12).put (i := i) hslot rfl hσ (d' := .own (ds.set j d)) rfl ?_)) ((sp.trans s12).put e2 e3)⟩
    exact ⟨p, _, rfl, e2, e3, upd_same, IsL.set j e5 (iv.mono s2.b)⟩
  · cases ef
/-- x.append(v) -/
def appF (i : Nat) (d : D) (env : En) : Option Fl := match env[i]? with
  | some (some (.own ds)) => if ds.length < 1000000 then some (.nx (env.set i (some (.own (ds ++ [d]))))) else none
  | _ => none
def fApp (i : Nat) (fv : En → Option D) : En → Option Fl := fun env => (fv env).bind fun d => appF i d env
theorem s_app (i : Nat) {x : Str} {xpos : Pos} (hv : PE X e (tD X.K fv)) (hi : X.N[i]? = some x := by rfl) (hvis : Vis X.env.scope x := by first | exact Or.inl rfl | exact Or.inr (Or.inl rfl) | exact Or.inr (Or.inr rfl))
    (hd : (x == ("__debug__" : Str)) = false := by decide) (hcd : (x == ("__classdict__" : Str)) = false := by decide)
    (hbase : attributeBase (.Name x xpos) "append" X.env (eval (.Name x xpos) X.env) = eval (.Name x xpos) X.env := by rfl)
    (hfew : ((backTo cpos (starEach [e] X.env)).all (fun x => !x.1) && (backToKw cpos (keywordEach [] X.env)).all (fun x => x.1.isSome)
      && decide (([e] : List Expr).length + ([] : List Keyword).length + (if ([] : List Keyword).isEmpty then 0 else 1) < 30)) = true := by rfl)
    (hline : (apos.endLine == cpos.line) = true := by rfl) (hs : starEach [e] X.env = (false, eval e X.env) :: starEach [] X.env := by rfl) (hplain : (backTo cpos (starEach [] X.env)).any (·.1) = false := by rfl)
    (hsw : swapsWith (.Call (.Attribute (.Name x xpos) "append" apos) [e] [] cpos) none pos.line X.env = pure false := by rfl) :
    PS X (.Expr (.Call (.Attribute (.Name x xpos) "append" apos) [e] [] cpos) pos) (tS X.K (fApp i fv)) :=
  PS_weak (ps_expr (pe_bm F.plainAttrs_list F.slot_list_append F.type_list_append mt_append (pe_var hi hvis hd hcd) (pa_cons hv pa_nil hs) hbase hfew hline hs hplain) hsw) fun N σ H h => by
  obtain ⟨H0, Hb0, env, Hb, fl, r, sp, ef, out⟩ := h
  obtain ⟨d, ed, ef⟩ := bind1 ef
  unfold appF at ef
  split at ef
  · rename_i ds hslot
    obtain ⟨hl, hfl⟩ := iteS ef
    subst hfl
    obtain ⟨w, hσ, hown⟩ := r.val i _ hslot
    obtain ⟨p, vs, rfl, a2, a3, a4, a5⟩ := id hown
    refine ⟨_, hσ, .inl ⟨rfl, vs, .inl (.inl a4)⟩, H0, env, Hb, d, r, sp.c, ed, fun v Hb1 H1 s1 iv => ?_⟩
    obtain ⟨p', vs, e1, e2, e3, e4, e5⟩ := hown.step s1
    cases e1
    refine ⟨p, vs, v, rfl, rfl, e4, by rw [e5.length]; exact Nat.lt_of_lt_of_le hl size1000, out _ Hb1 _ ((r.step s1).put (i := i) hslot rfl hσ (d' := .own (ds ++ [d])) rfl ?_) ((sp.trans s1).put e2 e3)⟩
    refine ⟨p, _, rfl, e2, e3, upd_same, e5.append ?_⟩
    simp only [IsL]
    exact ⟨v, [], rfl, iv, rfl⟩
  · cases ef
/-- x.extend(v), v a list -/
def extF (i : Nat) (d : D) (env : En) : Option Fl := match env[i]?, d with
  | some (some (.own ds)), .lst es => if ds.length + es.length ≤ 1000000 then some (.nx (env.set i (some (.own (ds ++ es))))) else none
  | _, _ => none
def fExt (i : Nat) (fv : En → Option D) : En → Option Fl := fun env => (fv env).bind fun d => extF i d env
theorem s_ext (i : Nat) {x : Str} {xpos : Pos} (hv : PE X e (tD X.K fv)) (hi : X.N[i]? = some x := by rfl) (hvis : Vis X.env.scope x := by first | exact Or.inl rfl | exact Or.inr (Or.inl rfl) | exact Or.inr (Or.inr rfl))
    (hd : (x == ("__debug__" : Str)) = false := by decide) (hcd : (x == ("__classdict__" : Str)) = false := by decide)
    (hbase : attributeBase (.Name x xpos) "extend" X.env (eval (.Name x xpos) X.env) = eval (.Name x xpos) X.env := by rfl)
    (hfew : ((backTo cpos (starEach [e] X.env)).all (fun x => !x.1) && (backToKw cpos (keywordEach [] X.env)).all (fun x => x.1.isSome)
      && decide (([e] : List Expr).length + ([] : List Keyword).length + (if ([] : List Keyword).isEmpty then 0 else 1) < 30)) = true := by rfl)
    (hline : (apos.endLine == cpos.line) = true := by rfl) (hs : starEach [e] X.env = (false, eval e X.env) :: starEach [] X.env := by rfl) (hplain : (backTo cpos (starEach [] X.env)).any (·.1) = false := by rfl)
    (hsw : swapsWith (.Call (.Attribute (.Name x xpos) "extend" apos) [e] [] cpos) none pos.line X.env = pure false := by rfl) :
    PS X (.Expr (.Call (.Attribute (.Name x xpos) "extend" apos) [e] [] cpos) pos) (tS X.K (fExt i fv)) :=
  PS_weak (ps_expr (pe_bm F.plainAttrs_list F.slot_list_extend F.type_list_extend mt_extend (pe_var hi hvis hd hcd) (pa_cons hv pa_nil hs) hbase hfew hline hs hplain) hsw) fun N σ H h => by
  obtain ⟨H0, Hb0, env, Hb, fl, r, sp, ef, out⟩ := h
  obtain ⟨d, ed, ef⟩ := bind1 ef
  unfold extF at ef
  split at ef
  · rename_i ds es hslot
    obtain ⟨hl, hfl⟩ := iteS ef
    subst hfl
    obtain ⟨w, hσ, hown⟩ := r.val i _ hslot
    obtain ⟨p, vs, rfl, a2, a3, a4, a5⟩ := id hown
    refine ⟨_, hσ, .inl ⟨rfl, vs, .inl (.inl a4)⟩, H0, env, Hb, _, r, sp.c, ed, fun v Hb1 H1 s1 iv => ?_⟩
    simp only [Is] at iv
    obtain ⟨q, ws, rfl, hq, lq⟩ := iv
    obtain ⟨p', vs, e1, e2, e3, e4, e5⟩ := hown.step s1
    cases e1
    refine ⟨p, q, vs, ws, rfl, rfl, e4, s1.c _ _ hq, by rw [e5.length, lq.length]; exact Nat.le_trans hl size1000, out _ Hb1 _ ((r.step s1).put (i := i) hslot rfl hσ (d' := .own (ds ++ es)) rfl ?_) ((sp.trans s1).put e2 e3)⟩
    exact ⟨p, _, rfl, e2, e3, upd_same, e5.append lq⟩
  · cases ef
/-- an owned list is a plain one from here on -/
def fFrz (i : Nat) : En → Option Fl := fun env => match env[i]? with
  | some (some (.own ds)) => some (.nx (env.set i (some (.lst ds))))
  | some (some (.ownd ds)) => some (.nx (env.set i (some (.dct ds))))
  | _ => none
theorem Rel.frz {K : PySem.W.Frag} {H0 Hb H : Hp} {σ : L2.St} {env : En} (r : Rel K H0 Hb H σ env) {i : Nat} {p : Addr} {d d' : D} {ob : HO} (hi : env[i]? = some (some d)) (hd : d.isOwn = true) (hs : σ[i]? = some (some (.ref p))) (hb : Hb p = none) (hn : Is K (upd Hb p ob) d' (.ref p)) : Rel K H0 (upd Hb p ob) H σ (env.set i (some d')) := by
  have hlt := (List.getElem?_eq_some_iff.mp hi).1
  have hd' : d'.isOwn = false := by cases d' <;> first | rfl | (simp only [Is] at hn)
  refine ⟨by rw [List.length_set, r.len], fun j e q => ?_, fun j k e e' a ne q1 q2 o1 o2 s1 s2 => ?_⟩
  · by_cases hj : i = j
    · subst hj
      rw [List.getElem?_set_self hlt] at q
      cases q
      refine ⟨_, hs, ?_⟩
      rw [IsS.plain hd']
      exact hn
    · rw [List.getElem?_set_ne hj] at q
      obtain ⟨w, a, b⟩ := r.val j e q
      refine ⟨w, a, ?_⟩
      cases ho : e.isOwn with
      | false =>
        rw [IsS.plain ho] at b ⊢
        exact b.mono (same_new hb)
      | true =>
        have ne : ∀ z, w = .ref z → z ≠ p := fun z hz e2 => r.sep i j d e p hj hi q hd ho hs (by rw [a, hz, e2])
        cases e with
        | own ds =>
          obtain ⟨z, vs, e1, e2, e3, e4, e5⟩ := b
          exact ⟨z, vs, e1, e2, by rw [upd_ne (ne z e1)]; exact e3, e4, e5.mono (same_new hb)⟩
        | ownd ds =>
          obtain ⟨z, vs, e1, e2, e3, e4, e5⟩ := b
          exact ⟨z, vs, e1, e2, by rw [upd_ne (ne z e1)]; exact e3, e4, e5.mono (same_new hb)⟩
        | _ => cases ho
  · have key : ∀ (m : Nat) (x : D), (env.set i (some d'))[m]? = some (some x) → x.isOwn = true → env[m]? = some (some x) := fun m x q o => by
      by_cases hm : i = m
      · subst hm
        rw [List.getElem?_set_self hlt] at q
        cases q
        rw [hd'] at o
        cases o
      · rw [List.getElem?_set_ne hm] at q
        exact q
    exact r.sep j k e e' a ne (key j e q1 o1) (key k e' q2 o2) o1 o2 s1 s2
theorem Step.frz {Hb0 H0 Hb H : Hp} (s : Step Hb0 H0 Hb H) {p : Addr} {ob : HO} (h0 : H0 p = none) (hb : Hb p = none) (h : H p = some ob) : Step Hb0 H0 (upd Hb p ob) H :=
  ⟨s.a, s.b.trans (same_new hb), fun b x e => by
    by_cases hz : b = p
    · subst hz
      rw [upd_same] at e
      rw [h, e]
    · rw [upd_ne hz] at e
      exact s.c b x e, fun q x e n => by
    rw [upd_ne (ne_of_none e h0)]
    exact s.f q x e n⟩
theorem ss_frz (i : Nat) (h : PSs X sts (tS X.K F)) : PSs X sts (tS X.K (fSeq (fFrz i) F)) := PSs_weak h fun N σ H h => by
  obtain ⟨H0, Hb0, env, Hb, fl, r, sp, ef, out⟩ := h
  obtain ⟨f1, e1, ef⟩ := bind1 ef
  unfold fFrz at e1
  split at e1
  · rename_i ds hslot
    cases e1
    obtain ⟨w, hσ, hown⟩ := r.val i _ hslot
    obtain ⟨p, vs, rfl, a2, a3, a4, a5⟩ := id hown
    exact ⟨H0, Hb0, _, upd Hb p (.lst vs), fl, r.frz hslot rfl hσ a3 (is_lst_new a3 a5), sp.frz a2 a3 a4, ef, out⟩
  · rename_i ds hslot
    cases e1
    obtain ⟨w, hσ, hown⟩ := r.val i _ hslot
    obtain ⟨p, vs, rfl, a2, a3, a4, a5⟩ := id hown
    refine ⟨H0, Hb0, _, upd Hb p (.dK vs), fl, r.frz hslot rfl hσ a3 ?_, sp.frz a2 a3 a4, ef, out⟩
    simp only [Is]
    exact ⟨p, vs, rfl, upd_same, a5.mono (same_new a3)⟩
  · cases e1
/-! ### while: fuel enough -/
theorem fuel_ex : ∃ n : Nat, 1000000 ≤ n := ⟨_, Nat.le_refl _⟩
noncomputable def fuelN : En → Nat := fun _ => Classical.choose fuel_ex
theorem fuelN_ge (env : En) : 1000000 ≤ fuelN env := Classical.choose_spec fuel_ex
theorem while_run {c : En → Option Bool} {B : En → Option Fl} (st : Nat → En) : ∀ (n i : Nat), (∀ j, i ≤ j → j < i + n → c (st j) = some true ∧ B (st j) = some (.nx (st (j + 1)))) → c (st (i + n)) = some false → ∀ f, n < f → whileF c B f (st i) = some (.nx (st (i + n)))
  | 0, i, _, h2, f, hf => by
    obtain ⟨g, rfl⟩ : ∃ g, f = g + 1 := ⟨f - 1, by omega⟩
    rw [whileF]
    rw [Nat.add_zero] at h2 ⊢
    rw [h2]
    rfl
  | n + 1, i, h1, h2, f, hf => by
    obtain ⟨g, rfl⟩ : ∃ g, f = g + 1 := ⟨f - 1, by omega⟩
    obtain ⟨a, b⟩ := h1 i (Nat.le_refl _) (by omega)
    have e : i + (n + 1) = i + 1 + n := by omega
    rw [whileF, a]
    simp only [Option.bind_some, if_true, b]
    rw [e] at h2 ⊢
    exact while_run st n (i + 1) (fun j x y => h1 j (by omega) (by omega)) h2 g (by omega)
theorem w_while {c : En → Option Bool} {B : En → Option Fl} (st : Nat → En) (n i : Nat) (h1 : ∀ j, i ≤ j → j < i + n → c (st j) = some true ∧ B (st j) = some (.nx (st (j + 1)))) (h2 : c (st (i + n)) = some false) (hn : n < 1000000) : fWhile fuelN c B (st i) = some (.nx (st (i + n))) := by
  unfold fWhile
  exact while_run st n i h1 h2 _ (Nat.lt_of_lt_of_le hn (fuelN_ge _))
/-! ### isinstance -/
def tyN : D → Option String
  | .non => some "NoneType"
  | .bl _ => some "bool"
  | .int _ => some "int"
  | .str _ => some "str"
  | .tup _ => some "tuple"
  | .lst _ => some "list"
  | _ => none
def isiB (T t : String) : Bool := t == T || (t == "bool" && T == "int")
def isiD (T : String) (d : D) : Option D := (tyN d).bind fun t => some (.bl (isiB T t))
theorem ty_of {K : PySem.W.Frag} {Hb H : Hp} (sm : Same Hb H) {d : D} {v : V} {t : String} (h : Is K Hb d v) (e : tyN d = some t) : TyX K H v (.type t) := by
  have h := h.mono sm
  cases d <;> simp only [Is] at h <;> first | (cases e; done) | cases e
  · subst h; exact .base .non
  · subst h; exact .base (.bl _)
  · subst h; exact .base (.int _)
  · subst h; exact .base (.str _)
  · obtain ⟨p, xs, rfl, hx, lx⟩ := h
    rcases hx with (hx | ⟨o, hx⟩) | ⟨o, its, n, hk, hc, _⟩
    · exact .base (.tup hx)
    · exact .fTuple hx
    · exact .kTuple hk hc
  · obtain ⟨p, xs, rfl, hx, lx⟩ := h
    exact .base (.lst hx)
theorem tyN_mem {d : D} {t : String} (e : tyN d = some t) : t ∈ ["NoneType", "bool", "int", "str", "tuple", "list"] := by
  cases d <;> cases e <;> decide
theorem e_isi (T : String) {q p : Pos} (hm : X.mg "isinstance" = none) (hmT : X.mg (Str.ofString T) = none) (ha : PE X a (tD X.K fa)) (hT : ∀ t ∈ ["NoneType", "bool", "int", "str", "tuple", "list"], kitB t T = some (isiB T t) := by decide +kernel) (hv : bootBuiltins (Str.ofString T) = some (.type T) := by decide +kernel)
    (hg : Gl X "isinstance" := by rfl) (hgT : Gl X (Str.ofString T) := by rfl) (hn : Str.ofString T ≠ "__name__" := by decide) (hdb : (Str.ofString T == ("__debug__" : Str)) = false := by decide)
    (na : starEach [a, .Name (Str.ofString T) q] X.env = (false, eval a X.env) :: starEach [.Name (Str.ofString T) q] X.env := by rfl) (na2 : starEach [.Name (Str.ofString T) q] X.env = (false, eval (.Name (Str.ofString T) q) X.env) :: starEach [] X.env := by rfl)
    (hpl : (backTo pos (starEach [.Name (Str.ofString T) q] X.env)).any (·.1) = false := by rfl) :
    PE X (.Call (.Name "isinstance" p) [a, .Name (Str.ofString T) q] [] pos) (tD X.K (f1 (isiD T) fa)) := by
  refine PE_weak (pe_callB call_isi hg hm (by decide +kernel) (pa_cons ha (pa_cons (pe_bltn (v := .ty T) hgT hmT hv rfl hn hdb) pa_nil na2) na) (he := na) (hpl := hpl)) fun σ H Q h => ?_
  obtain ⟨H0, env, Hb, d, r, sm, ef, q⟩ := h
  obtain ⟨da, ea, eg⟩ := bind1 ef
  refine ⟨H0, env, Hb, da, r, sm, ea, fun v Hb1 H1 s1 iv => ?_⟩
  obtain ⟨t, et, eg⟩ := bind1 eg
  cases eg
  exact ⟨v, .ty T, .type t, .type T, isiB T t, rfl, .ty T, ty_of s1.c iv et, kit_ty (hT t (tyN_mem et)), q _ Hb1 H1 s1 (by simp only [Is])⟩
/-- reading x[k], x owned -/
def fOIx (i : Nat) (fk : En → Option D) : En → Option D := fun env => (fk env).bind fun k => match env[i]?, k with
  | some (some (.own ds)), .int k => atI ds k
  | _, _ => none
end
end Dn
set_option Elab.async false
set_option linter.all false
set_option maxRecDepth 100000
/-! Fractions. -/
namespace Dn
open PySem L2
local macro_rules | `(tactic| walk_at "dg") => `(tactic| first
  | with_reducible exact add_i _ _ | with_reducible exact sub_i _ _ | ((with_reducible refine mul_i ?_); omega) | ((with_reducible refine fdiv_i ?_); omega) | ((with_reducible refine mod_i ?_); omega) | with_reducible exact neg_i _
  | with_reducible exact lt_i _ _ | with_reducible exact le_i _ _ | with_reducible exact gt_i _ _ | with_reducible exact ge_i _ _ | with_reducible exact eq_i _ _ | with_reducible exact ne_i _ _ | with_reducible exact eq_s _ _ | with_reducible exact ne_s _ _
  | ((with_reducible refine add_s ?_); omega) | ((with_reducible refine add_t ?_); omega) | ((with_reducible refine add_l ?_); omega) | ((with_reducible refine mul_s ?_); omega) | ((with_reducible refine mul_l ?_); omega)
  | ((with_reducible refine len_s ?_); omega) | with_reducible exact len_t _ | with_reducible exact len_l _ | with_reducible exact len_c _ | with_reducible exact int_b _ | with_reducible exact int_i _ | with_reducible exact abs_i _
  | ((with_reducible refine sl_s ?_); omega) | with_reducible exact sl_t _ _ _ | with_reducible exact sl_l _ _ _ | ((with_reducible apply ix_t); (· omega); (· rfl)) | ((with_reducible apply ix_l); (· omega); (· rfl)) | with_reducible assumption)
local macro_rules | `(tactic| walk_at "dc") => `(tactic| with_reducible assumption)
local macro_rules | `(tactic| walk_at "dn") => `(tactic| first
  | with_reducible exact v_c | with_reducible exact v_nil | with_reducible exact v_no
  | ((with_reducible apply v_var); (· rfl); (· rfl))
  | ((with_reducible apply v_2); (· walk_at "dn"); (· walk_at "dn"); (· walk_at "dg"))
  | ((with_reducible apply v_1); (· walk_at "dn"); (· walk_at "dg"))
  | ((with_reducible apply v_cons); (· walk_at "dn"); (· walk_at "dn"))
  | ((with_reducible apply v_blt); (· walk_at "dn"); (· walk_at "dg"))
  | ((with_reducible apply v_call); (· walk_at "dn"); (· walk_at "dc"))
  | ((with_reducible apply v_tup); (· walk_at "dn"); (· first | decide | (simp only [List.length_cons, List.length_nil]; decide)))
  | ((with_reducible apply v_lst); (· walk_at "dn"); (· first | decide | (simp only [List.length_cons, List.length_nil]; decide)))
  | ((with_reducible apply v_po); (· walk_at "dn"))
  | ((with_reducible apply v_sl); (· walk_at "dn"); (· walk_at "dn"); (· walk_at "dn"); (· walk_at "dg"))
  | ((with_reducible apply v_m1); (· walk_at "dn"); (· walk_at "dn"); (· walk_at "dg"))
  | ((with_reducible apply v_b); (· walk_at "dn"))
  | ((with_reducible apply v_not); (· walk_at "dn"))
  | ((with_reducible apply v_notV); (· walk_at "dn"))
  | ((with_reducible apply v_rng1); (· walk_at "dn"); (· omega))
  | ((with_reducible apply v_rng2); (· walk_at "dn"); (· omega))
  | ((with_reducible apply v_it); (· walk_at "dn"))
  | ((with_reducible apply v_itl); (· walk_at "dn"))
  | ((with_reducible apply v_its); (· walk_at "dn"))
  | with_reducible assumption)
local macro_rules | `(tactic| walk_at "dt") => `(tactic| first
  | with_reducible exact v_c | with_reducible exact v_nil | with_reducible exact v_no
  | ((with_reducible apply v_var); (· rfl); (· rfl))
  | ((with_reducible apply v_2) <;> walk_at "dt")
  | ((with_reducible apply v_1) <;> walk_at "dt")
  | ((with_reducible apply v_cons) <;> walk_at "dt")
  | ((with_reducible apply v_blt) <;> walk_at "dt")
  | ((with_reducible apply v_call) <;> walk_at "dt")
  | ((with_reducible apply v_tup) <;> walk_at "dt")
  | ((with_reducible apply v_lst) <;> walk_at "dt")
  | ((with_reducible apply v_po) <;> walk_at "dt")
  | ((with_reducible apply v_sl) <;> walk_at "dt")
  | ((with_reducible apply v_m1) <;> walk_at "dt")
  | ((with_reducible apply v_b) <;> walk_at "dt")
  | ((with_reducible apply v_notV) <;> walk_at "dt")
  | ((with_reducible apply v_not) <;> walk_at "dt")
  | ((with_reducible apply v_rng1) <;> first | omega | walk_at "dt")
  | ((with_reducible apply v_rng2) <;> first | omega | walk_at "dt")
  | walk_at "dg"
  | (show List.length _ ≤ sizeLine; first | decide | (simp only [List.length_cons, List.length_nil]; decide))
  | skip)
local macro_rules | `(tactic| walk_at "ds") => `(tactic| first
  | ((with_reducible apply w_ss) <;> first | walk_at "d1" | skip)
  | ((with_reducible apply w_r) <;> first | walk_at "d1" | skip)
  | ((with_reducible apply w_sp) <;> first | walk_at "d1" | skip)
  | ((with_reducible apply w_so) <;> first | walk_at "d1" | skip)
  | (with_reducible apply w_sv)
  | (with_reducible apply w_sq))
local macro_rules | `(tactic| walk_at "dx") => `(tactic| simp only [put, jn, List.set_cons_zero, List.set_cons_succ])
noncomputable def m_divisor : En → Option Fl :=
  (fSeq (fWhile fuelN (fB (f2 neD (fV 1) (fC (.int 0))))
    (fPar 0 1 (fCons (fV 1) (fCons (f2 modD (fV 0) (fV 1)) fNil))))
  (fRet (fV 0)))
noncomputable def n_divisor : List D → Option D := semOf 2 2 m_divisor
noncomputable def m_fraction : En → Option Fl :=
  (fSeq (fSet 2 (fCall n_divisor (fCons (fBlt absG (fCons (fV 0) fNil)) (fCons (fV 1) fNil))))
  (fRet (fTup (fCons (f2 fdivD (fV 0) (fV 2)) (fCons (f2 fdivD (fV 1) (fV 2)) fNil)))))
noncomputable def n_fraction : List D → Option D := semOf 3 2 m_fraction
noncomputable def m_beats : En → Option Fl :=
  (fRet (fCall n_fraction (fCons (f2 ixD (fV 0) (fC (.int 0))) (fCons (f2 ixD (fV 0) (fC (.int 1))) fNil))))
noncomputable def n_beats : List D → Option D := semOf 1 1 m_beats
theorem w_par {i j : Nat} {fs : En → Option (List D)} {env e : En} {d d' : D} (h : fs env = some [d, d']) (he : (env.set i (some d)).set j (some d') = e) : fPar i j fs env = some (.nx e) := by
  unfold fPar
  rw [h, ← he]
  rfl
theorem div_loop : ∀ (b a f : Nat), b < f → whileF (fB (f2 neD (fV 1) (fC (.int 0)))) (fPar 0 1 (fCons (fV 1) (fCons (f2 modD (fV 0) (fV 1)) fNil))) f [some (.int (a : Nat)), some (.int (b : Nat))] = some (.nx [some (.int ((Nat.gcd a b : Nat) : Int)), some (.int 0)]) := by
  intro b
  induction b using Nat.strongRecOn with
  | ind b ih =>
    intro a f hf
    obtain ⟨g, rfl⟩ : ∃ g, f = g + 1 := ⟨f - 1, by omega⟩
    rw [whileF]
    by_cases hb : b = 0
    · subst hb
      have c : fB (f2 neD (fV 1) (fC (.int 0))) [some (.int (a : Nat)), some (.int ((0 : Nat) : Int))] = some false := v_b (v_2 (by walk_at "dn") v_c rfl)
      rw [c, Nat.gcd_zero_right]
      rfl
    · have c : fB (f2 neD (fV 1) (fC (.int 0))) [some (.int (a : Nat)), some (.int (b : Nat))] = some true := by
        refine v_b (v_2 (by walk_at "dn") v_c ?_)
        rw [ne_i, decide_eq_false (by omega)]
        rfl
      have hm : modD (.int (a : Nat)) (.int (b : Nat)) = some (.int ((a % b : Nat) : Int)) := by
        rw [mod_i (by omega)]
        simp
      have st : fPar 0 1 (fCons (fV 1) (fCons (f2 modD (fV 0) (fV 1)) fNil)) [some (.int (a : Nat)), some (.int (b : Nat))] = some (.nx [some (.int (b : Nat)), some (.int ((a % b : Nat) : Int))]) :=
        w_par (v_cons (by walk_at "dn") (v_cons (v_2 (by walk_at "dn") (by walk_at "dn") hm) v_nil)) rfl
      rw [c]
      simp only [Option.bind_some, if_true, st]
      have hlt := Nat.mod_lt a (Nat.pos_of_ne_zero hb)
      rw [ih (a % b) hlt b g (by omega), Nat.gcd_comm b (a % b), ← Nat.gcd_rec, Nat.gcd_comm]
theorem e_divisor {a b : Nat} (hb : b < 1000000) : n_divisor [.int (a : Nat), .int (b : Nat)] = some (.int ((Nat.gcd a b : Nat) : Int)) := by
  refine sem_rt rfl ?_
  show m_divisor [some (.int (a : Nat)), some (.int (b : Nat))] = _
  unfold m_divisor
  refine w_seq (e := [some (.int ((Nat.gcd a b : Nat) : Int)), some (.int 0)]) ?_ (ret_of (by walk_at "dn"))
  unfold fWhile
  exact div_loop b a _ (Nat.lt_of_lt_of_le hb (fuelN_ge _))
/-- a fraction told: upper and lower -/
def frD (u : Int) (l : Nat) : D := .tup [.int (u / (Nat.gcd u.natAbs l : Nat)), .int ((l / Nat.gcd u.natAbs l : Nat) : Int)]
theorem e_fraction {u : Int} {l : Nat} (h0 : 0 < l) (h : l < 1000000) : n_fraction [.int u, .int (l : Nat)] = some (frD u l) := by
  refine sem_rt rfl ?_
  show m_fraction [some (.int u), some (.int (l : Nat)), none] = _
  unfold m_fraction
  have ha : absG [.int u] = some (.int ((u.natAbs : Nat) : Int)) := by
    rw [abs_i]
    congr 2
    by_cases q : u < 0
    · rw [if_pos q]; omega
    · rw [if_neg q]; omega
  have hg : 0 < Nat.gcd u.natAbs l := Nat.gcd_pos_of_pos_right _ h0
  have hg2 : Nat.gcd u.natAbs l ≤ l := Nat.le_of_dvd h0 (Nat.gcd_dvd_right _ _)
  refine w_seq (w_set (v_call (v_cons (v_blt (by walk_at "dn") ha) (by walk_at "dn")) (e_divisor h)) rfl) (ret_of ?_)
  unfold frD
  generalize Nat.gcd u.natAbs l = g at *
  rw [show ((l / g : Nat) : Int) = (l : Int) / (g : Int) by simp]
  refine v_tup (by walk_at "dn") (by show 2 ≤ sizeLine; decide)
theorem e_beats {s g : Nat} {ds : D} (h0 : 0 < g) (h : g < 1000000) : n_beats [.tup [.int (s : Nat), .int (g : Nat), ds]] = some (frD s g) := by
  refine sem_rt rfl ?_
  show m_beats [some (.tup [.int (s : Nat), .int (g : Nat), ds])] = _
  unfold m_beats
  exact ret_of (v_call (v_cons (v_2 (by walk_at "dn") v_c rfl) (v_cons (v_2 (by walk_at "dn") v_c rfl) v_nil)) (e_fraction h0 h))
end Dn
set_option Elab.async false
set_option linter.all false
set_option maxRecDepth 100000
/-! Part K: steps for statements, loops with a state. -/
namespace Dn
open PySem L2

section
variable {env e e' : En} {F G : En → Option Fl} {fl : Fl} {f : En → Option D} {d : D}
theorem w_ss {i : Nat} (h1 : f env = some d) (h2 : G (env.set i (some d)) = some fl) : fSeq (fSet i f) G env = some fl := (seq_nx (set_of h1)).trans h2
theorem w_sg {g : D → En → Option En} (h1 : f env = some d) (h2 : g d env = some e) (h3 : G e = some fl) : fSeq (fAsg f g) G env = some fl := by
  refine (seq_nx ?_).trans h3
  unfold fAsg
  rw [h1]
  simp only [Option.bind_some, h2]
theorem w_sp {i j : Nat} {fs : En → Option (List D)} {d d' : D} (h : fs env = some [d, d']) (h2 : G ((env.set i (some d)).set j (some d')) = some fl) : fSeq (fPar i j fs) G env = some fl := by
  refine (seq_nx ?_).trans h2
  unfold fPar
  rw [h]
  rfl
theorem w_so {i : Nat} {fn : En → Option (List D)} {ds : List D} (h : fn env = some ds) (h2 : G (env.set i (some (.own ds))) = some fl) : fSeq (fOwn i fn) G env = some fl := by
  refine (seq_nx ?_).trans h2
  unfold fOwn
  rw [h]
  rfl
theorem w_r (h : f env = some d) : fRet f env = some (.rt d) := ret_of h
/-- an if that is passed by -/
theorem w_sf {c : En → Option Bool} {B : En → Option Fl} (h1 : c env = some false) (h2 : G env = some fl) : fSeq (fIfS c B fPass) G env = some fl := w_seq (w_iff h1 w_pass) h2
theorem w_st {c : En → Option Bool} {B C : En → Option Fl} (h1 : c env = some true) (h2 : fSeq B G env = some fl) : fSeq (fIfS c B C) G env = some fl := by
  unfold fSeq at h2 ⊢
  rw [if_t h1]
  exact h2
theorem w_se {c : En → Option Bool} {B C : En → Option Fl} (h1 : c env = some false) (h2 : fSeq C G env = some fl) : fSeq (fIfS c B C) G env = some fl := by
  unfold fSeq at h2 ⊢
  rw [if_f h1]
  exact h2
theorem w_sq {A B : En → Option Fl} (h : fSeq A (fSeq B G) env = some fl) : fSeq (fSeq A B) G env = some fl := by
  unfold fSeq at h ⊢
  cases ha : A env with
  | none => rw [ha] at h; cases h
  | some x =>
    rw [ha] at h
    cases x with
    | nx e1 => exact h
    | rt d => exact h
    | bk e1 => exact h
    | ct e1 => exact h
theorem w_sv (h : G env = some fl) : fSeq fPass G env = some fl := h
theorem w_sr (h : f env = some d) : fSeq (fRet f) G env = some (.rt d) := seq_rt (ret_of h)
theorem w_sfor {it : En → Option (List D)} {g : D → En → Option En} {B : En → Option Fl} {ds : List D} (h : it env = some ds) (h2 : forF g B ds env = some (.nx e)) (h3 : G e = some fl) : fSeq (fFor it g B) G env = some fl := w_seq (w_for h h2) h3
theorem w_last (h : fSeq F fPass env = some fl) : F env = some fl := by
  unfold fSeq at h
  cases ha : F env with
  | none => rw [ha] at h; cases h
  | some x =>
    rw [ha] at h
    cases x <;> exact h
theorem w_not {c : En → Option Bool} {k : Bool} (h : c env = some (!k)) : fNot c env = some k := by
  unfold fNot
  rw [h]
  simp
end

/-! ### a loop with a state -/
def put (env : En) : List (Nat × D) → En
  | [] => env
  | p :: ps => put (env.set p.1 (some p.2)) ps
def jn (env : En) (w : Nat → Option D) : List Nat → En
  | [] => env
  | j :: js => jn (env.set j (w j)) w js
def Ends (r : Option Fl) (P : En → Prop) : Prop := ∃ e, r = some (.nx e) ∧ P e
theorem en_of {r : Option Fl} {P : En → Prop} {e : En} (h : r = some (.nx e)) (h2 : P e) : Ends r P := ⟨e, h, h2⟩
/-- the body's end: the state's slots are so, of others nothing is wanted -/
def Endsw (r : Option Fl) (env : En) (js : List Nat) : Prop := Ends r fun e2 => e2 = jn env (fun j => e2.getD j none) js
theorem en_w {r : Option Fl} {env e : En} {js : List Nat} (h : r = some (.nx e)) (h2 : e = jn env (fun j => e.getD j none) js) : Endsw r env js := ⟨e, h, h2⟩
/-- st: what the slots hold that the loop writes; js: slots of which nothing is wanted -/
theorem for_st {α σ : Type} {g : D → En → Option En} {B : En → Option Fl} {env : En} (c : α → D) (st : σ → List (Nat × D)) (js : List Nat) (I : List α → σ → Prop) (xs : List α) (s0 : σ)
    (h0 : jn (put env (st s0)) (fun j => env.getD j none) js = env) (hI : I [] s0)
    (h : ∀ (p : List α) (a : α) (q : List α) (s : σ) (w : Nat → Option D), xs = p ++ a :: q → I p s → ∃ e1 s', I (p ++ [a]) s' ∧ g (c a) (jn (put env (st s)) w js) = some e1 ∧ Endsw (B e1) (put env (st s')) js) :
    ∃ s w, I xs s ∧ forF g B (xs.map c) env = some (.nx (jn (put env (st s)) w js)) := by
  obtain ⟨e', h1, s, w, h2, h3⟩ := for_inv (g := g) (B := B) c (fun p e => ∃ s w, I p s ∧ e = jn (put env (st s)) w js) xs [] env ⟨s0, _, hI, h0.symm⟩ (fun p a q e hp ⟨s, w, hi, he⟩ => by
    subst he
    obtain ⟨e1, s', a1, a2, e2, a3, a4⟩ := h p a q s w hp hi
    exact ⟨e1, e2, a2, a3, s', _, a1, a4⟩)
  subst h3
  exact ⟨s, w, h2, h1⟩
/-- the same for a plain fold -/
theorem for_fold {α σ : Type} {g : D → En → Option En} {B : En → Option Fl} {env : En} (c : α → D) (st : σ → List (Nat × D)) (js : List Nat) (step : σ → α → σ) (xs : List α) (s0 : σ)
    (h0 : jn (put env (st s0)) (fun j => env.getD j none) js = env)
    (h : ∀ (p : List α) (a : α) (q : List α) (w : Nat → Option D), xs = p ++ a :: q → ∃ e1, g (c a) (jn (put env (st (p.foldl step s0))) w js) = some e1 ∧ Endsw (B e1) (put env (st (step (p.foldl step s0) a))) js) :
    ∃ w, forF g B (xs.map c) env = some (.nx (jn (put env (st (xs.foldl step s0))) w js)) := by
  obtain ⟨s, w, e1, e2⟩ := for_st (g := g) (B := B) c st js (fun p s => s = p.foldl step s0) xs s0 h0 rfl (fun p a q s w hp hi => by
    subst hi
    obtain ⟨e1, a1, a2⟩ := h p a q w hp
    exact ⟨e1, _, by rw [List.foldl_append]; rfl, a1, a2⟩)
  subst e1
  exact ⟨w, e2⟩
theorem w_fst {α σ : Type} {it : En → Option (List D)} {g : D → En → Option En} {B G : En → Option Fl} {env : En} {fl : Fl} (c : α → D) (st : σ → List (Nat × D)) (js : List Nat) (I : List α → σ → Prop) (xs : List α) (s0 : σ)
    (hit : it env = some (xs.map c)) (h0 : jn (put env (st s0)) (fun j => env.getD j none) js = env) (hI : I [] s0)
    (h : ∀ (p : List α) (a : α) (q : List α) (s : σ) (w : Nat → Option D), xs = p ++ a :: q → I p s → ∃ e1 s', I (p ++ [a]) s' ∧ g (c a) (jn (put env (st s)) w js) = some e1 ∧ Endsw (B e1) (put env (st s')) js)
    (h3 : ∀ (s : σ) (w : Nat → Option D), I xs s → G (jn (put env (st s)) w js) = some fl) : fSeq (fFor it g B) G env = some fl := by
  obtain ⟨s, w, a1, a2⟩ := for_st c st js I xs s0 h0 hI h
  exact w_sfor hit a2 (h3 s w a1)
theorem w_ffold {α σ : Type} {it : En → Option (List D)} {g : D → En → Option En} {B G : En → Option Fl} {env : En} {fl : Fl} (c : α → D) (st : σ → List (Nat × D)) (js : List Nat) (step : σ → α → σ) (xs : List α) (s0 : σ)
    (hit : it env = some (xs.map c)) (h0 : jn (put env (st s0)) (fun j => env.getD j none) js = env)
    (h : ∀ (p : List α) (a : α) (q : List α) (w : Nat → Option D), xs = p ++ a :: q → ∃ e1, g (c a) (jn (put env (st (p.foldl step s0))) w js) = some e1 ∧ Endsw (B e1) (put env (st (step (p.foldl step s0) a))) js)
    (h3 : ∀ (w : Nat → Option D), G (jn (put env (st (xs.foldl step s0))) w js) = some fl) : fSeq (fFor it g B) G env = some fl := by
  obtain ⟨w, a2⟩ := for_fold c st js step xs s0 h0 h
  exact w_sfor hit a2 (h3 w)
theorem range_at {n a : Nat} {p q : List Nat} (h : List.range n = p ++ a :: q) : a = p.length ∧ a < n ∧ p = List.range a := by
  have hl := congrArg List.length h
  simp at hl
  have h1 : (List.range n)[p.length]? = some a := by rw [h]; simp
  rw [List.getElem?_range (by omega)] at h1
  have h1 : p.length = a := by simpa using h1
  subst h1
  refine ⟨rfl, by omega, ?_⟩
  have := congrArg (List.take p.length) h
  rw [List.take_append_of_le_length (Nat.le_refl _), List.take_length, List.take_range] at this
  rw [Nat.min_eq_left (by omega)] at this
  exact this.symm
end Dn
set_option Elab.async false
set_option linter.all false
set_option maxRecDepth 100000
/-! Fractions by their values; times of steps. -/
namespace Dn
open PySem L2
local macro_rules | `(tactic| walk_at "dg") => `(tactic| first
  | with_reducible exact add_i _ _ | with_reducible exact sub_i _ _ | ((with_reducible refine mul_i ?_); omega) | ((with_reducible refine fdiv_i ?_); omega) | ((with_reducible refine mod_i ?_); omega) | with_reducible exact neg_i _
  | with_reducible exact lt_i _ _ | with_reducible exact le_i _ _ | with_reducible exact gt_i _ _ | with_reducible exact ge_i _ _ | with_reducible exact eq_i _ _ | with_reducible exact ne_i _ _ | with_reducible exact eq_s _ _ | with_reducible exact ne_s _ _
  | ((with_reducible refine add_s ?_); omega) | ((with_reducible refine add_t ?_); omega) | ((with_reducible refine add_l ?_); omega) | ((with_reducible refine mul_s ?_); omega) | ((with_reducible refine mul_l ?_); omega)
  | ((with_reducible refine len_s ?_); omega) | with_reducible exact len_t _ | with_reducible exact len_l _ | with_reducible exact len_c _ | with_reducible exact int_b _ | with_reducible exact int_i _ | with_reducible exact abs_i _
  | ((with_reducible refine sl_s ?_); omega) | with_reducible exact sl_t _ _ _ | with_reducible exact sl_l _ _ _ | ((with_reducible apply ix_t); (· omega); (· rfl)) | ((with_reducible apply ix_l); (· omega); (· rfl)) | with_reducible assumption)
local macro_rules | `(tactic| walk_at "dc") => `(tactic| with_reducible assumption)
local macro_rules | `(tactic| walk_at "dn") => `(tactic| first
  | with_reducible exact v_c | with_reducible exact v_nil | with_reducible exact v_no
  | ((with_reducible apply v_var); (· rfl); (· rfl))
  | ((with_reducible apply v_2); (· walk_at "dn"); (· walk_at "dn"); (· walk_at "dg"))
  | ((with_reducible apply v_1); (· walk_at "dn"); (· walk_at "dg"))
  | ((with_reducible apply v_cons); (· walk_at "dn"); (· walk_at "dn"))
  | ((with_reducible apply v_blt); (· walk_at "dn"); (· walk_at "dg"))
  | ((with_reducible apply v_call); (· walk_at "dn"); (· walk_at "dc"))
  | ((with_reducible apply v_tup); (· walk_at "dn"); (· first | decide | (simp only [List.length_cons, List.length_nil]; decide)))
  | ((with_reducible apply v_lst); (· walk_at "dn"); (· first | decide | (simp only [List.length_cons, List.length_nil]; decide)))
  | ((with_reducible apply v_po); (· walk_at "dn"))
  | ((with_reducible apply v_sl); (· walk_at "dn"); (· walk_at "dn"); (· walk_at "dn"); (· walk_at "dg"))
  | ((with_reducible apply v_m1); (· walk_at "dn"); (· walk_at "dn"); (· walk_at "dg"))
  | ((with_reducible apply v_b); (· walk_at "dn"))
  | ((with_reducible apply v_not); (· walk_at "dn"))
  | ((with_reducible apply v_notV); (· walk_at "dn"))
  | ((with_reducible apply v_rng1); (· walk_at "dn"); (· omega))
  | ((with_reducible apply v_rng2); (· walk_at "dn"); (· omega))
  | ((with_reducible apply v_it); (· walk_at "dn"))
  | ((with_reducible apply v_itl); (· walk_at "dn"))
  | ((with_reducible apply v_its); (· walk_at "dn"))
  | with_reducible assumption)
local macro_rules | `(tactic| walk_at "dt") => `(tactic| first
  | with_reducible exact v_c | with_reducible exact v_nil | with_reducible exact v_no
  | ((with_reducible apply v_var); (· rfl); (· rfl))
  | ((with_reducible apply v_2) <;> walk_at "dt")
  | ((with_reducible apply v_1) <;> walk_at "dt")
  | ((with_reducible apply v_cons) <;> walk_at "dt")
  | ((with_reducible apply v_blt) <;> walk_at "dt")
  | ((with_reducible apply v_call) <;> walk_at "dt")
  | ((with_reducible apply v_tup) <;> walk_at "dt")
  | ((with_reducible apply v_lst) <;> walk_at "dt")
  | ((with_reducible apply v_po) <;> walk_at "dt")
  | ((with_reducible apply v_sl) <;> walk_at "dt")
  | ((with_reducible apply v_m1) <;> walk_at "dt")
  | ((with_reducible apply v_b) <;> walk_at "dt")
  | ((with_reducible apply v_notV) <;> walk_at "dt")
  | ((with_reducible apply v_not) <;> walk_at "dt")
  | ((with_reducible apply v_rng1) <;> first | omega | walk_at "dt")
  | ((with_reducible apply v_rng2) <;> first | omega | walk_at "dt")
  | walk_at "dg"
  | (show List.length _ ≤ sizeLine; first | decide | (simp only [List.length_cons, List.length_nil]; decide))
  | skip)
local macro_rules | `(tactic| walk_at "ds") => `(tactic| first
  | ((with_reducible apply w_ss) <;> first | walk_at "d1" | skip)
  | ((with_reducible apply w_r) <;> first | walk_at "d1" | skip)
  | ((with_reducible apply w_sp) <;> first | walk_at "d1" | skip)
  | ((with_reducible apply w_so) <;> first | walk_at "d1" | skip)
  | (with_reducible apply w_sv)
  | (with_reducible apply w_sq))
local macro_rules | `(tactic| walk_at "dx") => `(tactic| simp only [put, jn, List.set_cons_zero, List.set_cons_succ])
noncomputable def m_added : En → Option Fl :=
  (fRet (fCall n_fraction (fCons (f2 addD (f2 mulD (f2 ixD (fV 0) (fC (.int 0))) (f2 ixD (fV 1) (fC (.int 1)))) (f2 mulD (f2 ixD (fV 1) (fC (.int 0))) (f2 ixD (fV 0) (fC (.int 1))))) (fCons (f2 mulD (f2 ixD (fV 0) (fC (.int 1))) (f2 ixD (fV 1) (fC (.int 1)))) fNil))))
noncomputable def n_added : List D → Option D := semOf 2 2 m_added
noncomputable def m_less : En → Option Fl :=
  (fRet (fCall n_added (fCons (fV 0) (fCons (fTup (fCons (f2 subD (fC (.int 0)) (f2 ixD (fV 1) (fC (.int 0)))) (fCons (f2 ixD (fV 1) (fC (.int 1))) fNil))) fNil))))
noncomputable def n_less : List D → Option D := semOf 2 2 m_less
noncomputable def m_times : En → Option Fl :=
  (fRet (fCall n_fraction (fCons (f2 mulD (fV 0) (f2 ixD (fV 1) (fC (.int 0)))) (fCons (f2 ixD (fV 1) (fC (.int 1))) fNil))))
noncomputable def n_times : List D → Option D := semOf 2 2 m_times
noncomputable def m_is_less : En → Option Fl :=
  (fRet (f2 ltD (f2 mulD (f2 ixD (fV 0) (fC (.int 0))) (f2 ixD (fV 1) (fC (.int 1)))) (f2 mulD (f2 ixD (fV 1) (fC (.int 0))) (f2 ixD (fV 0) (fC (.int 1))))))
noncomputable def n_is_less : List D → Option D := semOf 2 2 m_is_less
noncomputable def m_size : En → Option Fl :=
  (fRet (fTup (fCons (fBlt absG (fCons (f2 ixD (fV 0) (fC (.int 0))) fNil)) (fCons (f2 ixD (fV 0) (fC (.int 1))) fNil))))
noncomputable def n_size : List D → Option D := semOf 1 1 m_size
noncomputable def m_whole_part : En → Option Fl :=
  (fRet (f2 fdivD (f2 ixD (fV 0) (fC (.int 0))) (f2 ixD (fV 0) (fC (.int 1)))))
noncomputable def n_whole_part : List D → Option D := semOf 1 1 m_whole_part
noncomputable def m_step_time : En → Option Fl :=
  (fSeq (fAsg (fSl (fV 1) fNo (fPo (fC (.int 2)))) (gT (gCons' (gN 4) (gCons' (gN 5) gNil'))))
  (fSeq (fSet 3 (fCall n_times (fCons (f2 fdivD (fV 2) (fV 4)) (fCons (fCall n_beats (fCons (fV 1) fNil)) fNil))))
  (fSeq (fSet 2 (f2 modD (fV 2) (fV 4)))
  (fSeq (fSet 3 (fCall n_added (fCons (fV 3) (fCons (fCall n_fraction (fCons (f2 subD (fV 2) (f2 modD (fV 2) (fC (.int 2)))) (fCons (fV 5) fNil))) fNil))))
  (fSeq (fIfS (fB (f2 eqD (f2 modD (fV 2) (fC (.int 2))) (fC (.int 1))))
    (fSet 3 (fCall n_added (fCons (fV 3) (fCons (fCall n_fraction (fCons (f2 mulD (fC (.int 2)) (f2 ixD (fV 0) (fC (.int 0)))) (fCons (f2 mulD (f2 ixD (fV 0) (fC (.int 1))) (fV 5)) fNil))) fNil))))
    fPass)
  (fRet (fV 3)))))))
noncomputable def n_step_time : List D → Option D := semOf 6 3 m_step_time
noncomputable def m__law_frac : En → Option Fl :=
  (fSeq (fPar 2 3 (fCons (fBlt absG (fCons (fV 0) fNil)) (fCons (fV 1) fNil)))
  (fSeq (fWhile fuelN (fB (f2 neD (fV 3) (fC (.int 0))))
    (fPar 2 3 (fCons (fV 3) (fCons (f2 modD (fV 2) (fV 3)) fNil))))
  (fRet (fTup (fCons (f2 fdivD (fV 0) (fV 2)) (fCons (f2 fdivD (fV 1) (fV 2)) fNil))))))
noncomputable def n__law_frac : List D → Option D := semOf 4 2 m__law_frac
noncomputable def m__law_add : En → Option Fl :=
  (fRet (fCall n__law_frac (fCons (f2 addD (f2 mulD (f2 ixD (fV 0) (fC (.int 0))) (f2 ixD (fV 1) (fC (.int 1)))) (f2 mulD (f2 ixD (fV 1) (fC (.int 0))) (f2 ixD (fV 0) (fC (.int 1))))) (fCons (f2 mulD (f2 ixD (fV 0) (fC (.int 1))) (f2 ixD (fV 1) (fC (.int 1)))) fNil))))
noncomputable def n__law_add : List D → Option D := semOf 2 2 m__law_add
noncomputable def m__law_under : En → Option Fl :=
  (fRet (f2 ltD (f2 mulD (f2 ixD (fV 0) (fC (.int 0))) (f2 ixD (fV 1) (fC (.int 1)))) (f2 mulD (f2 ixD (fV 1) (fC (.int 0))) (f2 ixD (fV 0) (fC (.int 1))))))
noncomputable def n__law_under : List D → Option D := semOf 2 2 m__law_under
noncomputable def m__law_step : En → Option Fl :=
  (fSeq (fAsg (fSl (fV 1) fNo (fPo (fC (.int 2)))) (gT (gCons' (gN 6) (gCons' (gN 7) gNil'))))
  (fSeq (fSet 3 (f2 fdivD (fV 2) (fV 6)))
  (fSeq (fSet 4 (f2 modD (fV 2) (fV 6)))
  (fSeq (fSet 5 (fCall n__law_frac (fCons (f2 subD (f2 addD (f2 mulD (fV 3) (fV 6)) (fV 4)) (f2 modD (fV 4) (fC (.int 2)))) (fCons (fV 7) fNil))))
  (fSeq (fIfS (fB (f2 eqD (f2 modD (fV 4) (fC (.int 2))) (fC (.int 1))))
    (fSet 5 (fCall n__law_add (fCons (fV 5) (fCons (fCall n__law_frac (fCons (f2 mulD (fC (.int 2)) (f2 ixD (fV 0) (fC (.int 0)))) (fCons (f2 mulD (f2 ixD (fV 0) (fC (.int 1))) (fV 7)) fNil))) fNil))))
    fPass)
  (fRet (fV 5)))))))
noncomputable def n__law_step : List D → Option D := semOf 8 3 m__law_step
theorem frD_parts (u : Int) {l : Nat} (hl : 0 < l) : ∃ (a : Int) (b : Nat), frD u l = .tup [.int a, .int (b : Nat)] ∧ 0 < b ∧ b ≤ l ∧ a * l = u * b ∧ Nat.gcd a.natAbs b = 1 ∧ b ∣ l := by
  have hg : 0 < Nat.gcd u.natAbs l := Nat.gcd_pos_of_pos_right _ hl
  refine ⟨_, _, rfl, Nat.div_pos (Nat.le_of_dvd hl (Nat.gcd_dvd_right _ _)) hg, Nat.div_le_self _ _, ?_, ?_, Nat.div_dvd_of_dvd (Nat.gcd_dvd_right _ _)⟩
  · obtain ⟨b, hb⟩ := Nat.gcd_dvd_right u.natAbs l
    obtain ⟨a, ha⟩ := Int.natAbs_dvd_natAbs.mp (show ((Nat.gcd u.natAbs l : Nat) : Int).natAbs ∣ u.natAbs by rw [Int.natAbs_natCast]; exact Nat.gcd_dvd_left _ _)
    generalize Nat.gcd u.natAbs l = g at *
    subst hb ha
    rw [Int.mul_ediv_cancel_left _ (by omega), Nat.mul_div_cancel_left _ hg, Int.natCast_mul]
    rw [← Int.mul_assoc, Int.mul_comm a]
  · have h1 : (u / ((Nat.gcd u.natAbs l : Nat) : Int)).natAbs = u.natAbs / Nat.gcd u.natAbs l := by
      rw [Int.natAbs_ediv_of_dvd]
      · simp
      · exact Int.natAbs_dvd_natAbs.mp (by rw [Int.natAbs_natCast]; exact Nat.gcd_dvd_left _ _)
    rw [h1]
    exact Nat.coprime_div_gcd_div_gcd hg
theorem frD_of {u v : Int} {l m : Nat} (hl : 0 < l) (hm : 0 < m) (h : u * m = v * l) : frD u l = frD v m := by
  obtain ⟨a, b, e1, b0, b1, e2, e3, _⟩ := frD_parts u hl
  obtain ⟨c, d, e4, d0, d1, e5, e6, _⟩ := frD_parts v hm
  have key : a * d = c * b := by
    have : (a * d) * ((l : Int) * m) = (c * b) * ((l : Int) * m) := by
      have x1 : (a * d) * ((l : Int) * m) = (a * l) * (d * m) := by simp only [Int.mul_assoc, Int.mul_left_comm, Int.mul_comm]
      have x2 : (c * b) * ((l : Int) * m) = (c * m) * (b * l) := by simp only [Int.mul_assoc, Int.mul_left_comm, Int.mul_comm]
      have x3 : (u * b) * ((d : Int) * m) = (u * m) * (b * d) := by simp only [Int.mul_assoc, Int.mul_left_comm, Int.mul_comm]
      have x4 : (v * d) * ((b : Int) * l) = (v * l) * (b * d) := by simp only [Int.mul_assoc, Int.mul_left_comm, Int.mul_comm]
      rw [x1, x2, e2, e5, x3, x4, h]
    exact Int.eq_of_mul_eq_mul_right (Int.ne_of_gt (Int.mul_pos (by omega) (by omega))) this
  have k1 : a.natAbs * d = c.natAbs * b := by
    have := congrArg Int.natAbs key
    rwa [Int.natAbs_mul, Int.natAbs_mul, Int.natAbs_natCast, Int.natAbs_natCast] at this
  have q1 : b ∣ d := (Nat.Coprime.dvd_of_dvd_mul_left (Nat.Coprime.symm e3) (show b ∣ a.natAbs * d from ⟨c.natAbs, by rw [k1, Nat.mul_comm]⟩))
  have q2 : d ∣ b := (Nat.Coprime.dvd_of_dvd_mul_left (Nat.Coprime.symm e6) (show d ∣ c.natAbs * b from ⟨a.natAbs, by rw [← k1, Nat.mul_comm]⟩))
  have q3 : b = d := Nat.dvd_antisymm q1 q2
  subst q3
  have q4 : a = c := Int.eq_of_mul_eq_mul_right (by omega) key
  rw [e1, e4, q4]
theorem frD_inj {u v : Int} {l m : Nat} (hl : 0 < l) (hm : 0 < m) (h : frD u l = frD v m) : u * m = v * l := by
  obtain ⟨a, b, e1, b0, b1, e2, e3, _⟩ := frD_parts u hl
  obtain ⟨c, d, e4, d0, d1, e5, e6, _⟩ := frD_parts v hm
  rw [e1, e4] at h
  simp only [D.tup.injEq, List.cons.injEq, D.int.injEq, and_true] at h
  obtain ⟨rfl, h2⟩ := h
  have h2 : b = d := by omega
  subst h2
  have x1 : (u * m) * (b : Int) = (v * l) * b := by
    have x1 : (u * m) * (b : Int) = (u * b) * m := by simp only [Int.mul_assoc, Int.mul_left_comm, Int.mul_comm]
    have x2 : (v * l) * (b : Int) = (v * b) * l := by simp only [Int.mul_assoc, Int.mul_left_comm, Int.mul_comm]
    rw [x1, x2, ← e2, ← e5]
    simp only [Int.mul_assoc, Int.mul_left_comm, Int.mul_comm]
  exact Int.eq_of_mul_eq_mul_right (by omega) x1
theorem ok_frD (u : Int) (l n : Nat) : okN (n + 1) (frD u l) = true := by cases n <;> rfl
theorem eqv_pr (a b c d : Int) : eqv (.tup [.int a, .int b]) (.tup [.int c, .int d]) = decide (a = c ∧ b = d) := by
  unfold eqv
  simp only [toP, toPs, PyData.eqv, PyData.eqvAll]
  by_cases h : a = c
  · by_cases h' : b = d
    · simp [h, h']
    · simp [h, h']
  · simp [h]
theorem frD_pair {u v : Int} {l m : Nat} : (u / (Nat.gcd u.natAbs l : Nat) = v / (Nat.gcd v.natAbs m : Nat) ∧ ((l / Nat.gcd u.natAbs l : Nat) : Int) = ((m / Nat.gcd v.natAbs m : Nat) : Int)) ↔ frD u l = frD v m := by
  unfold frD
  simp only [D.tup.injEq, List.cons.injEq, D.int.injEq, and_true]
theorem eqv_fr (u v : Int) {l m : Nat} (hl : 0 < l) (hm : 0 < m) : eqv (frD u l) (frD v m) = decide (u * m = v * l) := by
  refine (eqv_pr _ _ _ _).trans (decide_eq_decide.mpr (frD_pair.trans ⟨frD_inj hl hm, frD_of hl hm⟩))
theorem eq_fr (u v : Int) {l m : Nat} (hl : 0 < l) (hm : 0 < m) : eqD (frD u l) (frD v m) = some (.bl (decide (u * m = v * l))) := by
  unfold eqD
  rw [if_pos ⟨ok_frD u l 59, ok_frD v m 59⟩, eqv_fr u v hl hm]
theorem ne_fr (u v : Int) {l m : Nat} (hl : 0 < l) (hm : 0 < m) : neD (frD u l) (frD v m) = some (.bl (!decide (u * m = v * l))) := by
  unfold neD
  rw [if_pos ⟨ok_frD u l 59, ok_frD v m 59⟩, eqv_fr u v hl hm]
/-! the program's own -/
abbrev pr (a : Int) (b : Nat) : D := .tup [.int a, .int (b : Nat)]
theorem e_added_raw {a c : Int} {b d : Nat} (hb : 0 < b) (hd : 0 < d) (h : b * d < 1000000) : n_added [pr a b, pr c d] = some (frD (a * d + c * b) (b * d)) := by
  have hb' : b ≤ b * d := Nat.le_mul_of_pos_right _ hd
  have hd' : d ≤ b * d := Nat.le_mul_of_pos_left _ hb
  refine sem_rt rfl ?_
  show m_added [some (pr a b), some (pr c d)] = _
  unfold m_added
  walk_at "ds" <;> walk_at "dt"
  rw [← Int.natCast_mul]
  exact e_fraction (Nat.mul_pos hb hd) h
theorem e_added {u v : Int} {l m : Nat} (hl : 0 < l) (hm : 0 < m) (h : l * m < 1000000) : n_added [frD u l, frD v m] = some (frD (u * m + v * l) (l * m)) := by
  obtain ⟨a, b, e1, b0, b1, e2, e3, _⟩ := frD_parts u hl
  obtain ⟨c, d, e4, d0, d1, e5, e6, _⟩ := frD_parts v hm
  have hbd : b * d ≤ l * m := Nat.mul_le_mul b1 d1
  rw [e1, e4, e_added_raw b0 d0 (by omega)]
  congr 1
  refine frD_of (Nat.mul_pos b0 d0) (Nat.mul_pos hl hm) ?_
  rw [Int.natCast_mul, Int.natCast_mul]
  grind
theorem e_add1 {u v : Int} {l : Nat} (hl : 0 < l) (h : l * l < 1000000) : n_added [frD u l, frD v l] = some (frD (u + v) l) := by
  rw [e_added hl hl h]
  congr 1
  refine frD_of (Nat.mul_pos hl hl) hl ?_
  rw [Int.natCast_mul]
  grind
theorem e_less_raw {a c : Int} {b d : Nat} (hb : 0 < b) (hd : 0 < d) (h : b * d < 1000000) : n_less [pr a b, pr c d] = some (frD (a * d - c * b) (b * d)) := by
  refine sem_rt rfl ?_
  show m_less [some (pr a b), some (pr c d)] = _
  unfold m_less
  walk_at "ds" <;> walk_at "dt"
  rw [e_added_raw (a := a) (c := 0 - c) hb hd h]
  congr 2
  grind
theorem e_less {u v : Int} {l m : Nat} (hl : 0 < l) (hm : 0 < m) (h : l * m < 1000000) : n_less [frD u l, frD v m] = some (frD (u * m - v * l) (l * m)) := by
  obtain ⟨a, b, e1, b0, b1, e2, e3, _⟩ := frD_parts u hl
  obtain ⟨c, d, e4, d0, d1, e5, e6, _⟩ := frD_parts v hm
  have hbd : b * d ≤ l * m := Nat.mul_le_mul b1 d1
  rw [e1, e4, e_less_raw b0 d0 (by omega)]
  congr 1
  refine frD_of (Nat.mul_pos b0 d0) (Nat.mul_pos hl hm) ?_
  rw [Int.natCast_mul, Int.natCast_mul]
  grind
theorem e_less1 {u v : Int} {l : Nat} (hl : 0 < l) (h : l * l < 1000000) : n_less [frD u l, frD v l] = some (frD (u - v) l) := by
  rw [e_less hl hl h]
  congr 1
  refine frD_of (Nat.mul_pos hl hl) hl ?_
  rw [Int.natCast_mul]
  grind
theorem e_times {k u : Int} {l : Nat} (hl : 0 < l) (h : l < 1000000) (hk : -1000000 < k ∧ k < 1000000) : n_times [.int k, frD u l] = some (frD (k * u) l) := by
  obtain ⟨a, b, e1, b0, b1, e2, e3, _⟩ := frD_parts u hl
  rw [e1]
  refine sem_rt rfl ?_
  show m_times [some (.int k), some (pr a b)] = _
  unfold m_times
  walk_at "ds" <;> walk_at "dt"
  rw [e_fraction b0 (by omega)]
  congr 1
  exact frD_of b0 hl (by grind)
theorem e_isless {u v : Int} {l m : Nat} (hl : 0 < l) (hm : 0 < m) (hl2 : l < 1000000) (hm2 : m < 1000000) : n_is_less [frD u l, frD v m] = some (.bl (decide (u * m < v * l))) := by
  obtain ⟨a, b, e1, b0, b1, e2, e3, _⟩ := frD_parts u hl
  obtain ⟨c, d, e4, d0, d1, e5, e6, _⟩ := frD_parts v hm
  rw [e1, e4]
  refine sem_rt rfl ?_
  show m_is_less [some (pr a b), some (pr c d)] = _
  unfold m_is_less
  walk_at "ds" <;> walk_at "dt"
  rw [lt_i]
  congr 2
  refine decide_eq_decide.mpr ?_
  have p1 : (0 : Int) < (l : Int) * m := Int.mul_pos (by omega) (by omega)
  have p2 : (0 : Int) < (b : Int) * d := Int.mul_pos (by omega) (by omega)
  have x1 : (a * d) * ((l : Int) * m) = (u * m) * (b * d) := by grind
  have x2 : (c * b) * ((l : Int) * m) = (v * l) * (b * d) := by grind
  rw [← Int.mul_lt_mul_right p1, x1, x2, Int.mul_lt_mul_right p2]
theorem e_isless1 {u v : Int} {l : Nat} (hl : 0 < l) (hl2 : l < 1000000) : n_is_less [frD u l, frD v l] = some (.bl (decide (u < v))) := by
  rw [e_isless hl hl hl2 hl2]
  congr 2
  refine decide_eq_decide.mpr ?_
  exact Int.mul_lt_mul_right (by omega)
theorem e_size {u : Int} {l : Nat} (hl : 0 < l) : n_size [frD u l] = some (frD (u.natAbs : Nat) l) := by
  obtain ⟨a, b, e1, b0, b1, e2, e3, _⟩ := frD_parts u hl
  rw [e1]
  refine sem_rt rfl ?_
  show m_size [some (pr a b)] = _
  unfold m_size
  have ha : absG [.int a] = some (.int ((a.natAbs : Nat) : Int)) := by
    rw [abs_i]
    congr 2
    by_cases q : a < 0
    · rw [if_pos q]; omega
    · rw [if_neg q]; omega
  refine (ret_of (v_tup (v_cons (v_blt (v_cons (v_2 (by walk_at "dn") v_c rfl) v_nil) ha) (v_cons (v_2 (by walk_at "dn") v_c rfl) v_nil)) (show 2 ≤ sizeLine by decide))).trans ?_
  obtain ⟨a', b', f1, f0, f2, f3, f4, _⟩ := frD_parts ((u.natAbs : Nat) : Int) hl
  have : frD ((a.natAbs : Nat) : Int) b = pr (a.natAbs : Nat) b := by
    unfold frD
    rw [Int.natAbs_natCast, e3]
    simp
  congr 2
  rw [show D.tup [.int ((a.natAbs : Nat) : Int), .int (b : Nat)] = pr (a.natAbs : Nat) b from rfl, ← this]
  refine frD_of b0 hl ?_
  have := congrArg Int.natAbs e2
  rw [Int.natAbs_mul, Int.natAbs_mul, Int.natAbs_natCast, Int.natAbs_natCast] at this
  rw [← Int.natCast_mul, ← Int.natCast_mul, this]
theorem frD_scale (u : Int) {l m : Nat} (hl : 0 < l) (hm : 0 < m) : frD (u * m) (l * m) = frD u l := frD_of (Nat.mul_pos hl hm) hl (by rw [Int.natCast_mul]; grind)
end Dn
set_option Elab.async false
set_option linter.all false
set_option maxRecDepth 100000
/-! Rows: turning, least turns, gaps; in plain lists first. -/
namespace Dn
open PySem L2
local macro_rules | `(tactic| walk_at "dg") => `(tactic| first
  | with_reducible exact add_i _ _ | with_reducible exact sub_i _ _ | ((with_reducible refine mul_i ?_); omega) | ((with_reducible refine fdiv_i ?_); omega) | ((with_reducible refine mod_i ?_); omega) | with_reducible exact neg_i _
  | with_reducible exact lt_i _ _ | with_reducible exact le_i _ _ | with_reducible exact gt_i _ _ | with_reducible exact ge_i _ _ | with_reducible exact eq_i _ _ | with_reducible exact ne_i _ _ | with_reducible exact eq_s _ _ | with_reducible exact ne_s _ _
  | ((with_reducible refine add_s ?_); omega) | ((with_reducible refine add_t ?_); omega) | ((with_reducible refine add_l ?_); omega) | ((with_reducible refine mul_s ?_); omega) | ((with_reducible refine mul_l ?_); omega)
  | ((with_reducible refine len_s ?_); omega) | with_reducible exact len_t _ | with_reducible exact len_l _ | with_reducible exact len_c _ | with_reducible exact int_b _ | with_reducible exact int_i _ | with_reducible exact abs_i _
  | ((with_reducible refine sl_s ?_); omega) | with_reducible exact sl_t _ _ _ | with_reducible exact sl_l _ _ _ | ((with_reducible apply ix_t); (· omega); (· rfl)) | ((with_reducible apply ix_l); (· omega); (· rfl)) | with_reducible assumption)
local macro_rules | `(tactic| walk_at "dc") => `(tactic| with_reducible assumption)
local macro_rules | `(tactic| walk_at "dn") => `(tactic| first
  | with_reducible exact v_c | with_reducible exact v_nil | with_reducible exact v_no
  | ((with_reducible apply v_var); (· rfl); (· rfl))
  | ((with_reducible apply v_2); (· walk_at "dn"); (· walk_at "dn"); (· walk_at "dg"))
  | ((with_reducible apply v_1); (· walk_at "dn"); (· walk_at "dg"))
  | ((with_reducible apply v_cons); (· walk_at "dn"); (· walk_at "dn"))
  | ((with_reducible apply v_blt); (· walk_at "dn"); (· walk_at "dg"))
  | ((with_reducible apply v_call); (· walk_at "dn"); (· walk_at "dc"))
  | ((with_reducible apply v_tup); (· walk_at "dn"); (· first | decide | (simp only [List.length_cons, List.length_nil]; decide)))
  | ((with_reducible apply v_lst); (· walk_at "dn"); (· first | decide | (simp only [List.length_cons, List.length_nil]; decide)))
  | ((with_reducible apply v_po); (· walk_at "dn"))
  | ((with_reducible apply v_sl); (· walk_at "dn"); (· walk_at "dn"); (· walk_at "dn"); (· walk_at "dg"))
  | ((with_reducible apply v_m1); (· walk_at "dn"); (· walk_at "dn"); (· walk_at "dg"))
  | ((with_reducible apply v_b); (· walk_at "dn"))
  | ((with_reducible apply v_not); (· walk_at "dn"))
  | ((with_reducible apply v_notV); (· walk_at "dn"))
  | ((with_reducible apply v_rng1); (· walk_at "dn"); (· omega))
  | ((with_reducible apply v_rng2); (· walk_at "dn"); (· omega))
  | ((with_reducible apply v_it); (· walk_at "dn"))
  | ((with_reducible apply v_itl); (· walk_at "dn"))
  | ((with_reducible apply v_its); (· walk_at "dn"))
  | with_reducible assumption)
local macro_rules | `(tactic| walk_at "dt") => `(tactic| first
  | with_reducible exact v_c | with_reducible exact v_nil | with_reducible exact v_no
  | ((with_reducible apply v_var); (· rfl); (· rfl))
  | ((with_reducible apply v_2) <;> walk_at "dt")
  | ((with_reducible apply v_1) <;> walk_at "dt")
  | ((with_reducible apply v_cons) <;> walk_at "dt")
  | ((with_reducible apply v_blt) <;> walk_at "dt")
  | ((with_reducible apply v_call) <;> walk_at "dt")
  | ((with_reducible apply v_tup) <;> walk_at "dt")
  | ((with_reducible apply v_lst) <;> walk_at "dt")
  | ((with_reducible apply v_po) <;> walk_at "dt")
  | ((with_reducible apply v_sl) <;> walk_at "dt")
  | ((with_reducible apply v_m1) <;> walk_at "dt")
  | ((with_reducible apply v_b) <;> walk_at "dt")
  | ((with_reducible apply v_notV) <;> walk_at "dt")
  | ((with_reducible apply v_not) <;> walk_at "dt")
  | ((with_reducible apply v_rng1) <;> first | omega | walk_at "dt")
  | ((with_reducible apply v_rng2) <;> first | omega | walk_at "dt")
  | walk_at "dg"
  | (show List.length _ ≤ sizeLine; first | decide | (simp only [List.length_cons, List.length_nil]; decide))
  | skip)
local macro_rules | `(tactic| walk_at "ds") => `(tactic| first
  | ((with_reducible apply w_ss) <;> first | walk_at "d1" | skip)
  | ((with_reducible apply w_r) <;> first | walk_at "d1" | skip)
  | ((with_reducible apply w_sp) <;> first | walk_at "d1" | skip)
  | ((with_reducible apply w_so) <;> first | walk_at "d1" | skip)
  | (with_reducible apply w_sv)
  | (with_reducible apply w_sq))
local macro_rules | `(tactic| walk_at "dx") => `(tactic| simp only [put, jn, List.set_cons_zero, List.set_cons_succ])
noncomputable def m_gaps : En → Option Fl :=
  (fSeq (fSet 1 (fCall n_struck (fCons (fV 0) fNil)))
  (fSeq (fSet 2 (fTup fNil))
  (fSeq (fFor (fZip2 (fV 1) (f2 addD (fSl (fV 1) (fPo (fC (.int 1))) fNo) (fSl (fV 1) fNo (fPo (fC (.int 1)))))) (gT (gCons' (gN 3) (gCons' (gN 4) gNil')))
    (fSeq (fSet 5 (f2 modD (f2 subD (fV 4) (fV 3)) (fBlt lenG (fCons (fV 0) fNil))))
    (fSeq (fIfS (fB (f2 eqD (fV 5) (fC (.int 0))))
      (fSet 5 (fBlt lenG (fCons (fV 0) fNil)))
      fPass)
    (fSet 2 (f2 addD (fV 2) (fTup (fCons (fV 5) fNil)))))))
  (fRet (fV 2)))))
noncomputable def n_gaps : List D → Option D := semOf 6 1 m_gaps
noncomputable def m_turns_to : En → Option Fl :=
  (fSeq (fIfS (fB (f2 neD (fBlt lenG (fCons (fV 0) fNil)) (fBlt lenG (fCons (fV 1) fNil))))
    (fRet (fC .non))
    fPass)
  (fSeq (fFor (fRng1 (fCons (fBlt lenG (fCons (fV 0) fNil)) fNil)) (gN 2)
    (fIfS (fB (f2 eqD (fCall n_turned (fCons (fV 0) (fCons (fV 2) fNil))) (fV 1)))
      (fRet (fV 2))
      fPass))
  (fRet (fC .non))))
noncomputable def n_turns_to : List D → Option D := semOf 3 2 m_turns_to
theorem mod_sub (x a n : Int) : (x % n - a) % n = (x - a) % n := by
  rw [show x % n - a = x % n + (-a) by omega, Int.emod_add_emod]
  rfl
theorem mod_add (x a n : Int) : (x % n + a) % n = (x + a) % n := Int.emod_add_emod x n a
theorem mod_at {n : Nat} (h : 0 < n) (x : Int) : ∃ k : Nat, (k : Int) = x % n ∧ k < n := by
  have h1 := Int.emod_nonneg x (show (n : Int) ≠ 0 by omega)
  have h2 := Int.emod_lt_of_pos x (show (0 : Int) < (n : Int) by omega)
  exact ⟨(x % n).toNat, by omega, by omega⟩
theorem mod_small {x n : Int} (h0 : 0 ≤ x) (h : x < n) : x % n = x := Int.emod_eq_of_lt h0 h
theorem mod_one {x n : Int} (h0 : n ≤ x) (h : x < n + n) : x % n = x - n := by
  have : x = (x - n) + n := by omega
  rw [this, Int.add_emod_right, Int.emod_eq_of_lt (by omega) (by omega)]
  omega
theorem rot_get {row : List Nat} (b : Int) {i : Nat} (hi : i < row.length) : (rotL row b).getD i 46 = row.getD (((i : Int) - b) % row.length).toNat 46 := by
  obtain ⟨g, hg, hg2⟩ := mod_at (n := row.length) (by omega) (0 - b)
  have e : ((i : Int) - b) % row.length = ((g : Int) + i) % row.length := by
    rw [hg, mod_add]
    congr 1
    omega
  unfold rotL
  rw [e, ← hg, Int.toNat_natCast, List.getD_eq_getElem?_getD, List.getD_eq_getElem?_getD, List.getElem?_append]
  by_cases h : i < row.length - g
  · rw [if_pos (by rw [List.length_drop]; exact h), List.getElem?_drop, mod_small (by omega) (by omega)]
    congr 2
  · rw [if_neg (by rw [List.length_drop]; exact h), List.length_drop, List.getElem?_take, if_pos (by omega), mod_one (by omega) (by omega)]
    congr 2
    omega
theorem rot_add (row : List Nat) (a b : Int) : rotL (rotL row a) b = rotL row (a + b) := by
  refine row_ext (by rw [rot_len, rot_len, rot_len]) fun i hi => ?_
  rw [rot_len, rot_len] at hi
  obtain ⟨k, hk, hk2⟩ := mod_at (n := row.length) (by omega) ((i : Int) - b)
  rw [rot_get b (by rw [rot_len]; exact hi), rot_len, ← hk, Int.toNat_natCast, rot_get a hk2, hk, mod_sub, rot_get (a + b) hi]
  congr 3
  omega
theorem rot_congr (row : List Nat) {a b : Int} (h : a % row.length = b % row.length) : rotL row a = rotL row b := by
  refine row_ext (by rw [rot_len, rot_len]) fun i hi => ?_
  rw [rot_len] at hi
  rw [rot_get a hi, rot_get b hi, Int.sub_emod, h, ← Int.sub_emod]
theorem rot_zero (row : List Nat) : rotL row 0 = row := by
  unfold rotL
  simp
theorem rot_full (row : List Nat) : rotL row row.length = row := by
  rw [rot_congr row (b := 0) (by simp), rot_zero]
theorem rot_back (row : List Nat) (a : Int) : rotL (rotL row a) (0 - a) = row := by
  rw [rot_add, show a + (0 - a) = 0 by omega, rot_zero]
theorem rot_perm (row : List Nat) (b : Int) : (rotL row b).Perm row := by
  unfold rotL
  exact List.perm_append_comm.trans (by rw [List.take_append_drop])
theorem mem_turns {row : List Nat} (h : 0 < row.length) {y : List Nat} : y ∈ turnsL row ↔ ∃ k : Int, y = rotL row k := by
  unfold turnsL
  rw [List.mem_map]
  constructor
  · rintro ⟨k, _, rfl⟩
    exact ⟨_, rfl⟩
  · rintro ⟨k, rfl⟩
    obtain ⟨j, hj, hj2⟩ := mod_at h k
    refine ⟨j, List.mem_range.mpr hj2, rot_congr row ?_⟩
    rw [hj, Int.emod_emod_of_dvd _ (Int.dvd_refl _)]
theorem minS_le : ∀ (xs : List (List Nat)) (x : List Nat), ∀ y ∈ x :: xs, minOf ltS x xs ≤ y
  | [], x, y, h => by
    have : y = x := by simpa using h
    subst this
    exact List.le_refl _
  | z :: zs, x, y, h => by
    show minOf ltS (if ltS z x then z else x) zs ≤ y
    have ih := minS_le zs (if ltS z x then z else x)
    have h0 := ih _ List.mem_cons_self
    have hle : (if ltS z x then z else x) ≤ x ∧ (if ltS z x then z else x) ≤ z := by
      unfold ltS
      by_cases q : z < x
      · rw [decide_eq_true q]
        exact ⟨List.le_of_lt q, List.le_refl _⟩
      · rw [decide_eq_false q]
        exact ⟨List.le_refl _, List.not_lt.mp q⟩
    rcases List.mem_cons.mp h with rfl | h
    · exact List.le_trans h0 hle.1
    · rcases List.mem_cons.mp h with rfl | h
      · exact List.le_trans h0 hle.2
      · exact ih y (List.mem_cons_of_mem _ h)
theorem least_mem {row : List Nat} (h : 0 < row.length) : leastL row ∈ turnsL row := by
  obtain ⟨x, xs, e1, e2⟩ := turnsL_ne h
  rw [e2, e1]
  exact minOf_mem ltS xs x
theorem least_le {row : List Nat} (h : 0 < row.length) {y : List Nat} (hy : y ∈ turnsL row) : leastL row ≤ y := by
  obtain ⟨x, xs, e1, e2⟩ := turnsL_ne h
  rw [e2]
  rw [e1] at hy
  exact minS_le xs x y hy
theorem least_rot {row : List Nat} (h : 0 < row.length) (b : Int) : leastL (rotL row b) = leastL row := by
  have h' : 0 < (rotL row b).length := by rw [rot_len]; exact h
  refine List.le_antisymm (least_le h' ?_) (least_le h ?_)
  · obtain ⟨k, hk⟩ := (mem_turns h).mp (least_mem h)
    exact (mem_turns h').mpr ⟨k - b, by rw [rot_add, hk]; congr 1; omega⟩
  · obtain ⟨k, hk⟩ := (mem_turns h').mp (least_mem h')
    exact (mem_turns h).mpr ⟨b + k, by rw [hk, rot_add]⟩
theorem least_turn {row : List Nat} (h : 0 < row.length) : ∃ k : Int, leastL row = rotL row k := (mem_turns h).mp (least_mem h)
theorem least_len {row : List Nat} (h : 0 < row.length) : (leastL row).length = row.length := by
  obtain ⟨k, hk⟩ := least_turn h
  rw [hk, rot_len]
theorem least_iff {a b : List Nat} (ha : 0 < a.length) (hb : 0 < b.length) : leastL a = leastL b ↔ ∃ k : Int, b = rotL a k := by
  constructor
  · intro h
    obtain ⟨k, hk⟩ := least_turn ha
    obtain ⟨j, hj⟩ := least_turn hb
    refine ⟨k - j, ?_⟩
    rw [hk, hj] at h
    have := congrArg (fun r => rotL r (0 - j)) h
    simp only [rot_back, rot_add] at this
    rw [show k + (0 - j) = k - j by omega] at this
    rw [show j + (0 - j) = 0 by omega, rot_zero] at this
    exact this.symm
  · rintro ⟨k, rfl⟩
    exact (least_rot ha k).symm

/-! turns_to -/
def ttoL (a b : List Nat) : Option Nat := if a.length = b.length then (List.range a.length).find? fun k => decide (rotL a (k : Nat) = b) else none
def optD : Option Nat → D
  | none => .non
  | some k => .int (k : Nat)
theorem for_find {α : Type} {g : D → En → Option En} {B : En → Option Fl} (c : α → D) (p : α → Bool) (r : α → D) (J : En → Prop) : ∀ (xs : List α) (env : En), J env →
    (∀ x ∈ xs, ∀ e, J e → ∃ e1, g (c x) e = some e1 ∧ (p x = true → B e1 = some (.rt (r x))) ∧ (p x = false → ∃ e2, B e1 = some (.nx e2) ∧ J e2)) →
    match xs.find? p with
    | some x => forF g B (xs.map c) env = some (.rt (r x))
    | none => ∃ e', forF g B (xs.map c) env = some (.nx e') ∧ J e'
  | [], env, h, _ => ⟨env, rfl, h⟩
  | x :: xs, env, h, q => by
    obtain ⟨e1, a1, a2, a3⟩ := q x List.mem_cons_self env h
    cases hp : p x with
    | true =>
      rw [List.find?_cons_of_pos hp]
      exact w_forr a1 (a2 hp)
    | false =>
      obtain ⟨e2, b1, b2⟩ := a3 hp
      have ih := for_find c p r J xs e2 b2 fun y hy => q y (List.mem_cons_of_mem _ hy)
      rw [List.find?_cons_of_neg (by rw [hp]; decide)]
      cases hf : xs.find? p with
      | some y =>
        rw [hf] at ih
        exact w_forc a1 b1 ih
      | none =>
        rw [hf] at ih
        obtain ⟨e', i1, i2⟩ := ih
        exact ⟨e', w_forc a1 b1 i1, i2⟩
theorem e_turns {a b : List Nat} (h : 0 < a.length) (h2 : a.length ≤ 1000) (h3 : b.length ≤ 1000) : n_turns_to [.str a, .str b] = some (optD (ttoL a b)) := by
  have w : ∀ fl : Option D, (∃ d, fl = some d ∧ m_turns_to [some (.str a), some (.str b), none] = some (.rt d)) → n_turns_to [.str a, .str b] = fl := by
    rintro fl ⟨d, rfl, q⟩
    exact sem_rt rfl q
  refine w _ ⟨_, rfl, ?_⟩
  unfold m_turns_to ttoL
  by_cases hl : a.length = b.length
  · rw [if_pos hl]
    refine w_seq (w_iff (w_nf (by walk_at "dn") (by walk_at "dn") (by rw [hl]) rfl) w_pass) ?_
    have key := for_find (g := gN 2) (B := fIfS (fB (f2 eqD (fCall n_turned (fCons (fV 0) (fCons (fV 2) fNil))) (fV 1))) (fRet (fV 2)) fPass) (fun i : Nat => D.int (i : Nat)) (fun k => decide (rotL a (k : Nat) = b)) (fun k => .int (k : Nat))
      (fun e => ∃ x, e = [some (.str a), some (.str b), x]) (List.range a.length) [some (.str a), some (.str b), none] ⟨none, rfl⟩ ?_
    · cases hf : (List.range a.length).find? fun k => decide (rotL a (k : Nat) = b) with
      | some k =>
        rw [hf] at key
        exact w_ret (w_for (v_rng1 (n := (a.length : Int)) (by walk_at "dn") (by omega)) key)
      | none =>
        rw [hf] at key
        obtain ⟨e', k1, x, rfl⟩ := key
        exact w_seq (w_for (v_rng1 (n := (a.length : Int)) (by walk_at "dn") (by omega)) k1) (ret_of v_c)
    · rintro k hk e ⟨x, rfl⟩
      refine ⟨[some (.str a), some (.str b), some (.int (k : Nat))], rfl, fun hp => ?_, fun hp => ⟨[some (.str a), some (.str b), some (.int (k : Nat))], ?_, _, rfl⟩⟩
      · refine w_ift (v_b (v_2 (v_call (by walk_at "dn") (e_turned h (by omega))) (by walk_at "dn") ?_)) (ret_of (by walk_at "dn"))
        rw [eq_s, hp]
      · refine w_iff (v_b (v_2 (v_call (by walk_at "dn") (e_turned h (by omega))) (by walk_at "dn") ?_)) w_pass
        rw [eq_s, hp]
  · rw [if_neg hl]
    refine w_ret (w_ift (v_b (v_2 (by walk_at "dn") (by walk_at "dn") ?_)) (ret_of v_c))
    rw [ne_i, decide_eq_false (by omega)]
    rfl
theorem tto_some {a b : List Nat} {k : Nat} (h : ttoL a b = some k) : k < a.length ∧ rotL a (k : Nat) = b ∧ ∀ j < k, rotL a (j : Nat) ≠ b := by
  unfold ttoL at h
  by_cases hl : a.length = b.length
  · rw [if_pos hl] at h
    rw [List.find?_range_eq_some] at h
    simp at h
    exact ⟨h.2.1, h.1, fun j hj => h.2.2 j hj⟩
  · rw [if_neg hl] at h
    cases h
theorem tto_none {a b : List Nat} (h0 : 0 < a.length) (h : ttoL a b = none) (k : Int) : rotL a k ≠ b := by
  intro q
  unfold ttoL at h
  rw [if_pos (by rw [← q, rot_len])] at h
  rw [List.find?_eq_none] at h
  obtain ⟨j, hj, hj2⟩ := mod_at h0 k
  refine h j (List.mem_range.mpr hj2) ?_
  rw [decide_eq_true_eq, ← q]
  refine rot_congr a ?_
  rw [hj, Int.emod_emod_of_dvd _ (Int.dvd_refl _)]
theorem tto_of {a b : List Nat} (h0 : 0 < a.length) {k : Int} (h : rotL a k = b) : ∃ j, ttoL a b = some j := by
  cases e : ttoL a b with
  | some j => exact ⟨j, rfl⟩
  | none => exact absurd h (tto_none h0 e k)

/-! sorted -/
def sortI (ns : List Int) : List Int := ns.mergeSort fun a b => decide (a ≤ b)
theorem sortI_perm (ns : List Int) : (sortI ns).Perm ns := List.mergeSort_perm _ _
theorem sortI_rises (ns : List Int) : (sortI ns).Pairwise (· ≤ ·) := by
  have h1 : (sortI ns).Pairwise fun a b => decide (a ≤ b) = true := List.pairwise_mergeSort (fun a b c h h' => by simp at *; omega) (fun a b => by simp; omega) _
  exact h1.imp fun h => by simpa using h
theorem sortI_of {ns ms : List Int} (h : ms.Perm ns) (hr : ms.Pairwise (· ≤ ·)) : sortI ns = ms :=
  List.Perm.eq_of_pairwise (le := fun a b : Int => a ≤ b) (fun a b _ _ h h' => by omega) (sortI_rises ns) hr ((sortI_perm ns).trans h.symm)
theorem sortI_eq {ns ms : List Int} (h : ms.Perm ns) : sortI ms = sortI ns := (sortI_of ((sortI_perm ms).trans h) (sortI_rises ms)).symm
theorem srt_ints (ns : List Int) : srtOk (ns.map D.int) = true := by
  unfold srtOk
  rw [Bool.and_eq_true, Bool.or_eq_true]
  refine ⟨?_, .inr ?_⟩
  · rw [List.all_eq_true]
    intro x hx
    obtain ⟨i, _, rfl⟩ := List.mem_map.mp hx
    rw [Bool.and_eq_true]
    refine ⟨rfl, ?_⟩
    rw [List.all_eq_true]
    intro y hy
    obtain ⟨j, _, rfl⟩ := List.mem_map.mp hy
    simp only [toP, PySem.W.alike]
  · rw [List.all_eq_true]
    intro x hx
    obtain ⟨i, _, rfl⟩ := List.mem_map.mp hx
    rfl
theorem srt_mapI (ns : List Int) : (ns.map D.int).mergeSort leP = (sortI ns).map D.int := by
  unfold sortI
  rw [List.map_mergeSort (r := fun a b => decide (a ≤ b)) (s := leP) (f := D.int)]
  intro a _ b _
  unfold leP PySem.W.dataLe
  have := congrFun (congrFun (PySem.W.dataLe_int (fun x : Int => x)) a) b
  simp only [PySem.W.dataLe] at this
  rw [← this]
  simp only [PySem.W.sortLe, toP]
theorem sort_li (ns : List Int) : sortedG [.lst (ns.map D.int)] = some (.lst ((sortI ns).map D.int)) := by
  show (if _ then _ else _) = _
  rw [if_pos (srt_ints ns), srt_mapI]
theorem sort_ti (ns : List Int) : sortedG [.tup (ns.map D.int)] = some (.lst ((sortI ns).map D.int)) := by
  show (if _ then _ else _) = _
  rw [if_pos (srt_ints ns), srt_mapI]
end Dn
set_option Elab.async false
set_option linter.all false
set_option maxRecDepth 100000
/-! Patterns. -/
namespace Dn
open PySem L2 PySem.Spec PyProof.Rows PySem.Builtin PySem.Builtin.Str
local macro_rules | `(tactic| walk_at "dg") => `(tactic| first
  | with_reducible exact add_i _ _ | with_reducible exact sub_i _ _ | ((with_reducible refine mul_i ?_); omega) | ((with_reducible refine fdiv_i ?_); omega) | ((with_reducible refine mod_i ?_); omega) | with_reducible exact neg_i _
  | with_reducible exact lt_i _ _ | with_reducible exact le_i _ _ | with_reducible exact gt_i _ _ | with_reducible exact ge_i _ _ | with_reducible exact eq_i _ _ | with_reducible exact ne_i _ _ | with_reducible exact eq_s _ _ | with_reducible exact ne_s _ _
  | ((with_reducible refine add_s ?_); omega) | ((with_reducible refine add_t ?_); omega) | ((with_reducible refine add_l ?_); omega) | ((with_reducible refine mul_s ?_); omega) | ((with_reducible refine mul_l ?_); omega)
  | ((with_reducible refine len_s ?_); omega) | with_reducible exact len_t _ | with_reducible exact len_l _ | with_reducible exact len_c _ | with_reducible exact int_b _ | with_reducible exact int_i _ | with_reducible exact abs_i _
  | ((with_reducible refine sl_s ?_); omega) | with_reducible exact sl_t _ _ _ | with_reducible exact sl_l _ _ _ | ((with_reducible apply ix_t); (· omega); (· rfl)) | ((with_reducible apply ix_l); (· omega); (· rfl)) | with_reducible assumption)
local macro_rules | `(tactic| walk_at "dc") => `(tactic| with_reducible assumption)
local macro_rules | `(tactic| walk_at "dn") => `(tactic| first
  | with_reducible exact v_c | with_reducible exact v_nil | with_reducible exact v_no
  | ((with_reducible apply v_var); (· rfl); (· rfl))
  | ((with_reducible apply v_2); (· walk_at "dn"); (· walk_at "dn"); (· walk_at "dg"))
  | ((with_reducible apply v_1); (· walk_at "dn"); (· walk_at "dg"))
  | ((with_reducible apply v_cons); (· walk_at "dn"); (· walk_at "dn"))
  | ((with_reducible apply v_blt); (· walk_at "dn"); (· walk_at "dg"))
  | ((with_reducible apply v_call); (· walk_at "dn"); (· walk_at "dc"))
  | ((with_reducible apply v_tup); (· walk_at "dn"); (· first | decide | (simp only [List.length_cons, List.length_nil]; decide)))
  | ((with_reducible apply v_lst); (· walk_at "dn"); (· first | decide | (simp only [List.length_cons, List.length_nil]; decide)))
  | ((with_reducible apply v_po); (· walk_at "dn"))
  | ((with_reducible apply v_sl); (· walk_at "dn"); (· walk_at "dn"); (· walk_at "dn"); (· walk_at "dg"))
  | ((with_reducible apply v_m1); (· walk_at "dn"); (· walk_at "dn"); (· walk_at "dg"))
  | ((with_reducible apply v_b); (· walk_at "dn"))
  | ((with_reducible apply v_not); (· walk_at "dn"))
  | ((with_reducible apply v_notV); (· walk_at "dn"))
  | ((with_reducible apply v_rng1); (· walk_at "dn"); (· omega))
  | ((with_reducible apply v_rng2); (· walk_at "dn"); (· omega))
  | ((with_reducible apply v_it); (· walk_at "dn"))
  | ((with_reducible apply v_itl); (· walk_at "dn"))
  | ((with_reducible apply v_its); (· walk_at "dn"))
  | with_reducible assumption)
local macro_rules | `(tactic| walk_at "dt") => `(tactic| first
  | with_reducible exact v_c | with_reducible exact v_nil | with_reducible exact v_no
  | ((with_reducible apply v_var); (· rfl); (· rfl))
  | ((with_reducible apply v_2) <;> walk_at "dt")
  | ((with_reducible apply v_1) <;> walk_at "dt")
  | ((with_reducible apply v_cons) <;> walk_at "dt")
  | ((with_reducible apply v_blt) <;> walk_at "dt")
  | ((with_reducible apply v_call) <;> walk_at "dt")
  | ((with_reducible apply v_tup) <;> walk_at "dt")
  | ((with_reducible apply v_lst) <;> walk_at "dt")
  | ((with_reducible apply v_po) <;> walk_at "dt")
  | ((with_reducible apply v_sl) <;> walk_at "dt")
  | ((with_reducible apply v_m1) <;> walk_at "dt")
  | ((with_reducible apply v_b) <;> walk_at "dt")
  | ((with_reducible apply v_notV) <;> walk_at "dt")
  | ((with_reducible apply v_not) <;> walk_at "dt")
  | ((with_reducible apply v_rng1) <;> first | omega | walk_at "dt")
  | ((with_reducible apply v_rng2) <;> first | omega | walk_at "dt")
  | walk_at "dg"
  | (show List.length _ ≤ sizeLine; first | decide | (simp only [List.length_cons, List.length_nil]; decide))
  | skip)
local macro_rules | `(tactic| walk_at "ds") => `(tactic| first
  | ((with_reducible apply w_ss) <;> first | walk_at "d1" | skip)
  | ((with_reducible apply w_r) <;> first | walk_at "d1" | skip)
  | ((with_reducible apply w_sp) <;> first | walk_at "d1" | skip)
  | ((with_reducible apply w_so) <;> first | walk_at "d1" | skip)
  | (with_reducible apply w_sv)
  | (with_reducible apply w_sq))
local macro_rules | `(tactic| walk_at "dx") => `(tactic| simp only [put, jn, List.set_cons_zero, List.set_cons_succ])
noncomputable def m_finer : En → Option Fl :=
  (fSeq (fAsg (fV 0) (gT (gCons' (gN 4) (gCons' (gN 5) (gCons' (gN 6) gNil')))))
  (fSeq (fSet 2 (f2 mulD (fC (.str [46])) (f2 subD (fV 1) (fC (.int 1)))))
  (fSeq (fSet 3 (f1 tupD (fLc (fIt (fV 6)) (gT (gCons' (gN 7) (gCons' (gN 8) gNil'))) fYes (fTup (fCons (fV 7) (fCons (fM1 joinD (fC (.str [])) (fLc (fIt (fV 8)) (gN 9) fYes (f2 addD (fV 9) (fV 2)) [9])) fNil))) [7, 8])))
  (fRet (fTup (fCons (f2 mulD (fV 4) (fV 1)) (fCons (f2 mulD (fV 5) (fV 1)) (fCons (fV 3) fNil))))))))
noncomputable def n_finer : List D → Option D := semOf 10 2 m_finer
noncomputable def m_is_finer : En → Option Fl :=
  (fSeq (fAsg (fV 0) (gT (gCons' (gN 2) (gCons' (gN 3) (gCons' (gN 4) gNil')))))
  (fSeq (fIfS (fOr (fB (f2 neD (f2 modD (fV 2) (fV 1)) (fC (.int 0)))) (fB (f2 neD (f2 modD (fV 3) (fV 1)) (fC (.int 0)))))
    (fRet (fC (.bl false)))
    fPass)
  (fRet (fBlt allG (fCons (fLc (fIt (fV 4)) (gT (gCons' (gN 5) (gCons' (gN 6) gNil'))) fYes (fBlt allG (fCons (fLc (fEnum (fV 6)) (gT (gCons' (gN 7) (gCons' (gN 8) gNil'))) (fB (f2 neD (f2 modD (fV 7) (fV 1)) (fC (.int 0)))) (f2 eqD (fV 8) (fC (.str [46]))) [7, 8]) fNil)) [5, 6]) fNil)))))
noncomputable def n_is_finer : List D → Option D := semOf 9 2 m_is_finer
noncomputable def m_coarser : En → Option Fl :=
  (fSeq (fAsg (fV 0) (gT (gCons' (gN 2) (gCons' (gN 3) (gCons' (gN 4) gNil')))))
  (fSeq (fSet 1 (fBlt maxG (fCons (fLc (fRng2 (fCons (fC (.int 1)) (fCons (f2 addD (fV 2) (fC (.int 1))) fNil))) (gN 1) (fB (fCall n_is_finer (fCons (fV 0) (fCons (fV 1) fNil)))) (fV 1) [1]) fNil)))
  (fRet (fTup (fCons (f2 fdivD (fV 2) (fV 1)) (fCons (f2 fdivD (fV 3) (fV 1)) (fCons (f1 tupD (fLc (fIt (fV 4)) (gT (gCons' (gN 5) (gCons' (gN 6) gNil'))) fYes (fTup (fCons (fV 5) (fCons (f2 slkD (fV 6) (fV 1)) fNil))) [5, 6])) fNil)))))))
noncomputable def n_coarser : List D → Option D := semOf 7 1 m_coarser
noncomputable def m_pattern_turned : En → Option Fl :=
  (fRet (f2 addD (fSl (fV 0) fNo (fPo (fC (.int 2)))) (fTup (fCons (f1 tupD (fLc (fIt (f2 ixD (fV 0) (fC (.int 2)))) (gT (gCons' (gN 2) (gCons' (gN 3) gNil'))) fYes (fTup (fCons (fV 2) (fCons (fCall n_turned (fCons (fV 3) (fCons (fV 1) fNil))) fNil))) [2, 3])) fNil))))
noncomputable def n_pattern_turned : List D → Option D := semOf 4 2 m_pattern_turned
noncomputable def m_only : En → Option Fl :=
  (fRet (f2 addD (fSl (fV 0) fNo (fPo (fC (.int 2)))) (fTup (fCons (f1 tupD (fLc (fIt (f2 ixD (fV 0) (fC (.int 2)))) (gN 2) (fB (f2 inD (f2 ixD (fV 2) (fC (.int 0))) (fV 1))) (fV 2) [2])) fNil))))
noncomputable def n_only : List D → Option D := semOf 3 2 m_only
noncomputable def m_loudness : En → Option Fl :=
  (fSeq (fSet 1 (fM1 joinD (fC (.str [])) (fLc (fIt (f2 ixD (fV 0) (fC (.int 2)))) (gT (gCons' (gN 3) (gCons' (gN 4) gNil'))) fYes (fV 4) [3, 4])))
  (fSeq (fSet 2 (fM1 countD (fV 1) (fC (.str [120]))))
  (fRet (fTup (fCons (fV 2) (fCons (f2 subD (f2 subD (fBlt lenG (fCons (fV 1) fNil)) (fV 2)) (fM1 countD (fV 1) (fC (.str [46])))) fNil))))))
noncomputable def n_loudness : List D → Option D := semOf 5 1 m_loudness
noncomputable def m__law_pattern : En → Option Fl :=
  (fSeq (fSet 1 (f2 ixD (fTup (fCons (f2 addD (fC (.int 1)) (f2 modD (f2 fdivD (fV 0) (fC (.int 8))) (fC (.int 16)))) (fCons (fC (.int 4)) (fCons (fC (.int 8)) (fCons (f2 addD (fC (.int 1)) (f2 modD (f2 fdivD (fV 0) (fC (.int 8))) (fC (.int 6)))) fNil))))) (f2 modD (fV 0) (fC (.int 4)))))
  (fSeq (fSet 2 (f2 addD (fC (.int 1)) (f2 modD (f2 fdivD (fV 0) (fC (.int 128))) (fC (.int 4)))))
  (fSeq (fSet 3 (fTup fNil))
  (fSeq (fFor (fEnum (fTup (fCons (fC (.str [97])) (fCons (fC (.str [104])) (fCons (fC (.str [107])) (fCons (fC (.str [115])) (fCons (fC (.str [122])) fNil))))))) (gT (gCons' (gN 4) (gCons' (gN 5) gNil')))
    (fSeq (fSet 6 (f2 fdivD (fCall n__law_drawn (fCons (fV 0) (fCons (f2 addD (fC (.int 30)) (fV 4)) fNil))) (fC (.int 4))))
    (fIfS (fB (f2 ltD (f2 modD (fV 6) (fC (.int 5))) (f2 addD (fC (.int 1)) (f2 modD (f2 fdivD (fV 0) (fC (.int 512))) (fC (.int 4))))))
      (fSet 3 (f2 addD (fV 3) (fTup (fCons (fTup (fCons (fV 5) (fCons (fCall n__law_marks (fCons (f2 fdivD (fV 6) (fC (.int 8))) (fCons (fV 1) fNil))) fNil))) fNil))))
      fPass)))
  (fRet (fTup (fCons (fV 1) (fCons (fV 2) (fCons (fV 3) fNil)))))))))
noncomputable def n__law_pattern : List D → Option D := semOf 7 1 m__law_pattern
structure Pt where
  s : Nat
  g : Nat
  ps : List (Nat × List Nat)
def padD (q : Nat × List Nat) : D := .tup [.str [q.1], .str q.2]
def ptD (p : Pt) : D := .tup [.int (p.s : Nat), .int (p.g : Nat), .tup (p.ps.map padD)]
structure Pt.Ok (p : Pt) : Prop where
  s0 : 0 < p.s
  s1 : p.s ≤ 1000
  g0 : 0 < p.g
  g1 : p.g ≤ 1000
  few : p.ps.length ≤ 5
  row : ∀ q ∈ p.ps, q.2.length = p.s ∧ isRow q.2
theorem okN_pads : ∀ (n : Nat) (ps : List (Nat × List Nat)), ((ps.map padD).all fun x => okN (n + 1) x) = true := fun n ps => by
  rw [List.all_eq_true]
  intro x hx
  obtain ⟨q, _, rfl⟩ := List.mem_map.mp hx
  show (([D.str [q.1], .str q.2] : List D).all fun x => okN n x) = true
  cases n <;> rfl
theorem ok_pt (p : Pt) : okN 60 (ptD p) = true := by
  show ([D.int (p.s : Nat), .int (p.g : Nat), .tup (p.ps.map padD)].all fun x => okN 59 x) = true
  rw [List.all_cons, List.all_cons, List.all_cons, List.all_nil]
  have : okN 59 (.tup (p.ps.map padD)) = true := okN_pads 57 p.ps
  rw [this]
  rfl
/-! finer -/
def fineL (row : List Nat) (m : Nat) : List Nat := (row.map fun c => c :: List.replicate (m - 1) 46).flatten
theorem fineL_len (row : List Nat) {m : Nat} (hm : 0 < m) : (fineL row m).length = row.length * m := by
  unfold fineL
  induction row with
  | nil => simp
  | cons c r ih =>
    rw [List.map_cons, List.flatten_cons, List.length_append, ih, List.length_cons, List.length_cons, List.length_replicate, Nat.succ_mul]
    omega
def finerP (p : Pt) (m : Nat) : Pt := ⟨p.s * m, p.g * m, p.ps.map fun q => (q.1, fineL q.2 m)⟩
theorem sum_const {α : Type} (f : α → List Nat) (n : Nat) (h : ∀ x, (f x).length = n) : ∀ xs : List α, ((xs.map f).map List.length).sum = xs.length * n
  | [] => by simp
  | x :: xs => by rw [List.map_cons, List.map_cons, List.sum_cons, h x, sum_const f n h xs, List.length_cons, Nat.succ_mul, Nat.add_comm]
theorem e_finer {p : Pt} (ok : p.Ok) {m : Nat} (h0 : 0 < m) (h1 : m ≤ 900) : n_finer [ptD p, .int (m : Nat)] = some (ptD (finerP p m)) := by
  refine sem_rt rfl ?_
  show m_finer [some (ptD p), some (.int (m : Nat)), none, none, none, none, none, none, none, none] = _
  unfold m_finer
  have hA : fAsg (fV 0) (gT (gCons' (gN 4) (gCons' (gN 5) (gCons' (gN 6) gNil')))) [some (ptD p), some (.int (m : Nat)), none, none, none, none, none, none, none, none] = some (.nx [some (ptD p), some (.int (m : Nat)), none, none, some (.int (p.s : Nat)), some (.int (p.g : Nat)), some (.tup (p.ps.map padD)), none, none, none]) := rfl
  refine w_seq hA ?_
  have hr : mulD (.str [46]) (.int ((m : Int) - 1)) = some (.str (List.replicate (m - 1) 46)) := by
    rw [← reps_one, show m - 1 = ((m : Int) - 1).toNat by omega]
    exact mul_s ⟨by decide, by omega, by omega⟩
  refine w_seq (w_set (v_2 v_c (by walk_at "dn") hr) rfl) ?_
  have hin : ∀ q ∈ p.ps, ∀ x y z : Option D, fM1 joinD (fC (.str [])) (fLc (fIt (fV 8)) (gN 9) fYes (f2 addD (fV 9) (fV 2)) [9]) [some (ptD p), some (.int (m : Nat)), some (.str (List.replicate (m - 1) 46)), none, some (.int (p.s : Nat)), some (.int (p.g : Nat)), some (.tup (p.ps.map padD)), some (.str [q.1]), some (.str q.2), none] = some (.str (fineL q.2 m)) := fun q hq x y z => by
    have hl := (ok.row q hq).1
    have := ok.s1
    refine v_m1 v_c (lcw (r := (q.2.map fun c => c :: List.replicate (m - 1) 46).map D.str) (v_its (by walk_at "dn")) (by rw [List.length_map]; omega) ?_) ?_
    · rw [List.map_map]
      refine lc_map _ _ _ fun c _ => ⟨[some (ptD p), some (.int (m : Nat)), some (.str (List.replicate (m - 1) 46)), none, some (.int (p.s : Nat)), some (.int (p.g : Nat)), some (.tup (p.ps.map padD)), some (.str [q.1]), some (.str q.2), some (.str [c])], rfl, ?_⟩
      refine v_2 (by walk_at "dn") (by walk_at "dn") (add_s ?_)
      rw [List.length_replicate]
      show 1 + (m - 1) ≤ 1000000
      omega
    · rw [join_l, joinL_nil]
      · rfl
      · rw [sum_const _ m (fun c => by rw [List.length_cons, List.length_replicate]; omega)]
        simp only [List.length_nil, Nat.mul_zero, Nat.add_zero]
        rw [hl]
        exact Nat.le_trans (Nat.mul_le_mul ok.s1 h1) (by decide)
  have hrows : fLc (fIt (fV 6)) (gT (gCons' (gN 7) (gCons' (gN 8) gNil'))) fYes (fTup (fCons (fV 7) (fCons (fM1 joinD (fC (.str [])) (fLc (fIt (fV 8)) (gN 9) fYes (f2 addD (fV 9) (fV 2)) [9])) fNil))) [7, 8] [some (ptD p), some (.int (m : Nat)), some (.str (List.replicate (m - 1) 46)), none, some (.int (p.s : Nat)), some (.int (p.g : Nat)), some (.tup (p.ps.map padD)), none, none, none] = some (.lst ((finerP p m).ps.map padD)) := by
    refine lcw (v_it (by walk_at "dn")) (by rw [List.length_map]; have := ok.few; omega) ?_
    unfold finerP
    rw [List.map_map]
    refine lc_map padD _ _ fun q hq => ⟨[some (ptD p), some (.int (m : Nat)), some (.str (List.replicate (m - 1) 46)), none, some (.int (p.s : Nat)), some (.int (p.g : Nat)), some (.tup (p.ps.map padD)), some (.str [q.1]), some (.str q.2), none], rfl, ?_⟩
    exact v_tup (ds := [.str [q.1], .str (fineL q.2 m)]) (v_cons (by walk_at "dn") (v_cons (hin q hq none none none) v_nil)) (show 2 ≤ sizeLine by decide)
  refine w_seq (w_set (v_1 hrows rfl) rfl) (ret_of ?_)
  have m1 : mulD (.int (p.s : Nat)) (.int (m : Nat)) = some (.int ((p.s * m : Nat) : Int)) := by
    have := ok.s1
    rw [mul_i (by omega)]
    simp
  have m2 : mulD (.int (p.g : Nat)) (.int (m : Nat)) = some (.int ((p.g * m : Nat) : Int)) := by
    have := ok.g1
    rw [mul_i (by omega)]
    simp
  exact v_tup (ds := [.int ((p.s * m : Nat) : Int), .int ((p.g * m : Nat) : Int), .tup ((finerP p m).ps.map padD)]) (v_cons (v_2 (by walk_at "dn") (by walk_at "dn") m1) (v_cons (v_2 (by walk_at "dn") (by walk_at "dn") m2) (by walk_at "dn"))) (show 3 ≤ sizeLine by decide)
/-! turned -/
def turnP (p : Pt) (b : Int) : Pt := ⟨p.s, p.g, p.ps.map fun q => (q.1, rotL q.2 b)⟩
theorem cut2 (p : Pt) : slD (ptD p) none (some 2) = some (.tup [.int (p.s : Nat), .int (p.g : Nat)]) := by
  unfold ptD
  rw [sl_t]
  exact congrArg (fun l => some (D.tup l)) (cut_to _ 2)
theorem e_pturned {p : Pt} (ok : p.Ok) (b : Int) : n_pattern_turned [ptD p, .int b] = some (ptD (turnP p b)) := by
  refine sem_rt rfl ?_
  show m_pattern_turned [some (ptD p), some (.int b), none, none] = _
  unfold m_pattern_turned
  have hl : fLc (fIt (f2 ixD (fV 0) (fC (.int 2)))) (gT (gCons' (gN 2) (gCons' (gN 3) gNil'))) fYes (fTup (fCons (fV 2) (fCons (fCall n_turned (fCons (fV 3) (fCons (fV 1) fNil))) fNil))) [2, 3] [some (ptD p), some (.int b), none, none] = some (.lst ((turnP p b).ps.map padD)) := by
    refine lcw (v_it (v_2 (by walk_at "dn") v_c rfl)) (by rw [List.length_map]; have := ok.few; omega) ?_
    unfold turnP
    rw [List.map_map]
    refine lc_map padD _ _ fun q hq => ⟨[some (ptD p), some (.int b), some (.str [q.1]), some (.str q.2)], rfl, ?_⟩
    obtain ⟨l1, l2⟩ := ok.row q hq
    have := ok.s0
    have := ok.s1
    exact v_tup (ds := [.str [q.1], .str (rotL q.2 b)]) (v_cons (by walk_at "dn") (v_cons (v_call (by walk_at "dn") (e_turned (by omega) (by omega))) v_nil)) (show 2 ≤ sizeLine by decide)
  exact ret_of (v_2 (v_sl (by walk_at "dn") v_no (v_po v_c) (cut2 p)) (v_tup (ds := [.tup ((turnP p b).ps.map padD)]) (v_cons (v_1 hl rfl) v_nil) (show 1 ≤ sizeLine by decide)) (add_t (show 2 + 1 ≤ 1000000 by decide)))
/-! only -/
def onlyP (p : Pt) (l : List Nat) : Pt := ⟨p.s, p.g, p.ps.filter fun q => decide (q.1 ∈ l)⟩
theorem e_only {p : Pt} (ok : p.Ok) (l : List Nat) : n_only [ptD p, .str l] = some (ptD (onlyP p l)) := by
  refine sem_rt rfl ?_
  show m_only [some (ptD p), some (.str l), none] = _
  unfold m_only
  have hl : fLc (fIt (f2 ixD (fV 0) (fC (.int 2)))) (gN 2) (fB (f2 inD (f2 ixD (fV 2) (fC (.int 0))) (fV 1))) (fV 2) [2] [some (ptD p), some (.str l), none] = some (.lst ((onlyP p l).ps.map padD)) := by
    refine lcw (v_it (v_2 (by walk_at "dn") v_c rfl)) (by rw [List.length_map]; have := ok.few; omega) ?_
    unfold onlyP
    refine lc_filter padD (fun q => decide (q.1 ∈ l)) padD p.ps fun q hq => ⟨[some (ptD p), some (.str l), some (padD q)], rfl, ?_, fun _ => rfl⟩
    exact v_b (v_2 (v_2 (by walk_at "dn") v_c rfl) (by walk_at "dn") rfl)
  exact ret_of (v_2 (v_sl (by walk_at "dn") v_no (v_po v_c) (cut2 p)) (v_tup (ds := [.tup ((onlyP p l).ps.map padD)]) (v_cons (v_1 hl rfl) v_nil) (show 1 ≤ sizeLine by decide)) (add_t (show 2 + 1 ≤ 1000000 by decide)))
/-! loudness -/
def marksP (p : Pt) : List Nat := (p.ps.map fun q => q.2).flatten
def loudD (p : Pt) : D := .tup [.int ((marksP p).count 120 : Nat), .int (((marksP p).length : Nat) - ((marksP p).count 120 : Nat) - ((marksP p).count 46 : Nat))]
theorem len_marks {p : Pt} (h : ∀ q ∈ p.ps, q.2.length = p.s) : (marksP p).length = p.ps.length * p.s := by
  unfold marksP
  rw [List.length_flatten, List.map_map]
  generalize p.s = s at *
  generalize p.ps = ps at *
  induction ps with
  | nil => simp
  | cons q r ih =>
    rw [List.map_cons, List.sum_cons, ih fun x hx => h x (List.mem_cons_of_mem _ hx), List.length_cons, Nat.succ_mul]
    have := h q List.mem_cons_self
    simp only [Function.comp]
    omega
theorem e_loud {p : Pt} (ok : p.Ok) : n_loudness [ptD p] = some (loudD p) := by
  refine sem_rt rfl ?_
  show m_loudness [some (ptD p), none, none, none, none] = _
  unfold m_loudness
  have hlen := len_marks fun q hq => (ok.row q hq).1
  have hl5 : (marksP p).length ≤ 5000 := by
    rw [hlen]
    exact Nat.mul_le_mul ok.few ok.s1
  have hl : fLc (fIt (f2 ixD (fV 0) (fC (.int 2)))) (gT (gCons' (gN 3) (gCons' (gN 4) gNil'))) fYes (fV 4) [3, 4] [some (ptD p), none, none, none, none] = some (.lst ((p.ps.map fun q => q.2).map D.str)) := by
    refine lcw (v_it (v_2 (by walk_at "dn") v_c rfl)) (by rw [List.length_map]; have := ok.few; omega) ?_
    rw [List.map_map]
    exact lc_map padD _ _ fun q hq => ⟨[some (ptD p), none, none, some (.str [q.1]), some (.str q.2)], rfl, rfl⟩
  refine w_seq (w_set (d := .str (marksP p)) (v_m1 v_c hl ?_) rfl) ?_
  · rw [join_l, joinL_nil]
    · rfl
    · have e : ((p.ps.map fun q => q.2).map List.length).sum = (marksP p).length := by
        unfold marksP
        rw [List.length_flatten]
      rw [e]
      simp
      omega
  refine w_seq (w_set (v_m1 (by walk_at "dn") v_c rfl) rfl) (ret_of ?_)
  unfold loudD
  exact v_tup (v_cons (by walk_at "dn") (v_cons (v_2 (v_2 (by walk_at "dn") (by walk_at "dn") (sub_i _ _)) (v_m1 (by walk_at "dn") v_c rfl) (sub_i _ _)) v_nil)) (show 2 ≤ sizeLine by decide)
end Dn
set_option Elab.async false
set_option linter.all false
set_option maxRecDepth 100000
/-! Patterns: those that a law draws; is_finer, coarser. -/
namespace Dn
open PySem L2 PySem.Spec PyProof.Rows PySem.Builtin PySem.Builtin.Str
local macro_rules | `(tactic| walk_at "dg") => `(tactic| first
  | with_reducible exact add_i _ _ | with_reducible exact sub_i _ _ | ((with_reducible refine mul_i ?_); omega) | ((with_reducible refine fdiv_i ?_); omega) | ((with_reducible refine mod_i ?_); omega) | with_reducible exact neg_i _
  | with_reducible exact lt_i _ _ | with_reducible exact le_i _ _ | with_reducible exact gt_i _ _ | with_reducible exact ge_i _ _ | with_reducible exact eq_i _ _ | with_reducible exact ne_i _ _ | with_reducible exact eq_s _ _ | with_reducible exact ne_s _ _
  | ((with_reducible refine add_s ?_); omega) | ((with_reducible refine add_t ?_); omega) | ((with_reducible refine add_l ?_); omega) | ((with_reducible refine mul_s ?_); omega) | ((with_reducible refine mul_l ?_); omega)
  | ((with_reducible refine len_s ?_); omega) | with_reducible exact len_t _ | with_reducible exact len_l _ | with_reducible exact len_c _ | with_reducible exact int_b _ | with_reducible exact int_i _ | with_reducible exact abs_i _
  | ((with_reducible refine sl_s ?_); omega) | with_reducible exact sl_t _ _ _ | with_reducible exact sl_l _ _ _ | ((with_reducible apply ix_t); (· omega); (· rfl)) | ((with_reducible apply ix_l); (· omega); (· rfl)) | with_reducible assumption)
local macro_rules | `(tactic| walk_at "dc") => `(tactic| with_reducible assumption)
local macro_rules | `(tactic| walk_at "dn") => `(tactic| first
  | with_reducible exact v_c | with_reducible exact v_nil | with_reducible exact v_no
  | ((with_reducible apply v_var); (· rfl); (· rfl))
  | ((with_reducible apply v_2); (· walk_at "dn"); (· walk_at "dn"); (· walk_at "dg"))
  | ((with_reducible apply v_1); (· walk_at "dn"); (· walk_at "dg"))
  | ((with_reducible apply v_cons); (· walk_at "dn"); (· walk_at "dn"))
  | ((with_reducible apply v_blt); (· walk_at "dn"); (· walk_at "dg"))
  | ((with_reducible apply v_call); (· walk_at "dn"); (· walk_at "dc"))
  | ((with_reducible apply v_tup); (· walk_at "dn"); (· first | decide | (simp only [List.length_cons, List.length_nil]; decide)))
  | ((with_reducible apply v_lst); (· walk_at "dn"); (· first | decide | (simp only [List.length_cons, List.length_nil]; decide)))
  | ((with_reducible apply v_po); (· walk_at "dn"))
  | ((with_reducible apply v_sl); (· walk_at "dn"); (· walk_at "dn"); (· walk_at "dn"); (· walk_at "dg"))
  | ((with_reducible apply v_m1); (· walk_at "dn"); (· walk_at "dn"); (· walk_at "dg"))
  | ((with_reducible apply v_b); (· walk_at "dn"))
  | ((with_reducible apply v_not); (· walk_at "dn"))
  | ((with_reducible apply v_notV); (· walk_at "dn"))
  | ((with_reducible apply v_rng1); (· walk_at "dn"); (· omega))
  | ((with_reducible apply v_rng2); (· walk_at "dn"); (· omega))
  | ((with_reducible apply v_it); (· walk_at "dn"))
  | ((with_reducible apply v_itl); (· walk_at "dn"))
  | ((with_reducible apply v_its); (· walk_at "dn"))
  | with_reducible assumption)
local macro_rules | `(tactic| walk_at "dt") => `(tactic| first
  | with_reducible exact v_c | with_reducible exact v_nil | with_reducible exact v_no
  | ((with_reducible apply v_var); (· rfl); (· rfl))
  | ((with_reducible apply v_2) <;> walk_at "dt")
  | ((with_reducible apply v_1) <;> walk_at "dt")
  | ((with_reducible apply v_cons) <;> walk_at "dt")
  | ((with_reducible apply v_blt) <;> walk_at "dt")
  | ((with_reducible apply v_call) <;> walk_at "dt")
  | ((with_reducible apply v_tup) <;> walk_at "dt")
  | ((with_reducible apply v_lst) <;> walk_at "dt")
  | ((with_reducible apply v_po) <;> walk_at "dt")
  | ((with_reducible apply v_sl) <;> walk_at "dt")
  | ((with_reducible apply v_m1) <;> walk_at "dt")
  | ((with_reducible apply v_b) <;> walk_at "dt")
  | ((with_reducible apply v_notV) <;> walk_at "dt")
  | ((with_reducible apply v_not) <;> walk_at "dt")
  | ((with_reducible apply v_rng1) <;> first | omega | walk_at "dt")
  | ((with_reducible apply v_rng2) <;> first | omega | walk_at "dt")
  | walk_at "dg"
  | (show List.length _ ≤ sizeLine; first | decide | (simp only [List.length_cons, List.length_nil]; decide))
  | skip)
local macro_rules | `(tactic| walk_at "ds") => `(tactic| first
  | ((with_reducible apply w_ss) <;> first | walk_at "d1" | skip)
  | ((with_reducible apply w_r) <;> first | walk_at "d1" | skip)
  | ((with_reducible apply w_sp) <;> first | walk_at "d1" | skip)
  | ((with_reducible apply w_so) <;> first | walk_at "d1" | skip)
  | (with_reducible apply w_sv)
  | (with_reducible apply w_sq))
local macro_rules | `(tactic| walk_at "dx") => `(tactic| simp only [put, jn, List.set_cons_zero, List.set_cons_succ])
def letters : List Nat := [97, 104, 107, 115, 122]
/-- a pattern that a law draws -/
structure Pt.Drawn (p : Pt) : Prop where
  s0 : 0 < p.s
  s1 : p.s ≤ 16
  g0 : 0 < p.g
  g1 : p.g ≤ 4
  sub : (p.ps.map Prod.fst).Sublist letters
  row : ∀ q ∈ p.ps, q.2.length = p.s ∧ isRow q.2
theorem Pt.Drawn.ok {p : Pt} (h : p.Drawn) : p.Ok := by
  have h1 := h.s1
  have h2 := h.g1
  refine ⟨h.s0, by omega, h.g0, by omega, ?_, h.row⟩
  have := h.sub.length_le
  simpa [letters] using this
theorem e_lawpat {n : Int} (h0 : 0 ≤ n) : ∃ p : Pt, p.Drawn ∧ n__law_pattern [.int n] = some (ptD p) := by
  obtain ⟨s, s0, s1, hs⟩ : ∃ s : Nat, 0 < s ∧ s ≤ 16 ∧ ixD (.tup [.int (1 + n / 8 % 16), .int 4, .int 8, .int (1 + n / 8 % 6)]) (.int (n % 4)) = some (.int (s : Nat)) := by
    have h4 : n % 4 = 0 ∨ n % 4 = 1 ∨ n % 4 = 2 ∨ n % 4 = 3 := by omega
    rcases h4 with e | e | e | e <;> rw [e]
    · exact ⟨(1 + n / 8 % 16).toNat, by omega, by omega, by rw [show (((1 + n / 8 % 16).toNat : Nat) : Int) = 1 + n / 8 % 16 by omega]; rfl⟩
    · exact ⟨4, by omega, by omega, rfl⟩
    · exact ⟨8, by omega, by omega, rfl⟩
    · exact ⟨(1 + n / 8 % 6).toNat, by omega, by omega, by rw [show (((1 + n / 8 % 6).toNat : Nat) : Int) = 1 + n / 8 % 6 by omega]; rfl⟩
  obtain ⟨g, hg, g0, g1⟩ : ∃ g : Nat, (g : Int) = 1 + n / 128 % 4 ∧ 0 < g ∧ g ≤ 4 := ⟨(1 + n / 128 % 4).toNat, by omega, by omega, by omega⟩
  have key := for_inv (g := gT (gCons' (gN 4) (gCons' (gN 5) gNil'))) (B := (fSeq (fSet 6 (f2 fdivD (fCall n__law_drawn (fCons (fV 0) (fCons (f2 addD (fC (.int 30)) (fV 4)) fNil))) (fC (.int 4))))
    (fIfS (fB (f2 ltD (f2 modD (fV 6) (fC (.int 5))) (f2 addD (fC (.int 1)) (f2 modD (f2 fdivD (fV 0) (fC (.int 512))) (fC (.int 4))))))
      (fSet 3 (f2 addD (fV 3) (fTup (fCons (fTup (fCons (fV 5) (fCons (fCall n__law_marks (fCons (f2 fdivD (fV 6) (fC (.int 8))) (fCons (fV 1) fNil))) fNil))) fNil))))
      fPass))) (fun q : Nat × Nat => D.tup [.int (q.1 : Nat), .str [q.2]])
    (fun p e => ∃ (ps : List (Nat × List Nat)) (x y z : Option D), e = [some (.int n), some (.int (s : Nat)), some (.int (g : Nat)), some (.tup (ps.map padD)), x, y, z] ∧ (ps.map Prod.fst).Sublist (p.map Prod.snd) ∧ (∀ q ∈ ps, q.2.length = s ∧ isRow q.2) ∧ ps.length ≤ p.length)
    [(0, 97), (1, 104), (2, 107), (3, 115), (4, 122)] [] [some (.int n), some (.int (s : Nat)), some (.int (g : Nat)), some (.tup []), none, none, none] ⟨[], none, none, none, rfl, List.Sublist.slnil, fun q hq => (by cases hq), Nat.le_refl _⟩ ?_
  · obtain ⟨e', k1, ps, x, y, z, rfl, a1, a2, a3⟩ := key
    refine ⟨⟨s, g, ps⟩, ⟨s0, s1, g0, g1, a1, a2⟩, sem_rt rfl ?_⟩
    show m__law_pattern [some (.int n), none, none, none, none, none, none] = _
    unfold m__law_pattern
    refine w_seq (w_set (v_2 (v_tup (by walk_at "dn") (by show 4 ≤ sizeLine; decide)) (by walk_at "dn") hs) rfl) ?_
    refine w_seq (w_set (d := .int (g : Nat)) (by rw [hg]; walk_at "dn") rfl) ?_
    refine w_seq (w_set (v_tup v_nil (by decide)) rfl) ?_
    refine w_seq (w_for (v_enum (xs := [.str [97], .str [104], .str [107], .str [115], .str [122]]) (v_tup (by walk_at "dn") (by show 5 ≤ sizeLine; decide)) rfl) k1) (ret_of ?_)
    exact v_tup (ds := [.int (s : Nat), .int (g : Nat), .tup (ps.map padD)]) (by walk_at "dn") (show 3 ≤ sizeLine by decide)
  · rintro p ⟨k, pad⟩ q e hp ⟨ps, x, y, z, rfl, a1, a2, a3⟩
    have hk : k ≤ 4 := by
      have : ((k, pad) : Nat × Nat) ∈ ([] : List (Nat × Nat)) ++ [(0, 97), (1, 104), (2, 107), (3, 115), (4, 122)] := by rw [hp]; simp
      simp at this
      omega
    have hpl : p.length ≤ 5 := by
      have := congrArg List.length hp
      simp at this
      omega
    obtain ⟨d, d0, d1, ed⟩ := drawn_ok n (30 + (k : Int)) (by omega)
    obtain ⟨row, er, lr, rr⟩ := e_marks (d / 4 / 8) (s := s) (by omega)
    by_cases hc : d / 4 % 5 < 1 + n / 512 % 4
    · refine ⟨[some (.int n), some (.int (s : Nat)), some (.int (g : Nat)), some (.tup (ps.map padD)), some (.int (k : Nat)), some (.str [pad]), z], [some (.int n), some (.int (s : Nat)), some (.int (g : Nat)), some (.tup ((ps ++ [(pad, row)]).map padD)), some (.int (k : Nat)), some (.str [pad]), some (.int (d / 4))], rfl, ?_, ps ++ [(pad, row)], _, _, _, rfl, ?_, ?_, ?_⟩
      · refine w_seq (w_set (v_2 (v_call (by walk_at "dn") ed) v_c (fdiv_i (by omega))) rfl) (w_ift (v_b (v_2 (by walk_at "dn") (by walk_at "dn") ?_)) (w_set (v_2 (by walk_at "dn") (v_tup (ds := [padD (pad, row)]) (v_cons (v_tup (ds := [.str [pad], .str row]) (v_cons (by walk_at "dn") (v_cons (v_call (by walk_at "dn") er) v_nil)) (show 2 ≤ sizeLine by decide)) v_nil) (show 1 ≤ sizeLine by decide)) (add_t ?_)) ?_))
        · rw [lt_i, decide_eq_true hc]
        · rw [List.length_map]
          show ps.length + 1 ≤ 1000000
          omega
        · rw [List.map_append]
          rfl
      · rw [List.map_append, List.map_append]
        exact a1.append (List.Sublist.refl _)
      · intro q hq
        rcases List.mem_append.mp hq with h | h
        · exact a2 q h
        · rw [List.mem_singleton.mp h]
          exact ⟨lr, rr⟩
      · rw [List.length_append, List.length_append]
        show ps.length + 1 ≤ p.length + 1
        omega
    · refine ⟨[some (.int n), some (.int (s : Nat)), some (.int (g : Nat)), some (.tup (ps.map padD)), some (.int (k : Nat)), some (.str [pad]), z], [some (.int n), some (.int (s : Nat)), some (.int (g : Nat)), some (.tup (ps.map padD)), some (.int (k : Nat)), some (.str [pad]), some (.int (d / 4))], rfl, ?_, ps, _, _, _, rfl, ?_, a2, ?_⟩
      · refine w_seq (w_set (v_2 (v_call (by walk_at "dn") ed) v_c (fdiv_i (by omega))) rfl) (w_iff (v_b (v_2 (by walk_at "dn") (by walk_at "dn") ?_)) w_pass)
        rw [lt_i, decide_eq_false hc]
      · rw [List.map_append]
        exact a1.trans (List.sublist_append_left _ _)
      · rw [List.length_append]
        omega
end Dn
set_option Elab.async false
set_option linter.all false
set_option maxRecDepth 100000
/-! Times of steps; the law's own fractions. -/
namespace Dn
open PySem L2
local macro_rules | `(tactic| walk_at "dg") => `(tactic| first
  | with_reducible exact add_i _ _ | with_reducible exact sub_i _ _ | ((with_reducible refine mul_i ?_); omega) | ((with_reducible refine fdiv_i ?_); omega) | ((with_reducible refine mod_i ?_); omega) | with_reducible exact neg_i _
  | with_reducible exact lt_i _ _ | with_reducible exact le_i _ _ | with_reducible exact gt_i _ _ | with_reducible exact ge_i _ _ | with_reducible exact eq_i _ _ | with_reducible exact ne_i _ _ | with_reducible exact eq_s _ _ | with_reducible exact ne_s _ _
  | ((with_reducible refine add_s ?_); omega) | ((with_reducible refine add_t ?_); omega) | ((with_reducible refine add_l ?_); omega) | ((with_reducible refine mul_s ?_); omega) | ((with_reducible refine mul_l ?_); omega)
  | ((with_reducible refine len_s ?_); omega) | with_reducible exact len_t _ | with_reducible exact len_l _ | with_reducible exact len_c _ | with_reducible exact int_b _ | with_reducible exact int_i _ | with_reducible exact abs_i _
  | ((with_reducible refine sl_s ?_); omega) | with_reducible exact sl_t _ _ _ | with_reducible exact sl_l _ _ _ | ((with_reducible apply ix_t); (· omega); (· rfl)) | ((with_reducible apply ix_l); (· omega); (· rfl)) | with_reducible assumption)
local macro_rules | `(tactic| walk_at "dc") => `(tactic| with_reducible assumption)
local macro_rules | `(tactic| walk_at "dn") => `(tactic| first
  | with_reducible exact v_c | with_reducible exact v_nil | with_reducible exact v_no
  | ((with_reducible apply v_var); (· rfl); (· rfl))
  | ((with_reducible apply v_2); (· walk_at "dn"); (· walk_at "dn"); (· walk_at "dg"))
  | ((with_reducible apply v_1); (· walk_at "dn"); (· walk_at "dg"))
  | ((with_reducible apply v_cons); (· walk_at "dn"); (· walk_at "dn"))
  | ((with_reducible apply v_blt); (· walk_at "dn"); (· walk_at "dg"))
  | ((with_reducible apply v_call); (· walk_at "dn"); (· walk_at "dc"))
  | ((with_reducible apply v_tup); (· walk_at "dn"); (· first | decide | (simp only [List.length_cons, List.length_nil]; decide)))
  | ((with_reducible apply v_lst); (· walk_at "dn"); (· first | decide | (simp only [List.length_cons, List.length_nil]; decide)))
  | ((with_reducible apply v_po); (· walk_at "dn"))
  | ((with_reducible apply v_sl); (· walk_at "dn"); (· walk_at "dn"); (· walk_at "dn"); (· walk_at "dg"))
  | ((with_reducible apply v_m1); (· walk_at "dn"); (· walk_at "dn"); (· walk_at "dg"))
  | ((with_reducible apply v_b); (· walk_at "dn"))
  | ((with_reducible apply v_not); (· walk_at "dn"))
  | ((with_reducible apply v_notV); (· walk_at "dn"))
  | ((with_reducible apply v_rng1); (· walk_at "dn"); (· omega))
  | ((with_reducible apply v_rng2); (· walk_at "dn"); (· omega))
  | ((with_reducible apply v_it); (· walk_at "dn"))
  | ((with_reducible apply v_itl); (· walk_at "dn"))
  | ((with_reducible apply v_its); (· walk_at "dn"))
  | with_reducible assumption)
local macro_rules | `(tactic| walk_at "dt") => `(tactic| first
  | with_reducible exact v_c | with_reducible exact v_nil | with_reducible exact v_no
  | ((with_reducible apply v_var); (· rfl); (· rfl))
  | ((with_reducible apply v_2) <;> walk_at "dt")
  | ((with_reducible apply v_1) <;> walk_at "dt")
  | ((with_reducible apply v_cons) <;> walk_at "dt")
  | ((with_reducible apply v_blt) <;> walk_at "dt")
  | ((with_reducible apply v_call) <;> walk_at "dt")
  | ((with_reducible apply v_tup) <;> walk_at "dt")
  | ((with_reducible apply v_lst) <;> walk_at "dt")
  | ((with_reducible apply v_po) <;> walk_at "dt")
  | ((with_reducible apply v_sl) <;> walk_at "dt")
  | ((with_reducible apply v_m1) <;> walk_at "dt")
  | ((with_reducible apply v_b) <;> walk_at "dt")
  | ((with_reducible apply v_notV) <;> walk_at "dt")
  | ((with_reducible apply v_not) <;> walk_at "dt")
  | ((with_reducible apply v_rng1) <;> first | omega | walk_at "dt")
  | ((with_reducible apply v_rng2) <;> first | omega | walk_at "dt")
  | walk_at "dg"
  | (show List.length _ ≤ sizeLine; first | decide | (simp only [List.length_cons, List.length_nil]; decide))
  | skip)
local macro_rules | `(tactic| walk_at "ds") => `(tactic| first
  | ((with_reducible apply w_ss) <;> first | walk_at "d1" | skip)
  | ((with_reducible apply w_r) <;> first | walk_at "d1" | skip)
  | ((with_reducible apply w_sp) <;> first | walk_at "d1" | skip)
  | ((with_reducible apply w_so) <;> first | walk_at "d1" | skip)
  | (with_reducible apply w_sv)
  | (with_reducible apply w_sq))
local macro_rules | `(tactic| walk_at "dx") => `(tactic| simp only [put, jn, List.set_cons_zero, List.set_cons_succ])
theorem div_loop4 (x y : Option D) : ∀ (b a f : Nat), b < f → whileF (fB (f2 neD (fV 3) (fC (.int 0)))) (fPar 2 3 (fCons (fV 3) (fCons (f2 modD (fV 2) (fV 3)) fNil))) f [x, y, some (.int (a : Nat)), some (.int (b : Nat))] = some (.nx [x, y, some (.int ((Nat.gcd a b : Nat) : Int)), some (.int 0)]) := by
  intro b
  induction b using Nat.strongRecOn with
  | ind b ih =>
    intro a f hf
    obtain ⟨g, rfl⟩ : ∃ g, f = g + 1 := ⟨f - 1, by omega⟩
    rw [whileF]
    by_cases hb : b = 0
    · subst hb
      have c : fB (f2 neD (fV 3) (fC (.int 0))) [x, y, some (.int (a : Nat)), some (.int ((0 : Nat) : Int))] = some false := v_b (v_2 (by walk_at "dn") v_c rfl)
      rw [c, Nat.gcd_zero_right]
      rfl
    · have c : fB (f2 neD (fV 3) (fC (.int 0))) [x, y, some (.int (a : Nat)), some (.int (b : Nat))] = some true := by
        refine v_b (v_2 (by walk_at "dn") v_c ?_)
        rw [ne_i, decide_eq_false (by omega)]
        rfl
      have hm : modD (.int (a : Nat)) (.int (b : Nat)) = some (.int ((a % b : Nat) : Int)) := by
        rw [mod_i (by omega)]
        simp
      have st : fPar 2 3 (fCons (fV 3) (fCons (f2 modD (fV 2) (fV 3)) fNil)) [x, y, some (.int (a : Nat)), some (.int (b : Nat))] = some (.nx [x, y, some (.int (b : Nat)), some (.int ((a % b : Nat) : Int))]) :=
        w_par (v_cons (by walk_at "dn") (v_cons (v_2 (by walk_at "dn") (by walk_at "dn") hm) v_nil)) rfl
      rw [c]
      simp only [Option.bind_some, if_true, st]
      have hlt := Nat.mod_lt a (Nat.pos_of_ne_zero hb)
      rw [ih (a % b) hlt b g (by omega), Nat.gcd_comm b (a % b), ← Nat.gcd_rec, Nat.gcd_comm]
theorem e_lfrac {u : Int} {l : Nat} (h0 : 0 < l) (h : l < 1000000) : n__law_frac [.int u, .int (l : Nat)] = some (frD u l) := by
  refine sem_rt rfl ?_
  show m__law_frac [some (.int u), some (.int (l : Nat)), none, none] = _
  unfold m__law_frac
  have ha : absG [.int u] = some (.int ((u.natAbs : Nat) : Int)) := by
    rw [abs_i]
    congr 2
    by_cases q : u < 0
    · rw [if_pos q]; omega
    · rw [if_neg q]; omega
  have hg : 0 < Nat.gcd u.natAbs l := Nat.gcd_pos_of_pos_right _ h0
  have hg2 : Nat.gcd u.natAbs l ≤ l := Nat.le_of_dvd h0 (Nat.gcd_dvd_right _ _)
  refine w_sp (v_cons (v_blt (by walk_at "dn") ha) (by walk_at "dn")) ?_
  refine w_seq (e := [some (.int u), some (.int (l : Nat)), some (.int ((Nat.gcd u.natAbs l : Nat) : Int)), some (.int 0)]) ?_ ?_
  · unfold fWhile
    exact div_loop4 _ _ l u.natAbs _ (Nat.lt_of_lt_of_le h (fuelN_ge _))
  refine ret_of ?_
  unfold frD
  generalize Nat.gcd u.natAbs l = g at *
  rw [show ((l / g : Nat) : Int) = (l : Int) / (g : Int) by simp]
  refine v_tup (by walk_at "dn") (by show 2 ≤ sizeLine; decide)
theorem e_ladd_raw {a c : Int} {b d : Nat} (hb : 0 < b) (hd : 0 < d) (h : b * d < 1000000) : n__law_add [pr a b, pr c d] = some (frD (a * d + c * b) (b * d)) := by
  have hb' : b ≤ b * d := Nat.le_mul_of_pos_right _ hd
  have hd' : d ≤ b * d := Nat.le_mul_of_pos_left _ hb
  refine sem_rt rfl ?_
  show m__law_add [some (pr a b), some (pr c d)] = _
  unfold m__law_add
  walk_at "ds" <;> walk_at "dt"
  rw [← Int.natCast_mul]
  exact e_lfrac (Nat.mul_pos hb hd) h
theorem e_ladd {u v : Int} {l m : Nat} (hl : 0 < l) (hm : 0 < m) (h : l * m < 1000000) : n__law_add [frD u l, frD v m] = some (frD (u * m + v * l) (l * m)) := by
  obtain ⟨a, b, e1, b0, b1, e2, e3, _⟩ := frD_parts u hl
  obtain ⟨c, d, e4, d0, d1, e5, e6, _⟩ := frD_parts v hm
  have hbd : b * d ≤ l * m := Nat.mul_le_mul b1 d1
  rw [e1, e4, e_ladd_raw b0 d0 (by omega)]
  congr 1
  refine frD_of (Nat.mul_pos b0 d0) (Nat.mul_pos hl hm) ?_
  rw [Int.natCast_mul, Int.natCast_mul]
  grind
theorem e_ladd1 {u v : Int} {l : Nat} (hl : 0 < l) (h : l * l < 1000000) : n__law_add [frD u l, frD v l] = some (frD (u + v) l) := by
  rw [e_ladd hl hl h]
  congr 1
  refine frD_of (Nat.mul_pos hl hl) hl ?_
  rw [Int.natCast_mul]
  grind
theorem e_lunder {u v : Int} {l m : Nat} (hl : 0 < l) (hm : 0 < m) (hl2 : l < 1000000) (hm2 : m < 1000000) : n__law_under [frD u l, frD v m] = some (.bl (decide (u * m < v * l))) := by
  obtain ⟨a, b, e1, b0, b1, e2, e3, _⟩ := frD_parts u hl
  obtain ⟨c, d, e4, d0, d1, e5, e6, _⟩ := frD_parts v hm
  rw [e1, e4]
  refine sem_rt rfl ?_
  show m__law_under [some (pr a b), some (pr c d)] = _
  unfold m__law_under
  walk_at "ds" <;> walk_at "dt"
  rw [lt_i]
  congr 2
  refine decide_eq_decide.mpr ?_
  have p1 : (0 : Int) < (l : Int) * m := Int.mul_pos (by omega) (by omega)
  have p2 : (0 : Int) < (b : Int) * d := Int.mul_pos (by omega) (by omega)
  have x1 : (a * d) * ((l : Int) * m) = (u * m) * (b * d) := by grind
  have x2 : (c * b) * ((l : Int) * m) = (v * l) * (b * d) := by grind
  rw [← Int.mul_lt_mul_right p1, x1, x2, Int.mul_lt_mul_right p2]
theorem e_lunder1 {u v : Int} {l : Nat} (hl : 0 < l) (hl2 : l < 1000000) : n__law_under [frD u l, frD v l] = some (.bl (decide (u < v))) := by
  rw [e_lunder hl hl hl2 hl2]
  congr 2
  refine decide_eq_decide.mpr ?_
  exact Int.mul_lt_mul_right (by omega)
/-- a pair without a common divisor is the fraction of its parts -/
theorem pr_fr {a b : Nat} (h : Nat.gcd a b = 1) : pr (a : Nat) b = frD (a : Nat) b := by
  unfold frD
  rw [Int.natAbs_natCast, h]
  simp
/-! the time of a step, in parts of 1 / (sb * grid) -/
def stT (sa sb s k : Nat) : Nat := (k / s * s + (k % s - k % s % 2)) * sb + (if k % s % 2 = 1 then 2 * sa else 0)
theorem fdiv_n {a b : Nat} (h : 0 < b) (h2 : b < 1073741824) : fdivD (.int (a : Nat)) (.int (b : Nat)) = some (.int ((a / b : Nat) : Int)) := by
  rw [fdiv_i (by omega)]
  simp
theorem mod_n {a b : Nat} (h : 0 < b) : modD (.int (a : Nat)) (.int (b : Nat)) = some (.int ((a % b : Nat) : Int)) := by
  rw [mod_i (by omega)]
  simp
theorem mod_2 {a : Nat} : modD (.int (a : Nat)) (.int 2) = some (.int ((a % 2 : Nat) : Int)) := mod_n (b := 2) (by decide)
theorem sub_n {a b : Nat} (h : b ≤ a) : subD (.int (a : Nat)) (.int (b : Nat)) = some (.int ((a - b : Nat) : Int)) := by
  rw [sub_i]
  congr 2
  omega
theorem add_n {a b : Nat} : addD (.int (a : Nat)) (.int (b : Nat)) = some (.int ((a + b : Nat) : Int)) := by
  rw [add_i]
  congr 2
theorem mul_n {a b : Nat} (h : a < 2 ^ 64 ∨ b < 2 ^ 64) : mulD (.int (a : Nat)) (.int (b : Nat)) = some (.int ((a * b : Nat) : Int)) := by
  rw [mul_i (by omega)]
  simp
theorem e_step_time {sa sb k : Nat} {p : Pt} (hb : 0 < sb) (hs : 0 < p.s) (hs2 : p.s ≤ 1000) (hg : 0 < p.g) (h : sb * p.g * (sb * p.g) < 1000000) (hk : k < 1000000) : n_step_time [pr (sa : Nat) sb, ptD p, .int (k : Nat)] = some (frD (stT sa sb p.s k : Nat) (sb * p.g)) := by
  have g0 : p.g * (sb * p.g) ≤ sb * p.g * (sb * p.g) := Nat.mul_le_mul_right _ (Nat.le_mul_of_pos_left _ hb)
  have g1 : p.g * p.g ≤ p.g * (sb * p.g) := Nat.mul_le_mul_left _ (Nat.le_mul_of_pos_left _ hb)
  have g2 : sb * p.g ≤ p.g * (sb * p.g) := Nat.le_mul_of_pos_left _ hg
  have g3 : p.g ≤ p.g * p.g := Nat.le_mul_of_pos_left _ hg
  have g4 : sb ≤ sb * p.g := Nat.le_mul_of_pos_right _ hg
  have hbg : 0 < sb * p.g := Nat.mul_pos hb hg
  have hq2 : k / p.s ≤ k := Nat.div_le_self _ _
  have hrl : k % p.s % 2 ≤ k % p.s := Nat.mod_le _ _
  refine sem_rt rfl ?_
  show m_step_time [some (pr (sa : Nat) sb), some (ptD p), some (.int (k : Nat)), none, none, none] = _
  unfold m_step_time
  refine w_sg (v_sl (by walk_at "dn") v_no (v_po v_c) (cut2 p)) rfl ?_
  refine w_ss (v_call (v_cons (v_2 (by walk_at "dn") (by walk_at "dn") (fdiv_n hs (by omega))) (v_cons (v_call (by walk_at "dn") (e_beats (s := p.s) (g := p.g) hg (by omega))) v_nil)) (e_times hg (by omega) ⟨Int.lt_of_lt_of_le (by decide) (Int.natCast_nonneg _), by omega⟩)) ?_
  refine w_ss (v_2 (by walk_at "dn") (by walk_at "dn") (mod_n hs)) ?_
  refine w_ss (v_call (v_cons (by walk_at "dn") (v_cons (v_call (v_cons (v_2 (by walk_at "dn") (v_2 (by walk_at "dn") v_c mod_2) (sub_n hrl)) (by walk_at "dn")) (e_fraction hg (by omega))) v_nil)) (e_add1 hg (by omega))) ?_
  have eT : frD (((k / p.s : Nat) : Int) * (p.s : Nat) + ((k % p.s - k % p.s % 2 : Nat) : Int)) p.g = frD (((k / p.s * p.s + (k % p.s - k % p.s % 2)) * sb : Nat) : Int) (sb * p.g) := by
    refine frD_of hg hbg ?_
    simp only [Int.natCast_mul, Int.natCast_add]
    grind
  rw [eT]
  by_cases ho : k % p.s % 2 = 1
  · refine w_st (v_b (v_2 (v_2 (by walk_at "dn") v_c mod_2) v_c (by rw [ho]; rfl))) ?_
    refine w_ss (v_call (v_cons (by walk_at "dn") (v_cons (v_call (v_cons (v_2 v_c (v_2 (by walk_at "dn") v_c rfl) (mul_n (a := 2) (.inl (by decide)))) (v_cons (v_2 (v_2 (by walk_at "dn") v_c rfl) (by walk_at "dn") (mul_n (.inl (by omega)))) v_nil)) (e_fraction hbg (by omega))) v_nil)) (e_add1 hbg ?_)) ?_
    · exact h
    refine ret_of ?_
    unfold stT
    rw [if_pos ho]
    walk_at "dn"
  · refine w_sf (v_b (v_2 (v_2 (by walk_at "dn") v_c mod_2) v_c ?_)) ?_
    · rw [show (1 : Int) = ((1 : Nat) : Int) from rfl, eq_i, decide_eq_false (by omega)]
    refine ret_of ?_
    unfold stT
    rw [if_neg ho, Nat.add_zero]
    walk_at "dn"
end Dn
set_option Elab.async false
set_option linter.all false
set_option maxRecDepth 100000
namespace K31
open PySem L2 Dn
local macro_rules | `(tactic| walk_at "dg") => `(tactic| first
  | with_reducible exact add_i _ _ | with_reducible exact sub_i _ _ | ((with_reducible refine mul_i ?_); omega) | ((with_reducible refine fdiv_i ?_); omega) | ((with_reducible refine mod_i ?_); omega) | with_reducible exact neg_i _
  | with_reducible exact lt_i _ _ | with_reducible exact le_i _ _ | with_reducible exact gt_i _ _ | with_reducible exact ge_i _ _ | with_reducible exact eq_i _ _ | with_reducible exact ne_i _ _ | with_reducible exact eq_s _ _ | with_reducible exact ne_s _ _
  | ((with_reducible refine add_s ?_); omega) | ((with_reducible refine add_t ?_); omega) | ((with_reducible refine add_l ?_); omega) | ((with_reducible refine mul_s ?_); omega) | ((with_reducible refine mul_l ?_); omega)
  | ((with_reducible refine len_s ?_); omega) | with_reducible exact len_t _ | with_reducible exact len_l _ | with_reducible exact len_c _ | with_reducible exact int_b _ | with_reducible exact int_i _ | with_reducible exact abs_i _
  | ((with_reducible refine sl_s ?_); omega) | with_reducible exact sl_t _ _ _ | with_reducible exact sl_l _ _ _ | ((with_reducible apply ix_t); (· omega); (· rfl)) | ((with_reducible apply ix_l); (· omega); (· rfl)) | with_reducible assumption)
local macro_rules | `(tactic| walk_at "dc") => `(tactic| with_reducible assumption)
local macro_rules | `(tactic| walk_at "dn") => `(tactic| first
  | with_reducible exact v_c | with_reducible exact v_nil | with_reducible exact v_no
  | ((with_reducible apply v_var); (· rfl); (· rfl))
  | ((with_reducible apply v_2); (· walk_at "dn"); (· walk_at "dn"); (· walk_at "dg"))
  | ((with_reducible apply v_1); (· walk_at "dn"); (· walk_at "dg"))
  | ((with_reducible apply v_cons); (· walk_at "dn"); (· walk_at "dn"))
  | ((with_reducible apply v_blt); (· walk_at "dn"); (· walk_at "dg"))
  | ((with_reducible apply v_call); (· walk_at "dn"); (· walk_at "dc"))
  | ((with_reducible apply v_tup); (· walk_at "dn"); (· first | decide | (simp only [List.length_cons, List.length_nil]; decide)))
  | ((with_reducible apply v_lst); (· walk_at "dn"); (· first | decide | (simp only [List.length_cons, List.length_nil]; decide)))
  | ((with_reducible apply v_po); (· walk_at "dn"))
  | ((with_reducible apply v_sl); (· walk_at "dn"); (· walk_at "dn"); (· walk_at "dn"); (· walk_at "dg"))
  | ((with_reducible apply v_m1); (· walk_at "dn"); (· walk_at "dn"); (· walk_at "dg"))
  | ((with_reducible apply v_b); (· walk_at "dn"))
  | ((with_reducible apply v_not); (· walk_at "dn"))
  | ((with_reducible apply v_notV); (· walk_at "dn"))
  | ((with_reducible apply v_rng1); (· walk_at "dn"); (· omega))
  | ((with_reducible apply v_rng2); (· walk_at "dn"); (· omega))
  | ((with_reducible apply v_it); (· walk_at "dn"))
  | ((with_reducible apply v_itl); (· walk_at "dn"))
  | ((with_reducible apply v_its); (· walk_at "dn"))
  | with_reducible assumption)
local macro_rules | `(tactic| walk_at "dt") => `(tactic| first
  | with_reducible exact v_c | with_reducible exact v_nil | with_reducible exact v_no
  | ((with_reducible apply v_var); (· rfl); (· rfl))
  | ((with_reducible apply v_2) <;> walk_at "dt")
  | ((with_reducible apply v_1) <;> walk_at "dt")
  | ((with_reducible apply v_cons) <;> walk_at "dt")
  | ((with_reducible apply v_blt) <;> walk_at "dt")
  | ((with_reducible apply v_call) <;> walk_at "dt")
  | ((with_reducible apply v_tup) <;> walk_at "dt")
  | ((with_reducible apply v_lst) <;> walk_at "dt")
  | ((with_reducible apply v_po) <;> walk_at "dt")
  | ((with_reducible apply v_sl) <;> walk_at "dt")
  | ((with_reducible apply v_m1) <;> walk_at "dt")
  | ((with_reducible apply v_b) <;> walk_at "dt")
  | ((with_reducible apply v_notV) <;> walk_at "dt")
  | ((with_reducible apply v_not) <;> walk_at "dt")
  | ((with_reducible apply v_rng1) <;> first | omega | walk_at "dt")
  | ((with_reducible apply v_rng2) <;> first | omega | walk_at "dt")
  | walk_at "dg"
  | (show List.length _ ≤ sizeLine; first | decide | (simp only [List.length_cons, List.length_nil]; decide))
  | skip)
local macro_rules | `(tactic| walk_at "ds") => `(tactic| first
  | ((with_reducible apply w_ss) <;> first | walk_at "d1" | skip)
  | ((with_reducible apply w_r) <;> first | walk_at "d1" | skip)
  | ((with_reducible apply w_sp) <;> first | walk_at "d1" | skip)
  | ((with_reducible apply w_so) <;> first | walk_at "d1" | skip)
  | (with_reducible apply w_sv)
  | (with_reducible apply w_sq))
local macro_rules | `(tactic| walk_at "dx") => `(tactic| simp only [put, jn, List.set_cons_zero, List.set_cons_succ])
noncomputable def m_law : En → Option Fl :=
  (fSeq (fSet 1 (fCall n__law_pattern (fCons (fCall n__law_mixed (fCons (fV 0) (fCons (fC (.int 0)) fNil))) fNil)))
  (fSeq (fSet 2 (fCall n__law_mixed (fCons (fV 0) (fCons (fC (.int 1)) fNil))))
  (fSeq (fSet 3 (f2 addD (fC (.int 2)) (f2 modD (fV 2) (fC (.int 40)))))
  (fSeq (fSet 4 (f2 addD (fLc (fRng2 (fCons (fC (.int 1)) (fCons (fV 3) fNil))) (gN 14) (fAnd (fB (f2 leD (fV 3) (f2 mulD (fC (.int 2)) (fV 14)))) (fB (f2 leD (f2 mulD (fC (.int 4)) (fV 14)) (f2 mulD (fC (.int 3)) (fV 3))))) (fV 14) [14]) (fLst (fCons (fC (.int 0)) fNil))))
  (fSeq (fSet 5 (fTup (fCons (fC (.int 1)) (fCons (fC (.int 2)) fNil))))
  (fSeq (fIfS (fB (f2 gtD (f2 ixD (fV 4) (fC (.int 0))) (fC (.int 0))))
    (fSet 5 (fCall n__law_frac (fCons (f2 ixD (fV 4) (f2 modD (f2 fdivD (fV 2) (fC (.int 64))) (fBlt maxG (fCons (fC (.int 1)) (fCons (f2 subD (fBlt lenG (fCons (fV 4) fNil)) (fC (.int 1))) fNil))))) (fCons (fV 3) fNil))))
    fPass)
  (fSeq (fSet 6 (f2 ixD (fTup (fCons (fTup (fCons (fC (.int 1)) (fCons (fC (.int 2)) fNil))) (fCons (fTup (fCons (fC (.int 3)) (fCons (fC (.int 4)) fNil))) (fCons (fTup (fCons (fC (.int 2)) (fCons (fC (.int 3)) fNil))) fNil)))) (f2 modD (f2 fdivD (fV 2) (fC (.int 4096))) (fC (.int 3)))))
  (fSeq (fAsg (fSl (fV 1) fNo (fPo (fC (.int 2)))) (gT (gCons' (gN 9) (gCons' (gN 10) gNil'))))
  (fSeq (fSet 7 (fC .non))
  (fSeq (fFor (fRng1 (fCons (f2 mulD (fC (.int 3)) (fV 9)) fNil)) (gN 8)
    (fSeq (fSet 11 (fCall n_step_time (fCons (fV 5) (fCons (fV 1) (fCons (fV 8) fNil)))))
    (fSeq (fSet 12 (fCall n_step_time (fCons (fTup (fCons (fC (.int 1)) (fCons (fC (.int 2)) fNil))) (fCons (fV 1) (fCons (fV 8) fNil)))))
    (fSeq (fSet 13 (fCall n_step_time (fCons (fV 6) (fCons (fV 1) (fCons (fV 8) fNil)))))
    (fSeq (fIfS (fOr (fB (f2 neD (fV 12) (fCall n__law_frac (fCons (fV 8) (fCons (fV 10) fNil))))) (fB (fCall n__law_under (fCons (fV 11) (fCons (fV 12) fNil)))))
      (fRet (fC (.bl false)))
      fPass)
    (fSeq (fIfS (fAnd (fB (f2 eqD (f2 modD (f2 modD (fV 8) (fV 9)) (fC (.int 2))) (fC (.int 0)))) (fOr (fB (f2 neD (fV 11) (fV 12))) (fB (f2 neD (fV 13) (fV 12)))))
      (fRet (fC (.bl false)))
      fPass)
    (fSeq (fIfS (fB (f2 eqD (f2 modD (f2 modD (fV 8) (fV 9)) (fC (.int 2))) (fC (.int 1))))
      (fSeq (fIfS (fOr (fB (f2 neD (fCall n__law_under (fCons (fV 5) (fCons (fV 6) fNil))) (fCall n__law_under (fCons (fV 11) (fCons (fV 13) fNil))))) (fNot (fB (fCall n__law_under (fCons (fV 11) (fCons (fCall n__law_frac (fCons (f2 addD (fV 8) (fC (.int 1))) (fCons (fV 10) fNil))) fNil))))))
        (fRet (fC (.bl false)))
        fPass)
      (fIfS (fB (f2 neD (fV 11) (fCall n__law_add (fCons (fCall n__law_frac (fCons (f2 subD (fV 8) (fC (.int 1))) (fCons (fV 10) fNil))) (fCons (fCall n__law_frac (fCons (f2 mulD (fC (.int 2)) (f2 ixD (fV 5) (fC (.int 0)))) (fCons (f2 mulD (f2 ixD (fV 5) (fC (.int 1))) (fV 10)) fNil))) fNil)))))
        (fRet (fC (.bl false)))
        fPass))
      fPass)
    (fSeq (fIfS (fAnd (fB (f2 isnD (fV 7) (fC .non))) (fNot (fB (fCall n__law_under (fCons (fV 7) (fCons (fV 11) fNil))))))
      (fRet (fC (.bl false)))
      fPass)
    (fSeq (fIfS (fB (f2 neD (fCall n_step_time (fCons (fV 5) (fCons (fV 1) (fCons (f2 addD (fV 8) (fV 9)) fNil)))) (fCall n__law_add (fCons (fV 11) (fCons (fCall n_beats (fCons (fV 1) fNil)) fNil)))))
      (fRet (fC (.bl false)))
      fPass)
    (fSet 7 (fV 11)))))))))))
  (fRet (f2 eqD (fCall n_step_time (fCons (fV 5) (fCons (fV 1) (fCons (fC (.int 0)) fNil)))) (fTup (fCons (fC (.int 0)) (fCons (fC (.int 1)) fNil)))))))))))))))
theorem swing_some (lo : Nat) (n : Int) (h0 : 0 ≤ n) (h1 : 2 ≤ lo) (h2 : lo ≤ 41) :
    ∃ L : List Nat, L.length ≤ 40 ∧ (∀ x ∈ L, 1 ≤ x ∧ lo ≤ 2 * x ∧ 4 * x ≤ 3 * lo) ∧ ∀ (e : En), e[3]? = some (some (.int (lo : Nat))) → 14 < e.length → fLc (fRng2 (fCons (fC (.int 1)) (fCons (fV 3) fNil))) (gN 14) (fAnd (fB (f2 leD (fV 3) (f2 mulD (fC (.int 2)) (fV 14)))) (fB (f2 leD (f2 mulD (fC (.int 4)) (fV 14)) (f2 mulD (fC (.int 3)) (fV 3))))) (fV 14) [14] e = some (.lst (L.map fun x => .int (x : Nat))) := by
  refine ⟨((List.range (lo - 1)).filter fun i => decide (lo ≤ 2 * (1 + i)) && decide (4 * (1 + i) ≤ 3 * lo)).map fun i => 1 + i, by rw [List.length_map]; exact Nat.le_trans (List.length_filter_le _ _) (by simp; omega), ?_, fun e he hl => ?_⟩
  · intro x hx
    obtain ⟨i, hi, rfl⟩ := List.mem_map.mp hx
    have := (List.mem_filter.mp hi).2
    simp at this
    omega
  · have hr : fRng2 (fCons (fC (.int 1)) (fCons (fV 3) fNil)) e = some ((List.range (lo - 1)).map fun i => .int (1 + (i : Nat))) := by
      rw [show lo - 1 = (((lo : Nat) : Int) - 1).toNat by omega]
      exact v_rng2 (v_cons v_c (v_cons (v_var he rfl) v_nil)) (by omega)
    refine lcw hr (by simp; omega) ?_
    rw [List.map_map]
    refine lc_filter _ (fun i => decide (lo ≤ 2 * (1 + i)) && decide (4 * (1 + i) ≤ 3 * lo)) _ _ fun i hi => ⟨_, rfl, ?_, fun _ => ?_⟩
    · have g3 : ∀ x : Option D, ((wipeE e [14]).set 14 x)[3]? = some (some (.int (lo : Nat))) := fun x => by
        simp only [wipeE]
        rw [List.getElem?_set_ne (by decide), List.getElem?_set_ne (by decide), he]
      have g14 : ∀ x : Option D, ((wipeE e [14]).set 14 x)[14]? = some x := fun x => by
        rw [List.getElem?_set_self (by simpa [wipeE] using hl)]
      have a1 : fB (f2 leD (fV 3) (f2 mulD (fC (.int 2)) (fV 14))) ((wipeE e [14]).set 14 (some (.int (1 + (i : Nat))))) = some (decide (lo ≤ 2 * (1 + i))) := by
        refine v_b (v_2 (v_var (g3 _) rfl) (v_2 v_c (v_var (g14 _) rfl) (mul_i (by omega))) ?_)
        rw [le_i]
        congr 2
        exact decide_eq_decide.mpr (by omega)
      have a2 : fB (f2 leD (f2 mulD (fC (.int 4)) (fV 14)) (f2 mulD (fC (.int 3)) (fV 3))) ((wipeE e [14]).set 14 (some (.int (1 + (i : Nat))))) = some (decide (4 * (1 + i) ≤ 3 * lo)) := by
        refine v_b (v_2 (v_2 v_c (v_var (g14 _) rfl) (mul_i (by omega))) (v_2 v_c (v_var (g3 _) rfl) (mul_i (by omega))) ?_)
        rw [le_i]
        congr 2
        exact decide_eq_decide.mpr (by omega)
      cases hb : decide (lo ≤ 2 * (1 + i)) with
      | true => rw [hb] at a1; exact v_andt a1 a2
      | false => rw [hb] at a1; exact v_andf a1
    · refine v_var ?_ rfl
      rw [List.getElem?_set_self (by simpa [wipeE] using hl)]
      simp
/-- what is told of a step -/
structure Sw (sa sb : Nat) : Prop where
  b0 : 0 < sb
  b1 : sb ≤ 41
  lo : sb ≤ 2 * sa
  hi : 4 * sa ≤ 3 * sb
  co : Nat.gcd sa sb = 1
theorem stT_eq {sa sb s k : Nat} (hs : 0 < s) : ∃ B o, k = B + o ∧ o = k % s % 2 ∧ stT sa sb s k = B * sb + o * (2 * sa) := by
  refine ⟨k / s * s + (k % s - k % s % 2), k % s % 2, ?_, rfl, ?_⟩
  · have := Nat.div_add_mod' k s
    have := Nat.mod_le (k % s) 2
    omega
  · unfold stT
    by_cases h : k % s % 2 = 1
    · rw [if_pos h, h, Nat.one_mul]
    · rw [if_neg h, show k % s % 2 = 0 by omega, Nat.zero_mul]
theorem stT_round {sa sb s k : Nat} (hs : 0 < s) : stT sa sb s (k + s) = stT sa sb s k + s * sb := by
  unfold stT
  rw [Nat.add_div_right _ hs, Nat.add_mod_right, Nat.succ_mul]
  grind
theorem stT_rises {sa sb s k : Nat} (hs : 0 < s) (w : Sw sa sb) : stT sa sb s k < stT sa sb s (k + 1) := by
  obtain ⟨B, o, h1, h2, h3⟩ := stT_eq (sa := sa) (sb := sb) (k := k) hs
  obtain ⟨B', o', h1', h2', h3'⟩ := stT_eq (sa := sa) (sb := sb) (k := k + 1) hs
  have := w.hi
  have := w.lo
  have := w.b0
  rw [h3, h3']
  have c1 : o = 0 ∨ o = 1 := by omega
  have c2 : o' = 0 ∨ o' = 1 := by omega
  rcases c1 with rfl | rfl <;> rcases c2 with rfl | rfl
  · have : B' = B + 1 := by omega
    subst this
    rw [Nat.add_mul, Nat.one_mul]
    omega
  · have : B' = B := by omega
    subst this
    omega
  · have : B' = B + 2 := by omega
    subst this
    rw [Nat.add_mul]
    omega
  · have : B' = B + 1 := by omega
    subst this
    rw [Nat.add_mul, Nat.one_mul]
    omega
section
variable {sa sb s g k B o : Nat}
theorem lt_scale {a b c d : Int} {g : Nat} (hg : 0 < g) (h : c - a = (d - b) * g) : (a < c) ↔ (b < d) := by
  have hg' : (0 : Int) < g := by omega
  constructor
  · intro q
    have : 0 < (d - b) * g := by omega
    have := Int.pos_of_mul_pos_left (a := d - b) this hg'
    omega
  · intro q
    have := Int.mul_pos (show 0 < d - b by omega) hg'
    omega
end
def stB (s k : Nat) : Nat := k / s * s + (k % s - k % s % 2)
theorem st_bo {s k : Nat} (hs : 0 < s) : k = stB s k + k % s % 2 := by
  unfold stB
  have := Nat.div_add_mod' k s
  have := Nat.mod_le (k % s) 2
  omega
theorem st_to {sa sb s k : Nat} : stT sa sb s k = stB s k * sb + k % s % 2 * (2 * sa) := by
  unfold stT stB
  by_cases h : k % s % 2 = 1
  · rw [if_pos h, h, Nat.one_mul]
  · rw [if_neg h, show k % s % 2 = 0 by omega, Nat.zero_mul]
/-- what is asked of one step, in whole numbers -/
structure Asked (sa sb ta tb s g k : Nat) : Prop where
  a : ((stT 1 2 s k : Nat) : Int) * (g : Nat) = (k : Nat) * ((2 * g : Nat) : Int)
  b : ¬ ((stT sa sb s k : Nat) : Int) * ((2 * g : Nat) : Int) < ((stT 1 2 s k : Nat) : Int) * ((sb * g : Nat) : Int)
  c : k % s % 2 = 0 → ((stT sa sb s k : Nat) : Int) * ((2 * g : Nat) : Int) = ((stT 1 2 s k : Nat) : Int) * ((sb * g : Nat) : Int)
  d : k % s % 2 = 1 → (((sa : Nat) : Int) * (tb : Nat) < ((ta : Nat) : Int) * (sb : Nat) ↔ ((stT sa sb s k : Nat) : Int) * ((tb * g : Nat) : Int) < ((stT ta tb s k : Nat) : Int) * ((sb * g : Nat) : Int))
  e : k % s % 2 = 1 → ((stT sa sb s k : Nat) : Int) * (g : Nat) < ((k : Nat) + 1) * ((sb * g : Nat) : Int)
  f : k % s % 2 = 1 → ((stT sa sb s k : Nat) : Int) * ((g * (sb * g) : Nat) : Int) = ((((k : Nat) : Int) - 1) * ((sb * g : Nat) : Int) + (2 * (sa : Nat) : Int) * (g : Nat)) * ((sb * g : Nat) : Int)
theorem asked {sa sb ta tb s g k : Nat} (hs : 0 < s) (hg : 0 < g) (w : Sw sa sb) (w' : Sw ta tb) : Asked sa sb ta tb s g k := by
  have hk := st_bo (k := k) hs
  have h1 := st_to (sa := sa) (sb := sb) (s := s) (k := k)
  have h2 := st_to (sa := ta) (sb := tb) (s := s) (k := k)
  have h3 := st_to (sa := 1) (sb := 2) (s := s) (k := k)
  have o2 : k % s % 2 = 0 ∨ k % s % 2 = 1 := by omega
  have l1 := w.lo
  have l2 := w.hi
  have l3 := w.b0
  refine ⟨?_, ?_, ?_, ?_, ?_, ?_⟩ <;> (try rw [h1]) <;> (try rw [h2]) <;> (try rw [h3]) <;> clear h1 h2 h3 <;> generalize k % s % 2 = o at * <;> generalize stB s k = B at * <;> subst hk
  · simp only [Int.natCast_add, Int.natCast_mul]
    grind
  · rcases o2 with rfl | rfl
    · simp only [Int.natCast_add, Int.natCast_mul]
      grind
    · have : sb * g ≤ 2 * sa * g := Nat.mul_le_mul_right g l1
      have := Int.ofNat_le.mpr this
      simp only [Int.natCast_add, Int.natCast_mul] at this ⊢
      grind
  · rintro rfl
    simp only [Int.natCast_add, Int.natCast_mul]
    grind
  · rintro rfl
    refine (lt_scale (g := 2 * g) (by omega) ?_).symm
    simp only [Int.natCast_add, Int.natCast_mul]
    grind
  · rintro rfl
    have : 4 * sa * g ≤ 3 * sb * g := Nat.mul_le_mul_right g l2
    have := Int.ofNat_le.mpr this
    have p : (0 : Int) < (sb : Int) * g := Int.mul_pos (by omega) (by omega)
    simp only [Int.natCast_add, Int.natCast_mul] at this ⊢
    grind
  · rintro rfl
    simp only [Int.natCast_add, Int.natCast_mul]
    grind
theorem tw_shape (n : Int) (h0 : 0 ≤ n) : ∃ ta tb : Nat, Sw ta tb ∧ tb ≤ 4 ∧ ixD (.tup [.tup [.int 1, .int 2], .tup [.int 3, .int 4], .tup [.int 2, .int 3]]) (.int (n / 4096 % 3)) = some (pr (ta : Nat) tb) := by
  have h3 : n / 4096 % 3 = 0 ∨ n / 4096 % 3 = 1 ∨ n / 4096 % 3 = 2 := by omega
  rcases h3 with e | e | e <;> rw [e]
  · exact ⟨1, 2, ⟨by decide, by decide, by decide, by decide, by decide⟩, by decide, rfl⟩
  · exact ⟨3, 4, ⟨by decide, by decide, by decide, by decide, by decide⟩, by decide, rfl⟩
  · exact ⟨2, 3, ⟨by decide, by decide, by decide, by decide, by decide⟩, by decide, rfl⟩
set_option maxHeartbeats 2000000 in
theorem q_law (ns : List Int) (hl : ns.length ≤ 63) : semOf 15 1 m_law [.scr ns] = some (.bl true) := by
  obtain ⟨m0, h0, h1, e0⟩ := mixed_ok ns 0 (by omega) (by omega)
  obtain ⟨n, n0, n1, e1⟩ := mixed_ok ns 1 (by omega) (by omega)
  obtain ⟨p, dr, ep⟩ := e_lawpat h0
  have ok := dr.ok
  obtain ⟨lo, hlo, hlo1, hlo2⟩ : ∃ lo : Nat, (lo : Int) = 2 + n % 40 ∧ 2 ≤ lo ∧ lo ≤ 41 := ⟨(2 + n % 40).toNat, by omega, by omega, by omega⟩
  obtain ⟨L, hL0, hL, eL⟩ := swing_some lo n n0 hlo1 hlo2
  obtain ⟨ta, tb, tw, tb4, etw⟩ := tw_shape n n0
  have s0 := dr.s0
  have s1 := dr.s1
  have g0 := dr.g0
  have g1 := dr.g1
  refine sem_rt rfl ?_
  show m_law [some (.scr ns), none, none, none, none, none, none, none, none, none, none, none, none, none, none] = _
  unfold m_law
  refine w_ss (v_call (v_cons (v_call (by walk_at "dn") e0) v_nil) ep) ?_
  refine w_ss (v_call (by walk_at "dn") e1) ?_
  refine w_ss (d := .int (lo : Nat)) (by rw [hlo]; walk_at "dn") ?_
  refine w_ss (v_2 (eL _ rfl (by simp)) (by walk_at "dn") (add_l (by simp; omega))) ?_
  refine w_ss (by walk_at "dn") ?_
  obtain ⟨sa, sb, sw, esw⟩ : ∃ sa sb : Nat, Sw sa sb ∧ ∀ env : En, env[2]? = some (some (.int n)) → env[3]? = some (some (.int (lo : Nat))) → env[4]? = some (some (.lst ((L.map fun x => D.int (x : Nat)) ++ [.int 0]))) → env[5]? = some (some (.tup [.int 1, .int 2])) →
      fIfS (fB (f2 gtD (f2 ixD (fV 4) (fC (.int 0))) (fC (.int 0))))
        (fSet 5 (fCall n__law_frac (fCons (f2 ixD (fV 4) (f2 modD (f2 fdivD (fV 2) (fC (.int 64))) (fBlt maxG (fCons (fC (.int 1)) (fCons (f2 subD (fBlt lenG (fCons (fV 4) fNil)) (fC (.int 1))) fNil))))) (fCons (fV 3) fNil))))
        fPass env = some (.nx (env.set 5 (some (pr (sa : Nat) sb)))) := by
    cases L with
    | nil =>
      refine ⟨1, 2, ⟨by decide, by decide, by decide, by decide, by decide⟩, fun env q2 q3 q4 q5 => ?_⟩
      refine w_iff (v_b (v_2 (v_2 (v_var q4 rfl) v_c rfl) v_c rfl)) ?_
      have : env.set 5 (some (pr ((1 : Nat) : Int) 2)) = env := by
        have h5 := (List.getElem?_eq_some_iff.mp q5)
        obtain ⟨h5, h6⟩ := h5
        show env.set 5 (some (.tup [.int 1, .int 2])) = env
        rw [← h6]
        simp
      rw [this]
      rfl
    | cons x xs =>
      generalize hLL : x :: xs = L at *
      have hne : 0 < L.length := by rw [← hLL]; simp
      obtain ⟨i, hi, hi2⟩ : ∃ i : Nat, (i : Int) = n / 64 % (L.length : Nat) ∧ i < L.length := ⟨(n / 64 % (L.length : Nat)).toNat, by have := Int.emod_nonneg (n / 64) (show (L.length : Int) ≠ 0 by omega); omega, by have := Int.emod_lt_of_pos (n / 64) (show (0 : Int) < (L.length : Int) by omega); have := Int.emod_nonneg (n / 64) (show (L.length : Int) ≠ 0 by omega); omega⟩
      obtain ⟨u, hu⟩ : ∃ u, L[i]? = some u := ⟨L[i], List.getElem?_eq_getElem hi2⟩
      obtain ⟨u0, u1, u2⟩ := hL u (List.mem_of_getElem? hu)
      obtain ⟨a, b, f1, f2, f3, f4, f5, f6⟩ := frD_parts ((u : Nat) : Int) (show 0 < lo by omega)
      have a0 : 0 ≤ a := by
        rcases Int.lt_or_le a 0 with q | q
        · have := Int.mul_neg_of_neg_of_pos q (show (0 : Int) < (lo : Int) by omega)
          have : (0 : Int) ≤ (u : Int) * b := Int.mul_nonneg (by omega) (by omega)
          omega
        · exact q
      obtain ⟨a, rfl⟩ : ∃ z : Nat, a = (z : Int) := ⟨a.toNat, by omega⟩
      have f4 : a * lo = u * b := by
        have : ((a * lo : Nat) : Int) = ((u * b : Nat) : Int) := by simpa using f4
        omega
      refine ⟨a, b, ⟨f2, by omega, ?_, ?_, by simpa using f5⟩, fun env q2 q3 q4 q5 => ?_⟩
      · have : lo * b ≤ 2 * u * b := Nat.mul_le_mul_right b u1
        have : lo * b ≤ lo * (2 * a) := by
          rw [show lo * (2 * a) = 2 * (a * lo) by grind, f4]
          grind
        exact Nat.le_of_mul_le_mul_left this (by omega)
      · have : 4 * u * b ≤ 3 * lo * b := Nat.mul_le_mul_right b u2
        have : lo * (4 * a) ≤ lo * (3 * b) := by
          rw [show lo * (4 * a) = 4 * (a * lo) by grind, f4]
          grind
        exact Nat.le_of_mul_le_mul_left this (by omega)
      have hx : 1 ≤ x := (hL x (by rw [← hLL]; simp)).1
      have e40 : ixD (.lst ((L.map fun x => D.int (x : Nat)) ++ [.int 0])) (.int 0) = some (.int (x : Nat)) := by
        rw [← hLL]
        exact ix_l (by omega) rfl
      have e41 : ixD (.lst ((L.map fun x => D.int (x : Nat)) ++ [.int 0])) (.int (n / 64 % (L.length : Nat))) = some (.int (u : Nat)) := by
        rw [← hi]
        refine ix_l (by omega) ?_
        rw [Int.toNat_natCast, List.getElem?_append_left (by simpa using hi2), List.getElem?_map, hu]
        rfl
      have emx : maxG [.int 1, .int (((L.length + 1 : Nat) : Int) - 1)] = some (.int (L.length : Nat)) := by
        show some (D.int _) = _
        congr 2
        by_cases q : ((L.length + 1 : Nat) : Int) - 1 > 1
        · rw [if_pos q]; omega
        · rw [if_neg q]; omega
      refine w_ift (v_b (v_2 (v_2 (v_var q4 rfl) v_c e40) v_c ?_)) (w_set (d := frD (u : Nat) lo) ?_ (by rw [f1]))
      · rw [gt_i, decide_eq_true (by omega)]
      · refine v_call (v_cons (v_2 (v_var q4 rfl) (v_2 (v_2 (v_var q2 rfl) v_c (fdiv_i (by omega))) (v_blt (v_cons v_c (v_cons (v_2 (v_blt (v_cons (v_var q4 rfl) v_nil) (len_l _)) v_c (sub_i _ _)) v_nil)) ?_) (mod_i ?_)) e41) (v_cons (v_var q3 rfl) v_nil)) (e_lfrac (by omega) (by omega))
        · rw [List.length_append, List.length_map]
          exact emx
        · omega
  refine w_seq (esw _ rfl rfl rfl rfl) ?_
  refine w_ss (v_2 (by walk_at "dn") (by walk_at "dn") etw) ?_
  refine w_sg (v_sl (by walk_at "dn") v_no (v_po v_c) (cut2 p)) rfl ?_
  refine w_ss v_c ?_
  walk_at "dx"
  have sb0 := sw.b0
  have sb1 := sw.b1
  have tb0 := tw.b0
  have hsg : sb * p.g ≤ 41 * 4 := Nat.mul_le_mul sb1 g1
  have htg : tb * p.g ≤ 4 * 4 := Nat.mul_le_mul tb4 g1
  have hsg0 : 0 < sb * p.g := Nat.mul_pos sb0 g0
  have htg0 : 0 < tb * p.g := Nat.mul_pos tb0 g0
  have hsg2 : sb * p.g * (sb * p.g) ≤ 164 * 164 := Nat.mul_le_mul hsg hsg
  have htg2 : tb * p.g * (tb * p.g) ≤ 16 * 16 := Nat.mul_le_mul htg htg
  have hpg2 : 2 * p.g * (2 * p.g) ≤ 8 * 8 := Nat.mul_le_mul (by omega) (by omega)
  have hst : ∀ k : Nat, k < 1000 → n_step_time [pr (sa : Nat) sb, ptD p, .int (k : Nat)] = some (frD (stT sa sb p.s k : Nat) (sb * p.g)) := fun k hk => e_step_time sb0 s0 (by omega) g0 (by omega) (by omega)
  have htt : ∀ k : Nat, k < 1000 → n_step_time [pr (ta : Nat) tb, ptD p, .int (k : Nat)] = some (frD (stT ta tb p.s k : Nat) (tb * p.g)) := fun k hk => e_step_time tb0 s0 (by omega) g0 (by omega) (by omega)
  have hpt : ∀ k : Nat, k < 1000 → n_step_time [.tup [.int 1, .int 2], ptD p, .int (k : Nat)] = some (frD (stT 1 2 p.s k : Nat) (2 * p.g)) := fun k hk => e_step_time (sa := 1) (sb := 2) (by decide) s0 (by omega) g0 (by omega) (by omega)
  refine w_fst (fun i : Nat => D.int (i : Nat)) (fun d : D => [(7, d)]) [8, 11, 12, 13] (fun pre d => d = if pre = [] then D.non else frD (stT sa sb p.s (pre.length - 1) : Nat) (sb * p.g)) (List.range (3 * p.s)) .non (v_rng1 (n := ((3 * p.s : Nat) : Int)) (v_cons (v_2 v_c (by walk_at "dn") (mul_n (a := 3) (.inl (by decide)))) v_nil) (by omega)) rfl rfl ?_ ?_
  · intro pre k q d w hp hd
    obtain ⟨k1, k2, k3⟩ := range_at hp
    refine ⟨_, frD (stT sa sb p.s k : Nat) (sb * p.g), by simp [k1], rfl, ?_⟩
    walk_at "dx"
    apply en_w
    · refine w_ss (v_call (by walk_at "dn") (hst k (by omega))) ?_
      refine w_ss (v_call (by walk_at "dn") (hpt k (by omega))) ?_
      refine w_ss (v_call (by walk_at "dn") (htt k (by omega))) ?_
      walk_at "dx"
      have A := asked (k := k) s0 g0 sw tw
      have pl : (2 * p.g : Nat) < 1000000 := by omega
      refine w_sf (v_orf (v_b (v_2 (by walk_at "dn") (v_call (by walk_at "dn") (e_lfrac g0 (by omega))) ?_)) (v_b (v_call (by walk_at "dn") ?_))) ?_
      · rw [ne_fr _ _ (by omega) g0, decide_eq_true A.a]
        rfl
      · rw [e_lunder hsg0 (by omega) (by omega) pl, decide_eq_false A.b]
      have em : f2 modD (f2 modD (fV 8) (fV 9)) (fC (.int 2)) [some (D.scr ns), some (ptD p), some (.int n), some (.int (lo : Nat)), some (.lst (List.map (fun x => .int (x : Nat)) L ++ [.int 0])), some (pr (sa : Nat) sb), some (pr (ta : Nat) tb), some d, some (.int (k : Nat)), some (.int (p.s : Nat)), some (.int (p.g : Nat)), some (frD (stT sa sb p.s k : Nat) (sb * p.g)), some (frD (stT 1 2 p.s k : Nat) (2 * p.g)), some (frD (stT ta tb p.s k : Nat) (tb * p.g)), none] = some (.int ((k % p.s % 2 : Nat) : Int)) :=
        v_2 (v_2 (by walk_at "dn") (by walk_at "dn") (mod_n s0)) v_c mod_2
      refine w_sf ?_ ?_
      · by_cases ho : k % p.s % 2 = 0
        · refine v_andt (v_b (v_2 em v_c ?_)) (v_orf (v_b (v_2 (by walk_at "dn") (by walk_at "dn") ?_)) (v_b (v_2 (by walk_at "dn") (by walk_at "dn") ?_)))
          · rw [ho]; rfl
          · rw [ne_fr _ _ hsg0 (by omega), decide_eq_true (A.c ho)]
            rfl
          · rw [ne_fr _ _ htg0 (by omega), decide_eq_true ((asked (k := k) s0 g0 tw sw).c ho)]
            rfl
        · refine v_andf (v_b (v_2 em v_c ?_))
          rw [show (0 : Int) = ((0 : Nat) : Int) from rfl, eq_i, decide_eq_false (by omega)]
      refine w_seq (e := [some (D.scr ns), some (ptD p), some (.int n), some (.int (lo : Nat)), some (.lst (List.map (fun x => .int (x : Nat)) L ++ [.int 0])), some (pr (sa : Nat) sb), some (pr (ta : Nat) tb), some d, some (.int (k : Nat)), some (.int (p.s : Nat)), some (.int (p.g : Nat)), some (frD (stT sa sb p.s k : Nat) (sb * p.g)), some (frD (stT 1 2 p.s k : Nat) (2 * p.g)), some (frD (stT ta tb p.s k : Nat) (tb * p.g)), none]) ?_ ?_
      · by_cases ho : k % p.s % 2 = 1
        · refine w_ift (v_b (v_2 em v_c ?_)) (w_sf (v_orf (v_b (v_2 (v_call (ds := [frD (sa : Nat) sb, frD (ta : Nat) tb]) ?_ (e_lunder sb0 tb0 (by omega) (by omega))) (v_call (by walk_at "dn") (e_lunder hsg0 htg0 (by omega) (by omega))) ?_)) (w_not (v_b (v_call (v_cons (by walk_at "dn") (v_cons (v_call (by walk_at "dn") (e_lfrac g0 (by omega))) v_nil)) ?_)))) (w_iff (v_b (v_2 (by walk_at "dn") (v_call (v_cons (v_call (by walk_at "dn") (e_lfrac g0 (by omega))) (v_cons (v_call (v_cons (v_2 v_c (v_2 (by walk_at "dn") v_c rfl) (mul_i (by omega))) (v_cons (v_2 (v_2 (by walk_at "dn") v_c rfl) (by walk_at "dn") (mul_n (.inl (by omega)))) v_nil)) (e_lfrac hsg0 (by omega))) v_nil)) (e_ladd g0 hsg0 ?_)) ?_)) w_pass))
          · rw [ho]; rfl
          · rw [← pr_fr sw.co, ← pr_fr tw.co]
            walk_at "dn"
          · rw [show ∀ a b : Bool, neD (.bl a) (.bl b) = some (.bl (!decide (a = b))) from fun a b => by unfold neD; rw [if_pos ⟨rfl, rfl⟩, eqv_b]]
            simp [A.d ho]
          · rw [e_lunder hsg0 g0 (by omega) (by omega), decide_eq_true (A.e ho)]
            rfl
          · have := Nat.mul_le_mul g1 hsg
            omega
          · rw [ne_fr _ _ hsg0 (Nat.mul_pos g0 hsg0), decide_eq_true (A.f ho)]
            rfl
        · refine w_iff (v_b (v_2 em v_c ?_)) w_pass
          rw [show (1 : Int) = ((1 : Nat) : Int) from rfl, eq_i, decide_eq_false (by omega)]
      clear em
      refine w_sf ?_ ?_
      · by_cases hpre : pre = []
        · rw [if_pos hpre] at hd
          subst hd
          exact v_andf (v_b (v_2 (by walk_at "dn") v_c rfl))
        · rw [if_neg hpre] at hd
          subst hd
          refine v_andt (v_b (v_2 (by walk_at "dn") v_c rfl)) (w_not (v_b (v_call (by walk_at "dn") ?_)))
          have hpl : 0 < pre.length := List.length_pos_iff.mpr hpre
          rw [e_lunder1 hsg0 (by omega), decide_eq_true]
          · rfl
          · have := stT_rises (k := k - 1) s0 sw
            rw [show k - 1 + 1 = k by omega, k1] at this
            rw [k1]
            omega
      refine w_sf (v_b (v_2 (v_call (v_cons (by walk_at "dn") (v_cons (by walk_at "dn") (v_cons (v_2 (by walk_at "dn") (by walk_at "dn") add_n) v_nil))) (hst (k + p.s) (by omega))) (v_call (v_cons (by walk_at "dn") (v_cons (v_call (by walk_at "dn") (e_beats (s := p.s) (g := p.g) g0 (by omega))) v_nil)) (e_ladd hsg0 g0 ?_)) ?_)) ?_
      · have := Nat.mul_le_mul hsg g1
        omega
      · rw [ne_fr _ _ hsg0 (Nat.mul_pos hsg0 g0), decide_eq_true]
        · rfl
        · rw [stT_round s0]
          simp only [Int.natCast_add, Int.natCast_mul]
          grind
      exact w_set (by walk_at "dn") rfl
    · rfl
  · intro d w _
    walk_at "dx"
    refine ret_of (v_2 (v_call (ds := [pr (sa : Nat) sb, ptD p, .int 0]) (by walk_at "dn") (hst 0 (by omega))) (by walk_at "dn") ?_)
    rw [show D.tup [.int 0, .int 1] = frD 0 1 from rfl, eq_fr _ _ hsg0 (by decide), decide_eq_true]
    unfold stT
    simp
end K31
set_option Elab.async false
set_option linter.all false
set_option maxRecDepth 100000
namespace K31
open PySem L2 PySem.Spec PyProof.Rows Dn
/-! ### the text -/
def topS (i : Nat) : Stmt := PySem.Challenge.pw_padrows_k31_whole_swing.main.body.getD i (.Pass ⟨0, 0, 0, 0⟩)
abbrev st_divisor : Stmt := topS 1
theorem sc_divisor : FnScope ["one", "other"] ["one", "other"] (defScope st_divisor) := ⟨rfl, rfl, rfl, by decide +kernel, rfl, by decide +kernel, by decide +kernel⟩
abbrev st_fraction : Stmt := topS 2
theorem sc_fraction : FnScope ["upper", "lower", "shared"] ["upper", "lower"] (defScope st_fraction) := ⟨rfl, rfl, rfl, by decide +kernel, rfl, by decide +kernel, by decide +kernel⟩
abbrev st_added : Stmt := topS 3
theorem sc_added : FnScope ["one", "other"] ["one", "other"] (defScope st_added) := ⟨rfl, rfl, rfl, by decide +kernel, rfl, by decide +kernel, by decide +kernel⟩
abbrev st_times : Stmt := topS 4
theorem sc_times : FnScope ["number", "one"] ["number", "one"] (defScope st_times) := ⟨rfl, rfl, rfl, by decide +kernel, rfl, by decide +kernel, by decide +kernel⟩
abbrev st_beats : Stmt := topS 6
theorem sc_beats : FnScope ["pattern"] ["pattern"] (defScope st_beats) := ⟨rfl, rfl, rfl, by decide +kernel, rfl, by decide +kernel, by decide +kernel⟩
abbrev st_step_time : Stmt := topS 8
theorem sc_step_time : FnScope ["swing", "pattern", "step", "found", "steps", "grid"] ["swing", "pattern", "step"] (defScope st_step_time) := ⟨rfl, rfl, rfl, by decide +kernel, rfl, by decide +kernel, by decide +kernel⟩
abbrev st__law_cell_at : Stmt := topS 10
theorem sc__law_cell_at : FnScope ["script", "k"] ["script", "k"] (defScope st__law_cell_at) := ⟨rfl, rfl, rfl, by decide +kernel, rfl, by decide +kernel, by decide +kernel⟩
abbrev st__law_mixed : Stmt := topS 11
theorem sc__law_mixed : FnScope ["script", "k", "drawn"] ["script", "k"] (defScope st__law_mixed) := ⟨rfl, rfl, rfl, by decide +kernel, rfl, by decide +kernel, by decide +kernel⟩
abbrev st__law_drawn : Stmt := topS 12
theorem sc__law_drawn : FnScope ["number", "k", "drawn"] ["number", "k"] (defScope st__law_drawn) := ⟨rfl, rfl, rfl, by decide +kernel, rfl, by decide +kernel, by decide +kernel⟩
abbrev st__law_frac : Stmt := topS 13
theorem sc__law_frac : FnScope ["upper", "lower", "one", "other"] ["upper", "lower"] (defScope st__law_frac) := ⟨rfl, rfl, rfl, by decide +kernel, rfl, by decide +kernel, by decide +kernel⟩
abbrev st__law_add : Stmt := topS 14
theorem sc__law_add : FnScope ["one", "other"] ["one", "other"] (defScope st__law_add) := ⟨rfl, rfl, rfl, by decide +kernel, rfl, by decide +kernel, by decide +kernel⟩
abbrev st__law_under : Stmt := topS 15
theorem sc__law_under : FnScope ["one", "other"] ["one", "other"] (defScope st__law_under) := ⟨rfl, rfl, rfl, by decide +kernel, rfl, by decide +kernel, by decide +kernel⟩
abbrev st__law_marks : Stmt := topS 16
theorem sc__law_marks : FnScope ["number", "steps", "found", "k", "drawn"] ["number", "steps"] (defScope st__law_marks) := ⟨rfl, rfl, rfl, by decide +kernel, rfl, by decide +kernel, by decide +kernel⟩
abbrev st__law_pattern : Stmt := topS 17
theorem sc__law_pattern : FnScope ["number", "steps", "grid", "pads", "k", "pad", "drawn"] ["number"] (defScope st__law_pattern) := ⟨rfl, rfl, rfl, by decide +kernel, rfl, by decide +kernel, by decide +kernel⟩
abbrev st_law : Stmt := topS 20
theorem sc_law : FnScope ["script", "pattern", "number", "lower", "some", "one", "two", "last", "step", "steps", "grid", "here", "plain", "there", "upper"] ["script"] (defScope st_law) := ⟨rfl, rfl, rfl, by decide +kernel, rfl, by decide +kernel, by decide +kernel⟩
structure Txt (K : PySem.W.Frag) (mg : Str → Option Value) : Prop where
  b_abs : mg "abs" = none
  b_enumerate : mg "enumerate" = none
  b_len : mg "len" = none
  b_max : mg "max" = none
  b_range : mg "range" = none
  h_divisor : Has K mg "divisor" st_divisor ["one", "other"]
  h_fraction : Has K mg "fraction" st_fraction ["upper", "lower"]
  h_added : Has K mg "added" st_added ["one", "other"]
  h_times : Has K mg "times" st_times ["number", "one"]
  h_beats : Has K mg "beats" st_beats ["pattern"]
  h_step_time : Has K mg "step_time" st_step_time ["swing", "pattern", "step"]
  h__law_cell_at : Has K mg "_law_cell_at" st__law_cell_at ["script", "k"]
  h__law_mixed : Has K mg "_law_mixed" st__law_mixed ["script", "k"]
  h__law_drawn : Has K mg "_law_drawn" st__law_drawn ["number", "k"]
  h__law_frac : Has K mg "_law_frac" st__law_frac ["upper", "lower"]
  h__law_add : Has K mg "_law_add" st__law_add ["one", "other"]
  h__law_under : Has K mg "_law_under" st__law_under ["one", "other"]
  h__law_marks : Has K mg "_law_marks" st__law_marks ["number", "steps"]
  h__law_pattern : Has K mg "_law_pattern" st__law_pattern ["number"]
section
variable {P : Program} {w : World} {K : PySem.W.Frag} {mg : Str → Option Value} {base : Heap}
--@ divisor
theorem d_divisor (T : Txt K mg) : Def P w K mg base 1 "divisor" ["one", "other"] n_divisor := by
  refine d_of (k := 0) (F := m_divisor) T.h_divisor sc_divisor (fun f cdv A outer s H E hr => ?_) ?_
  · have hu : (A.deeper (envOfC "divisor" (defScope st_divisor) s.heap.objs.size f cdv)).units + 64 < cLine := hr.units
    have hv : (A.deeper (envOfC "divisor" (defScope st_divisor) s.heap.objs.size f cdv)).units + 65 < cLine := room65 hr
    have nd := sc_divisor.nd
    exact (ss_cons (s_while fuelN PassesOwn.never (t_cmp (o_ne hu) (e_var 1) e_int)
      (ss_one (s_par 0 1 rfl nd (a_cons (e_var 1) (a_cons (e_op o_mod (e_var 0) (e_var 1)) a_nil)))))
    (ss_one (s_ret (e_var 0))))
  · exact fun _ _ h => h
--@ fraction
theorem d_fraction (T : Txt K mg) (d_divisor : Def P w K mg base 1 "divisor" ["one", "other"] n_divisor) : Def P w K mg base 2 "fraction" ["upper", "lower"] n_fraction := by
  refine d_of (k := 1) (F := m_fraction) T.h_fraction sc_fraction (fun f cdv A outer s H E hr => ?_) ?_
  · have hu : (A.deeper (envOfC "fraction" (defScope st_fraction) s.heap.objs.size f cdv)).units + 64 < cLine := hr.units
    have hv : (A.deeper (envOfC "fraction" (defScope st_fraction) s.heap.objs.size f cdv)).units + 65 < cLine := room65 hr
    have nd := sc_fraction.nd
    exact (ss_cons (s_set 2 nd (e_def d_divisor hr (a_cons (e_blt c_abs T.b_abs (by decide +kernel) (a_cons (e_var 0) a_nil)) (a_cons (e_var 1) a_nil))))
    (ss_one (s_ret (e_tup (a_cons (e_op o_fdiv (e_var 0) (e_var 2)) (a_cons (e_op o_fdiv (e_var 1) (e_var 2)) a_nil))))))
  · exact fun _ _ h => h
--@ added
theorem d_added (T : Txt K mg) (d_fraction : Def P w K mg base 2 "fraction" ["upper", "lower"] n_fraction) : Def P w K mg base 3 "added" ["one", "other"] n_added := by
  refine d_of (k := 2) (F := m_added) T.h_added sc_added (fun f cdv A outer s H E hr => ?_) ?_
  · have hu : (A.deeper (envOfC "added" (defScope st_added) s.heap.objs.size f cdv)).units + 64 < cLine := hr.units
    have hv : (A.deeper (envOfC "added" (defScope st_added) s.heap.objs.size f cdv)).units + 65 < cLine := room65 hr
    have nd := sc_added.nd
    exact (ss_one (s_ret (e_def d_fraction hr (a_cons (e_op o_add (e_op o_mul (e_ix (e_var 0) e_int) (e_ix (e_var 1) e_int)) (e_op o_mul (e_ix (e_var 1) e_int) (e_ix (e_var 0) e_int))) (a_cons (e_op o_mul (e_ix (e_var 0) e_int) (e_ix (e_var 1) e_int)) a_nil)))))
  · exact fun _ _ h => h
--@ times
theorem d_times (T : Txt K mg) (d_fraction : Def P w K mg base 2 "fraction" ["upper", "lower"] n_fraction) : Def P w K mg base 3 "times" ["number", "one"] n_times := by
  refine d_of (k := 2) (F := m_times) T.h_times sc_times (fun f cdv A outer s H E hr => ?_) ?_
  · have hu : (A.deeper (envOfC "times" (defScope st_times) s.heap.objs.size f cdv)).units + 64 < cLine := hr.units
    have hv : (A.deeper (envOfC "times" (defScope st_times) s.heap.objs.size f cdv)).units + 65 < cLine := room65 hr
    have nd := sc_times.nd
    exact (ss_one (s_ret (e_def d_fraction hr (a_cons (e_op o_mul (e_var 0) (e_ix (e_var 1) e_int)) (a_cons (e_ix (e_var 1) e_int) a_nil)))))
  · exact fun _ _ h => h
--@ beats
theorem d_beats (T : Txt K mg) (d_fraction : Def P w K mg base 2 "fraction" ["upper", "lower"] n_fraction) : Def P w K mg base 3 "beats" ["pattern"] n_beats := by
  refine d_of (k := 2) (F := m_beats) T.h_beats sc_beats (fun f cdv A outer s H E hr => ?_) ?_
  · have hu : (A.deeper (envOfC "beats" (defScope st_beats) s.heap.objs.size f cdv)).units + 64 < cLine := hr.units
    have hv : (A.deeper (envOfC "beats" (defScope st_beats) s.heap.objs.size f cdv)).units + 65 < cLine := room65 hr
    have nd := sc_beats.nd
    exact (ss_one (s_ret (e_def d_fraction hr (a_cons (e_ix (e_var 0) e_int) (a_cons (e_ix (e_var 0) e_int) a_nil)))))
  · exact fun _ _ h => h
--@ step_time
theorem d_step_time (T : Txt K mg) (d_times : Def P w K mg base 3 "times" ["number", "one"] n_times) (d_added : Def P w K mg base 3 "added" ["one", "other"] n_added) (d_beats : Def P w K mg base 3 "beats" ["pattern"] n_beats) (d_fraction : Def P w K mg base 2 "fraction" ["upper", "lower"] n_fraction) : Def P w K mg base 4 "step_time" ["swing", "pattern", "step"] n_step_time := by
  refine d_of (k := 3) (F := m_step_time) T.h_step_time sc_step_time (fun f cdv A outer s H E hr => ?_) ?_
  · have hu : (A.deeper (envOfC "step_time" (defScope st_step_time) s.heap.objs.size f cdv)).units + 64 < cLine := hr.units
    have hv : (A.deeper (envOfC "step_time" (defScope st_step_time) s.heap.objs.size f cdv)).units + 65 < cLine := room65 hr
    have nd := sc_step_time.nd
    exact (ss_cons (s_asg (e_sl (e_var 1) p_no (p_so e_int)) (g_tup rfl (g_cons (g_name 4 nd) (g_cons (g_name 5 nd) g_nil)) (gl_cons (gl_cons gl_nil))))
    (ss_cons (s_set 3 nd (e_def d_times hr (a_cons (e_op o_fdiv (e_var 2) (e_var 4)) (a_cons (e_def d_beats hr (a_cons (e_var 1) a_nil)) a_nil))))
    (ss_cons (s_set 2 nd (e_op o_mod (e_var 2) (e_var 4)))
    (ss_cons (s_set 3 nd (e_def d_added hr (a_cons (e_var 3) (a_cons (e_def d_fraction hr (a_cons (e_op o_sub (e_var 2) (e_op o_mod (e_var 2) e_int)) (a_cons (e_var 5) a_nil))) a_nil))))
    (ss_cons (s_if (t_cmp (o_eq hu) (e_op o_mod (e_var 2) e_int) e_int)
      (ss_one (s_set 3 nd (e_def d_added hr (a_cons (e_var 3) (a_cons (e_def d_fraction hr (a_cons (e_op o_mul e_int (e_ix (e_var 0) e_int)) (a_cons (e_op o_mul (e_ix (e_var 0) e_int) (e_var 5)) a_nil))) a_nil)))))
      ss_nil)
    (ss_one (s_ret (e_var 3))))))))
  · exact fun _ _ h => h
--@ _law_cell_at
theorem d__law_cell_at (T : Txt K mg) : Def P w K mg base 1 "_law_cell_at" ["script", "k"] n__law_cell_at := by
  refine d_of (k := 0) (F := m__law_cell_at) T.h__law_cell_at sc__law_cell_at (fun f cdv A outer s H E hr => ?_) ?_
  · have hu : (A.deeper (envOfC "_law_cell_at" (defScope st__law_cell_at) s.heap.objs.size f cdv)).units + 64 < cLine := hr.units
    have hv : (A.deeper (envOfC "_law_cell_at" (defScope st__law_cell_at) s.heap.objs.size f cdv)).units + 65 < cLine := room65 hr
    have nd := sc__law_cell_at.nd
    exact (ss_cons (s_if (t_cmp o_lt (e_var 1) (e_blt c_len T.b_len (by decide +kernel) (a_cons (e_var 0) a_nil)))
      (ss_one (s_ret (e_ix (e_var 0) (e_var 1))))
      ss_nil)
    (ss_one (s_ret e_int)))
  · exact fun _ _ h => h
--@ _law_mixed
theorem d__law_mixed (T : Txt K mg) (d__law_cell_at : Def P w K mg base 1 "_law_cell_at" ["script", "k"] n__law_cell_at) : Def P w K mg base 2 "_law_mixed" ["script", "k"] n__law_mixed := by
  refine d_of (k := 1) (F := m__law_mixed) T.h__law_mixed sc__law_mixed (fun f cdv A outer s H E hr => ?_) ?_
  · have hu : (A.deeper (envOfC "_law_mixed" (defScope st__law_mixed) s.heap.objs.size f cdv)).units + 64 < cLine := hr.units
    have hv : (A.deeper (envOfC "_law_mixed" (defScope st__law_mixed) s.heap.objs.size f cdv)).units + 65 < cLine := room65 hr
    have nd := sc__law_mixed.nd
    exact (ss_cons (s_set 2 nd (e_op o_mod (e_op o_mul (e_op o_add (e_op o_add (e_def d__law_cell_at hr (a_cons (e_var 0) (a_cons (e_var 1) a_nil))) (e_op o_mul e_int (e_var 1))) e_int) e_int) e_int))
    (ss_one (s_ret (e_op o_mod (e_op o_add (e_op o_add (e_op o_mul (e_var 2) (e_var 2)) (e_op o_mul e_int (e_var 2))) (e_var 1)) e_int))))
  · exact fun _ _ h => h
--@ _law_drawn
theorem d__law_drawn (T : Txt K mg) : Def P w K mg base 1 "_law_drawn" ["number", "k"] n__law_drawn := by
  refine d_of (k := 0) (F := m__law_drawn) T.h__law_drawn sc__law_drawn (fun f cdv A outer s H E hr => ?_) ?_
  · have hu : (A.deeper (envOfC "_law_drawn" (defScope st__law_drawn) s.heap.objs.size f cdv)).units + 64 < cLine := hr.units
    have hv : (A.deeper (envOfC "_law_drawn" (defScope st__law_drawn) s.heap.objs.size f cdv)).units + 65 < cLine := room65 hr
    have nd := sc__law_drawn.nd
    exact (ss_cons (s_set 2 nd (e_op o_mod (e_op o_mul (e_op o_add (e_op o_add (e_var 0) (e_op o_mul e_int (e_var 1))) e_int) e_int) e_int))
    (ss_one (s_ret (e_op o_mod (e_op o_add (e_op o_add (e_op o_mul (e_var 2) (e_var 2)) (e_op o_mul e_int (e_var 2))) (e_var 1)) e_int))))
  · exact fun _ _ h => h
--@ _law_frac
theorem d__law_frac (T : Txt K mg) : Def P w K mg base 1 "_law_frac" ["upper", "lower"] n__law_frac := by
  refine d_of (k := 0) (F := m__law_frac) T.h__law_frac sc__law_frac (fun f cdv A outer s H E hr => ?_) ?_
  · have hu : (A.deeper (envOfC "_law_frac" (defScope st__law_frac) s.heap.objs.size f cdv)).units + 64 < cLine := hr.units
    have hv : (A.deeper (envOfC "_law_frac" (defScope st__law_frac) s.heap.objs.size f cdv)).units + 65 < cLine := room65 hr
    have nd := sc__law_frac.nd
    exact (ss_cons (s_par 2 3 rfl nd (a_cons (e_blt c_abs T.b_abs (by decide +kernel) (a_cons (e_var 0) a_nil)) (a_cons (e_var 1) a_nil)))
    (ss_cons (s_while fuelN PassesOwn.never (t_cmp (o_ne hu) (e_var 3) e_int)
      (ss_one (s_par 2 3 rfl nd (a_cons (e_var 3) (a_cons (e_op o_mod (e_var 2) (e_var 3)) a_nil)))))
    (ss_one (s_ret (e_tup (a_cons (e_op o_fdiv (e_var 0) (e_var 2)) (a_cons (e_op o_fdiv (e_var 1) (e_var 2)) a_nil)))))))
  · exact fun _ _ h => h
--@ _law_add
theorem d__law_add (T : Txt K mg) (d__law_frac : Def P w K mg base 1 "_law_frac" ["upper", "lower"] n__law_frac) : Def P w K mg base 2 "_law_add" ["one", "other"] n__law_add := by
  refine d_of (k := 1) (F := m__law_add) T.h__law_add sc__law_add (fun f cdv A outer s H E hr => ?_) ?_
  · have hu : (A.deeper (envOfC "_law_add" (defScope st__law_add) s.heap.objs.size f cdv)).units + 64 < cLine := hr.units
    have hv : (A.deeper (envOfC "_law_add" (defScope st__law_add) s.heap.objs.size f cdv)).units + 65 < cLine := room65 hr
    have nd := sc__law_add.nd
    exact (ss_one (s_ret (e_def d__law_frac hr (a_cons (e_op o_add (e_op o_mul (e_ix (e_var 0) e_int) (e_ix (e_var 1) e_int)) (e_op o_mul (e_ix (e_var 1) e_int) (e_ix (e_var 0) e_int))) (a_cons (e_op o_mul (e_ix (e_var 0) e_int) (e_ix (e_var 1) e_int)) a_nil)))))
  · exact fun _ _ h => h
--@ _law_under
theorem d__law_under (T : Txt K mg) : Def P w K mg base 1 "_law_under" ["one", "other"] n__law_under := by
  refine d_of (k := 0) (F := m__law_under) T.h__law_under sc__law_under (fun f cdv A outer s H E hr => ?_) ?_
  · have hu : (A.deeper (envOfC "_law_under" (defScope st__law_under) s.heap.objs.size f cdv)).units + 64 < cLine := hr.units
    have hv : (A.deeper (envOfC "_law_under" (defScope st__law_under) s.heap.objs.size f cdv)).units + 65 < cLine := room65 hr
    have nd := sc__law_under.nd
    exact (ss_one (s_ret (e_cmp o_lt (e_op o_mul (e_ix (e_var 0) e_int) (e_ix (e_var 1) e_int)) (e_op o_mul (e_ix (e_var 1) e_int) (e_ix (e_var 0) e_int)))))
  · exact fun _ _ h => h
--@ _law_marks
theorem d__law_marks (T : Txt K mg) (d__law_drawn : Def P w K mg base 1 "_law_drawn" ["number", "k"] n__law_drawn) : Def P w K mg base 2 "_law_marks" ["number", "steps"] n__law_marks := by
  refine d_of (k := 1) (F := m__law_marks) T.h__law_marks sc__law_marks (fun f cdv A outer s H E hr => ?_) ?_
  · have hu : (A.deeper (envOfC "_law_marks" (defScope st__law_marks) s.heap.objs.size f cdv)).units + 64 < cLine := hr.units
    have hv : (A.deeper (envOfC "_law_marks" (defScope st__law_marks) s.heap.objs.size f cdv)).units + 65 < cLine := room65 hr
    have nd := sc__law_marks.nd
    exact (ss_cons (s_set 2 nd (e_str []))
    (ss_cons (s_for PassesOwn.never rfl (i_range1 T.b_range (a_cons (e_var 1) a_nil)) (g_name 3 nd)
      (ss_cons (s_set 4 nd (e_op o_fdiv (e_def d__law_drawn hr (a_cons (e_var 0) (a_cons (e_var 3) a_nil))) e_int))
      (ss_one (s_set 2 nd (e_op o_add (e_var 2) (e_ix (e_str [46, 46, 46, 120, 120, 88]) (e_op o_mod (e_var 4) e_int)))))))
    (ss_one (s_ret (e_var 2)))))
  · exact fun _ _ h => h
--@ _law_pattern
theorem d__law_pattern (T : Txt K mg) (d__law_drawn : Def P w K mg base 1 "_law_drawn" ["number", "k"] n__law_drawn) (d__law_marks : Def P w K mg base 2 "_law_marks" ["number", "steps"] n__law_marks) : Def P w K mg base 3 "_law_pattern" ["number"] n__law_pattern := by
  refine d_of (k := 2) (F := m__law_pattern) T.h__law_pattern sc__law_pattern (fun f cdv A outer s H E hr => ?_) ?_
  · have hu : (A.deeper (envOfC "_law_pattern" (defScope st__law_pattern) s.heap.objs.size f cdv)).units + 64 < cLine := hr.units
    have hv : (A.deeper (envOfC "_law_pattern" (defScope st__law_pattern) s.heap.objs.size f cdv)).units + 65 < cLine := room65 hr
    have nd := sc__law_pattern.nd
    exact (ss_cons (s_set 1 nd (e_ix (e_tup (a_cons (e_op o_add e_int (e_op o_mod (e_op o_fdiv (e_var 0) e_int) e_int)) (a_cons e_int (a_cons e_int (a_cons (e_op o_add e_int (e_op o_mod (e_op o_fdiv (e_var 0) e_int) e_int)) a_nil))))) (e_op o_mod (e_var 0) e_int)))
    (ss_cons (s_set 2 nd (e_op o_add e_int (e_op o_mod (e_op o_fdiv (e_var 0) e_int) e_int)))
    (ss_cons (s_set 3 nd (e_tup a_nil))
    (ss_cons (s_for PassesOwn.never rfl (i_enum T.b_enumerate (e_tup (a_cons (e_str [97]) (a_cons (e_str [104]) (a_cons (e_str [107]) (a_cons (e_str [115]) (a_cons (e_str [122]) a_nil))))))) (g_tup rfl (g_cons (g_name 4 nd) (g_cons (g_name 5 nd) g_nil)) (gl_cons (gl_cons gl_nil)))
      (ss_cons (s_set 6 nd (e_op o_fdiv (e_def d__law_drawn hr (a_cons (e_var 0) (a_cons (e_op o_add e_int (e_var 4)) a_nil))) e_int))
      (ss_one (s_if (t_cmp o_lt (e_op o_mod (e_var 6) e_int) (e_op o_add e_int (e_op o_mod (e_op o_fdiv (e_var 0) e_int) e_int)))
        (ss_one (s_set 3 nd (e_op o_add (e_var 3) (e_tup (a_cons (e_tup (a_cons (e_var 5) (a_cons (e_def d__law_marks hr (a_cons (e_op o_fdiv (e_var 6) e_int) (a_cons (e_var 1) a_nil))) a_nil))) a_nil)))))
        ss_nil))))
    (ss_one (s_ret (e_tup (a_cons (e_var 1) (a_cons (e_var 2) (a_cons (e_var 3) a_nil))))))))))
  · exact fun _ _ h => h
--@ law
theorem ok_law {f : Addr} {fd : FuncData} (Fu : Fun K "law" "law" st_law f fd) (T : Txt K mg) (d__law_pattern : Def P w K mg base 3 "_law_pattern" ["number"] n__law_pattern) (d__law_mixed : Def P w K mg base 2 "_law_mixed" ["script", "k"] n__law_mixed) (d__law_frac : Def P w K mg base 1 "_law_frac" ["upper", "lower"] n__law_frac) (d_step_time : Def P w K mg base 4 "step_time" ["swing", "pattern", "step"] n_step_time) (d__law_under : Def P w K mg base 1 "_law_under" ["one", "other"] n__law_under) (d__law_add : Def P w K mg base 2 "_law_add" ["one", "other"] n__law_add) (d_beats : Def P w K mg base 3 "beats" ["pattern"] n_beats) : FnOk P w K mg base CX0 5 f fd ["script"] (spLaw K) := by
  refine l_of (k := 4) (F := m_law) Fu sc_law (fun f cdv A outer s H E hr => ?_) ?_
  · have hu : (A.deeper (envOfC "law" (defScope st_law) s.heap.objs.size f cdv)).units + 64 < cLine := hr.units
    have hv : (A.deeper (envOfC "law" (defScope st_law) s.heap.objs.size f cdv)).units + 65 < cLine := room65 hr
    have nd := sc_law.nd
    exact (ss_cons (s_set 1 nd (e_def d__law_pattern hr (a_cons (e_def d__law_mixed hr (a_cons (e_var 0) (a_cons e_int a_nil))) a_nil)))
    (ss_cons (s_set 2 nd (e_def d__law_mixed hr (a_cons (e_var 0) (a_cons e_int a_nil))))
    (ss_cons (s_set 3 nd (e_op o_add e_int (e_op o_mod (e_var 2) e_int)))
    (ss_cons (s_set 4 nd (e_op o_add (e_lc (own := [("upper", 14)]) rfl nd (i_range2 T.b_range (a_cons e_int (a_cons (e_var 3) a_nil))) (blkOk_by (by kernel_rfl)) (fun _ _ _ _ _ => (g_name 14 nd)) (fun _ _ _ _ _ => (ts_one (PW.pt (t_and (t_cmp o_le (e_var 3) (e_op o_mul e_int (e_var 14))) (t_and1 (t_cmp o_le (e_op o_mul e_int (e_var 14)) (e_op o_mul e_int (e_var 3)))))))) (fun _ _ _ _ _ => (e_var 14))) (e_lst (a_cons e_int a_nil))))
    (ss_cons (s_set 5 nd (e_tup (a_cons e_int (a_cons e_int a_nil))))
    (ss_cons (s_if (t_cmp o_gt (e_ix (e_var 4) e_int) e_int)
      (ss_one (s_set 5 nd (e_def d__law_frac hr (a_cons (e_ix (e_var 4) (e_op o_mod (e_op o_fdiv (e_var 2) e_int) (e_blt (c_max rfl hu) T.b_max (by decide +kernel) (a_cons e_int (a_cons (e_op o_sub (e_blt c_len T.b_len (by decide +kernel) (a_cons (e_var 4) a_nil)) e_int) a_nil))))) (a_cons (e_var 3) a_nil)))))
      ss_nil)
    (ss_cons (s_set 6 nd (e_ix (e_tup (a_cons (e_tup (a_cons e_int (a_cons e_int a_nil))) (a_cons (e_tup (a_cons e_int (a_cons e_int a_nil))) (a_cons (e_tup (a_cons e_int (a_cons e_int a_nil))) a_nil)))) (e_op o_mod (e_op o_fdiv (e_var 2) e_int) e_int)))
    (ss_cons (s_asg (e_sl (e_var 1) p_no (p_so e_int)) (g_tup rfl (g_cons (g_name 9 nd) (g_cons (g_name 10 nd) g_nil)) (gl_cons (gl_cons gl_nil))))
    (ss_cons (s_set 7 nd e_non)
    (ss_cons (s_for PassesOwn.never rfl (i_range1 T.b_range (a_cons (e_op o_mul e_int (e_var 9)) a_nil)) (g_name 8 nd)
      (ss_cons (s_set 11 nd (e_def d_step_time hr (a_cons (e_var 5) (a_cons (e_var 1) (a_cons (e_var 8) a_nil)))))
      (ss_cons (s_set 12 nd (e_def d_step_time hr (a_cons (e_tup (a_cons e_int (a_cons e_int a_nil))) (a_cons (e_var 1) (a_cons (e_var 8) a_nil)))))
      (ss_cons (s_set 13 nd (e_def d_step_time hr (a_cons (e_var 6) (a_cons (e_var 1) (a_cons (e_var 8) a_nil)))))
      (ss_cons (s_if (PW.pt (t_or (t_cmp (o_ne hu) (e_var 12) (e_def d__law_frac hr (a_cons (e_var 8) (a_cons (e_var 10) a_nil)))) (t_or1 (t_val (e_def d__law_under hr (a_cons (e_var 11) (a_cons (e_var 12) a_nil)))))))
        (ss_one (s_ret e_bl))
        ss_nil)
      (ss_cons (s_if (PW.pt (t_and (t_cmp (o_eq hu) (e_op o_mod (e_op o_mod (e_var 8) (e_var 9)) e_int) e_int) (t_and1 (PW.pt (t_or (t_cmp (o_ne hu) (e_var 11) (e_var 12)) (t_or1 (t_cmp (o_ne hu) (e_var 13) (e_var 12))))))))
        (ss_one (s_ret e_bl))
        ss_nil)
      (ss_cons (s_if (t_cmp (o_eq hu) (e_op o_mod (e_op o_mod (e_var 8) (e_var 9)) e_int) e_int)
        (ss_cons (s_if (PW.pt (t_or (t_cmp (o_ne hu) (e_def d__law_under hr (a_cons (e_var 5) (a_cons (e_var 6) a_nil))) (e_def d__law_under hr (a_cons (e_var 11) (a_cons (e_var 13) a_nil)))) (t_or1 (t_not (t_val (e_def d__law_under hr (a_cons (e_var 11) (a_cons (e_def d__law_frac hr (a_cons (e_op o_add (e_var 8) e_int) (a_cons (e_var 10) a_nil))) a_nil))))))))
          (ss_one (s_ret e_bl))
          ss_nil)
        (ss_one (s_if (t_cmp (o_ne hu) (e_var 11) (e_def d__law_add hr (a_cons (e_def d__law_frac hr (a_cons (e_op o_sub (e_var 8) e_int) (a_cons (e_var 10) a_nil))) (a_cons (e_def d__law_frac hr (a_cons (e_op o_mul e_int (e_ix (e_var 5) e_int)) (a_cons (e_op o_mul (e_ix (e_var 5) e_int) (e_var 10)) a_nil))) a_nil))))
          (ss_one (s_ret e_bl))
          ss_nil)))
        ss_nil)
      (ss_cons (s_if (PW.pt (t_and (t_cmp o_isn (e_var 7) e_non) (t_and1 (t_not (t_val (e_def d__law_under hr (a_cons (e_var 7) (a_cons (e_var 11) a_nil))))))))
        (ss_one (s_ret e_bl))
        ss_nil)
      (ss_cons (s_if (t_cmp (o_ne hu) (e_def d_step_time hr (a_cons (e_var 5) (a_cons (e_var 1) (a_cons (e_op o_add (e_var 8) (e_var 9)) a_nil)))) (e_def d__law_add hr (a_cons (e_var 11) (a_cons (e_def d_beats hr (a_cons (e_var 1) a_nil)) a_nil))))
        (ss_one (s_ret e_bl))
        ss_nil)
      (ss_one (s_set 7 nd (e_var 11))))))))))))
    (ss_one (s_ret (e_cmp (o_eq hu) (e_def d_step_time hr (a_cons (e_var 5) (a_cons (e_var 1) (a_cons e_int a_nil)))) (e_tup (a_cons e_int (a_cons e_int a_nil))))))))))))))))
  · exact q_law
end
/-! ### what the top has written -/
theorem all_mk {l : PySem.W.OpenLaw} {w : World} {K : PySem.W.Frag} {h : Heap} {mg : Str → Option Value} {fa : Addr} (X : K.In h) (G : h.Ns mainGlobals mg) (hfa : mg "law" = some (.ref fa))
    {od0 an0 : Option Addr} {sl0 : Array (Option Value)} {oc0 kV0 dc0 pm0 cd0 ct0 : Value} {f0 : Addr}
    {od1 an1 : Option Addr} {sl1 : Array (Option Value)} {oc1 kV1 dc1 pm1 cd1 ct1 : Value} {f1 : Addr}
    {od2 an2 : Option Addr} {sl2 : Array (Option Value)} {oc2 kV2 dc2 pm2 cd2 ct2 : Value} {f2 : Addr}
    {od3 an3 : Option Addr} {sl3 : Array (Option Value)} {oc3 kV3 dc3 pm3 cd3 ct3 : Value} {f3 : Addr}
    {od4 an4 : Option Addr} {sl4 : Array (Option Value)} {oc4 kV4 dc4 pm4 cd4 ct4 : Value} {f4 : Addr}
    {od5 an5 : Option Addr} {sl5 : Array (Option Value)} {oc5 kV5 dc5 pm5 cd5 ct5 : Value} {f5 : Addr}
    {od6 an6 : Option Addr} {sl6 : Array (Option Value)} {oc6 kV6 dc6 pm6 cd6 ct6 : Value} {f6 : Addr}
    {od7 an7 : Option Addr} {sl7 : Array (Option Value)} {oc7 kV7 dc7 pm7 cd7 ct7 : Value} {f7 : Addr}
    {od8 an8 : Option Addr} {sl8 : Array (Option Value)} {oc8 kV8 dc8 pm8 cd8 ct8 : Value} {f8 : Addr}
    {od9 an9 : Option Addr} {sl9 : Array (Option Value)} {oc9 kV9 dc9 pm9 cd9 ct9 : Value} {f9 : Addr}
    {od10 an10 : Option Addr} {sl10 : Array (Option Value)} {oc10 kV10 dc10 pm10 cd10 ct10 : Value} {f10 : Addr}
    {od11 an11 : Option Addr} {sl11 : Array (Option Value)} {oc11 kV11 dc11 pm11 cd11 ct11 : Value} {f11 : Addr}
    {od12 an12 : Option Addr} {sl12 : Array (Option Value)} {oc12 kV12 dc12 pm12 cd12 ct12 : Value} {f12 : Addr}
    {od13 an13 : Option Addr} {sl13 : Array (Option Value)} {oc13 kV13 dc13 pm13 cd13 ct13 : Value} {f13 : Addr}
    {od14 an14 : Option Addr} {sl14 : Array (Option Value)} {oc14 kV14 dc14 pm14 cd14 ct14 : Value} {f14 : Addr}
    (a0 : PySem.W.nsIn K mainGlobals "divisor" = some (some (.ref f0))) (l0 : K.lookup f0 = some ⟨oc0, od0, .func (PySem.W.fnOf "divisor" "divisor" (defArgs st_divisor) (defBody st_divisor) (defScope st_divisor) .none kV0 dc0 pm0 an0 cd0 ct0), sl0⟩) (c0 : PySem.W.codeIn K cd0 "divisor" = true) (k0 : PySem.W.keepIn K (.ref f0) = true)
    (a1 : PySem.W.nsIn K mainGlobals "fraction" = some (some (.ref f1))) (l1 : K.lookup f1 = some ⟨oc1, od1, .func (PySem.W.fnOf "fraction" "fraction" (defArgs st_fraction) (defBody st_fraction) (defScope st_fraction) .none kV1 dc1 pm1 an1 cd1 ct1), sl1⟩) (c1 : PySem.W.codeIn K cd1 "fraction" = true) (k1 : PySem.W.keepIn K (.ref f1) = true)
    (a2 : PySem.W.nsIn K mainGlobals "added" = some (some (.ref f2))) (l2 : K.lookup f2 = some ⟨oc2, od2, .func (PySem.W.fnOf "added" "added" (defArgs st_added) (defBody st_added) (defScope st_added) .none kV2 dc2 pm2 an2 cd2 ct2), sl2⟩) (c2 : PySem.W.codeIn K cd2 "added" = true) (k2 : PySem.W.keepIn K (.ref f2) = true)
    (a3 : PySem.W.nsIn K mainGlobals "times" = some (some (.ref f3))) (l3 : K.lookup f3 = some ⟨oc3, od3, .func (PySem.W.fnOf "times" "times" (defArgs st_times) (defBody st_times) (defScope st_times) .none kV3 dc3 pm3 an3 cd3 ct3), sl3⟩) (c3 : PySem.W.codeIn K cd3 "times" = true) (k3 : PySem.W.keepIn K (.ref f3) = true)
    (a4 : PySem.W.nsIn K mainGlobals "beats" = some (some (.ref f4))) (l4 : K.lookup f4 = some ⟨oc4, od4, .func (PySem.W.fnOf "beats" "beats" (defArgs st_beats) (defBody st_beats) (defScope st_beats) .none kV4 dc4 pm4 an4 cd4 ct4), sl4⟩) (c4 : PySem.W.codeIn K cd4 "beats" = true) (k4 : PySem.W.keepIn K (.ref f4) = true)
    (a5 : PySem.W.nsIn K mainGlobals "step_time" = some (some (.ref f5))) (l5 : K.lookup f5 = some ⟨oc5, od5, .func (PySem.W.fnOf "step_time" "step_time" (defArgs st_step_time) (defBody st_step_time) (defScope st_step_time) .none kV5 dc5 pm5 an5 cd5 ct5), sl5⟩) (c5 : PySem.W.codeIn K cd5 "step_time" = true) (k5 : PySem.W.keepIn K (.ref f5) = true)
    (a6 : PySem.W.nsIn K mainGlobals "_law_cell_at" = some (some (.ref f6))) (l6 : K.lookup f6 = some ⟨oc6, od6, .func (PySem.W.fnOf "_law_cell_at" "_law_cell_at" (defArgs st__law_cell_at) (defBody st__law_cell_at) (defScope st__law_cell_at) .none kV6 dc6 pm6 an6 cd6 ct6), sl6⟩) (c6 : PySem.W.codeIn K cd6 "_law_cell_at" = true) (k6 : PySem.W.keepIn K (.ref f6) = true)
    (a7 : PySem.W.nsIn K mainGlobals "_law_mixed" = some (some (.ref f7))) (l7 : K.lookup f7 = some ⟨oc7, od7, .func (PySem.W.fnOf "_law_mixed" "_law_mixed" (defArgs st__law_mixed) (defBody st__law_mixed) (defScope st__law_mixed) .none kV7 dc7 pm7 an7 cd7 ct7), sl7⟩) (c7 : PySem.W.codeIn K cd7 "_law_mixed" = true) (k7 : PySem.W.keepIn K (.ref f7) = true)
    (a8 : PySem.W.nsIn K mainGlobals "_law_drawn" = some (some (.ref f8))) (l8 : K.lookup f8 = some ⟨oc8, od8, .func (PySem.W.fnOf "_law_drawn" "_law_drawn" (defArgs st__law_drawn) (defBody st__law_drawn) (defScope st__law_drawn) .none kV8 dc8 pm8 an8 cd8 ct8), sl8⟩) (c8 : PySem.W.codeIn K cd8 "_law_drawn" = true) (k8 : PySem.W.keepIn K (.ref f8) = true)
    (a9 : PySem.W.nsIn K mainGlobals "_law_frac" = some (some (.ref f9))) (l9 : K.lookup f9 = some ⟨oc9, od9, .func (PySem.W.fnOf "_law_frac" "_law_frac" (defArgs st__law_frac) (defBody st__law_frac) (defScope st__law_frac) .none kV9 dc9 pm9 an9 cd9 ct9), sl9⟩) (c9 : PySem.W.codeIn K cd9 "_law_frac" = true) (k9 : PySem.W.keepIn K (.ref f9) = true)
    (a10 : PySem.W.nsIn K mainGlobals "_law_add" = some (some (.ref f10))) (l10 : K.lookup f10 = some ⟨oc10, od10, .func (PySem.W.fnOf "_law_add" "_law_add" (defArgs st__law_add) (defBody st__law_add) (defScope st__law_add) .none kV10 dc10 pm10 an10 cd10 ct10), sl10⟩) (c10 : PySem.W.codeIn K cd10 "_law_add" = true) (k10 : PySem.W.keepIn K (.ref f10) = true)
    (a11 : PySem.W.nsIn K mainGlobals "_law_under" = some (some (.ref f11))) (l11 : K.lookup f11 = some ⟨oc11, od11, .func (PySem.W.fnOf "_law_under" "_law_under" (defArgs st__law_under) (defBody st__law_under) (defScope st__law_under) .none kV11 dc11 pm11 an11 cd11 ct11), sl11⟩) (c11 : PySem.W.codeIn K cd11 "_law_under" = true) (k11 : PySem.W.keepIn K (.ref f11) = true)
    (a12 : PySem.W.nsIn K mainGlobals "_law_marks" = some (some (.ref f12))) (l12 : K.lookup f12 = some ⟨oc12, od12, .func (PySem.W.fnOf "_law_marks" "_law_marks" (defArgs st__law_marks) (defBody st__law_marks) (defScope st__law_marks) .none kV12 dc12 pm12 an12 cd12 ct12), sl12⟩) (c12 : PySem.W.codeIn K cd12 "_law_marks" = true) (k12 : PySem.W.keepIn K (.ref f12) = true)
    (a13 : PySem.W.nsIn K mainGlobals "_law_pattern" = some (some (.ref f13))) (l13 : K.lookup f13 = some ⟨oc13, od13, .func (PySem.W.fnOf "_law_pattern" "_law_pattern" (defArgs st__law_pattern) (defBody st__law_pattern) (defScope st__law_pattern) .none kV13 dc13 pm13 an13 cd13 ct13), sl13⟩) (c13 : PySem.W.codeIn K cd13 "_law_pattern" = true) (k13 : PySem.W.keepIn K (.ref f13) = true)
    (a14 : PySem.W.nsIn K mainGlobals "law" = some (some (.ref f14))) (l14 : K.lookup f14 = some ⟨oc14, od14, .func (PySem.W.fnOf "law" "law" (defArgs st_law) (defBody st_law) (defScope st_law) .none kV14 dc14 pm14 an14 cd14 ct14), sl14⟩) (c14 : PySem.W.codeIn K cd14 "law" = true) (k14 : PySem.W.keepIn K (.ref f14) = true)
    (z0 : PySem.W.nsIn K mainGlobals "abs" = some none)
    (z1 : PySem.W.nsIn K mainGlobals "enumerate" = some none)
    (z2 : PySem.W.nsIn K mainGlobals "len" = some none)
    (z3 : PySem.W.nsIn K mainGlobals "max" = some none)
    (z4 : PySem.W.nsIn K mainGlobals "range" = some none) :
    ∃ fd : FuncData, (∀ (s : Shared) (v : Value), BindsTo s fd ⟨[v], []⟩ [("script", v)]) ∧ ∀ base : Heap, K.In base → base.Ns mainGlobals mg → FnOk l.prog w K mg base CX0 5 fa fd ["script"] (spLaw K) := by
  have e := hfa.symm.trans (PySem.W.mg_of X G a14)
  cases e
  have F0 := fun_mk (st := st_divisor) l0 c0 k0
  have b0 := F0.binds (ps := ["one", "other"]) fun _ _ _ _ _ _ us hl => match us, hl with | [_, _], _ => rfl
  have F1 := fun_mk (st := st_fraction) l1 c1 k1
  have b1 := F1.binds (ps := ["upper", "lower"]) fun _ _ _ _ _ _ us hl => match us, hl with | [_, _], _ => rfl
  have F2 := fun_mk (st := st_added) l2 c2 k2
  have b2 := F2.binds (ps := ["one", "other"]) fun _ _ _ _ _ _ us hl => match us, hl with | [_, _], _ => rfl
  have F3 := fun_mk (st := st_times) l3 c3 k3
  have b3 := F3.binds (ps := ["number", "one"]) fun _ _ _ _ _ _ us hl => match us, hl with | [_, _], _ => rfl
  have F4 := fun_mk (st := st_beats) l4 c4 k4
  have b4 := F4.binds (ps := ["pattern"]) fun _ _ _ _ _ _ us hl => match us, hl with | [_], _ => rfl
  have F5 := fun_mk (st := st_step_time) l5 c5 k5
  have b5 := F5.binds (ps := ["swing", "pattern", "step"]) fun _ _ _ _ _ _ us hl => match us, hl with | [_, _, _], _ => rfl
  have F6 := fun_mk (st := st__law_cell_at) l6 c6 k6
  have b6 := F6.binds (ps := ["script", "k"]) fun _ _ _ _ _ _ us hl => match us, hl with | [_, _], _ => rfl
  have F7 := fun_mk (st := st__law_mixed) l7 c7 k7
  have b7 := F7.binds (ps := ["script", "k"]) fun _ _ _ _ _ _ us hl => match us, hl with | [_, _], _ => rfl
  have F8 := fun_mk (st := st__law_drawn) l8 c8 k8
  have b8 := F8.binds (ps := ["number", "k"]) fun _ _ _ _ _ _ us hl => match us, hl with | [_, _], _ => rfl
  have F9 := fun_mk (st := st__law_frac) l9 c9 k9
  have b9 := F9.binds (ps := ["upper", "lower"]) fun _ _ _ _ _ _ us hl => match us, hl with | [_, _], _ => rfl
  have F10 := fun_mk (st := st__law_add) l10 c10 k10
  have b10 := F10.binds (ps := ["one", "other"]) fun _ _ _ _ _ _ us hl => match us, hl with | [_, _], _ => rfl
  have F11 := fun_mk (st := st__law_under) l11 c11 k11
  have b11 := F11.binds (ps := ["one", "other"]) fun _ _ _ _ _ _ us hl => match us, hl with | [_, _], _ => rfl
  have F12 := fun_mk (st := st__law_marks) l12 c12 k12
  have b12 := F12.binds (ps := ["number", "steps"]) fun _ _ _ _ _ _ us hl => match us, hl with | [_, _], _ => rfl
  have F13 := fun_mk (st := st__law_pattern) l13 c13 k13
  have b13 := F13.binds (ps := ["number"]) fun _ _ _ _ _ _ us hl => match us, hl with | [_], _ => rfl
  have F14 := fun_mk (st := st_law) l14 c14 k14
  have T : Txt K mg := ⟨PySem.W.mg_none_of X G z0, PySem.W.mg_none_of X G z1, PySem.W.mg_none_of X G z2, PySem.W.mg_none_of X G z3, PySem.W.mg_none_of X G z4, ⟨_, _, F0, PySem.W.mg_of X G a0, b0⟩, ⟨_, _, F1, PySem.W.mg_of X G a1, b1⟩, ⟨_, _, F2, PySem.W.mg_of X G a2, b2⟩, ⟨_, _, F3, PySem.W.mg_of X G a3, b3⟩, ⟨_, _, F4, PySem.W.mg_of X G a4, b4⟩, ⟨_, _, F5, PySem.W.mg_of X G a5, b5⟩, ⟨_, _, F6, PySem.W.mg_of X G a6, b6⟩, ⟨_, _, F7, PySem.W.mg_of X G a7, b7⟩, ⟨_, _, F8, PySem.W.mg_of X G a8, b8⟩, ⟨_, _, F9, PySem.W.mg_of X G a9, b9⟩, ⟨_, _, F10, PySem.W.mg_of X G a10, b10⟩, ⟨_, _, F11, PySem.W.mg_of X G a11, b11⟩, ⟨_, _, F12, PySem.W.mg_of X G a12, b12⟩, ⟨_, _, F13, PySem.W.mg_of X G a13, b13⟩⟩
  refine ⟨PySem.W.fnOf "law" "law" (defArgs st_law) (defBody st_law) (defScope st_law) .none kV14 dc14 pm14 an14 cd14 ct14, fun s v => .of_eq rfl, fun base _ _ => ?_⟩
  have D__law_drawn := d__law_drawn (P := l.prog) (w := w) (base := base) T
  have D__law_marks := d__law_marks (P := l.prog) (w := w) (base := base) T D__law_drawn
  have D__law_pattern := d__law_pattern (P := l.prog) (w := w) (base := base) T D__law_drawn D__law_marks
  have D__law_cell_at := d__law_cell_at (P := l.prog) (w := w) (base := base) T
  have D__law_mixed := d__law_mixed (P := l.prog) (w := w) (base := base) T D__law_cell_at
  have D__law_frac := d__law_frac (P := l.prog) (w := w) (base := base) T
  have D_divisor := d_divisor (P := l.prog) (w := w) (base := base) T
  have D_fraction := d_fraction (P := l.prog) (w := w) (base := base) T D_divisor
  have D_times := d_times (P := l.prog) (w := w) (base := base) T D_fraction
  have D_added := d_added (P := l.prog) (w := w) (base := base) T D_fraction
  have D_beats := d_beats (P := l.prog) (w := w) (base := base) T D_fraction
  have D_step_time := d_step_time (P := l.prog) (w := w) (base := base) T D_times D_added D_beats D_fraction
  have D__law_under := d__law_under (P := l.prog) (w := w) (base := base) T
  have D__law_add := d__law_add (P := l.prog) (w := w) (base := base) T D__law_frac
  exact ok_law F14 T D__law_pattern D__law_mixed D__law_frac D_step_time D__law_under D__law_add D_beats
end K31
open PySem PySem.W PyProof.Rows
set_option maxRecDepth 100000 in
set_option maxHeartbeats 0 in
theorem PySem.Challenge.cw_padrows_k31_whole_swing_holds : PySem.Challenge.rw_padrows_k31_whole_swing.Holds := by
  w_on; o_law; k_head; (case hw => w_witness2)
  k_fill
  refine L2.walk_of (l := PySem.Challenge.rw_padrows_k31_whole_swing) (n := 63) (k := 5) (x := "script") (CX := fun _ => L2.CX0) (sp := fun w => Dn.spLaw _) rfl (by decide) rfl ⟨rfl, by decide, by decide⟩ (fun w h Y => PySem.W.kIn_of Y) ?F (fun _ _ a ns hl _ hS => ⟨a, ns, rfl, hS, hl, fun _ => rfl⟩) (fun _ _ _ _ _ h => h)
  case F =>
    intro w mg fa h KX G hmg
    refine' K31.all_mk KX G hmg ?a0 ?l0 ?c0 ?k0 ?a1 ?l1 ?c1 ?k1 ?a2 ?l2 ?c2 ?k2 ?a3 ?l3 ?c3 ?k3 ?a4 ?l4 ?c4 ?k4 ?a5 ?l5 ?c5 ?k5 ?a6 ?l6 ?c6 ?k6 ?a7 ?l7 ?c7 ?k7 ?a8 ?l8 ?c8 ?k8 ?a9 ?l9 ?c9 ?k9 ?a10 ?l10 ?c10 ?k10 ?a11 ?l11 ?c11 ?k11 ?a12 ?l12 ?c12 ?k12 ?a13 ?l13 ?c13 ?k13 ?a14 ?l14 ?c14 ?k14 ?z0 ?z1 ?z2 ?z3 ?z4
    (case a0 => k_is)
    (case l0 => k_is)
    (case c0 => k_is)
    (case k0 => k_is)
    (case a1 => k_is)
    (case l1 => k_is)
    (case c1 => k_is)
    (case k1 => k_is)
    (case a2 => k_is)
    (case l2 => k_is)
    (case c2 => k_is)
    (case k2 => k_is)
    (case a3 => k_is)
    (case l3 => k_is)
    (case c3 => k_is)
    (case k3 => k_is)
    (case a4 => k_is)
    (case l4 => k_is)
    (case c4 => k_is)
    (case k4 => k_is)
    (case a5 => k_is)
    (case l5 => k_is)
    (case c5 => k_is)
    (case k5 => k_is)
    (case a6 => k_is)
    (case l6 => k_is)
    (case c6 => k_is)
    (case k6 => k_is)
    (case a7 => k_is)
    (case l7 => k_is)
    (case c7 => k_is)
    (case k7 => k_is)
    (case a8 => k_is)
    (case l8 => k_is)
    (case c8 => k_is)
    (case k8 => k_is)
    (case a9 => k_is)
    (case l9 => k_is)
    (case c9 => k_is)
    (case k9 => k_is)
    (case a10 => k_is)
    (case l10 => k_is)
    (case c10 => k_is)
    (case k10 => k_is)
    (case a11 => k_is)
    (case l11 => k_is)
    (case c11 => k_is)
    (case k11 => k_is)
    (case a12 => k_is)
    (case l12 => k_is)
    (case c12 => k_is)
    (case k12 => k_is)
    (case a13 => k_is)
    (case l13 => k_is)
    (case c13 => k_is)
    (case k13 => k_is)
    (case a14 => k_is)
    (case l14 => k_is)
    (case c14 => k_is)
    (case k14 => k_is)
    (case z0 => k_is)
    (case z1 => k_is)
    (case z2 => k_is)
    (case z3 => k_is)
    (case z4 => k_is)
