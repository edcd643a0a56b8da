import PyProof.Rows.All
import Wide.All
import OpenK.AllK
import Wide.FinOn
import PyProof.StrLawsIn
import PyProof.Rows.StrStep
import KE.KTupSum
import KE.DataMinMax
import KE.DataEq
import KE.DataCmp
import HandS.Text
import HandS.ForMost
import HandS.TupAny
import HandS.TupMul
import HandS.TupLe
import HandS.Style
import HandS.Flow
import HandS.Conv
import HandS.Codes
import HandS.IsInst
import HandS.NoneIn
import KE.SortData
import HandS.SetFor
import HandS.Strs
import KE.GoesMore
import KE.GoesNew
import KE.GoesEnum
import HandS.ListItems
import HandS.SetKeys
import HandS.Replace
import HandS.ExcIs
import HandS.ExcOwn
import HandS.ForExc
import HandS.Lambda
import PyProof.StrLawsTight
import PyProof.StrLawsChain
import PyProof.Rows.StrItems
import KE.KDictPairs
import PySem.Challenge.RW_padrows_k24_whole_together_by_rounds
set_option Elab.async false
set_option linter.all false
set_option maxRecDepth 100000
/-! Part A: plain data, how it lies in the heap, and readings that tell a plain function of plain slots. -/
namespace Dn
open PySem L2

inductive D where
  | non | bl (b : Bool) | int (i : Int) | str (l : List Nat) | tup (xs : List D) | lst (xs : List D)
  | scr (ns : List Int) | adr (a : Addr) | dct (kvs : List (List Nat × D))
  | own (xs : List D) | ownd (kvs : List (List Nat × D))
  | wk (xs : List D)

abbrev S (l : List Nat) : Str := ⟨l.toArray⟩

/-- a tuple that is known to have no attributes of its own -/
def SqP (K : PySem.W.Frag) (H : Hp) (a : Addr) (xs : List V) : Prop :=
  (∃ o : Obj, o.dict = none ∧ H a = some (.frz o (.tup xs))) ∨
    ∃ (o : Obj) (its : Array Value) (n : Nat), K.lookup a = some o ∧ o.dict = none ∧ o.cls = .type "tuple" ∧ o.data = .seq its n ∧ its.size ≤ sizeLine ∧ Vals xs its.toList
theorem SqP.sq {K : PySem.W.Frag} {H : Hp} {a : Addr} {xs : List V} (h : SqP K H a xs) : SqT K H a xs := by
  rcases h with ⟨o, _, h⟩ | ⟨o, its, n, h1, _, h2⟩
  · exact .inl (.inr ⟨o, h⟩)
  · exact .inr ⟨o, its, n, h1, h2⟩
theorem SqP.mono {K : PySem.W.Frag} {H H' : Hp} {a : Addr} {xs : List V} (e : Same H H') (h : SqP K H a xs) : SqP K H' a xs := by
  rcases h with ⟨o, q, h⟩ | h
  · exact .inl ⟨o, q, e _ _ h⟩
  · exact .inr h

mutual
def Is (K : PySem.W.Frag) (H : Hp) : D → V → Prop
  | .non, v => v = .non
  | .bl b, v => v = .bl b
  | .int i, v => v = .int i
  | .str l, v => v = .str (S l)
  | .tup ds, v => ∃ a vs, v = .ref a ∧ SqP K H a vs ∧ IsL K H ds vs
  | .wk ds, v => ∃ a vs, v = .ref a ∧ SqT K H a vs ∧ IsL K H ds vs
  | .lst ds, v => ∃ a vs, v = .ref a ∧ H a = some (.lst vs) ∧ IsL K H ds vs
  | .scr ns, v => ∃ a, v = .ref a ∧ SqL K H a (ns.map V.int)
  | .adr a, v => v = .ref a
  | .dct kvs, v => ∃ a ks, v = .ref a ∧ (∃ o, H a = some (.frz o (.dK ks))) ∧ IsK K H kvs ks
  | .own _, _ => False
  | .ownd _, _ => False
def IsL (K : PySem.W.Frag) (H : Hp) : List D → List V → Prop
  | [], vs => vs = []
  | d :: ds, vs => ∃ v r, vs = v :: r ∧ Is K H d v ∧ IsL K H ds r
def IsK (K : PySem.W.Frag) (H : Hp) : List (List Nat × D) → List (Key × V) → Prop
  | [], ks => ks = []
  | (k, d) :: kvs, ks => ∃ v r, ks = (Sum.inr (S k), v) :: r ∧ Is K H d v ∧ IsK K H kvs r
end

section
variable {K : PySem.W.Frag} {H H' : Hp}
theorem sq_mono (e : Same H H') {a : Addr} {xs : List V} (h : SqT K H a xs) : SqT K H' a xs := by
  rcases h with (h | ⟨o, h⟩) | h
  · exact .inl (.inl (e _ _ h))
  · exact .inl (.inr ⟨o, e _ _ h⟩)
  · exact .inr h
mutual
theorem Is.mono (e : Same H H') : ∀ {d : D} {v : V}, Is K H d v → Is K H' d v
  | .non, _, h => by simpa only [Is] using h
  | .bl _, _, h => by simpa only [Is] using h
  | .int _, _, h => by simpa only [Is] using h
  | .str _, _, h => by simpa only [Is] using h
  | .adr _, _, h => by simpa only [Is] using h
  | .tup ds, v, h => by
    simp only [Is] at h ⊢
    obtain ⟨a, vs, e1, e2, e3⟩ := h
    exact ⟨a, vs, e1, e2.mono e, IsL.mono e e3⟩
  | .wk ds, v, h => by
    simp only [Is] at h ⊢
    obtain ⟨a, vs, e1, e2, e3⟩ := h
    exact ⟨a, vs, e1, sq_mono e e2, IsL.mono e e3⟩
  | .lst ds, v, h => by
    simp only [Is] at h ⊢
    obtain ⟨a, vs, e1, e2, e3⟩ := h
    exact ⟨a, vs, e1, e _ _ e2, IsL.mono e e3⟩
  | .scr ns, v, h => by
    simp only [Is] at h ⊢
    obtain ⟨a, e1, e2⟩ := h
    exact ⟨a, e1, e.seq e2⟩
  | .dct kvs, v, h => by
    simp only [Is] at h ⊢
    obtain ⟨a, vs, e1, ⟨o, e2⟩, e3⟩ := h
    exact ⟨a, vs, e1, ⟨o, e _ _ e2⟩, IsK.mono e e3⟩
  | .own _, _, h => by simp only [Is] at h
  | .ownd _, _, h => by simp only [Is] at h
theorem IsL.mono (e : Same H H') : ∀ {ds : List D} {vs : List V}, IsL K H ds vs → IsL K H' ds vs
  | [], _, h => by simpa only [IsL] using h
  | d :: ds, vs, h => by
    simp only [IsL] at h ⊢
    obtain ⟨v, r, e1, e2, e3⟩ := h
    exact ⟨v, r, e1, Is.mono e e2, IsL.mono e e3⟩
theorem IsK.mono (e : Same H H') : ∀ {ds : List (List Nat × D)} {vs : List (Key × V)}, IsK K H ds vs → IsK K H' ds vs
  | [], _, h => by simpa only [IsK] using h
  | (k, d) :: ds, vs, h => by
    simp only [IsK] at h ⊢
    obtain ⟨v, r, e1, e2, e3⟩ := h
    exact ⟨v, r, e1, Is.mono e e2, IsK.mono e e3⟩
end
theorem IsL.length : ∀ {ds : List D} {vs : List V}, IsL K H ds vs → vs.length = ds.length
  | [], _, h => by simp only [IsL] at h; subst h; rfl
  | d :: ds, vs, h => by
    simp only [IsL] at h
    obtain ⟨v, r, e1, _, e3⟩ := h
    subst e1
    rw [List.length_cons, List.length_cons, IsL.length e3]
theorem IsL.get : ∀ {ds : List D} {vs : List V} {i : Nat} {d : D}, IsL K H ds vs → ds[i]? = some d → ∃ v, vs[i]? = some v ∧ Is K H d v
  | [], _, _, _, _, q => by simp at q
  | d :: ds, vs, i, d', h, q => by
    simp only [IsL] at h
    obtain ⟨v, r, e1, e2, e3⟩ := h
    subst e1
    cases i with
    | zero =>
      simp at q
      subst q
      exact ⟨v, rfl, e2⟩
    | succ j =>
      simp at q
      obtain ⟨w, a, b⟩ := IsL.get e3 q
      exact ⟨w, by simpa using a, b⟩
theorem IsL.append : ∀ {ds es : List D} {vs ws : List V}, IsL K H ds vs → IsL K H es ws → IsL K H (ds ++ es) (vs ++ ws)
  | [], _, _, _, h, q => by
    simp only [IsL] at h
    subst h
    exact q
  | d :: ds, es, vs, ws, h, q => by
    simp only [IsL] at h
    obtain ⟨v, r, e1, e2, e3⟩ := h
    subst e1
    show IsL K H (d :: (ds ++ es)) (v :: (r ++ ws))
    simp only [IsL]
    exact ⟨v, r ++ ws, rfl, e2, e3.append q⟩
theorem IsL.take (n : Nat) : ∀ {ds : List D} {vs : List V}, IsL K H ds vs → IsL K H (ds.take n) (vs.take n) := by
  induction n with
  | zero => intro ds vs _; simp [IsL]
  | succ n ih =>
    intro ds vs h
    cases ds with
    | nil =>
      simp only [IsL] at h
      subst h
      simp [IsL]
    | cons d ds =>
      simp only [IsL] at h
      obtain ⟨v, r, e1, e2, e3⟩ := h
      subst e1
      simp only [List.take_succ_cons, IsL]
      exact ⟨v, _, rfl, e2, ih e3⟩
theorem IsL.drop (n : Nat) : ∀ {ds : List D} {vs : List V}, IsL K H ds vs → IsL K H (ds.drop n) (vs.drop n) := by
  induction n with
  | zero => intro ds vs h; exact h
  | succ n ih =>
    intro ds vs h
    cases ds with
    | nil =>
      simp only [IsL] at h
      subst h
      simp [IsL]
    | cons d ds =>
      simp only [IsL] at h
      obtain ⟨v, r, e1, e2, e3⟩ := h
      subst e1
      exact ih e3
theorem IsL.of_get : ∀ {ds : List D} {vs : List V}, vs.length = ds.length → (∀ (i : Nat) (d : D) (v : V), ds[i]? = some d → vs[i]? = some v → Is K H d v) → IsL K H ds vs
  | [], vs, e, _ => by
    simp only [IsL]
    exact List.eq_nil_of_length_eq_zero e
  | d :: ds, [], e, _ => by simp at e
  | d :: ds, v :: vs, e, h => by
    simp only [IsL]
    exact ⟨v, vs, rfl, h 0 d v rfl rfl, IsL.of_get (by simpa using e) fun i d' v' a b => h (i + 1) d' v' (by simpa using a) (by simpa using b)⟩
theorem IsL.set {ds : List D} {vs : List V} {d : D} {v : V} (j : Nat) (h : IsL K H ds vs) (q : Is K H d v) : IsL K H (ds.set j d) (vs.set j v) := by
  refine IsL.of_get (by rw [List.length_set, List.length_set, h.length]) fun i d' v' a b => ?_
  by_cases e : j = i
  · subst e
    rw [List.getElem?_set_self'] at a b
    cases h1 : ds[j]? with
    | none => rw [h1] at a; cases a
    | some x =>
      rw [h1] at a
      cases h2 : vs[j]? with
      | none => rw [h2] at b; cases b
      | some y =>
        rw [h2] at b
        cases a
        cases b
        exact q
  · rw [List.getElem?_set_ne e] at a b
    obtain ⟨w, c1, c2⟩ := h.get a
    rw [c1] at b
    cases b
    exact c2
end

/-! ### a step of the heap: H is the whole of it, Hb the part that plain data lies in -/
def NoT (Hb : Hp) : Prop := ∀ p ps, Hb p ≠ some (.tbl ps)
theorem NoT.upd {Hb : Hp} {p : Addr} {o : HO} (n : NoT Hb) (h : ∀ ps, o ≠ .tbl ps) : NoT (upd Hb p o) := fun b ps z => by
  by_cases e : b = p
  · subst e
    rw [upd_same] at z
    exact h ps (Option.some.inj z)
  · rw [upd_ne e] at z
    exact n b ps z
structure Step (Hb H Hb' H' : Hp) : Prop where
  a : Same H H'
  b : Same Hb Hb'
  c : Same Hb' H'
  f : ∀ p o, H p = some o → Hb p = none → Hb' p = none
  t : NoT Hb → NoT Hb'
theorem Step.refl {Hb H : Hp} (h : Same Hb H) : Step Hb H Hb H := ⟨Same.refl _, Same.refl _, h, fun _ _ _ n => n, fun n => n⟩
theorem Step.trans {Hb H Hb1 H1 Hb2 H2 : Hp} (x : Step Hb H Hb1 H1) (y : Step Hb1 H1 Hb2 H2) : Step Hb H Hb2 H2 :=
  ⟨x.a.trans y.a, x.b.trans y.b, y.c, fun p o e n => y.f p o (x.a p o e) (x.f p o e n), fun n => y.t (x.t n)⟩
theorem same_new {H : Hp} {p : Addr} {o : HO} (h : H p = none) : Same H (upd H p o) := fun b x e => by
  rw [upd_ne (ne_of_none e h)]
  exact e
theorem same_upd2 {Hb H : Hp} {p : Addr} {o : HO} (s : Same Hb H) : Same (upd Hb p o) (upd H p o) := fun b x e => by
  by_cases h : b = p
  · subst h
    rw [upd_same] at e ⊢
    exact e
  · rw [upd_ne h] at e ⊢
    exact s b x e
theorem Step.new {Hb H : Hp} (s : Same Hb H) {p : Addr} {o : HO} (h : H p = none) (ht : ∀ ps, o ≠ .tbl ps := by intro _ z; cases z) : Step Hb H (upd Hb p o) (upd H p o) :=
  ⟨same_new h, same_new (s.free h), same_upd2 s, fun b x e n => (by rw [upd_ne (ne_of_none e h)]; exact n), fun n => n.upd ht⟩

abbrev En := List (Option D)
def D.isOwn : D → Bool
  | .own _ => true
  | .ownd _ => true
  | _ => false
/-- what a slot holds -/
def IsS (K : PySem.W.Frag) (H0 Hb H : Hp) : D → V → Prop
  | .own ds, v => ∃ a vs, v = .ref a ∧ H0 a = none ∧ Hb a = none ∧ H a = some (.lst vs) ∧ IsL K Hb ds vs
  | .ownd kvs, v => ∃ a ks, v = .ref a ∧ H0 a = none ∧ Hb a = none ∧ H a = some (.dK ks) ∧ IsK K Hb kvs ks
  | d, v => Is K Hb d v
structure Rel (K : PySem.W.Frag) (H0 Hb H : Hp) (σ : L2.St) (env : En) : Prop where
  len : σ.length = env.length
  val : ∀ (i : Nat) (d : D), env[i]? = some (some d) → ∃ v, σ[i]? = some (some v) ∧ IsS K H0 Hb H d v
  sep : ∀ (i j : Nat) (d e : D) (a : Addr), i ≠ j → env[i]? = some (some d) → env[j]? = some (some e) → d.isOwn = true → e.isOwn = true → σ[i]? = some (some (.ref a)) → σ[j]? = some (some (.ref a)) → False
section
variable {K : PySem.W.Frag} {H0 Hb H Hb' H' : Hp} {σ : L2.St} {env : En}
theorem IsS.plain {d : D} {v : V} (h : d.isOwn = false) : IsS K H0 Hb H d v = Is K Hb d v := by
  cases d <;> first | rfl | (simp [D.isOwn] at h)
theorem IsS.step (s : Step Hb H Hb' H') {d : D} {v : V} (h : IsS K H0 Hb H d v) : IsS K H0 Hb' H' d v := by
  cases d with
  | own ds =>
    obtain ⟨a, vs, e1, e2, e3, e4, e5⟩ := h
    exact ⟨a, vs, e1, e2, s.f _ _ e4 e3, s.a _ _ e4, e5.mono s.b⟩
  | ownd ds =>
    obtain ⟨a, vs, e1, e2, e3, e4, e5⟩ := h
    exact ⟨a, vs, e1, e2, s.f _ _ e4 e3, s.a _ _ e4, e5.mono s.b⟩
  | _ => exact Is.mono s.b h
theorem Rel.step (s : Step Hb H Hb' H') (r : Rel K H0 Hb H σ env) : Rel K H0 Hb' H' σ env :=
  ⟨r.len, fun i d e => let ⟨v, a, b⟩ := r.val i d e; ⟨v, a, b.step s⟩, r.sep⟩
/-- a slot gets a plain thing -/
theorem Rel.set (r : Rel K H0 Hb H σ env) (i : Nat) {d : D} {v : V} (h : Is K Hb d v) : Rel K H0 Hb H (σ.set i (some v)) (env.set i (some d)) := by
  have hd : d.isOwn = false := by cases d <;> first | rfl | (simp only [Is] at h)
  refine ⟨by rw [List.length_set, List.length_set, r.len], fun j e q => ?_, fun j k e e' a ne q1 q2 o1 o2 s1 s2 => ?_⟩
  · by_cases hj : i = j
    · subst hj
      have hi : i < env.length := by
        have := (List.getElem?_eq_some_iff.mp q).1
        rw [List.length_set] at this
        exact this
      rw [List.getElem?_set_self hi] at q
      cases q
      refine ⟨v, List.getElem?_set_self (by rw [r.len]; exact hi), ?_⟩
      rw [IsS.plain hd]
      exact h
    · rw [List.getElem?_set_ne hj] at q
      obtain ⟨w, a, b⟩ := r.val j e q
      exact ⟨w, by rw [List.getElem?_set_ne hj]; exact a, b⟩
  · have key : ∀ (m : Nat) (x : D), (env.set i (some d))[m]? = some (some x) → x.isOwn = true → i ≠ m := fun m x q o z => by
      subst z
      have hi : i < env.length := by
        have := (List.getElem?_eq_some_iff.mp q).1
        rw [List.length_set] at this
        exact this
      rw [List.getElem?_set_self hi] at q
      cases q
      rw [hd] at o
      cases o
    have n1 := key j e q1 o1
    have n2 := key k e' q2 o2
    rw [List.getElem?_set_ne n1] at q1 s1
    rw [List.getElem?_set_ne n2] at q2 s2
    exact r.sep j k e e' a ne q1 q2 o1 o2 s1 s2
/-- a slot is forgotten -/
theorem Rel.forget (r : Rel K H0 Hb H σ env) (i : Nat) (x : Option V) : Rel K H0 Hb H (σ.set i x) (env.set i none) := by
  have key : ∀ (m : Nat) (d : D), (env.set i none)[m]? = some (some d) → i ≠ m := fun m d q z => by
    subst z
    have hi : i < env.length := by
      have := (List.getElem?_eq_some_iff.mp q).1
      rw [List.length_set] at this
      exact this
    rw [List.getElem?_set_self hi] at q
    cases q
  refine ⟨by rw [List.length_set, List.length_set, r.len], fun j e q => ?_, fun j k e e' a ne q1 q2 o1 o2 s1 s2 => ?_⟩
  · have n := key j e q
    rw [List.getElem?_set_ne n] at q
    obtain ⟨w, a, b⟩ := r.val j e q
    exact ⟨w, by rw [List.getElem?_set_ne n]; exact a, b⟩
  · have n1 := key j e q1
    have n2 := key k e' q2
    rw [List.getElem?_set_ne n1] at q1 s1
    rw [List.getElem?_set_ne n2] at q2 s2
    exact r.sep j k e e' a ne q1 q2 o1 o2 s1 s2
end

/-! ### readings -/
def tD (K : PySem.W.Frag) (f : En → Option D) : TE := fun σ H Q => ∃ H0 env Hb d, Rel K H0 Hb H σ env ∧ Same Hb H ∧ f env = some d ∧ ∀ v Hb' H', Step Hb H Hb' H' → Is K Hb' d v → Q v H'
def tT (K : PySem.W.Frag) (f : En → Option Bool) : TT := fun σ H Q => ∃ H0 env Hb b, Rel K H0 Hb H σ env ∧ Same Hb H ∧ f env = some b ∧ ∀ Hb' H', Step Hb H Hb' H' → Q b H'
def tA (K : PySem.W.Frag) (f : En → Option (List D)) : TA := fun σ H Q => ∃ H0 env Hb ds, Rel K H0 Hb H σ env ∧ Same Hb H ∧ f env = some ds ∧ ∀ vs Hb' H', Step Hb H Hb' H' → IsL K Hb' ds vs → Q vs H'
def tO (K : PySem.W.Frag) (f : En → Option (Option Int)) : TO := fun σ H Q => ∃ H0 env Hb o, Rel K H0 Hb H σ env ∧ Same Hb H ∧ f env = some o ∧ ∀ Hb' H', Step Hb H Hb' H' → Q o H'

def f1 (g : D → Option D) (fa : En → Option D) : En → Option D := fun env => (fa env).bind g
def f2 (g : D → D → Option D) (fa fb : En → Option D) : En → Option D := fun env => (fa env).bind fun a => (fb env).bind fun b => g a b
def fV (i : Nat) : En → Option D := fun env => match env[i]? with
  | some (some d) => if d.isOwn then none else some d
  | _ => none
def fC (d : D) : En → Option D := fun _ => some d
def fNil : En → Option (List D) := fun _ => some []
def fCons (fa : En → Option D) (fb : En → Option (List D)) : En → Option (List D) := fun env => (fa env).bind fun a => (fb env).bind fun b => some (a :: b)
def asB : D → Option Bool
  | .bl b => some b
  | _ => none
def asI : D → Option Int
  | .int b => some b
  | _ => none

section
variable {X : Cx} {a b c e : Expr} {es : List Expr} {pos : Pos} {fa fb fc : En → Option D} {fs : En → Option (List D)}

theorem PE_weak {t t' : TE} (h : PE X e t) (w : ∀ σ H Q, t' σ H Q → t σ H Q) : PE X e t' := ⟨fun pins s σ H Q I q => h.run pins s σ H Q I (w σ H Q q)⟩
theorem PT_weak {t t' : TT} (h : PT X e t) (w : ∀ σ H Q, t' σ H Q → t σ H Q) : PT X e t' := ⟨fun pins s σ H Q I q => h.run pins s σ H Q I (w σ H Q q)⟩
theorem PW_weak {t t' : TT} (h : PW X e t) (w : ∀ σ H Q, t' σ H Q → t σ H Q) : PW X e t' := ⟨fun wh pins s σ H Q I q => h.run wh pins s σ H Q I (w σ H Q q)⟩
theorem PA_weak {t t' : TA} (h : PA X es t) (w : ∀ σ H Q, t' σ H Q → t σ H Q) : PA X es t' := ⟨fun p pins s σ H Q I q => h.run p pins s σ H Q I (w σ H Q q)⟩

theorem bind2 {α β γ : Type} {x : Option α} {y : Option β} {g : α → β → Option γ} {z : γ} (h : (x.bind fun a => y.bind fun b => g a b) = some z) : ∃ a b, x = some a ∧ y = some b ∧ g a b = some z := by
  cases x with
  | none => cases h
  | some a =>
    cases y with
    | none => cases h
    | some b => exact ⟨a, b, rfl, rfl, h⟩
theorem bind1 {α γ : Type} {x : Option α} {g : α → Option γ} {z : γ} (h : x.bind g = some z) : ∃ a, x = some a ∧ g a = some z := by
  cases x with
  | none => cases h
  | some a => exact ⟨a, rfl, h⟩

/-- names, constants -/
theorem e_var (i : Nat) {x : Str} (hN : X.N[i]? = some x := by rfl) (hv : Vis X.env.scope x := by first | exact Or.inl rfl | exact Or.inr (Or.inl rfl) | exact Or.inr (Or.inr rfl)) (hd : (x == ("__debug__" : Str)) = false := by decide)
    (hcd : (x == ("__classdict__" : Str)) = false := by decide) : PE X (.Name x pos) (tD X.K (fV i)) := PE_weak (pe_var hN hv hd hcd) fun σ H Q h => by
  obtain ⟨H0, env, Hb, d, r, sm, ef, q⟩ := h
  unfold fV at ef
  cases e1 : env[i]? with
  | none => rw [e1] at ef; cases ef
  | some o =>
    rw [e1] at ef
    cases o with
    | none => cases ef
    | some d' =>
      dsimp only at ef
      cases ho : d'.isOwn with
      | true => rw [ho] at ef; simp at ef
      | false =>
        rw [ho] at ef
        simp at ef
        subst ef
        obtain ⟨v, s1, s2⟩ := r.val i d' e1
        rw [IsS.plain ho] at s2
        exact ⟨v, s1, q v Hb H (Step.refl sm) s2⟩
theorem e_c {d : D} {v : V} (he : PE X e (tC v)) (hv : ∀ H, Is X.K H d v) : PE X e (tD X.K (fC d)) := PE_weak he fun σ H Q h => by
  obtain ⟨H0, env, Hb, d', r, sm, ef, q⟩ := h
  cases ef
  exact q v Hb H (Step.refl sm) (hv Hb)
theorem e_int {i j} : PE X (.Constant (.int i) j pos) (tD X.K (fC (.int i))) := e_c pe_int fun _ => by simp only [Is]
theorem e_bl {i j} : PE X (.Constant (.bool i) j pos) (tD X.K (fC (.bl i))) := e_c pe_bl fun _ => by simp only [Is]
theorem e_non {j} : PE X (.Constant .none j pos) (tD X.K (fC .non)) := e_c pe_non fun _ => by simp only [Is]
theorem e_str (l : List Nat) {x : Str} {j} (h : x = S l := by decide +kernel) : PE X (.Constant (.str x) j pos) (tD X.K (fC (.str l))) := e_c pe_str fun _ => by simp only [Is]; rw [h]
/-- a module's text -/
theorem e_gstr (l : List Nat) {x y : Str} {tk : Tok} (hm : X.mg x = some (.str y tk)) (h : y = S l := by decide +kernel) (hg : Gl X x := by rfl) (hd : (x == ("__debug__" : Str)) = false := by decide) : PE X (.Name x pos) (tD X.K (fC (.str l))) :=
  e_c (v := .str y) (pe_glob hg hm ⟨_, rfl⟩ hd) fun _ => by simp only [Is]; rw [h]
theorem e_gint (i : Int) {x : Str} {tk : Tok} (hm : X.mg x = some (.int i tk)) (hg : Gl X x := by rfl) (hd : (x == ("__debug__" : Str)) = false := by decide) : PE X (.Name x pos) (tD X.K (fC (.int i))) :=
  e_c (v := .int i) (pe_glob hg hm ⟨_, rfl⟩ hd) fun _ => by simp only [Is]

/-! ### operations on values -/
def rD2 (K : PySem.W.Frag) (g : D → D → Option D) : R2 := fun x y H Q => ∃ Hb a b d, Same Hb H ∧ Is K Hb a x ∧ Is K Hb b y ∧ g a b = some d ∧ ∀ v Hb' H', Step Hb H Hb' H' → Is K Hb' d v → Q v H'
def rD1 (K : PySem.W.Frag) (g : D → Option D) : V → Hp → VK → Prop := fun x H Q => ∃ Hb a d, Same Hb H ∧ Is K Hb a x ∧ g a = some d ∧ ∀ v Hb' H', Step Hb H Hb' H' → Is K Hb' d v → Q v H'
def rDA (K : PySem.W.Frag) (g : List D → Option D) : List V → Hp → VK → Prop := fun xs H Q => ∃ Hb ds d, Same Hb H ∧ IsL K Hb ds xs ∧ g ds = some d ∧ ∀ v Hb' H', Step Hb H Hb' H' → Is K Hb' d v → Q v H'

theorem t_op {g : D → D → Option D} {σ : L2.St} {H : Hp} {Q : VK} (h : tD X.K (f2 g fa fb) σ H Q) : tOp (rD2 X.K g) (tD X.K fa) (tD X.K fb) σ H Q := by
  obtain ⟨H0, env, Hb, d, r, sm, ef, q⟩ := h
  obtain ⟨da, db, ea, eb, eg⟩ := bind2 ef
  exact ⟨H0, env, Hb, da, r, sm, ea, fun x Hb1 H1 s1 ix => ⟨H0, env, Hb1, db, r.step s1, s1.c, eb, fun y Hb2 H2 s2 iy =>
    ⟨Hb2, da, db, d, s2.c, ix.mono s2.b, iy, eg, fun v Hb' H' s3 iv => q v Hb' H' (s1.trans (s2.trans s3)) iv⟩⟩⟩
theorem e_op {op : Operator} {g : D → D → Option D} (ho : OpR X (binaryOp op) (rD2 X.K g)) (ha : PE X a (tD X.K fa)) (hb : PE X b (tD X.K fb)) : PE X (.BinOp a op b pos) (tD X.K (f2 g fa fb)) :=
  PE_weak (pe_op ho ha hb) fun _ _ _ h => t_op h
theorem e_un {op : UnaryOp} {g : D → Option D} (ho : UnR X (unaryOp op) (rD1 X.K g)) (ha : PE X a (tD X.K fa)) : PE X (.UnaryOp op a pos) (tD X.K (f1 g fa)) :=
  PE_weak (pe_un ho ha) fun σ H Q h => by
    obtain ⟨H0, env, Hb, d, r, sm, ef, q⟩ := h
    obtain ⟨da, ea, eg⟩ := bind1 ef
    exact ⟨H0, env, Hb, da, r, sm, ea, fun x Hb1 H1 s1 ix => ⟨Hb1, da, d, s1.c, ix, eg, fun v Hb' H' s3 iv => q v Hb' H' (s1.trans s3) iv⟩⟩
theorem e_cmp {op : CmpOp} {g : D → D → Option D} (ho : OpR X (compareOp op) (rD2 X.K g)) (ha : PE X a (tD X.K fa)) (hb : PE X b (tD X.K fb)) (hm : behindInMarks op b = false := by first | exact nobehind _ (by decide) (by decide) | rfl) :
    PE X (.Compare a [op] [b] pos) (tD X.K (f2 g fa fb)) := PE_weak (pe_cmpR ho ha hb hm) fun _ _ _ h => t_op h
/-- a <= b < c -/
def fChain (g g' : D → D → Option D) (fa fb fc : En → Option D) : En → Option D := fun env => (fa env).bind fun a => (fb env).bind fun b => (g a b).bind fun z => (asB z).bind fun k => if k then (fc env).bind fun c => g' b c else some (.bl false)
theorem asB_some {d : D} {b : Bool} (h : asB d = some b) : d = .bl b := by
  cases d <;> first | (cases h; rfl) | cases h
theorem asI_some {d : D} {b : Int} (h : asI d = some b) : d = .int b := by
  cases d <;> first | (cases h; rfl) | cases h
theorem e_chain {op op' : CmpOp} {g g' : D → D → Option D} (ho : OpR X (compareOp op) (rD2 X.K g)) (ho' : OpR X (compareOp op') (rD2 X.K g')) (ha : PE X a (tD X.K fa)) (hb : PE X b (tD X.K fb)) (hc : PE X c (tD X.K fc))
    (hm : lastMarks [op, op'] [b, c] = false := by with_unfolding_all rfl) : PE X (.Compare a [op, op'] [b, c] pos) (tD X.K (fChain g g' fa fb fc)) :=
  PE_weak (pe_chain ho ho' ha hb hc hm) fun σ H Q h => by
    obtain ⟨H0, env, Hb, d, r, sm, ef, q⟩ := h
    obtain ⟨da, ea, ef⟩ := bind1 ef
    obtain ⟨db, eb, ef⟩ := bind1 ef
    obtain ⟨z, ez, ef⟩ := bind1 ef
    obtain ⟨k, ek, eg⟩ := bind1 ef
    have hz := asB_some ek
    subst hz
    refine ⟨H0, env, Hb, da, r, sm, ea, fun x Hb1 H1 s1 ix => ⟨H0, env, Hb1, db, r.step s1, s1.c, eb, fun y Hb2 H2 s2 iy => ⟨Hb2, da, db, .bl k, s2.c, ix.mono s2.b, iy, ez, fun v Hb3 H3 s3 iv => ⟨k, by simpa only [Is] using iv, ?_⟩⟩⟩⟩
    cases k with
    | false =>
      simp at eg
      subst eg
      exact q _ Hb3 H3 (s1.trans (s2.trans s3)) (by simp only [Is])
    | true =>
      obtain ⟨dc, ec, eg⟩ := bind1 eg
      exact ⟨H0, env, Hb3, dc, ((r.step s1).step s2).step s3, s3.c, ec, fun w Hb4 H4 s4 iw => ⟨Hb4, db, dc, d, s4.c, (iy.mono s3.b).mono s4.b, iw, eg, fun v' Hb' H' s5 iv' => q v' Hb' H' (s1.trans (s2.trans (s3.trans (s4.trans s5)))) iv'⟩⟩

/-! ### argument lists, displays -/
theorem a_nil : PA X [] (tA X.K fNil) := PA_weak pa_nil fun σ H Q h => by
  obtain ⟨H0, env, Hb, d, r, sm, ef, q⟩ := h
  cases ef
  exact q [] Hb H (Step.refl sm) (by simp only [IsL])
theorem a_cons (ha : PE X e (tD X.K fa)) (hr : PA X es (tA X.K fs)) (hs : starEach (e :: es) X.env = (false, eval e X.env) :: starEach es X.env := by rfl) : PA X (e :: es) (tA X.K (fCons fa fs)) :=
  PA_weak (pa_cons ha hr hs) fun σ H Q h => by
    obtain ⟨H0, env, Hb, ds, r, sm, ef, q⟩ := h
    obtain ⟨da, db, ea, eb, eg⟩ := bind2 ef
    cases eg
    exact ⟨H0, env, Hb, da, r, sm, ea, fun x Hb1 H1 s1 ix => ⟨H0, env, Hb1, db, r.step s1, s1.c, eb, fun xs Hb2 H2 s2 ixs =>
      q (x :: xs) Hb2 H2 (s1.trans s2) (by simp only [IsL]; exact ⟨x, xs, rfl, ix.mono s2.b, ixs⟩)⟩⟩
def fTup (fs : En → Option (List D)) : En → Option D := fun env => (fs env).bind fun ds => if ds.length ≤ sizeLine then some (.tup ds) else none
def fLst (fs : En → Option (List D)) : En → Option D := fun env => (fs env).bind fun ds => if ds.length ≤ sizeLine then some (.lst ds) else none
theorem iteS {α : Type} {c : Prop} [Decidable c] {x y : α} (h : (if c then some x else none) = some y) : c ∧ x = y := by
  by_cases q : c
  · rw [if_pos q] at h
    exact ⟨q, Option.some.inj h⟩
  · rw [if_neg q] at h
    cases h
theorem is_tup_new {K : PySem.W.Frag} {Hb : Hp} {p : Addr} {ds : List D} {vs : List V} {o : Obj} (ho : o.dict = none) (hp : Hb p = none) (h : IsL K Hb ds vs) : Is K (upd Hb p (.frz o (.tup vs))) (.tup ds) (.ref p) := by
  simp only [Is]
  exact ⟨p, vs, rfl, .inl ⟨o, ho, upd_same⟩, h.mono (same_new hp)⟩
theorem is_wk_new {K : PySem.W.Frag} {Hb : Hp} {p : Addr} {ds : List D} {vs : List V} (hp : Hb p = none) (h : IsL K Hb ds vs) : Is K (upd Hb p (.tup vs)) (.wk ds) (.ref p) := by
  simp only [Is]
  exact ⟨p, vs, rfl, .inl (.inl upd_same), h.mono (same_new hp)⟩
/-- a tuple laid at the heap's end -/
theorem inv_newT {X : Cx} {pins : List (Addr × Obj)} {σ : L2.St} {H : Hp} {s : Shared} {vs : List V} {its : List Value} (I : Inv X pins σ H s) (r : Vals vs its) (hz : vs.length ≤ sizeLine) :
    ∃ o : Obj, o.dict = none ∧ Inv X pins σ (upd H s.heap.objs.size (.frz o (.tup vs))) { s with heap := s.heap.push { cls := .type "tuple", data := .seq its.toArray } } := by
  refine ⟨{ cls := .type "tuple", data := .seq its.toArray }, rfl, ?_⟩
  exact I.laid (t' := s.toks) (fun _ _ q => Heap.get?_push_of_some _ q) (Nat.le_refl _) ⟨Heap.get?_push_size _ rfl, hz, its, r, PyProof.Rows.IsTup.new _ _⟩
/-- (a, b, ..) -/
def rNewT (t : TA) : TE := fun σ H Q => t σ H fun vs H1 => vs.length ≤ sizeLine ∧ ∀ p o, H1 p = none → o.dict = none → Q (.ref p) (upd H1 p (.frz o (.tup vs)))
theorem pe_tupN {X : Cx} {es : List Expr} {pos : Pos} {t : TA} {x1} (h : PA X es t) : PE X (.Tuple es x1 pos) (rNewT t) := ⟨fun pins s σ H Q I hq => by
  refine wpAny_Tuple_spliced (thn (h.run pos pins s σ H _ I hq) fun us s1 w => ?_)
  obtain ⟨vs, H1, I1, r, z, q⟩ := w
  obtain ⟨o, ho, I2⟩ := inv_newT I1 r z
  exact ⟨by rw [← r.length]; exact z, .ref s1.heap.objs.size, _, I2, rfl, q _ o (I1.hok.fresh (Nat.le_refl _)) ho⟩⟩
theorem is_lst_new {K : PySem.W.Frag} {Hb : Hp} {p : Addr} {ds : List D} {vs : List V} (hp : Hb p = none) (h : IsL K Hb ds vs) : Is K (upd Hb p (.lst vs)) (.lst ds) (.ref p) := by
  simp only [Is]
  exact ⟨p, vs, rfl, upd_same, h.mono (same_new hp)⟩
theorem e_tup {x1} (h : PA X es (tA X.K fs)) : PE X (.Tuple es x1 pos) (tD X.K (fTup fs)) := PE_weak (pe_tupN h) fun σ H Q hh => by
  obtain ⟨H0, env, Hb, d, r, sm, ef, q⟩ := hh
  obtain ⟨ds, es, eg⟩ := bind1 ef
  obtain ⟨hl, rfl⟩ := iteS eg
  exact ⟨H0, env, Hb, ds, r, sm, es, fun vs Hb1 H1 s1 ix => ⟨by rw [ix.length]; exact hl, fun p o hp ho => q _ _ _ (s1.trans (Step.new s1.c hp)) (is_tup_new ho (s1.c.free hp) ix)⟩⟩
theorem e_lst (h : PA X es (tA X.K fs)) : PE X (.List es pos) (tD X.K (fLst fs)) := PE_weak (pe_lst h) fun σ H Q hh => by
  obtain ⟨H0, env, Hb, d, r, sm, ef, q⟩ := hh
  obtain ⟨ds, es, eg⟩ := bind1 ef
  obtain ⟨hl, rfl⟩ := iteS eg
  exact ⟨H0, env, Hb, ds, r, sm, es, fun vs Hb1 H1 s1 ix => ⟨by rw [ix.length]; exact hl, fun p hp => q _ _ _ (s1.trans (Step.new s1.c hp)) (is_lst_new (s1.c.free hp) ix)⟩⟩

/-! ### tests -/
def fB (fa : En → Option D) : En → Option Bool := fun env => (fa env).bind asB
def fAnd (fa fb : En → Option Bool) : En → Option Bool := fun env => (fa env).bind fun k => if k then fb env else some false
def fOr (fa fb : En → Option Bool) : En → Option Bool := fun env => (fa env).bind fun k => if k then some true else fb env
def fNot (fa : En → Option Bool) : En → Option Bool := fun env => (fa env).bind fun k => some (!k)
variable {ga gb : En → Option Bool} {rest : List Expr}
theorem tB_of {σ : L2.St} {H : Hp} {Q : Bool → Hp → Prop} (h : tT X.K (fB fa) σ H Q) : tB (tD X.K fa) σ H Q := by
  obtain ⟨H0, env, Hb, k, r, sm, ef, q⟩ := h
  obtain ⟨d, ed, eb⟩ := bind1 ef
  have hd := asB_some eb
  subst hd
  exact ⟨H0, env, Hb, _, r, sm, ed, fun v Hb' H' s iv => ⟨k, by simpa only [Is] using iv, q Hb' H' s⟩⟩
theorem t_val (h : PE X e (tD X.K fa)) (he : ∀ whole, isTrue e X.env whole = (do let v ← whole; standAt e.pos; holding [v] (truthy v)) := by intro _; rfl) : PT X e (tT X.K (fB fa)) :=
  PT_weak (pt_val h he) fun _ _ _ h => tB_of h
theorem t_cmp {op : CmpOp} {g : D → D → Option D} (ho : OpR X (compareOp op) (rD2 X.K g)) (ha : PE X a (tD X.K fa)) (hb : PE X b (tD X.K fb)) (hm : behindInMarks op b = false := by first | exact nobehind _ (by decide) (by decide) | rfl) :
    PT X (.Compare a [op] [b] pos) (tT X.K (fB (f2 g fa fb))) := PT_weak (pt_cmpR ho ha hb hm) fun σ H Q h => by
  obtain ⟨H0, env, Hb, k, r, sm, ef, q⟩ := h
  obtain ⟨d, ed, eb⟩ := bind1 ef
  have hd := asB_some eb
  subst hd
  exact t_op ⟨H0, env, Hb, _, r, sm, ed, fun v Hb' H' s iv => ⟨k, by simpa only [Is] using iv, q Hb' H' s⟩⟩
theorem t_and1 (ha : PT X a (tT X.K ga)) : PW X (.BoolOp .And [a] pos) (tT X.K ga) := pw_and1 ha
theorem t_or1 (ha : PT X a (tT X.K ga)) : PW X (.BoolOp .Or [a] pos) (tT X.K ga) := pw_or1 ha
theorem t_and (ha : PT X a (tT X.K ga)) (hb : PW X (.BoolOp .And (b :: rest) pos) (tT X.K gb)) : PW X (.BoolOp .And (a :: b :: rest) pos) (tT X.K (fAnd ga gb)) := PW_weak (pw_and ha hb) fun σ H Q h => by
  obtain ⟨H0, env, Hb, k, r, sm, ef, q⟩ := h
  obtain ⟨c, ec, eg⟩ := bind1 ef
  refine ⟨H0, env, Hb, c, r, sm, ec, fun Hb1 H1 s1 => ?_⟩
  cases c with
  | false =>
    simp at eg
    subst eg
    exact q Hb1 H1 s1
  | true =>
    simp at eg
    exact ⟨H0, env, Hb1, k, r.step s1, s1.c, eg, fun Hb2 H2 s2 => q Hb2 H2 (s1.trans s2)⟩
theorem t_or (ha : PT X a (tT X.K ga)) (hb : PW X (.BoolOp .Or (b :: rest) pos) (tT X.K gb)) : PW X (.BoolOp .Or (a :: b :: rest) pos) (tT X.K (fOr ga gb)) := PW_weak (pw_or ha hb) fun σ H Q h => by
  obtain ⟨H0, env, Hb, k, r, sm, ef, q⟩ := h
  obtain ⟨c, ec, eg⟩ := bind1 ef
  refine ⟨H0, env, Hb, c, r, sm, ec, fun Hb1 H1 s1 => ?_⟩
  cases c with
  | true =>
    simp at eg
    subst eg
    exact q Hb1 H1 s1
  | false =>
    simp at eg
    exact ⟨H0, env, Hb1, k, r.step s1, s1.c, eg, fun Hb2 H2 s2 => q Hb2 H2 (s1.trans s2)⟩
theorem t_not (ha : PT X a (tT X.K ga)) : PT X (.UnaryOp .Not a pos) (tT X.K (fNot ga)) := PT_weak (pt_not ha) fun σ H Q h => by
  obtain ⟨H0, env, Hb, k, r, sm, ef, q⟩ := h
  obtain ⟨c, ec, eg⟩ := bind1 ef
  cases eg
  exact ⟨H0, env, Hb, c, r, sm, ec, fun Hb1 H1 s1 => q Hb1 H1 s1⟩
/-- as values -/
def fAndV (fa fb : En → Option D) : En → Option D := fun env => ((fa env).bind asB).bind fun k => if k then fb env else some (.bl false)
def fOrV (fa fb : En → Option D) : En → Option D := fun env => ((fa env).bind asB).bind fun k => if k then some (.bl true) else fb env
def fNotV (fa : En → Option D) : En → Option D := fun env => ((fa env).bind asB).bind fun k => some (.bl (!k))
def fIf (fc : En → Option Bool) (fa fb : En → Option D) : En → Option D := fun env => (fc env).bind fun k => if k then fa env else fb env
theorem e_and (ha : PE X a (tD X.K fa)) (hb : PE X (.BoolOp .And (b :: rest) pos) (tD X.K fb)) : PE X (.BoolOp .And (a :: b :: rest) pos) (tD X.K (fAndV fa fb)) := PE_weak (pe_and ha hb) fun σ H Q h => by
  obtain ⟨H0, env, Hb, d, r, sm, ef, q⟩ := h
  obtain ⟨c, ec, eg⟩ := bind1 ef
  obtain ⟨z, ez, ec⟩ := bind1 ec
  have hz := asB_some ec
  subst hz
  refine ⟨H0, env, Hb, _, r, sm, ez, fun v Hb1 H1 s1 iv => ⟨c, by simpa only [Is] using iv, ?_⟩⟩
  cases c with
  | false =>
    simp at eg
    subst eg
    exact q _ Hb1 H1 s1 (by simp only [Is])
  | true =>
    simp at eg
    exact ⟨H0, env, Hb1, d, r.step s1, s1.c, eg, fun v' Hb2 H2 s2 iv' => q v' Hb2 H2 (s1.trans s2) iv'⟩
theorem e_or (ha : PE X a (tD X.K fa)) (hb : PE X (.BoolOp .Or (b :: rest) pos) (tD X.K fb)) : PE X (.BoolOp .Or (a :: b :: rest) pos) (tD X.K (fOrV fa fb)) := PE_weak (pe_or ha hb) fun σ H Q h => by
  obtain ⟨H0, env, Hb, d, r, sm, ef, q⟩ := h
  obtain ⟨c, ec, eg⟩ := bind1 ef
  obtain ⟨z, ez, ec⟩ := bind1 ec
  have hz := asB_some ec
  subst hz
  refine ⟨H0, env, Hb, _, r, sm, ez, fun v Hb1 H1 s1 iv => ⟨c, by simpa only [Is] using iv, ?_⟩⟩
  cases c with
  | true =>
    simp at eg
    subst eg
    exact q _ Hb1 H1 s1 (by simp only [Is])
  | false =>
    simp at eg
    exact ⟨H0, env, Hb1, d, r.step s1, s1.c, eg, fun v' Hb2 H2 s2 iv' => q v' Hb2 H2 (s1.trans s2) iv'⟩
theorem e_one {op} (ha : PE X a (tD X.K fa)) : PE X (.BoolOp op [a] pos) (tD X.K fa) := pe_one ha
theorem e_not (ha : PE X a (tD X.K fa)) : PE X (.UnaryOp .Not a pos) (tD X.K (fNotV fa)) := PE_weak (pe_not ha) fun σ H Q h => by
  obtain ⟨H0, env, Hb, d, r, sm, ef, q⟩ := h
  obtain ⟨c, ec, eg⟩ := bind1 ef
  obtain ⟨z, ez, ec⟩ := bind1 ec
  have hz := asB_some ec
  subst hz
  cases eg
  exact ⟨H0, env, Hb, _, r, sm, ez, fun v Hb1 H1 s1 iv => ⟨c, by simpa only [Is] using iv, q _ Hb1 H1 s1 (by simp only [Is])⟩⟩
theorem e_if {fc : En → Option Bool} (hc : PT X c (tT X.K fc)) (ha : PE X a (tD X.K fa)) (hb : PE X b (tD X.K fb)) : PE X (.IfExp c a b pos) (tD X.K (fIf fc fa fb)) := PE_weak (pe_ifExp hc ha hb) fun σ H Q h => by
  obtain ⟨H0, env, Hb, d, r, sm, ef, q⟩ := h
  obtain ⟨k, ec, eg⟩ := bind1 ef
  refine ⟨H0, env, Hb, _, r, sm, ec, fun Hb1 H1 s1 => ?_⟩
  cases k with
  | true =>
    simp at eg
    exact ⟨H0, env, Hb1, d, r.step s1, s1.c, eg, fun v' Hb2 H2 s2 iv' => q v' Hb2 H2 (s1.trans s2) iv'⟩
  | false =>
    simp at eg
    exact ⟨H0, env, Hb1, d, r.step s1, s1.c, eg, fun v' Hb2 H2 s2 iv' => q v' Hb2 H2 (s1.trans s2) iv'⟩
end
end Dn
set_option Elab.async false
set_option linter.all false
set_option maxRecDepth 100000
/-! Part B: operations on plain data. -/
namespace Dn
open PySem L2

/-! ### the library's own data -/
mutual
def toP : D → PyData
  | .non => .none
  | .bl b => .bool b
  | .int i => .int i
  | .str l => .str (S l)
  | .tup ds => .tuple (toPs ds)
  | .lst ds => .list (toPs ds)
  | .scr _ => .none
  | .adr _ => .none
  | .dct _ => .none
  | .own _ => .none
  | .ownd _ => .none
  | .wk _ => .none
def toPs : List D → List PyData
  | [] => []
  | d :: ds => toP d :: toPs ds
end
def flat : D → Bool
  | .non => true
  | .bl _ => true
  | .int _ => true
  | .str _ => true
  | _ => false
def okN : Nat → D → Bool
  | 0, d => flat d
  | n + 1, .tup xs => xs.all fun x => okN n x
  | n + 1, .lst xs => xs.all fun x => okN n x
  | _ + 1, d => flat d
theorem toPs_map : ∀ ds : List D, toPs ds = ds.map toP
  | [] => rfl
  | d :: ds => by rw [toPs, toPs_map ds, List.map_cons]
mutual
theorem plain_toP : ∀ d : D, (toP d).plain = true
  | .non => by simp only [toP, PyData.plain]
  | .bl _ => by simp only [toP, PyData.plain]
  | .int _ => by simp only [toP, PyData.plain]
  | .str _ => by simp only [toP, PyData.plain]
  | .scr _ => by simp only [toP, PyData.plain]
  | .adr _ => by simp only [toP, PyData.plain]
  | .dct _ => by simp only [toP, PyData.plain]
  | .own _ => by simp only [toP, PyData.plain]
  | .ownd _ => by simp only [toP, PyData.plain]
  | .wk _ => by simp only [toP, PyData.plain]
  | .tup ds => by simp only [toP, PyData.plain]; exact plain_toPs ds
  | .lst ds => by simp only [toP, PyData.plain]; exact plain_toPs ds
theorem plain_toPs : ∀ ds : List D, PyData.plainAll (toPs ds) = true
  | [] => by simp only [toPs, PyData.plainAll]
  | d :: ds => by simp only [toPs, PyData.plainAll, plain_toP d, plain_toPs ds, Bool.and_self]
end
theorem flat_shape {d : D} (h : flat d = true) : d = .non ∨ (∃ b, d = .bl b) ∨ (∃ i, d = .int i) ∨ ∃ l, d = .str l := by
  cases d <;> first | (simp [flat] at h; done) | simp
theorem dp_flat {K : PySem.W.Frag} {H : Hp} {d : D} {v : V} (f : flat d = true) (h : Is K H d v) : Dp K H v (toP d) ∧ (toP d).depth = 0 := by
  rcases flat_shape f with e | ⟨b, e⟩ | ⟨b, e⟩ | ⟨b, e⟩ <;> subst e <;> simp only [Is] at h <;> subst h <;> simp only [toP]
  · exact ⟨.non, by simp only [PyData.depth]⟩
  · exact ⟨.bl _, by simp only [PyData.depth]⟩
  · exact ⟨.int _, by simp only [PyData.depth]⟩
  · exact ⟨.str _, by simp only [PyData.depth]⟩
theorem dp_all {K : PySem.W.Frag} {H : Hp} {n : Nat} (ih : ∀ (d : D) (v : V), okN n d = true → Is K H d v → Dp K H v (toP d) ∧ (toP d).depth ≤ n) :
    ∀ {ds : List D} {vs : List V}, (ds.all fun x => okN n x) = true → IsL K H ds vs → DpAll K H vs (toPs ds) ∧ PyData.depthAll (toPs ds) ≤ n
  | [], vs, _, h => by
    simp only [IsL] at h
    subst h
    simp only [toPs, PyData.depthAll]
    exact ⟨.nil, Nat.zero_le _⟩
  | d :: ds, vs, ok, h => by
    simp only [IsL] at h
    obtain ⟨v, r, e1, e2, e3⟩ := h
    subst e1
    rw [List.all_cons, Bool.and_eq_true] at ok
    obtain ⟨a1, a2⟩ := ih d v ok.1 e2
    obtain ⟨b1, b2⟩ := dp_all ih ok.2 e3
    simp only [toPs, PyData.depthAll]
    exact ⟨.cons a1 b1, Nat.max_le.mpr ⟨a2, b2⟩⟩
theorem dp_of {K : PySem.W.Frag} {H : Hp} : ∀ (n : Nat) (d : D) (v : V), okN n d = true → Is K H d v → Dp K H v (toP d) ∧ (toP d).depth ≤ n
  | 0, d, v, ok, h => by
    obtain ⟨a, b⟩ := dp_flat (show flat d = true from ok) h
    exact ⟨a, by omega⟩
  | n + 1, .tup ds, v, ok, h => by
    simp only [Is] at h
    obtain ⟨a, vs, e1, e2, e3⟩ := h
    subst e1
    obtain ⟨c1, c2⟩ := dp_all (dp_of n) (show (ds.all fun x => okN n x) = true from ok) e3
    simp only [toP, PyData.depth]
    exact ⟨.tup e2.sq c1, by omega⟩
  | n + 1, .lst ds, v, ok, h => by
    simp only [Is] at h
    obtain ⟨a, vs, e1, e2, e3⟩ := h
    subst e1
    obtain ⟨c1, c2⟩ := dp_all (dp_of n) (show (ds.all fun x => okN n x) = true from ok) e3
    simp only [toP, PyData.depth]
    exact ⟨.lst (.inl (.inl e2)) c1, by omega⟩
  | n + 1, .non, v, ok, h => by
    obtain ⟨a, b⟩ := dp_flat (show flat .non = true from ok) h
    exact ⟨a, by omega⟩
  | n + 1, .bl b, v, ok, h => by
    obtain ⟨a, b⟩ := dp_flat (show flat (.bl b) = true from ok) h
    exact ⟨a, by omega⟩
  | n + 1, .int b, v, ok, h => by
    obtain ⟨a, b⟩ := dp_flat (show flat (.int b) = true from ok) h
    exact ⟨a, by omega⟩
  | n + 1, .str b, v, ok, h => by
    obtain ⟨a, b⟩ := dp_flat (show flat (.str b) = true from ok) h
    exact ⟨a, by omega⟩
  | n + 1, .scr _, v, ok, h => absurd (show false = true from ok) (by decide)
  | n + 1, .adr _, v, ok, h => absurd (show false = true from ok) (by decide)
  | n + 1, .dct _, v, ok, h => absurd (show false = true from ok) (by decide)
  | n + 1, .own _, v, ok, h => absurd (show false = true from ok) (by decide)
  | n + 1, .ownd _, v, ok, h => absurd (show false = true from ok) (by decide)
  | n + 1, .wk _, v, ok, h => absurd (show false = true from ok) (by decide)
abbrev ok60 (d : D) : Bool := okN 60 d
def eqv (a b : D) : Bool := PyData.eqv (toP a) (toP b)

/-! ### the functions -/
def addD : D → D → Option D
  | .int i, .int j => some (.int (i + j))
  | .str x, .str y => if x.length + y.length ≤ sizeLine then some (.str (x ++ y)) else none
  | .tup x, .tup y => if x.length + y.length ≤ sizeLine then some (.tup (x ++ y)) else none
  | .lst x, .lst y => if x.length + y.length ≤ sizeLine then some (.lst (x ++ y)) else none
  | _, _ => none
def subD : D → D → Option D
  | .int i, .int j => some (.int (i - j))
  | _, _ => none
def reps {α : Type} (x : List α) (n : Nat) : List α := (List.replicate n x).flatten
def mulD : D → D → Option D
  | .int i, .int j => if (-(2 ^ 64) < i ∧ i < 2 ^ 64) ∨ (-(2 ^ 64) < j ∧ j < 2 ^ 64) then some (.int (i * j)) else none
  | .str x, .int n => if x.length ≤ 1000000 ∧ -1000000 ≤ n ∧ n ≤ 1000000 ∧ x.length * n.toNat ≤ 1000000 then some (.str (reps x n.toNat)) else none
  | .lst x, .int n => if x.length ≤ 1000000 ∧ -1000000 ≤ n ∧ n ≤ 1000000 ∧ x.length * n.toNat ≤ 1000000 then some (.lst (reps x n.toNat)) else none
  | .tup x, .int n => if x ≠ [] ∧ x.length ≤ 1000 ∧ 2 ≤ n ∧ n ≤ 1000 then some (.wk (reps x n.toNat)) else none
  | _, _ => none
def fdivD : D → D → Option D
  | .int i, .int j => if 0 < j ∧ j < 1073741824 then some (.int (i / j)) else none
  | _, _ => none
def modD : D → D → Option D
  | .int i, .int j => if 0 < j then some (.int (i % j)) else none
  | _, _ => none
def powD : D → D → Option D
  | .int i, .int j => if 0 ≤ j ∧ j ≤ 1000000 ∧ i.natAbs < 2 ^ 64 then some (.int (i ^ j.toNat)) else none
  | _, _ => none
def negD : D → Option D
  | .int i => some (.int (-i))
  | _ => none
def eqD (a b : D) : Option D := if ok60 a = true ∧ ok60 b = true then some (.bl (eqv a b)) else none
def neD (a b : D) : Option D := if ok60 a = true ∧ ok60 b = true then some (.bl (!eqv a b)) else none
def ltD : D → D → Option D
  | .int i, .int j => some (.bl (decide (i < j)))
  | .str i, .str j => some (.bl (decide (i < j)))
  | _, _ => none
def leD : D → D → Option D
  | .int i, .int j => some (.bl (decide (i ≤ j)))
  | .str i, .str j => some (.bl (!decide (j < i)))
  | _, _ => none
def gtD : D → D → Option D
  | .int i, .int j => some (.bl (decide (j < i)))
  | .str i, .str j => some (.bl (decide (j < i)))
  | _, _ => none
def geD : D → D → Option D
  | .int i, .int j => some (.bl (decide (j ≤ i)))
  | .str i, .str j => some (.bl (!decide (i < j)))
  | _, _ => none
/-- x in c: a sign in a text, a thing in a tuple or list, a text in a dict -/
def inB : D → D → Option Bool
  | .str [c], .str z => some (decide (c ∈ z))
  | .str k, .dct kvs => some (kvs.any fun p => decide (p.1 = k))
  | x, .tup ds => if ok60 x = true ∧ (ds.all fun d => okN 60 d) = true then some (ds.any fun d => eqv d x) else none
  | x, .lst ds => if ok60 x = true ∧ (ds.all fun d => okN 60 d) = true then some (ds.any fun d => eqv d x) else none
  | _, _ => none
def inD (x c : D) : Option D := (inB x c).bind fun k => some (.bl k)
def ninD (x c : D) : Option D := (inB x c).bind fun k => some (.bl (!k))
def isD : D → D → Option D
  | .bl a, .bl b => some (.bl (decide (a = b)))
  | d, .non => match d with
    | .own _ => none
    | .ownd _ => none
    | .non => some (.bl true)
    | _ => some (.bl false)
  | _, _ => none
def isnD : D → D → Option D
  | .bl a, .bl b => some (.bl (!decide (a = b)))
  | d, .non => match d with
    | .own _ => none
    | .ownd _ => none
    | .non => some (.bl false)
    | _ => some (.bl true)
  | _, _ => none
def ixD : D → D → Option D
  | .tup xs, .int i => atI xs i
  | .lst xs, .int i => atI xs i
  | .str l, .int i => if l.length ≤ sizeLine then (atI l i).bind fun c => some (.str [c]) else none
  | .scr ns, .int i => (atI ns i).bind fun n => some (.int n)
  | _, _ => none
def cut {α : Type} (xs : List α) (lo hi : Option Int) : List α := (xs.drop (HT.sIx xs.length 0 lo)).take (HT.sIx xs.length xs.length hi - HT.sIx xs.length 0 lo)
def slD : D → Option Int → Option Int → Option D
  | .tup xs, lo, hi => some (.tup (cut xs lo hi))
  | .lst xs, lo, hi => some (.lst (cut xs lo hi))
  | .str l, lo, hi => if l.length ≤ sizeLine then some (.str (cut l lo hi)) else none
  | _, _, _ => none

section
variable {X : Cx}
theorem is_up {K : PySem.W.Frag} {Hb H : Hp} (sm : Same Hb H) {d : D} {v : V} (h : Is K Hb d v) : Is K H d v := h.mono sm

theorem S_len (l : List Nat) : (S l).length = l.length := by simp [S, Str.length]
theorem S_app (a b : List Nat) : S a ++ S b = S (a ++ b) := SX.S_cat a b
/-- t + u: either may be empty -/
def rCatN (K : PySem.W.Frag) : R2 := fun x y H Q => ∃ a b xs ys, x = .ref a ∧ y = .ref b ∧ SqT K H a xs ∧ SqT K H b ys ∧ xs.length + ys.length ≤ sizeLine ∧
  (xs = [] → Q (.ref b) H) ∧ (xs ≠ [] → ys = [] → Q (.ref a) H) ∧ (∀ p o, H p = none → o.dict = none → Q (.ref p) (upd H p (.frz o (.tup (xs ++ ys)))))
theorem op_catN : OpR X (binaryOp .Add) (rCatN X.K) := by
  intro pins s σ H x y v u Q I rx ry h
  obtain ⟨a, b, xs, ys, rfl, rfl, ha, hb, hz, q0, q1, q2⟩ := h
  have hx := Classical.em (xs = [])
  cases rx
  cases ry
  obtain ⟨us, r1, p1, _⟩ := I.tuple ha
  obtain ⟨ws, r2, p2, _⟩ := I.tuple hb
  rcases hx with rfl | hx
  · cases r1
    exact cat_tup0 p1 p2 ⟨.ref b, H, I, rfl, q0 rfl⟩
  · refine HT.cat_tup p1 p2 (mt r1.nil_iff.mp hx) (fun z => ⟨.ref a, H, I, rfl, q1 hx (r2.nil_iff.mp z)⟩) (fun _ => ?_) (by rw [← r1.length, ← r2.length]; exact hz)
    obtain ⟨o, ho, I2⟩ := inv_newT I (r1.append r2) (by rw [List.length_append]; exact hz)
    exact ⟨.ref s.heap.objs.size, _, I2, rfl, q2 _ o (I.hok.fresh (Nat.le_refl _)) ho⟩
theorem o_add : OpR X (binaryOp .Add) (rD2 X.K addD) := by
  intro pins s σ H x y v u Q I rx ry h
  obtain ⟨Hb, a, b, d, sm, ia, ib, eg, q⟩ := h
  unfold addD at eg
  split at eg
  · simp only [Is] at ia ib
    subst ia ib
    cases eg
    exact op_add pins s σ H _ _ v u Q I rx ry ⟨_, _, rfl, rfl, q _ Hb H (Step.refl sm) (by simp only [Is])⟩
  · simp only [Is] at ia ib
    subst ia ib
    obtain ⟨hl, rfl⟩ := iteS eg
    refine op_add_str pins s σ H _ _ v u Q I rx ry ⟨_, _, rfl, rfl, by rw [S_len, S_len]; exact hl, ?_⟩
    rw [S_app]
    exact q _ Hb H (Step.refl sm) (by simp only [Is])
  · have ia' := is_up sm ia
    have ib' := is_up sm ib
    simp only [Is] at ia ib ia' ib'
    obtain ⟨p, xs, rfl, hx, lx⟩ := ia
    obtain ⟨p', ys, rfl, hy, ly⟩ := ib
    obtain ⟨hl, rfl⟩ := iteS eg
    refine op_catN pins s σ H _ _ v u Q I rx ry ⟨p, p', xs, ys, rfl, rfl, (hx.mono sm).sq, (hy.mono sm).sq, by rw [lx.length, ly.length]; exact hl, fun e => ?_, fun e1 e2 => ?_, fun r o hr ho => ?_⟩
    · refine q _ Hb H (Step.refl sm) ?_
      simp only [Is]
      have := lx.append ly
      rw [e] at this
      exact ⟨p', ys, rfl, hy, this⟩
    · refine q _ Hb H (Step.refl sm) ?_
      simp only [Is]
      have := lx.append ly
      rw [e2, List.append_nil] at this
      exact ⟨p, xs, rfl, hx, this⟩
    · exact q _ _ _ (Step.new sm hr) (is_tup_new ho (sm.free hr) (lx.append ly))
  · simp only [Is] at ia ib
    obtain ⟨p, xs, rfl, hx, lx⟩ := ia
    obtain ⟨p', ys, rfl, hy, ly⟩ := ib
    obtain ⟨hl, rfl⟩ := iteS eg
    exact op_cat pins s σ H _ _ v u Q I rx ry ⟨p, p', xs, ys, rfl, rfl, sm _ _ hx, sm _ _ hy, by rw [lx.length, ly.length]; exact hl, fun r hr => q _ _ _ (Step.new sm hr) (is_lst_new (sm.free hr) (lx.append ly))⟩
  · cases eg
theorem o_sub : OpR X (binaryOp .Sub) (rD2 X.K subD) := by
  intro pins s σ H x y v u Q I rx ry h
  obtain ⟨Hb, a, b, d, sm, ia, ib, eg, q⟩ := h
  unfold subD at eg
  split at eg
  · simp only [Is] at ia ib
    subst ia ib
    cases eg
    exact op_sub pins s σ H _ _ v u Q I rx ry ⟨_, _, rfl, rfl, q _ Hb H (Step.refl sm) (by simp only [Is])⟩
  · cases eg
theorem size1000 : 1000000 ≤ sizeLine := by decide
theorem reps_len {α : Type} (x : List α) (n : Nat) : (reps x n).length = n * x.length := by
  unfold reps
  induction n with
  | zero => simp
  | succ n ih => rw [List.replicate_succ, List.flatten_cons, List.length_append, ih, Nat.succ_mul, Nat.add_comm]
theorem fold_cat (z : Array Nat) : ∀ (n : Nat) (acc : List Nat), ((List.replicate n z).foldl (· ++ ·) acc.toArray) = (acc ++ (List.replicate n z.toList).flatten).toArray
  | 0, acc => by simp
  | n + 1, acc => by
    rw [List.replicate_succ, List.foldl_cons, List.replicate_succ, List.flatten_cons]
    have : acc.toArray ++ z = (acc ++ z.toList).toArray := by simp
    rw [this, fold_cat z n, List.append_assoc]
theorem reps_nil {α : Type} (n : Nat) : reps ([] : List α) n = [] := by
  apply List.eq_nil_of_length_eq_zero
  rw [reps_len]
  simp
theorem mul_S (l : List Nat) (n : Int) : Txt.mul (S l) n = S (reps l n.toNat) := by
  unfold Txt.mul
  by_cases h1 : n < 1
  · rw [if_pos h1, show n.toNat = 0 by omega]
    rfl
  · rw [if_neg h1]
    by_cases h2 : (n == 1 || (S l).length == 0) = true
    · rw [if_pos h2]
      rw [Bool.or_eq_true] at h2
      rcases h2 with h2 | h2
      · have : n = 1 := by simpa using h2
        subst this
        simp [reps]
      · rw [S_len] at h2
        have : l = [] := by
          cases l with
          | nil => rfl
          | cons a b => simp at h2
        subst this
        rw [reps_nil]
    · rw [if_neg h2]
      have e := fold_cat l.toArray n.toNat []
      unfold reps
      rw [show (#[] : Array Nat) = ([] : List Nat).toArray from rfl, e]
      simp [S]
theorem mulok_S (l : List Nat) (n : Int) (h1 : l.length ≤ 1000000) (h2 : -1000000 ≤ n) (h3 : n ≤ 1000000) (h4 : l.length * n.toNat ≤ 1000000) : MulOk (S l) n := by
  refine ⟨?_, fun a _ => ?_, fun a _ => ?_⟩
  · rw [Bool.or_eq_false_iff]
    exact ⟨decide_eq_false (by omega), decide_eq_false (by omega)⟩
  · rw [S_len]
    have hb : (1000000 : Int) ≤ (2 ^ 63 - 1) / n := by
      rw [Int.le_ediv_iff_mul_le (by omega)]
      omega
    omega
  · rw [S_len]
    show decide (_ > sizeLine) = false
    have := size1000
    exact decide_eq_false (by omega)
theorem o_mul : OpR X (binaryOp .Mult) (rD2 X.K mulD) := by
  intro pins s σ H x y v u Q I rx ry h
  obtain ⟨Hb, a, b, d, sm, ia, ib, eg, q⟩ := h
  unfold mulD at eg
  split at eg
  · simp only [Is] at ia ib
    subst ia ib
    obtain ⟨hc, rfl⟩ := iteS eg
    exact op_mul pins s σ H _ _ v u Q I rx ry ⟨_, _, rfl, rfl, hc, q _ Hb H (Step.refl sm) (by simp only [Is])⟩
  · simp only [Is] at ia ib
    subst ia ib
    obtain ⟨⟨h1, h2, h3, h4⟩, rfl⟩ := iteS eg
    obtain ⟨t, rfl⟩ := rx
    obtain ⟨t', rfl⟩ := ry
    refine SB.mul (mulok_S _ _ h1 h2 h3 h4) fun t'' k => ⟨.str _, H, I.tok _, ⟨t'', rfl⟩, ?_⟩
    rw [mul_S]
    exact q _ Hb H (Step.refl sm) (by simp only [Is])
  · simp only [Is] at ia ib
    obtain ⟨p, xs, rfl, hx, lx⟩ := ia
    subst ib
    obtain ⟨⟨h1, h2, h3, h4⟩, rfl⟩ := iteS eg
    refine op_rep pins s σ H _ _ v u Q I rx ry ⟨p, _, xs, rfl, rfl, sm _ _ hx, by omega, by omega, ?_, fun r hr => q _ _ _ (Step.new sm hr) (is_lst_new (sm.free hr) ?_)⟩
    · refine Nat.le_trans ?_ size1000
      rw [lx.length]
      exact h4
    · unfold reps
      generalize Int.toNat _ = m
      induction m with
      | zero => simp [IsL]
      | succ m ih =>
        rw [List.replicate_succ, List.replicate_succ, List.flatten_cons, List.flatten_cons]
        exact lx.append ih
  · simp only [Is] at ia ib
    obtain ⟨p, xs, rfl, hx, lx⟩ := ia
    subst ib
    obtain ⟨⟨h0, h1, h2, h3⟩, rfl⟩ := iteS eg
    refine op_repT pins s σ H _ _ v u Q I rx ry ⟨p, _, xs, rfl, rfl, (hx.mono sm).sq, ?_, by omega, by omega, by rw [lx.length]; exact h1, fun r hr => q _ _ _ (Step.new sm hr) (is_wk_new (sm.free hr) ?_)⟩
    · intro e
      have := lx.length
      rw [e] at this
      exact h0 (List.eq_nil_of_length_eq_zero this.symm)
    · unfold reps
      generalize Int.toNat _ = m
      induction m with
      | zero => simp [IsL]
      | succ m ih =>
        rw [List.replicate_succ, List.replicate_succ, List.flatten_cons, List.flatten_cons]
        exact lx.append ih
  · cases eg
theorem o_fdiv : OpR X (binaryOp .FloorDiv) (rD2 X.K fdivD) := by
  intro pins s σ H x y v u Q I rx ry h
  obtain ⟨Hb, a, b, d, sm, ia, ib, eg, q⟩ := h
  unfold fdivD at eg
  split at eg
  · simp only [Is] at ia ib
    subst ia ib
    obtain ⟨hc, rfl⟩ := iteS eg
    exact op_fdiv pins s σ H _ _ v u Q I rx ry ⟨_, _, rfl, rfl, hc, q _ Hb H (Step.refl sm) (by simp only [Is])⟩
  · cases eg
theorem o_mod : OpR X (binaryOp .Mod) (rD2 X.K modD) := by
  intro pins s σ H x y v u Q I rx ry h
  obtain ⟨Hb, a, b, d, sm, ia, ib, eg, q⟩ := h
  unfold modD at eg
  split at eg
  · simp only [Is] at ia ib
    subst ia ib
    obtain ⟨hc, rfl⟩ := iteS eg
    exact op_mod pins s σ H _ _ v u Q I rx ry ⟨_, _, rfl, rfl, hc, q _ Hb H (Step.refl sm) (by simp only [Is])⟩
  · cases eg
theorem o_pow : OpR X (binaryOp .Pow) (rD2 X.K powD) := by
  intro pins s σ H x y v u Q I rx ry h
  obtain ⟨Hb, a, b, d, sm, ia, ib, eg, q⟩ := h
  unfold powD at eg
  split at eg
  · simp only [Is] at ia ib
    subst ia ib
    obtain ⟨hc, rfl⟩ := iteS eg
    exact op_pow pins s σ H _ _ v u Q I rx ry ⟨_, _, rfl, rfl, hc, q _ Hb H (Step.refl sm) (by simp only [Is])⟩
  · cases eg
theorem o_neg : UnR X (unaryOp .USub) (rD1 X.K negD) := by
  intro pins s σ H x v Q I rx h
  obtain ⟨Hb, a, d, sm, ia, eg, q⟩ := h
  unfold negD at eg
  split at eg
  · simp only [Is] at ia
    subst ia
    cases eg
    exact un_neg pins s σ H _ v Q I rx ⟨_, rfl, q _ Hb H (Step.refl sm) (by simp only [Is])⟩
  · cases eg
theorem o_eq (hu : X.A.units + 64 < cLine) : OpR X (compareOp .Eq) (rD2 X.K eqD) := by
  intro pins s σ H x y v u Q I rx ry h
  obtain ⟨Hb, a, b, d, sm, ia, ib, eg, q⟩ := h
  obtain ⟨⟨oa, ob⟩, rfl⟩ := iteS eg
  obtain ⟨a1, a2⟩ := dp_of 60 a x oa (is_up sm ia)
  obtain ⟨b1, b2⟩ := dp_of 60 b y ob (is_up sm ib)
  obtain ⟨as, r1⟩ := Dp.reads I _ x v a1 rx
  obtain ⟨bs, r2⟩ := Dp.reads I _ y u b1 ry
  exact PySem.SeqAt.eq_plain r1 r2 (plain_toP a) (plain_toP b) (by omega) ⟨.bl _, H, I, rfl, q _ Hb H (Step.refl sm) (by simp only [Is]; rfl)⟩
theorem o_ne (hu : X.A.units + 64 < cLine) : OpR X (compareOp .NotEq) (rD2 X.K neD) := by
  intro pins s σ H x y v u Q I rx ry h
  obtain ⟨Hb, a, b, d, sm, ia, ib, eg, q⟩ := h
  obtain ⟨⟨oa, ob⟩, rfl⟩ := iteS eg
  obtain ⟨a1, a2⟩ := dp_of 60 a x oa (is_up sm ia)
  obtain ⟨b1, b2⟩ := dp_of 60 b y ob (is_up sm ib)
  obtain ⟨as, r1⟩ := Dp.reads I _ x v a1 rx
  obtain ⟨bs, r2⟩ := Dp.reads I _ y u b1 ry
  exact PySem.SeqAt.ne_plain r1 r2 (plain_toP a) (plain_toP b) (by omega) ⟨.bl _, H, I, rfl, q _ Hb H (Step.refl sm) (by simp only [Is]; rfl)⟩
theorem o_lt : OpR X (compareOp .Lt) (rD2 X.K ltD) := by
  intro pins s σ H x y v u Q I rx ry h
  obtain ⟨Hb, a, b, d, sm, ia, ib, eg, q⟩ := h
  unfold ltD at eg
  split at eg
  · simp only [Is] at ia ib
    subst ia ib
    cases eg
    exact op_lt pins s σ H _ _ v u Q I rx ry ⟨_, _, rfl, rfl, q _ Hb H (Step.refl sm) (by simp only [Is])⟩
  · simp only [Is] at ia ib
    subst ia ib
    cases eg
    exact op_lt_str pins s σ H _ _ v u Q I rx ry ⟨_, _, rfl, rfl, q _ Hb H (Step.refl sm) (by simp only [Is, S])⟩
  · cases eg
theorem o_le : OpR X (compareOp .LtE) (rD2 X.K leD) := by
  intro pins s σ H x y v u Q I rx ry h
  obtain ⟨Hb, a, b, d, sm, ia, ib, eg, q⟩ := h
  unfold leD at eg
  split at eg
  · simp only [Is] at ia ib
    subst ia ib
    cases eg
    exact op_le pins s σ H _ _ v u Q I rx ry ⟨_, _, rfl, rfl, q _ Hb H (Step.refl sm) (by simp only [Is])⟩
  · simp only [Is] at ia ib
    subst ia ib
    cases eg
    exact op_le_str pins s σ H _ _ v u Q I rx ry ⟨_, _, rfl, rfl, q _ Hb H (Step.refl sm) (by simp only [Is, S])⟩
  · cases eg
theorem o_gt : OpR X (compareOp .Gt) (rD2 X.K gtD) := by
  intro pins s σ H x y v u Q I rx ry h
  obtain ⟨Hb, a, b, d, sm, ia, ib, eg, q⟩ := h
  unfold gtD at eg
  split at eg
  · simp only [Is] at ia ib
    subst ia ib
    cases eg
    exact op_gt pins s σ H _ _ v u Q I rx ry ⟨_, _, rfl, rfl, q _ Hb H (Step.refl sm) (by simp only [Is])⟩
  · simp only [Is] at ia ib
    subst ia ib
    cases eg
    exact op_gt_str pins s σ H _ _ v u Q I rx ry ⟨_, _, rfl, rfl, q _ Hb H (Step.refl sm) (by simp only [Is, S])⟩
  · cases eg
theorem o_ge : OpR X (compareOp .GtE) (rD2 X.K geD) := by
  intro pins s σ H x y v u Q I rx ry h
  obtain ⟨Hb, a, b, d, sm, ia, ib, eg, q⟩ := h
  unfold geD at eg
  split at eg
  · simp only [Is] at ia ib
    subst ia ib
    cases eg
    exact op_ge pins s σ H _ _ v u Q I rx ry ⟨_, _, rfl, rfl, q _ Hb H (Step.refl sm) (by simp only [Is])⟩
  · simp only [Is] at ia ib
    subst ia ib
    cases eg
    exact op_ge_str pins s σ H _ _ v u Q I rx ry ⟨_, _, rfl, rfl, q _ Hb H (Step.refl sm) (by simp only [Is, S])⟩
  · cases eg
theorem any_toPs (x : D) : ∀ ds : List D, ((toPs ds).any fun y => PyData.eqv y (toP x)) = ds.any fun d => eqv d x
  | [] => by simp [toPs]
  | d :: ds => by
    rw [toPs, List.any_cons, List.any_cons, any_toPs x ds]
    rfl
/-! ### dicts of texts -/
theorem isK_keys {K : PySem.W.Frag} {H : Hp} : ∀ {kvs : List (List Nat × D)} {ks : List (Key × V)}, IsK K H kvs ks → ks.map (·.1) = kvs.map fun p => Sum.inr (S p.1)
  | [], _, h => by simp only [IsK] at h; subst h; rfl
  | (k, d) :: r, ks, h => by
    simp only [IsK] at h
    obtain ⟨v, t, rfl, _, h3⟩ := h
    rw [List.map_cons, List.map_cons, isK_keys h3]
theorem isK_val {K : PySem.W.Frag} {H : Hp} (k : List Nat) : ∀ {kvs : List (List Nat × D)} {ks : List (Key × V)}, IsK K H kvs ks → (∀ d, (kvs.find? fun p => decide (p.1 = k)).map (·.2) = some d → ∃ v, valV ks (Sum.inr (S k)) = some v ∧ Is K H d v) ∧ (valV ks (Sum.inr (S k))).isSome = kvs.any fun p => decide (p.1 = k)
  | [], _, h => by
    simp only [IsK] at h
    subst h
    exact ⟨fun d e => by simp at e, rfl⟩
  | (j, x) :: r, ks, h => by
    simp only [IsK] at h
    obtain ⟨v, t, rfl, h2, h3⟩ := h
    obtain ⟨i1, i2⟩ := isK_val k h3
    by_cases e : j = k
    · subst e
      rw [valV_pos rfl]
      refine ⟨fun d q => ?_, by simp⟩
      simp [List.find?_cons] at q
      subst q
      exact ⟨v, rfl, h2⟩
    · have e' : ¬ (Sum.inr (S j) : Key) = Sum.inr (S k) := fun z => e (by
        injection z with z
        exact SX.S_inj z)
      rw [valV_neg (p := (Sum.inr (S j), v)) e']
      refine ⟨fun d q => i1 d ?_, ?_⟩
      · rw [List.find?_cons_of_neg (by simpa using e)] at q
        exact q
      · rw [i2, List.any_cons, decide_eq_false e, Bool.false_or]
theorem in_core (neg : Bool) (hu : X.A.units + 65 < cLine) : OpR X (compareOp (if neg then .NotIn else .In)) (rD2 X.K fun x c => (inB x c).bind fun k => some (.bl (if neg then !k else k))) := by
  intro pins s σ H x y v u Q I rx ry h
  obtain ⟨Hb, a, b, d, sm, ia, ib, eg, q⟩ := h
  obtain ⟨k, ek, ed⟩ := bind1 eg
  cases ed
  unfold inB at ek
  split at ek
  · simp only [Is] at ia ib
    subst ia ib
    cases ek
    cases neg with
    | false => exact op_in_sign pins s σ H _ _ v u Q I rx ry ⟨_, _, rfl, rfl, q _ Hb H (Step.refl sm) (by simp [Is, S])⟩
    | true => exact op_notIn_sign pins s σ H _ _ v u Q I rx ry ⟨_, _, rfl, rfl, q _ Hb H (Step.refl sm) (by simp [Is, S])⟩
  · rename_i kx kvs
    simp only [Is] at ia ib
    obtain ⟨p, ks, rfl, ⟨o, hd⟩, hk⟩ := ib
    subst ia
    cases ry
    cases ek
    obtain ⟨_, hv⟩ := isK_val kx hk
    have g : DGet H p (.str (S kx)) (valV ks (Sum.inr (S kx))) := .inl ⟨ks, Sum.inr (S kx), .inr ⟨o, sm _ _ hd⟩, rfl, rfl⟩
    cases neg with
    | false => exact d_in (by omega) I g rx fun s3 I3 => ⟨.bl _, H, I3, rfl, q _ Hb H (Step.refl sm) (by simp only [Is]; rw [hv]; rfl)⟩
    | true => exact d_notIn (by omega) I g rx fun s3 I3 => ⟨.bl _, H, I3, rfl, q _ Hb H (Step.refl sm) (by simp only [Is]; rw [hv]; rfl)⟩
  · obtain ⟨⟨oa, ob⟩, rfl⟩ := iteS ek
    obtain ⟨a1, a2⟩ := dp_of 60 _ x oa (is_up sm ia)
    obtain ⟨b1, b2⟩ := dp_of 61 _ y (show okN 61 (.tup _) = true from ob) (is_up sm ib)
    obtain ⟨as, r1⟩ := Dp.reads I _ x v a1 rx
    obtain ⟨bs, r2⟩ := Dp.reads I _ y u b1 ry
    rw [toP] at r2
    cases neg with
    | false => exact PySem.SeqAt.in_tuple_data r2 r1 (plain_toPs _) (plain_toP _) (by omega) ⟨.bl _, H, I, rfl, q _ Hb H (Step.refl sm) (by simp only [Is]; rw [any_toPs]; rfl)⟩
    | true => exact PySem.SeqAt.notIn_tuple_data r2 r1 (plain_toPs _) (plain_toP _) (by omega) ⟨.bl _, H, I, rfl, q _ Hb H (Step.refl sm) (by simp only [Is]; rw [any_toPs]; rfl)⟩
  · obtain ⟨⟨oa, ob⟩, rfl⟩ := iteS ek
    obtain ⟨a1, a2⟩ := dp_of 60 _ x oa (is_up sm ia)
    obtain ⟨b1, b2⟩ := dp_of 61 _ y (show okN 61 (.lst _) = true from ob) (is_up sm ib)
    obtain ⟨as, r1⟩ := Dp.reads I _ x v a1 rx
    obtain ⟨bs, r2⟩ := Dp.reads I _ y u b1 ry
    rw [toP] at r2
    cases neg with
    | false => exact PySem.SeqAt.in_list_data r2 r1 (plain_toPs _) (plain_toP _) (by omega) ⟨.bl _, H, I, rfl, q _ Hb H (Step.refl sm) (by simp only [Is]; rw [any_toPs]; rfl)⟩
    | true => exact PySem.SeqAt.notIn_list_data r2 r1 (plain_toPs _) (plain_toP _) (by omega) ⟨.bl _, H, I, rfl, q _ Hb H (Step.refl sm) (by simp only [Is]; rw [any_toPs]; rfl)⟩
  · cases ek
theorem o_in (hu : X.A.units + 65 < cLine) : OpR X (compareOp .In) (rD2 X.K inD) := in_core false hu
theorem o_nin (hu : X.A.units + 65 < cLine) : OpR X (compareOp .NotIn) (rD2 X.K ninD) := in_core true hu
theorem is_ne_non {K : PySem.W.Frag} {H : Hp} {d : D} {v : V} (h : Is K H d v) (hd : d ≠ .non) : v ≠ .non := by
  cases d <;> simp only [Is] at h
  · exact absurd rfl hd
  · rw [h]; simp
  · rw [h]; simp
  · rw [h]; simp
  · obtain ⟨a, _, e, _⟩ := h; rw [e]; simp
  · obtain ⟨a, _, e, _⟩ := h; rw [e]; simp
  · obtain ⟨a, e, _⟩ := h; rw [e]; simp
  · rw [h]; simp
  · obtain ⟨a, _, e, _⟩ := h; rw [e]; simp
  · obtain ⟨a, _, e, _⟩ := h; rw [e]; simp
theorem isD_non {d z : D} (h : isD d .non = some z) : z = .bl (match d with | .non => true | _ => false) := by
  cases d <;> simp [isD] at h <;> exact h.symm
theorem isnD_non {d z : D} (h : isnD d .non = some z) : z = .bl (match d with | .non => false | _ => true) := by
  cases d <;> simp [isnD] at h <;> exact h.symm
theorem o_is : OpR X (compareOp .Is) (rD2 X.K isD) := by
  intro pins s σ H x y v u Q I rx ry h
  obtain ⟨Hb, a, b, d, sm, ia, ib, eg, q⟩ := h
  by_cases hb : b = .non
  · subst hb
    have hd := isD_non eg
    have ib' := ib
    simp only [Is] at ib'
    subst ib'
    refine op_isN pins s σ H _ _ v u Q I rx ry ⟨rfl, q _ Hb H (Step.refl sm) ?_⟩
    rw [hd]
    simp only [Is]
    by_cases ha : a = .non
    · subst ha
      simp only [Is] at ia
      rw [ia]
      rfl
    · rw [decide_eq_false (is_ne_non ia ha)]
      cases a <;> first | rfl | exact absurd rfl ha
  · cases a <;> cases b <;> first | (simp [isD] at eg; done) | exact absurd rfl hb | skip
    simp only [Is] at ia ib
    subst ia ib
    simp [isD] at eg
    subst eg
    exact op_isBl pins s σ H _ _ v u Q I rx ry ⟨_, _, rfl, rfl, q _ Hb H (Step.refl sm) (by simp only [Is])⟩
theorem o_isn : OpR X (compareOp .IsNot) (rD2 X.K isnD) := by
  intro pins s σ H x y v u Q I rx ry h
  obtain ⟨Hb, a, b, d, sm, ia, ib, eg, q⟩ := h
  by_cases hb : b = .non
  · subst hb
    have hd := isnD_non eg
    have ib' := ib
    simp only [Is] at ib'
    subst ib'
    refine op_notN pins s σ H _ _ v u Q I rx ry ⟨rfl, q _ Hb H (Step.refl sm) ?_⟩
    rw [hd]
    simp only [Is]
    by_cases ha : a = .non
    · subst ha
      simp only [Is] at ia
      rw [ia]
      rfl
    · rw [decide_eq_false (is_ne_non ia ha)]
      cases a <;> first | rfl | exact absurd rfl ha
  · cases a <;> cases b <;> first | (simp [isnD] at eg; done) | exact absurd rfl hb | skip
    simp only [Is] at ia ib
    subst ia ib
    simp [isnD] at eg
    subst eg
    exact op_notBl pins s σ H _ _ v u Q I rx ry ⟨_, _, rfl, rfl, q _ Hb H (Step.refl sm) (by simp only [Is])⟩

/-! ### subscripts and slices -/
theorem atI_is {K : PySem.W.Frag} {H : Hp} {ds : List D} {vs : List V} {i : Int} {d : D} (l : IsL K H ds vs) (h : atI ds i = some d) : ∃ v, atI vs i = some v ∧ Is K H d v := by
  unfold atI at h ⊢
  rw [l.length]
  cases e : ixN ds.length i with
  | none => rw [e] at h; cases h
  | some j =>
    rw [e] at h
    exact l.get h
theorem x_seq : IxR X (rD2 X.K ixD) := by
  intro value slice pins s σ H x y v u Q I rx ry h hs
  obtain ⟨Hb, a, b, d, sm, ia, ib, eg, q⟩ := h
  unfold ixD at eg
  split at eg
  · simp only [Is] at ia ib
    obtain ⟨p, xs, rfl, hx, lx⟩ := ia
    subst ib
    obtain ⟨w, e1, e2⟩ := atI_is lx eg
    exact ix_tup value slice pins s σ H _ _ v u Q I rx ry ⟨p, xs, _, w, rfl, rfl, (hx.mono sm).sq, e1, q _ Hb H (Step.refl sm) e2⟩ hs
  · simp only [Is] at ia ib
    obtain ⟨p, xs, rfl, hx, lx⟩ := ia
    subst ib
    obtain ⟨w, e1, e2⟩ := atI_is lx eg
    exact ix_list value slice pins s σ H _ _ v u Q I rx ry ⟨p, xs, _, w, rfl, rfl, .inl (.inl (sm _ _ hx)), e1, q _ Hb H (Step.refl sm) e2⟩ hs
  · simp only [Is] at ia ib
    subst ia ib
    split at eg
    · rename_i hl
      obtain ⟨c, ec, ed⟩ := bind1 eg
      cases ed
      exact ix_str value slice pins s σ H _ _ v u Q I rx ry ⟨_, _, c, rfl, rfl, by rw [S_len]; exact hl, ec, q _ Hb H (Step.refl sm) (by simp only [Is, S])⟩ hs
    · cases eg
  · simp only [Is] at ia ib
    obtain ⟨p, rfl, hx⟩ := ia
    subst ib
    obtain ⟨n, en, ed⟩ := bind1 eg
    cases ed
    refine ix_list value slice pins s σ H _ _ v u Q I rx ry ⟨p, _, _, .int n, rfl, rfl, sm.seq hx, ?_, q _ Hb H (Step.refl sm) (by simp only [Is])⟩ hs
    unfold atI at en ⊢
    rw [List.length_map]
    cases e : ixN _ _ with
    | none => rw [e] at en; cases en
    | some j =>
      rw [e] at en
      simp only [Option.bind_some] at en ⊢
      rw [List.getElem?_map, en]
      rfl
  · cases eg
theorem cut_is {K : PySem.W.Frag} {H : Hp} {ds : List D} {vs : List V} (l : IsL K H ds vs) (lo hi : Option Int) : IsL K H (cut ds lo hi) (cutV vs lo hi) := by
  unfold cut cutV
  rw [l.length]
  exact (l.drop _).take _
def rDS (K : PySem.W.Frag) (g : D → Option Int → Option Int → Option D) : V → Option Int → Option Int → Hp → VK → Prop := fun x lo hi H Q => ∃ Hb a d, Same Hb H ∧ Is K Hb a x ∧ g a lo hi = some d ∧ ∀ v Hb' H', Step Hb H Hb' H' → Is K Hb' d v → Q v H'
/-- t[lo:hi] -/
def rSlN (K : PySem.W.Frag) : V → Option Int → Option Int → Hp → VK → Prop := fun x lo hi H Q => ∃ a xs, x = .ref a ∧ SqT K H a xs ∧
  (HT.sIx xs.length 0 lo = 0 ∧ HT.sIx xs.length xs.length hi = xs.length → Q (.ref a) H) ∧ (∀ p o, H p = none → o.dict = none → Q (.ref p) (upd H p (.frz o (.tup (cutV xs lo hi)))))
theorem sl_tupN : SlR X (rSlN X.K) := by
  intro pins s σ H x v vl vu lo hi sl Q I rx hs pl pu h
  obtain ⟨a, xs, rfl, hx, q1, q2⟩ := h
  rcases Classical.em (HT.sIx xs.length 0 lo = 0 ∧ HT.sIx xs.length xs.length hi = xs.length) with hw | hw
  · exact sl_tupA pins s σ H _ v vl vu lo hi sl Q I rx hs pl pu ⟨a, xs, rfl, hx, q1, fun n => absurd hw n⟩
  · cases rx
    obtain ⟨us, r, ht, hz⟩ := I.tuple hx
    have hn : us.toArray.size = xs.length := by rw [List.size_toArray, r.length]
    refine ⟨"tuple", _, PyProof.Rows.slot_tuple_getitem.lookup, ht.typeIs, HT.getItem_tuple_cut ht hs pl pu (by rwa [hn]) ?_ (by rwa [hn])⟩
    rw [hn]
    obtain ⟨o, ho, I2⟩ := inv_newT I ((r.drop (HT.sIx xs.length 0 lo)).take (HT.sIx xs.length xs.length hi - HT.sIx xs.length 0 lo)) (Nat.le_trans (cutV_length xs lo hi) hz)
    exact ⟨.ref s.heap.objs.size, _, I2, rfl, q2 _ o (I.hok.fresh (Nat.le_refl _)) ho⟩
theorem x_sl : SlR X (rDS X.K slD) := by
  intro pins s σ H x v vl vu lo hi sl Q I rx hs pl pu h
  obtain ⟨Hb, a, d, sm, ia, eg, q⟩ := h
  unfold slD at eg
  split at eg
  · simp only [Is] at ia
    obtain ⟨p, xs, rfl, hx, lx⟩ := ia
    cases eg
    refine sl_tupN pins s σ H _ v vl vu lo hi sl Q I rx hs pl pu ⟨p, xs, rfl, (hx.mono sm).sq, fun e => ?_, fun r o hr ho => ?_⟩
    · refine q _ Hb H (Step.refl sm) ?_
      simp only [Is]
      refine ⟨p, xs, rfl, hx, ?_⟩
      have := cut_is lx lo hi
      unfold cutV at this
      rw [e.1, e.2, List.drop_zero, Nat.sub_zero, List.take_length] at this
      exact this
    · exact q _ _ _ (Step.new sm hr) (is_tup_new ho (sm.free hr) (cut_is lx lo hi))
  · simp only [Is] at ia
    obtain ⟨p, xs, rfl, hx, lx⟩ := ia
    cases eg
    exact sl_list pins s σ H _ v vl vu lo hi sl Q I rx hs pl pu ⟨p, xs, rfl, .inl (.inl (sm _ _ hx)), fun r hr => q _ _ _ (Step.new sm hr) (is_lst_new (sm.free hr) (cut_is lx lo hi))⟩
  · simp only [Is] at ia
    subst ia
    obtain ⟨hl, rfl⟩ := iteS eg
    refine sl_str pins s σ H _ v vl vu lo hi sl Q I rx hs pl pu ⟨_, rfl, by rw [S_len]; exact hl, q _ Hb H (Step.refl sm) ?_⟩
    simp only [Is, cutS, cut, S, Str.length, List.size_toArray]
  · cases eg
variable {a b e : Expr} {pos p2 : Pos} {fa fb : En → Option D} {lo hi : Option Expr} {fl fh : En → Option (Option Int)}
theorem e_ix (ha : PE X a (tD X.K fa)) (hb : PE X b (tD X.K fb)) (hs : PlainIx b := by exact fun _ _ => rfl) : PE X (.Subscript a b pos) (tD X.K (f2 ixD fa fb)) :=
  PE_weak (pe_ix x_seq ha hb hs) fun _ _ _ h => t_op h
def fPo (fa : En → Option D) : En → Option (Option Int) := fun env => ((fa env).bind asI).bind fun i => some (some i)
def fNo : En → Option (Option Int) := fun _ => some none
theorem PO_weak {o : Option Expr} {t t' : TO} (h : PO X o t) (w : ∀ σ H Q, t' σ H Q → t σ H Q) : PO X o t' := ⟨fun pins s σ H Q I q => h.run pins s σ H Q I (w σ H Q q)⟩
theorem p_no : PO X none (tO X.K fNo) := PO_weak po_none fun σ H Q h => by
  obtain ⟨H0, env, Hb, o, r, sm, ef, q⟩ := h
  cases ef
  exact q Hb H (Step.refl sm)
theorem p_so (ha : PE X a (tD X.K fa)) : PO X (some a) (tO X.K (fPo fa)) := PO_weak (po_some ha) fun σ H Q h => by
  obtain ⟨H0, env, Hb, o, r, sm, ef, q⟩ := h
  obtain ⟨i, ei, ef⟩ := bind1 ef
  obtain ⟨d, ed, ei⟩ := bind1 ei
  have hd := asI_some ei
  subst hd
  cases ef
  exact ⟨H0, env, Hb, _, r, sm, ed, fun v Hb' H' s iv => ⟨i, by simpa only [Is] using iv, q Hb' H' s⟩⟩
def fSl (fa : En → Option D) (fl fh : En → Option (Option Int)) : En → Option D := fun env => (fa env).bind fun d => (fl env).bind fun l => (fh env).bind fun h => slD d l h
theorem e_sl (ha : PE X a (tD X.K fa)) (hl : PO X lo (tO X.K fl)) (hh : PO X hi (tO X.K fh)) : PE X (.Subscript a (.Slice lo hi none p2) pos) (tD X.K (fSl fa fl fh)) :=
  PE_weak (pe_slice x_sl ha hl hh) fun σ H Q h => by
    obtain ⟨H0, env, Hb, d, r, sm, ef, q⟩ := h
    obtain ⟨da, ea, ef⟩ := bind1 ef
    obtain ⟨l, el, ef⟩ := bind1 ef
    obtain ⟨hh, eh, ef⟩ := bind1 ef
    exact ⟨H0, env, Hb, da, r, sm, ea, fun x Hb1 H1 s1 ix => ⟨H0, env, Hb1, l, r.step s1, s1.c, el, fun Hb2 H2 s2 => ⟨H0, env, Hb2, hh, (r.step s1).step s2, s2.c, eh, fun Hb3 H3 s3 =>
      ⟨Hb3, da, d, s3.c, (ix.mono s2.b).mono s3.b, ef, fun v Hb' H' s4 iv => q v Hb' H' (s1.trans (s2.trans (s3.trans s4))) iv⟩⟩⟩⟩
end
end Dn
set_option Elab.async false
set_option linter.all false
set_option maxRecDepth 100000
/-! Part C: statements, loops, comprehensions, calls, defs. -/
namespace Dn
open PySem L2 PySem.Spec PyProof.Rows

inductive Fl where
  | nx (e : En) | rt (d : D) | bk (e : En) | ct (e : En)
/-- what is wanted behind, for each way out -/
def Out (K : PySem.W.Frag) (Hb0 H0 : Hp) (N : Ends) : Fl → Prop
  | .nx env => ∀ σ Hb H, Rel K H0 Hb H σ env → Step Hb0 H0 Hb H → N.nx σ H
  | .rt d => ∀ v Hb H, Step Hb0 H0 Hb H → Is K Hb d v → N.rt v H
  | .bk env => ∀ σ Hb H, Rel K H0 Hb H σ env → Step Hb0 H0 Hb H → N.bk σ H
  | .ct env => ∀ σ Hb H, Rel K H0 Hb H σ env → Step Hb0 H0 Hb H → N.ct σ H
def tS (K : PySem.W.Frag) (F : En → Option Fl) : TS := fun N σ H => ∃ H0 Hb0 env Hb fl, Rel K H0 Hb H σ env ∧ Step Hb0 H0 Hb H ∧ F env = some fl ∧ Out K Hb0 H0 N fl
def tG (K : PySem.W.Frag) (ts : List Nat) (g : D → En → Option En) : TG := fun v σ H Q => ∃ H0 Hb env d env', Rel K H0 Hb H σ env ∧ Same Hb H ∧ Is K Hb d v ∧ g d env = some env' ∧ ∀ σ', Rel K H0 Hb H σ' env' → wipe σ' ts = wipe σ ts → Q σ' H
def tGs (K : PySem.W.Frag) (ts : List Nat) (g : List D → En → Option En) : TGs := fun vs σ H Q => ∃ H0 Hb env ds env', Rel K H0 Hb H σ env ∧ Same Hb H ∧ IsL K Hb ds vs ∧ g ds env = some env' ∧ ∀ σ', Rel K H0 Hb H σ' env' → wipe σ' ts = wipe σ ts → Q σ' H

theorem Step.fwd {Hb0 H0 Hb1 H1 Hb2 H2 : Hp} (x : Step Hb0 H0 Hb1 H1) (y : Step Hb1 H1 Hb2 H2) : Step Hb1 H0 Hb2 H2 := ⟨x.a.trans y.a, y.b, y.c, fun p o e n => y.f p o (x.a p o e) n, y.t⟩
theorem Step.back {Hb0 H0 Hb1 H1 Hb2 H2 : Hp} (x : Step Hb0 H0 Hb1 H1) (y : Step Hb1 H0 Hb2 H2) : Step Hb0 H0 Hb2 H2 := ⟨y.a, x.b.trans y.b, y.c, fun p o e n => y.f p o e (x.f p o e n), fun n => y.t (x.t n)⟩
/-- a new object that no plain thing lies in -/
theorem Step.hid {Hb H : Hp} (s : Same Hb H) {p : Addr} {o : HO} (h : H p = none) (hb : Hb p = none) : Step Hb H Hb (upd H p o) := ⟨same_new h, Same.refl _, fun b x e => (by rw [upd_ne (ne_of_none e hb)]; exact s b x e), fun _ _ _ n => n, fun n => n⟩

section
variable {X : Cx} {a b e : Expr} {st : Stmt} {sts rest : List Stmt} {pos : Pos} {fa fb : En → Option D} {F G : En → Option Fl}
theorem PS_weak {t t' : TS} (h : PS X st t) (w : ∀ N σ H, t' N σ H → t N σ H) : PS X st t' := ⟨fun pins s σ H N I q => h.run pins s σ H N I (w N σ H q)⟩
theorem PSs_weak {t t' : TS} (h : PSs X sts t) (w : ∀ N σ H, t' N σ H → t N σ H) : PSs X sts t' := ⟨fun pins s σ H N I q => h.run pins s σ H N I (w N σ H q)⟩
theorem PG_weak {tg : Expr} {t t' : TG} (h : PG X tg t) (w : ∀ v σ H Q, t' v σ H Q → t v σ H Q) : PG X tg t' := ⟨fun pins s σ H v u Q I r q => h.run pins s σ H v u Q I r (w v σ H Q q)⟩
theorem PGs_weak {tg : List Expr} {t t' : TGs} (h : PGs X tg t) (w : ∀ v σ H Q, t' v σ H Q → t v σ H Q) : PGs X tg t' := ⟨fun pins s σ H v u Q I r q => h.run pins s σ H v u Q I r (w v σ H Q q)⟩

/-! ### wiping -/
theorem wipe_get (σ : L2.St) (j : Nat) : ∀ vs : List Nat, (wipe σ vs)[j]? = if j ∈ vs then σ[j]?.map (fun _ => none) else σ[j]?
  | [] => by simp [wipe]
  | v :: vs => by
    unfold wipe
    by_cases h : v = j
    · subst h
      by_cases hv : v < σ.length
      · rw [List.getElem?_set_self (by rw [wipe_length]; exact hv)]
        simp [List.getElem?_eq_getElem hv]
      · rw [List.getElem?_eq_none (by rw [List.length_set, wipe_length]; omega), List.getElem?_eq_none (show σ.length ≤ v by omega)]
        simp
    · rw [List.getElem?_set_ne h, wipe_get σ j vs]
      have : (j ∈ v :: vs) = (j ∈ vs) := by
        rw [List.mem_cons]
        exact propext ⟨fun q => q.resolve_left fun z => h z.symm, Or.inr⟩
      simp only [this]
theorem wipe_ext {σ τ : L2.St} {vs : List Nat} (hl : σ.length = τ.length) (h : ∀ j, j ∉ vs → σ[j]? = τ[j]?) : wipe σ vs = wipe τ vs := by
  apply List.ext_getElem?
  intro j
  rw [wipe_get, wipe_get]
  by_cases q : j ∈ vs
  · rw [if_pos q, if_pos q]
    by_cases z : j < σ.length
    · rw [List.getElem?_eq_getElem z, List.getElem?_eq_getElem (show j < τ.length by omega)]
      rfl
    · rw [List.getElem?_eq_none (by omega), List.getElem?_eq_none (by omega)]
  · rw [if_neg q, if_neg q, h j q]
theorem wipe_eq_get {σ τ : L2.St} {vs : List Nat} (h : wipe σ vs = wipe τ vs) : σ.length = τ.length ∧ ∀ j, j ∉ vs → σ[j]? = τ[j]? := by
  refine ⟨by rw [← wipe_length σ vs, ← wipe_length τ vs, h], fun j q => ?_⟩
  have := congrArg (fun l : L2.St => l[j]?) h
  simp only [wipe_get, if_neg q] at this
  exact this
theorem wipe_mono {σ τ : L2.St} {vs ws : List Nat} (hs : ∀ i ∈ vs, i ∈ ws) (h : wipe σ vs = wipe τ vs) : wipe σ ws = wipe τ ws :=
  wipe_ext (wipe_eq_get h).1 fun j q => (wipe_eq_get h).2 j fun z => q (hs j z)
theorem wipe_wipe (σ : L2.St) (vs : List Nat) : wipe (wipe σ vs) vs = wipe σ vs :=
  wipe_ext (wipe_length _ _) fun j q => by rw [wipe_get, if_neg q]
theorem wipe_set (σ : L2.St) (i : Nat) (x : Option V) : wipe (σ.set i x) [i] = wipe σ [i] := by
  refine wipe_ext (by rw [List.length_set]) fun j q => ?_
  rw [List.getElem?_set_ne]
  intro z
  exact q (by simp [z])
def wipeE (env : En) : List Nat → En
  | [] => env
  | v :: vs => (wipeE env vs).set v none
theorem Rel.wipe {K : PySem.W.Frag} {H0 Hb H : Hp} {σ : L2.St} {env : En} (r : Rel K H0 Hb H σ env) : ∀ vs : List Nat, Rel K H0 Hb H (L2.wipe σ vs) (wipeE env vs)
  | [] => r
  | v :: vs => (r.wipe vs).forget v none

theorem wipeE_some {env : En} {i : Nat} {d : D} : ∀ {vs : List Nat}, (wipeE env vs)[i]? = some (some d) → env[i]? = some (some d) ∧ i ∉ vs
  | [], h => ⟨h, by simp⟩
  | v :: vs, h => by
    unfold wipeE at h
    by_cases hi : v = i
    · subst hi
      by_cases hv : v < (wipeE env vs).length
      · rw [List.getElem?_set_self hv] at h
        cases h
      · rw [List.getElem?_eq_none (by simpa using hv)] at h
        cases h
    · rw [List.getElem?_set_ne hi] at h
      obtain ⟨h1, h2⟩ := wipeE_some h
      exact ⟨h1, by simp only [List.mem_cons, not_or]; exact ⟨fun e => hi e.symm, h2⟩⟩
theorem wipe_some' {σ : L2.St} {vs : List Nat} {i : Nat} {x : V} (h : (wipe σ vs)[i]? = some (some x)) : σ[i]? = some (some x) := (wipe_some h).1

/-! ### targets -/
def gN (i : Nat) : D → En → Option En := fun d env => some (env.set i (some d))
def gNil' : List D → En → Option En := fun ds env => match ds with
  | [] => some env
  | _ :: _ => none
def gCons' (g : D → En → Option En) (h : List D → En → Option En) : List D → En → Option En := fun ds env => match ds with
  | [] => none
  | d :: r => (g d env).bind fun env' => h r env'
def gT (g : List D → En → Option En) : D → En → Option En := fun d env => match d with
  | .tup ds => g ds env
  | .wk ds => g ds env
  | _ => none
def gL (g : List D → En → Option En) : D → En → Option En := fun d env => match d with
  | .lst ds => g ds env
  | _ => none
variable {ts us : List Nat} {g : D → En → Option En} {gs : List D → En → Option En} {tg : Expr} {tgs : List Expr}
theorem g_name (i : Nat) {x : Str} (hN : X.N.Nodup) (hi : X.N[i]? = some x := by rfl) (hx : Loc X.env.scope x := by first | exact Or.inl rfl | exact Or.inr rfl) (hf : X.fn x = true ∨ X.env.scope.names.lookup x = some .local := by first | exact .inl rfl | exact .inr rfl) : PG X (.Name x pos) (tG X.K [i] (gN i)) :=
  PG_weak (pg_name hN hi hx hf) fun v σ H Q h => by
    obtain ⟨H0, Hb, env, d, env', r, sm, iv, eg, q⟩ := h
    cases eg
    exact q _ (r.set i iv) (wipe_set σ i _)
theorem g_nil : PGs X [] (tGs X.K [] gNil') := PGs_weak pgs_nil fun v σ H Q h => by
  obtain ⟨H0, Hb, env, ds, env', r, sm, iv, eg, q⟩ := h
  cases ds with
  | nil =>
    simp only [IsL] at iv
    cases eg
    exact ⟨iv, q σ r rfl⟩
  | cons d ds => cases eg
theorem g_cons (h1 : PG X tg (tG X.K ts g)) (h2 : PGs X tgs (tGs X.K us gs)) (hs : (assignEach (tg :: tgs) X.env).map (·.2) = assign tg X.env :: (assignEach tgs X.env).map (·.2) := by rfl) : PGs X (tg :: tgs) (tGs X.K (ts ++ us) (gCons' g gs)) :=
  PGs_weak (pgs_cons h1 h2 hs) fun v σ H Q h => by
    obtain ⟨H0, Hb, env, ds, env', r, sm, iv, eg, q⟩ := h
    cases ds with
    | nil => cases eg
    | cons d ds =>
      simp only [IsL] at iv
      obtain ⟨w, vr, rfl, i1, i2⟩ := iv
      obtain ⟨e1, h1, h2⟩ := bind1 eg
      refine ⟨w, vr, rfl, H0, Hb, env, d, e1, r, sm, i1, h1, fun σ1 r1 w1 => ⟨H0, Hb, e1, ds, env', r1, sm, i2, h2, fun σ2 r2 w2 => q σ2 r2 ?_⟩⟩
      exact (wipe_mono (fun i hi => List.mem_append_right _ hi) w2).trans (wipe_mono (fun i hi => List.mem_append_left _ hi) w1)
theorem g_tup {k : Nat} {n : Nat} (hc : X.calm = true) (h : PGs X tgs (tGs X.K ts gs)) (hl : ∀ ds env env', gs ds env = some env' → ds.length = n)
    (hn : (assignEach tgs X.env).length = n := by rfl) (hst : (assignEach tgs X.env).findIdx? (·.1) = none := by rfl) : PG X (.Tuple tgs k pos) (tG X.K ts (gT gs)) :=
  PG_weak (pg_tup hc h hn hst) fun v σ H Q h => by
    obtain ⟨H0, Hb, env, d, env', r, sm, iv, eg, q⟩ := h
    cases d with
    | tup ds =>
      simp only [Is] at iv
      obtain ⟨p, xs, rfl, hx, lx⟩ := iv
      exact ⟨p, xs, rfl, (hx.mono sm).sq, by rw [lx.length]; exact hl _ _ _ eg, H0, Hb, env, ds, env', r, sm, lx, eg, q⟩
    | wk ds =>
      simp only [Is] at iv
      obtain ⟨p, xs, rfl, hx, lx⟩ := iv
      exact ⟨p, xs, rfl, sq_mono sm hx, by rw [lx.length]; exact hl _ _ _ eg, H0, Hb, env, ds, env', r, sm, lx, eg, q⟩
    | _ => cases eg
theorem g_lst {k : Nat} {n : Nat} (hc : X.calm = true) (h : PGs X tgs (tGs X.K ts gs)) (hl : ∀ ds env env', gs ds env = some env' → ds.length = n)
    (hn : (assignEach tgs X.env).length = n := by rfl) (hst : (assignEach tgs X.env).findIdx? (·.1) = none := by rfl) : PG X (.Tuple tgs k pos) (tG X.K ts (gL gs)) :=
  PG_weak (pg_unl hc h hn hst) fun v σ H Q h => by
    obtain ⟨H0, Hb, env, d, env', r, sm, iv, eg, q⟩ := h
    cases d with
    | lst ds =>
      simp only [Is] at iv
      obtain ⟨p, xs, rfl, hx, lx⟩ := iv
      exact ⟨p, xs, rfl, .inl (.inl (sm _ _ hx)), by rw [lx.length]; exact hl _ _ _ eg, H0, Hb, env, ds, env', r, sm, lx, eg, q⟩
    | _ => cases eg
theorem gl_nil : ∀ (ds : List D) (env env' : En), gNil' ds env = some env' → ds.length = 0
  | [], _, _, _ => rfl
  | _ :: _, _, _, h => by cases h
theorem gl_cons {n : Nat} (h : ∀ (ds : List D) (env env' : En), gs ds env = some env' → ds.length = n) : ∀ (ds : List D) (env env' : En), gCons' g gs ds env = some env' → ds.length = n + 1
  | [], _, _, q => by cases q
  | d :: ds, env, env', q => by
    obtain ⟨e1, _, h2⟩ := bind1 q
    rw [List.length_cons, h _ _ _ h2]

/-! ### statements -/
def fAsg (fa : En → Option D) (g : D → En → Option En) : En → Option Fl := fun env => (fa env).bind fun d => (g d env).bind fun env' => some (.nx env')
def fSet (i : Nat) (fa : En → Option D) : En → Option Fl := fun env => (fa env).bind fun d => some (.nx (env.set i (some d)))
def fRet (fa : En → Option D) : En → Option Fl := fun env => (fa env).bind fun d => some (.rt d)
def fDrop (fa : En → Option D) : En → Option Fl := fun env => (fa env).bind fun _ => some (.nx env)
def fSeq (F G : En → Option Fl) : En → Option Fl := fun env => (F env).bind fun fl => match fl with
  | .nx e => G e
  | .rt d => some (.rt d)
  | .bk e => some (.bk e)
  | .ct e => some (.ct e)
def fPass : En → Option Fl := fun env => some (.nx env)
def fIfS (c : En → Option Bool) (F G : En → Option Fl) : En → Option Fl := fun env => (c env).bind fun k => if k then F env else G env
def fStuck : En → Option Fl := fun _ => none
theorem tS_asg {N : Ends} {σ : L2.St} {H : Hp} (h : tS X.K (fAsg fa g) N σ H) : tAsg (tD X.K fa) (tG X.K ts g) N σ H := by
  obtain ⟨H0, Hb0, env, Hb, fl, r, sp, ef, out⟩ := h
  obtain ⟨d, ed, ef⟩ := bind1 ef
  obtain ⟨env', eg, ef⟩ := bind1 ef
  cases ef
  exact ⟨H0, env, Hb, d, r, sp.c, ed, fun v Hb1 H1 s1 iv => ⟨H0, Hb1, env, d, env', r.step s1, s1.c, iv, eg, fun σ' r' _ => out σ' Hb1 H1 r' (sp.trans s1)⟩⟩
theorem s_asg (he : PE X e (tD X.K fa)) (hg : PG X tg (tG X.K ts g)) (hs : swapsWithSole [tg] e pos.line X.env = pure false := by rfl) (hw : swappedStores [tg] e X.env = pure none := by rfl)
    (h1 : (assignEach [tg] X.env).map (·.2) = [assign tg X.env] := by rfl) : PS X (.Assign [tg] e pos) (tS X.K (fAsg fa g)) := PS_weak (ps_asg he hg hs hw h1) fun N σ H h => tS_asg h
theorem tS_set {i : Nat} {N : Ends} {σ : L2.St} {H : Hp} (h : tS X.K (fSet i fa) N σ H) : tAsg (tD X.K fa) (gName i) N σ H := by
  obtain ⟨H0, Hb0, env, Hb, fl, r, sp, ef, out⟩ := h
  obtain ⟨d, ed, ef⟩ := bind1 ef
  cases ef
  exact ⟨H0, env, Hb, d, r, sp.c, ed, fun v Hb1 H1 s1 iv => out _ Hb1 H1 ((r.step s1).set i iv) (sp.trans s1)⟩
theorem s_set (i : Nat) {x : Str} {pos' : Pos} (hN : X.N.Nodup) (he : PE X e (tD X.K fa)) (hi : X.N[i]? = some x := by rfl) (hx : Loc X.env.scope x := by first | exact Or.inl rfl | exact Or.inr rfl) (hs : swapsWith e (some (.Name x pos')) pos.line X.env = pure false := by rfl)
    (hf : X.fn x = true ∨ X.env.scope.names.lookup x = some .local := by first | exact .inl rfl | exact .inr rfl) : PS X (.Assign [.Name x pos'] e pos) (tS X.K (fSet i fa)) := PS_weak (ps_set hN hi hx he hs hf) fun N σ H h => tS_set h
/-- a, b = x, y -/
def fPar (i j : Nat) (fs : En → Option (List D)) : En → Option Fl := fun env => (fs env).bind fun ds => match ds with
  | [d, d'] => some (.nx ((env.set i (some d)).set j (some d')))
  | _ => none
theorem s_par (i j : Nat) {x y : Str} {px py pt : Pos} {kt k2 pt2} {fs : En → Option (List D)} (hc : X.calm = true) (hN : X.N.Nodup) (ha : PA X [a, b] (tA X.K fs)) (hi : X.N[i]? = some x := by rfl) (hj : X.N[j]? = some y := by rfl) (hij : i ≠ j := by decide)
    (hx : X.env.scope.names.lookup x = some .local := by rfl) (hy : X.env.scope.names.lookup y = some .local := by rfl)
    (hw : swappedStores [.Tuple [.Name x px, .Name y py] kt pt] (.Tuple [a, b] k2 pt2) X.env = pure (some [x, y]) := by rfl)
    (hs : swapsWithSole [.Tuple [.Name x px, .Name y py] kt pt] (.Tuple [a, b] k2 pt2) pos.line X.env = pure false := by rfl) :
    PS X (.Assign [.Tuple [.Name x px, .Name y py] kt pt] (.Tuple [a, b] k2 pt2) pos) (tS X.K (fPar i j fs)) := PS_weak (ps_par hc hN hi hj hij hx hy ha hw hs) fun N σ H h => by
  obtain ⟨H0, Hb0, env, Hb, fl, r, sp, ef, out⟩ := h
  obtain ⟨ds, ed, ef⟩ := bind1 ef
  refine ⟨H0, env, Hb, ds, r, sp.c, ed, fun vs Hb1 H1 s1 iv => ?_⟩
  match ds, ef, iv with
  | [d, d'], ef, iv =>
    cases ef
    simp only [IsL] at iv
    obtain ⟨v, r1, rfl, i1, v', r2, rfl, i2, rfl⟩ := iv
    exact ⟨v, v', rfl, out _ Hb1 H1 (((r.step s1).set i i1).set j i2) (sp.trans s1)⟩
theorem s_ret (he : PE X e (tD X.K fa)) : PS X (.Return (some e) pos) (tS X.K (fRet fa)) := PS_weak (ps_ret he) fun N σ H h => by
  obtain ⟨H0, Hb0, env, Hb, fl, r, sp, ef, out⟩ := h
  obtain ⟨d, ed, ef⟩ := bind1 ef
  cases ef
  exact ⟨H0, env, Hb, d, r, sp.c, ed, fun v Hb1 H1 s1 iv => out v Hb1 H1 (sp.trans s1) iv⟩
theorem s_expr (he : PE X e (tD X.K fa)) (hs : swapsWith e none pos.line X.env = pure false := by rfl) : PS X (.Expr e pos) (tS X.K (fDrop fa)) := PS_weak (ps_expr he hs) fun N σ H h => by
  obtain ⟨H0, Hb0, env, Hb, fl, r, sp, ef, out⟩ := h
  obtain ⟨d, ed, ef⟩ := bind1 ef
  cases ef
  exact ⟨H0, env, Hb, d, r, sp.c, ed, fun v Hb1 H1 s1 iv => out σ Hb1 H1 (r.step s1) (sp.trans s1)⟩
theorem ss_nil : PSs X [] (tS X.K fPass) := PSs_weak pss_nil fun N σ H h => by
  obtain ⟨H0, Hb0, env, Hb, fl, r, sp, ef, out⟩ := h
  cases ef
  exact out σ Hb H r sp
theorem s_pass : PS X (.Pass pos) (tS X.K fPass) := PS_weak ps_pass fun N σ H h => by
  obtain ⟨H0, Hb0, env, Hb, fl, r, sp, ef, out⟩ := h
  cases ef
  exact out σ Hb H r sp
theorem s_stuck : PS X st (tS X.K fStuck) := PS_weak ps_never fun N σ H h => by
  obtain ⟨H0, Hb0, env, Hb, fl, r, sp, ef, out⟩ := h
  cases ef
theorem ss_one (h : PS X st (tS X.K F)) : PSs X [st] (tS X.K F) := pss_one h
theorem ss_cons (h1 : PS X st (tS X.K F)) (h2 : PSs X rest (tS X.K G)) : PSs X (st :: rest) (tS X.K (fSeq F G)) := PSs_weak (pss_cons h1 h2) fun N σ H h => by
  obtain ⟨H0, Hb0, env, Hb, fl, r, sp, ef, out⟩ := h
  obtain ⟨f1, e1, ef⟩ := bind1 ef
  refine ⟨H0, Hb0, env, Hb, f1, r, sp, e1, ?_⟩
  cases f1 with
  | nx e' => exact fun σ' Hb' H' r' s' => ⟨H0, Hb0, e', Hb', fl, r', s', ef, out⟩
  | rt d => cases ef; exact out
  | bk e' => cases ef; exact out
  | ct e' => cases ef; exact out
theorem s_if {c : Expr} {fc : En → Option Bool} {p q : List Stmt} (hc : PT X c (tT X.K fc)) (hp : PSs X p (tS X.K F)) (hq : PSs X q (tS X.K G)) : PS X (.If c p q pos) (tS X.K (fIfS fc F G)) := PS_weak (ps_if hc hp hq) fun N σ H h => by
  obtain ⟨H0, Hb0, env, Hb, fl, r, sp, ef, out⟩ := h
  obtain ⟨k, ek, ef⟩ := bind1 ef
  refine ⟨H0, env, Hb, k, r, sp.c, ek, fun Hb1 H1 s1 => ?_⟩
  cases k with
  | true => exact ⟨H0, Hb0, env, Hb1, fl, r.step s1, sp.trans s1, ef, out⟩
  | false => exact ⟨H0, Hb0, env, Hb1, fl, r.step s1, sp.trans s1, ef, out⟩

/-! ### while -/
def whileF (c : En → Option Bool) (B : En → Option Fl) : Nat → En → Option Fl
  | 0, _ => none
  | n + 1, env => (c env).bind fun k => if k then (B env).bind fun fl => match fl with
      | .nx e => whileF c B n e
      | .ct e => whileF c B n e
      | .bk e => some (.nx e)
      | .rt d => some (.rt d)
    else some (.nx env)
def fWhile (fuel : En → Nat) (c : En → Option Bool) (B : En → Option Fl) : En → Option Fl := fun env => whileF c B (fuel env) env
theorem s_while (fuel : En → Nat) {c : Expr} {fc : En → Option Bool} {body : List Stmt} (hp : PassesOwn (model X.prog X.w) X.A X.env X.xe) (hc : PT X c (tT X.K fc)) (hb : PSs X body (tS X.K F)) : PS X (.While c body [] pos) (tS X.K (fWhile fuel fc F)) :=
  PS_weak (ps_while hp hc hb) fun N σ H h => by
    obtain ⟨H0, Hb0, env, Hb, fl, r, sp, ef, out⟩ := h
    refine ⟨fun m σ' H' => ∃ env' Hb', Rel X.K H0 Hb' H' σ' env' ∧ Step Hb0 H0 Hb' H' ∧ whileF fc F m env' = some fl, ⟨fuel env, env, Hb, r, sp, ef⟩, fun m σ1 H1 hW => ?_⟩
    obtain ⟨e1, Hb1, r1, s1, q1⟩ := hW
    cases m with
    | zero => cases q1
    | succ m =>
      obtain ⟨k, ek, q1⟩ := bind1 q1
      refine ⟨H0, e1, Hb1, k, r1, s1.c, ek, fun Hb2 H2 s2 => ?_⟩
      cases k with
      | false =>
        cases q1
        exact out σ1 Hb2 H2 (r1.step s2) (s1.trans s2)
      | true =>
        obtain ⟨f1, ef1, q1⟩ := bind1 q1
        refine ⟨fun σ' H' => ∃ env' Hb', Rel X.K H0 Hb' H' σ' env' ∧ Step Hb0 H0 Hb' H' ∧ whileF fc F m env' = some fl, fun σ' H' hN => ⟨m, Nat.lt_succ_self m, hN⟩, H0, Hb0, e1, Hb2, f1, r1.step s2, s1.trans s2, ef1, ?_⟩
        cases f1 with
        | nx e' => exact fun σ' Hb' H' r' s' => ⟨e', Hb', r', s', q1⟩
        | ct e' => exact fun σ' Hb' H' r' s' => ⟨e', Hb', r', s', q1⟩
        | bk e' =>
          cases q1
          exact fun σ' Hb' H' r' s' => out σ' Hb' H' r' s'
        | rt d =>
          cases q1
          exact out

/-! ### what is walked -/
def WalkD (K : PySem.W.Frag) (J : It) (ds : List D) (Hb0 : Hp) : Prop :=
  ∀ Hb H, Same Hb0 Hb → Same Hb H → (∀ (i : Nat) (d : D), ds[i]? = some d → J.go i H ∧ ∀ x H', J.yld i H x H' → ∃ Hb', Step Hb H Hb' H' ∧ Is K Hb' d x) ∧ J.stop ds.length H
def tI (K : PySem.W.Frag) (it : En → Option (List D)) : TI := fun σ H R => ∃ H0 env Hb ds, Rel K H0 Hb H σ env ∧ Same Hb H ∧ it env = some ds ∧ ∀ J Hb' H', Step Hb H Hb' H' → WalkD K J ds Hb' → R J H'
def itemsD : D → Option (List D)
  | .tup ds => some ds
  | .wk ds => some ds
  | .lst ds => some ds
  | .str l => some (l.map fun c => .str [c])
  | _ => none
def fIt (fa : En → Option D) : En → Option (List D) := fun env => (fa env).bind itemsD
theorem walk_l {K : PySem.W.Frag} {Hb : Hp} {p : Addr} {ds : List D} {vs : List V} (h : Hb p = some (.lst vs)) (l : IsL K Hb ds vs) : WalkD K (Itl K p) ds Hb := fun Hb1 H1 s1 s2 => by
  have hs : SqL K H1 p vs := .inl (.inl (s2 _ _ (s1 _ _ h)))
  refine ⟨fun i d e => ?_, ⟨vs, hs, by rw [l.length]; exact Nat.le_refl _⟩⟩
  obtain ⟨v, e1, e2⟩ := l.get e
  refine ⟨⟨vs, v, hs, e1⟩, fun x H' hy => ?_⟩
  obtain ⟨rfl, f⟩ := hy
  have := f vs hs
  rw [e1] at this
  cases this
  exact ⟨Hb1, Step.refl s2, e2.mono s1⟩
theorem walk_t {K : PySem.W.Frag} {Hb : Hp} {p : Addr} {ds : List D} {vs : List V} (h : SqT K Hb p vs) (l : IsL K Hb ds vs) : WalkD K (Itt K p) ds Hb := fun Hb1 H1 s1 s2 => by
  have hs : SqT K H1 p vs := sq_mono s2 (sq_mono s1 h)
  refine ⟨fun i d e => ?_, ⟨vs, hs, by rw [l.length]; exact Nat.le_refl _⟩⟩
  obtain ⟨v, e1, e2⟩ := l.get e
  refine ⟨⟨vs, v, hs, e1⟩, fun x H' hy => ?_⟩
  obtain ⟨rfl, f⟩ := hy
  have := f vs hs
  rw [e1] at this
  cases this
  exact ⟨Hb1, Step.refl s2, e2.mono s1⟩
theorem walk_s {K : PySem.W.Frag} {Hb : Hp} (l : List Nat) : WalkD K (Its (S l)) (l.map fun c => .str [c]) Hb := fun Hb1 H1 s1 s2 => by
  refine ⟨fun i d e => ?_, by show l.toArray.size ≤ (l.map _).length; simp⟩
  rw [List.getElem?_map] at e
  cases e1 : l[i]? with
  | none => rw [e1] at e; cases e
  | some c =>
    rw [e1] at e
    cases e
    refine ⟨?_, fun x H' hy => ?_⟩
    · show i < l.toArray.size
      have := (List.getElem?_eq_some_iff.mp e1).1
      simpa using this
    · obtain ⟨rfl, c', ec, rfl⟩ := hy
      have ec : l.toArray[i]? = some c' := ec
      rw [List.getElem?_toArray, e1] at ec
      cases ec
      exact ⟨Hb1, Step.refl s2, by simp only [Is, S]⟩
theorem walk_r {K : PySem.W.Frag} {Hb : Hp} (lo : Int) (n : Nat) : WalkD K (Itr lo n) ((List.range n).map fun i => .int (lo + (i : Nat))) Hb := fun Hb1 H1 s1 s2 => by
  refine ⟨fun i d e => ?_, by show n ≤ (List.map _ _).length; simp⟩
  rw [List.getElem?_map] at e
  cases e1 : (List.range n)[i]? with
  | none => rw [e1] at e; cases e
  | some c =>
    rw [e1] at e
    cases e
    obtain ⟨h1, h2⟩ := List.getElem?_eq_some_iff.mp e1
    rw [List.getElem_range] at h2
    subst h2
    refine ⟨by show i < n; simpa using h1, fun x H' hy => ?_⟩
    obtain ⟨rfl, rfl⟩ := hy
    exact ⟨Hb1, Step.refl s2, by simp only [Is]⟩
theorem i_seq (he : PE X e (tD X.K fa)) : PI X tg e (tI X.K (fIt fa)) := ⟨fun pins s σ H R I h => by
  obtain ⟨H0, env, Hb, ds, r, sm, ef, q⟩ := h
  obtain ⟨d, ed, ef⟩ := bind1 ef
  cases d with
  | tup xs =>
    cases ef
    refine (pi_tup he).run pins s σ H R I ⟨H0, env, Hb, _, r, sm, ed, fun v Hb1 H1 s1 iv => ?_⟩
    simp only [Is] at iv
    obtain ⟨p, vs, rfl, hx, lx⟩ := iv
    exact ⟨p, rfl, ⟨vs, (hx.mono s1.c).sq⟩, q _ Hb1 H1 s1 (walk_t hx.sq lx)⟩
  | wk xs =>
    cases ef
    refine (pi_tup he).run pins s σ H R I ⟨H0, env, Hb, _, r, sm, ed, fun v Hb1 H1 s1 iv => ?_⟩
    simp only [Is] at iv
    obtain ⟨p, vs, rfl, hx, lx⟩ := iv
    exact ⟨p, rfl, ⟨vs, sq_mono s1.c hx⟩, q _ Hb1 H1 s1 (walk_t hx lx)⟩
  | lst xs =>
    cases ef
    refine (pi_list he).run pins s σ H R I ⟨H0, env, Hb, _, r, sm, ed, fun v Hb1 H1 s1 iv => ?_⟩
    simp only [Is] at iv
    obtain ⟨p, vs, rfl, hx, lx⟩ := iv
    exact ⟨p, rfl, ⟨vs, .inl (.inl (s1.c _ _ hx))⟩, q _ Hb1 H1 s1 (walk_l hx lx)⟩
  | str l =>
    cases ef
    refine (pi_str he).run pins s σ H R I ⟨H0, env, Hb, _, r, sm, ed, fun v Hb1 H1 s1 iv => ?_⟩
    simp only [Is] at iv
    subst iv
    exact ⟨_, rfl, q _ Hb1 H1 s1 (walk_s l)⟩
  | _ => cases ef⟩
def rangeD (lo hi : Int) : Option (List D) := if (-(2 ^ 62) ≤ lo ∧ lo < 2 ^ 62 ∧ -(2 ^ 62) ≤ hi ∧ hi < 2 ^ 62) then some ((List.range (hi - lo).toNat).map fun i => .int (lo + (i : Nat))) else none
def fRng1 (fs : En → Option (List D)) : En → Option (List D) := fun env => (fs env).bind fun ds => match ds with
  | [.int n] => rangeD 0 n
  | _ => none
def fRng2 (fs : En → Option (List D)) : En → Option (List D) := fun env => (fs env).bind fun ds => match ds with
  | [.int m, .int n] => rangeD m n
  | _ => none
variable {fs : En → Option (List D)} {p : Pos}
theorem i_range1 (hm : X.mg "range" = none) (ha : PA X [a] (tA X.K fs)) (hg : Gl X "range" := by rfl) (hs : starEach [a] X.env = [(false, eval a X.env)] := by rfl) : PI X tg (.Call (.Name "range" p) [a] [] pos) (tI X.K (fRng1 fs)) := ⟨fun pins s σ H R I h => by
  obtain ⟨H0, env, Hb, ds, r, sm, ef, q⟩ := h
  obtain ⟨xs, ed, ef⟩ := bind1 ef
  refine (pi_range1 hg hm ha hs).run pins s σ H R I ⟨H0, env, Hb, xs, r, sm, ed, fun vs Hb1 H1 s1 iv => ?_⟩
  split at ef
  · simp only [IsL, Is] at iv
    obtain ⟨v, r1, rfl, rfl, rfl⟩ := iv
    obtain ⟨⟨_, _, h1, h2⟩, rfl⟩ := iteS ef
    refine ⟨_, rfl, h1, h2, q _ Hb1 H1 s1 ?_⟩
    rw [Int.sub_zero]
    exact walk_r (K := X.K) (Hb := Hb1) 0 (Int.toNat _)
  · cases ef⟩
theorem i_range2 (hm : X.mg "range" = none) (ha : PA X [a, b] (tA X.K fs)) (hg : Gl X "range" := by rfl) (hs : starEach [a, b] X.env = [(false, eval a X.env), (false, eval b X.env)] := by rfl) (hs2 : starEach [b] X.env = [(false, eval b X.env)] := by rfl) : PI X tg (.Call (.Name "range" p) [a, b] [] pos) (tI X.K (fRng2 fs)) := ⟨fun pins s σ H R I h => by
  obtain ⟨H0, env, Hb, ds, r, sm, ef, q⟩ := h
  obtain ⟨xs, ed, ef⟩ := bind1 ef
  refine (pi_range2 hg hm ha hs hs2).run pins s σ H R I ⟨H0, env, Hb, xs, r, sm, ed, fun vs Hb1 H1 s1 iv => ?_⟩
  split at ef
  · simp only [IsL, Is] at iv
    obtain ⟨v, r1, rfl, rfl, v2, r2, rfl, rfl, rfl⟩ := iv
    obtain ⟨hh, rfl⟩ := iteS ef
    exact ⟨_, _, rfl, hh, q _ Hb1 H1 s1 (walk_r (K := X.K) (Hb := Hb1) _ (Int.toNat _))⟩
  · cases ef⟩

/-! ### for -/
def forF (g : D → En → Option En) (B : En → Option Fl) : List D → En → Option Fl
  | [], env => some (.nx env)
  | d :: ds, env => (g d env).bind fun e1 => (B e1).bind fun fl => match fl with
    | .nx e => forF g B ds e
    | .ct e => forF g B ds e
    | .bk e => some (.nx e)
    | .rt d => some (.rt d)
def fFor (it : En → Option (List D)) (g : D → En → Option En) (B : En → Option Fl) : En → Option Fl := fun env => (it env).bind fun ds => forF g B ds env
theorem s_for {iter : Expr} {body : List Stmt} {it : En → Option (List D)} (hp : PassesOwn (model X.prog X.w) X.A X.env X.xe) (hc : X.calm = true) (hi : PI X tg iter (tI X.K it)) (hg : PG X tg (tG X.K ts g)) (hb : PSs X body (tS X.K F))
    (hs : ∀ x, foldedSetIterable iter X.env x = pure x := by intro _; rfl) : PS X (.For tg iter body [] pos) (tS X.K (fFor it g F)) := PS_weak (ps_for hp hc hi hg hb hs) fun N σ H h => by
  obtain ⟨H0, Hb0, env, Hb, fl, r, sp, ef, out⟩ := h
  obtain ⟨ds, ed, ef⟩ := bind1 ef
  refine ⟨H0, env, Hb, ds, r, sp.c, ed, fun J Hb1 H1 s1 wk => ?_⟩
  have x1 : Step Hb0 H0 Hb1 H1 := sp.trans s1
  refine ⟨fun i m σ' H' => ∃ env' Hb', Rel X.K H0 Hb' H' σ' env' ∧ Step Hb1 H0 Hb' H' ∧ i + m = ds.length ∧ forF g F (ds.drop i) env' = some fl, ⟨ds.length, env, Hb1, r.step s1, x1.fwd (Step.refl s1.c), by omega, ef⟩, fun i m σ2 H2 hW => ?_⟩
  obtain ⟨e2, Hb2, r2, s2, im, q2⟩ := hW
  obtain ⟨wi, ws⟩ := wk Hb2 H2 s2.b s2.c
  by_cases hm : m = 0
  · subst hm
    have hi : i = ds.length := by omega
    subst hi
    rw [List.drop_length] at q2
    cases q2
    exact .inl ⟨ws, out σ2 Hb2 H2 r2 (x1.back s2)⟩
  · have hi : i < ds.length := by omega
    obtain ⟨go, yld⟩ := wi i ds[i] (List.getElem?_eq_getElem hi)
    rw [List.drop_eq_getElem_cons hi] at q2
    obtain ⟨e3, eg, q2⟩ := bind1 q2
    obtain ⟨f1, ef1, q2⟩ := bind1 q2
    refine .inr ⟨go, fun σ' H' => ∃ env' Hb', Rel X.K H0 Hb' H' σ' env' ∧ Step Hb1 H0 Hb' H' ∧ forF g F (ds.drop (i + 1)) env' = some fl, fun σ' H' hN => ?_, fun x H' hy => ?_⟩
    · obtain ⟨e', Hb', a1, a2, a4⟩ := hN
      exact ⟨m - 1, by omega, e', Hb', a1, a2, by omega, a4⟩
    · obtain ⟨Hb3, s3, iv⟩ := yld x H' hy
      refine ⟨H0, Hb3, e2, ds[i], e3, r2.step s3, s3.c, iv, eg, fun σ' r' _ => ⟨H0, Hb1, e3, Hb3, f1, r', s2.trans s3, ef1, ?_⟩⟩
      cases f1 with
      | nx e' => exact fun σ' Hb' H' r' s' => ⟨e', Hb', r', s', q2⟩
      | ct e' => exact fun σ' Hb' H' r' s' => ⟨e', Hb', r', s', q2⟩
      | bk e' =>
        cases q2
        exact fun σ' Hb' H' r' s' => out σ' Hb' H' r' (x1.back s')
      | rt d =>
        cases q2
        exact fun v Hb' H' s' iv => out v Hb' H' (x1.back s') iv

/-! ### list comprehensions -/
def lcF (g : D → En → Option En) (t : En → Option Bool) (f : En → Option D) (env : En) : List D → Option (List D)
  | [] => some []
  | d :: ds => (g d env).bind fun e1 => (t e1).bind fun k => if k then (f e1).bind fun y => (lcF g t f env ds).bind fun r => some (y :: r) else lcF g t f env ds
def fLc (it : En → Option (List D)) (g : D → En → Option En) (t : En → Option Bool) (f : En → Option D) (vs : List Nat) : En → Option D := fun env =>
  (it env).bind fun ds => if ds.length ≤ 1000000 then (lcF g t f (wipeE env vs) ds).bind fun r => some (.lst r) else none
def fYes : En → Option Bool := fun _ => some true
theorem PTs_weak {ifs : List Expr} {t t' : TT} (h : PTs X ifs t) (w : ∀ σ H Q, t' σ H Q → t σ H Q) : PTs X ifs t' := ⟨fun pins s σ H Q I q => h.run pins s σ H Q I (w σ H Q q)⟩
theorem ts_nil : PTs X [] (tT X.K fYes) := PTs_weak pts_nil fun σ H Q h => by
  obtain ⟨H0, env, Hb, k, r, sm, ef, q⟩ := h
  cases ef
  exact q Hb H (Step.refl sm)
theorem ts_one {c : Expr} {ft : En → Option Bool} (h : PT X c (tT X.K ft)) : PTs X [c] (tT X.K ft) := pts_one h
theorem t_lc {K : PySem.W.Frag} {it : En → Option (List D)} {t : En → Option Bool} {f : En → Option D} {vs : List Nat} (hts : ∀ i ∈ ts, i ∈ vs) {σ : L2.St} {H : Hp} {Q : VK} (h : tD K (fLc it g t f vs) σ H Q) :
    tLc (tI K it) (tG K ts g) (tT K t) (tD K f) vs σ H Q := by
  obtain ⟨H0, env, Hb, d, r, sm, ef, q⟩ := h
  obtain ⟨ds, ed, ef⟩ := bind1 ef
  split at ef
  · rename_i hsz
    obtain ⟨out, eo, ef⟩ := bind1 ef
    cases ef
    refine ⟨H0, env, Hb, ds, r, sm, ed, fun J Hb1 H1 s1 wk Dd hD => ?_⟩
    refine ⟨fun i m H' => ∃ Hb' acc done rest, Rel K H0 Hb' H' (wipe σ vs) (wipeE env vs) ∧ Step Hb1 H1 Hb' H' ∧ Hb' Dd = none ∧ H' Dd = some (.lst acc) ∧ IsL K Hb' done acc ∧ done.length ≤ i ∧ i + m = ds.length ∧ lcF g t f (wipeE env vs) (ds.drop i) = some rest ∧ done ++ rest = out,
      ⟨ds.length, Hb1, [], [], out, ?_, ?_, s1.c.free hD, upd_same, by simp only [IsL], Nat.zero_le _, by omega, eo, rfl⟩, fun i m H2 hW => ?_⟩
    · refine ((r.step s1).wipe vs).step (Step.hid s1.c hD (s1.c.free hD))
    · exact Step.hid s1.c hD (s1.c.free hD)
    · obtain ⟨Hb2, acc, done, rest, r2, s2, hd1, hd2, il, hlen, im, el, eout⟩ := hW
      obtain ⟨wi, ws⟩ := wk Hb2 H2 s2.b s2.c
      by_cases hm : m = 0
      · subst hm
        have hi : i = ds.length := by omega
        subst hi
        rw [List.drop_length] at el
        cases el
        rw [List.append_nil] at eout
        subst eout
        refine .inl ⟨ws, q _ (upd Hb2 Dd (.lst acc)) H2 (s1.trans ?_) (is_lst_new hd1 il)⟩
        refine ⟨s2.a, s2.b.trans (same_new hd1), fun b x e => ?_, fun b x e n => ?_, fun n => (s2.t n).upd (by intro _ z; cases z)⟩
        · by_cases hb : b = Dd
          · subst hb
            rw [upd_same] at e
            rw [hd2, e]
          · rw [upd_ne hb] at e
            exact s2.c b x e
        · have hb : b ≠ Dd := ne_of_none e hD
          rw [upd_ne hb]
          exact s2.f b x e n
      · have hi : i < ds.length := by omega
        obtain ⟨go, yld⟩ := wi i ds[i] (List.getElem?_eq_getElem hi)
        rw [List.drop_eq_getElem_cons hi] at el
        obtain ⟨e3, eg, el⟩ := bind1 el
        obtain ⟨k, ek, el⟩ := bind1 el
        refine .inr ⟨go, fun H' => ∃ Hb' acc done rest, Rel K H0 Hb' H' (wipe σ vs) (wipeE env vs) ∧ Step Hb1 H1 Hb' H' ∧ Hb' Dd = none ∧ H' Dd = some (.lst acc) ∧ IsL K Hb' done acc ∧ done.length ≤ i + 1 ∧ lcF g t f (wipeE env vs) (ds.drop (i + 1)) = some rest ∧ done ++ rest = out, fun H' hN => ?_, fun x H' hy => ?_⟩
        · obtain ⟨Hb', acc', done', rest', a1, a2, a3, a4, a5, a6, a7, a8⟩ := hN
          exact ⟨m - 1, by omega, Hb', acc', done', rest', a1, a2, a3, a4, a5, a6, by omega, a7, a8⟩
        · obtain ⟨Hb3, s3, iv⟩ := yld x H' hy
          refine ⟨H0, Hb3, wipeE env vs, ds[i], e3, r2.step s3, s3.c, iv, eg, fun σ' r' hw => ⟨?_, H0, e3, Hb3, k, r', s3.c, ek, fun Hb4 H4 s4 => ?_⟩⟩
          · have := wipe_mono hts hw
            rw [wipe_wipe] at this
            exact this
          · have d4 : H4 Dd = some (.lst acc) := s4.a _ _ (s3.a _ _ hd2)
            have n4 : Hb4 Dd = none := s4.f _ _ (s3.a _ _ hd2) (s3.f _ _ hd2 hd1)
            cases k with
            | false =>
              exact ⟨Hb4, acc, done, rest, (r2.step s3).step s4, s2.trans (s3.trans s4), n4, d4, il.mono (s3.b.trans s4.b), by omega, el, eout⟩
            | true =>
              obtain ⟨y, ey, el⟩ := bind1 el
              obtain ⟨rest', er, el⟩ := bind1 el
              cases el
              refine ⟨H0, e3, Hb4, y, r'.step s4, s4.c, ey, fun v Hb5 H5 s5 iv5 => ?_⟩
              have d5 : H5 Dd = some (.lst acc) := s5.a _ _ d4
              have n5 : Hb5 Dd = none := s5.f _ _ d4 n4
              have st : Step Hb1 H1 Hb5 H5 := s2.trans (s3.trans (s4.trans s5))
              have hsame : Same Hb5 (upd H5 Dd (.lst (acc ++ [v]))) := fun b o e => by
                rw [upd_ne (ne_of_none e n5)]
                exact st.c b o e
              refine ⟨acc, d5, ?_, Hb5, acc ++ [v], done ++ [y], rest', ?_, ?_, n5, upd_same, ?_, ?_, er, ?_⟩
              · rw [il.length]
                have := size1000
                omega
              · have rr := ((r2.step s3).step s4).step s5
                refine ⟨rr.len, fun j d e => ?_, rr.sep⟩
                obtain ⟨w, a1, a2⟩ := rr.val j d e
                refine ⟨w, a1, ?_⟩
                cases hown : d.isOwn with
                | false =>
                  rw [IsS.plain hown] at a2 ⊢
                  exact a2
                | true =>
                  obtain ⟨v0, b1, b2⟩ := r.val j d (by
                    have := (wipeE_some e).1
                    exact this)
                  have b3 := wipe_some' a1
                  rw [b3] at b1
                  cases b1
                  cases d with
                  | own dd =>
                    obtain ⟨p, vs', c1, c2, c3, c4, c5⟩ := a2
                    obtain ⟨p', vs'', c1', c2', c3', c4', c5'⟩ := b2
                    subst c1
                    cases c1'
                    exact ⟨p, vs', rfl, c2, c3, by rw [upd_ne (ne_of_none (s1.a _ _ c4') hD)]; exact c4, c5⟩
                  | ownd dd =>
                    obtain ⟨p, vs', c1, c2, c3, c4, c5⟩ := a2
                    obtain ⟨p', vs'', c1', c2', c3', c4', c5'⟩ := b2
                    subst c1
                    cases c1'
                    exact ⟨p, vs', rfl, c2, c3, by rw [upd_ne (ne_of_none (s1.a _ _ c4') hD)]; exact c4, c5⟩
                  | _ => cases hown
              · refine ⟨fun b o e => ?_, st.b, hsame, st.f, st.t⟩
                rw [upd_ne (ne_of_none e hD)]
                exact st.a b o e
              · have := il.mono (s3.b.trans (s4.b.trans s5.b))
                refine this.append ?_
                simp only [IsL]
                exact ⟨v, [], rfl, iv5, rfl⟩
              · rw [List.length_append, List.length_singleton]
                omega
              · rw [List.append_assoc]
                exact eout
  · cases ef
theorem e_lc {elt iter : Expr} {ifs : List Expr} {scope : Scope} {own : List (Str × Nat)} {it : En → Option (List D)} {t : En → Option Bool} {f : En → Option D} (hc : X.calm = true) (hN : X.N.Nodup) (hi : PI X tg iter (tI X.K it)) (ok : BlkOk X.N X.env.scope scope own)
    (hg : ∀ (s : Shared) (H : Hp) (C : Addr) (cl : List (Str × Addr)) (fp : List Addr), PG (X.blk s H scope (compEnvC scope cl C X.env) fp) tg (tG X.K ts g)) (ht : ∀ (s : Shared) (H : Hp) (C : Addr) (cl : List (Str × Addr)) (fp : List Addr), PTs (X.blk s H scope (compEnvC scope cl C X.env) fp) ifs (tT X.K t))
    (he : ∀ (s : Shared) (H : Hp) (C : Addr) (cl : List (Str × Addr)) (fp : List Addr), PE (X.blk s H scope (compEnvC scope cl C X.env) fp) elt (tD X.K f)) (hts : ∀ i ∈ ts, i ∈ own.map (·.2) := by decide) (hs : ∀ x, foldedSetIterable iter X.env x = pure x := by intro _; rfl) :
    PE X (.ListComp elt [⟨tg, iter, ifs, 0⟩] scope pos) (tD X.K (fLc it g t f (own.map (·.2)))) := PE_weak (pe_lc hc hN hi ok hg ht he hs) fun _ _ _ h => t_lc hts h
theorem s_setLc (i : Nat) {y : Str} {py spos : Pos} {elt iter : Expr} {ifs : List Expr} {scope : Scope} {own : List (Str × Nat)} {it : En → Option (List D)} {t : En → Option Bool} {f : En → Option D} (hc : X.calm = true) (hN : X.N.Nodup) (hi : PI X tg iter (tI X.K it)) (ok : BlkOk X.N X.env.scope scope own)
    (hg : ∀ (s : Shared) (H : Hp) (C : Addr) (cl : List (Str × Addr)) (fp : List Addr), PG (X.blk s H scope (compEnvC scope cl C X.env) fp) tg (tG X.K ts g)) (ht : ∀ (s : Shared) (H : Hp) (C : Addr) (cl : List (Str × Addr)) (fp : List Addr), PTs (X.blk s H scope (compEnvC scope cl C X.env) fp) ifs (tT X.K t))
    (he : ∀ (s : Shared) (H : Hp) (C : Addr) (cl : List (Str × Addr)) (fp : List Addr), PE (X.blk s H scope (compEnvC scope cl C X.env) fp) elt (tD X.K f)) (hsw : swapsWith (.ListComp elt [⟨tg, iter, ifs, 0⟩] scope pos) (some (.Name y py)) spos.line X.env = pure true)
    (hts : ∀ i ∈ ts, i ∈ own.map (·.2) := by decide) (hy : X.N[i]? = some y := by rfl) (hyl : X.env.scope.names.lookup y = some .local := by rfl) (hs : ∀ x, foldedSetIterable iter X.env x = pure x := by intro _; rfl) :
    PS X (.Assign [.Name y py] (.ListComp elt [⟨tg, iter, ifs, 0⟩] scope pos) spos) (tS X.K (fSet i (fLc it g t f (own.map (·.2))))) := PS_weak (ps_setLc hc hN hy hyl hsw hi ok hg ht he hs) fun N σ H h => by
  obtain ⟨H0, Hb0, env, Hb, fl, r, sp, ef, out⟩ := h
  obtain ⟨d, ed, ef⟩ := bind1 ef
  cases ef
  exact t_lc hts ⟨H0, env, Hb, d, r, sp.c, ed, fun v Hb1 H1 s1 iv => out _ Hb1 H1 ((r.step s1).set i iv) (sp.trans s1)⟩

/-! ### calls and defs -/
def spD (K : PySem.W.Frag) (sem : List D → Option D) : Sp := fun vs H Q _ => ∃ Hb ds d, Same Hb H ∧ IsL K Hb ds vs ∧ sem ds = some d ∧ ∀ v Hb' H', Step Hb H Hb' H' → Is K Hb' d v → Q v H'
def fCall (sem : List D → Option D) (fs : En → Option (List D)) : En → Option D := fun env => (fs env).bind sem
theorem t_call {sem : List D → Option D} {E : XK} {σ : L2.St} {H : Hp} {Q : VK} (h : tD X.K (fCall sem fs) σ H Q) : tCall (spD X.K sem) [] E (tA X.K fs) σ H Q := by
  obtain ⟨H0, env, Hb, d, r, sm, ef, q⟩ := h
  obtain ⟨ds, ed, ef⟩ := bind1 ef
  exact ⟨H0, env, Hb, ds, r, sm, ed, fun vs Hb1 H1 s1 iv => by
    show spD X.K sem (vs ++ []) H1 Q E
    rw [List.append_nil]
    exact ⟨Hb1, ds, d, s1.c, iv, ef, fun v Hb2 H2 s2 i2 => q v Hb2 H2 (s1.trans s2) i2⟩⟩
theorem e_call {x : Str} {es : List Expr} {f : Addr} {fd : FuncData} {ps : List Str} {k : Nat} {sem : List D → Option D} (Fo : FnOk X.prog X.w X.K X.mg X.base CX0 k f fd ps (spD X.K sem)) (hr : Room k X.A) (hm : X.mg x = some (.ref f)) (hk : PySem.W.keepIn X.K (.ref f) = true) (hb : Binds X.K fd ps [])
    (ha : PA X (e :: es) (tA X.K fs)) (hg : Gl X x := by rfl) (hdb : (x == ("__debug__" : Str)) = false := by decide) (he : starEach (e :: es) X.env = (false, eval e X.env) :: starEach es X.env := by rfl) (hpl : (backTo pos (starEach es X.env)).any (·.1) = false := by rfl) :
    PE X (.Call (.Name x p) (e :: es) [] pos) (tD X.K (fCall sem fs)) := PE_weak (pe_call Fo hr hg hm hk hb .nil pass0 ha hdb he hpl) fun _ _ _ h => t_call h
/-- built-ins -/
def fBlt (g : List D → Option D) (fs : En → Option (List D)) : En → Option D := fun env => (fs env).bind g
theorem t_cb {g : List D → Option D} {σ : L2.St} {H : Hp} {Q : VK} (h : tD X.K (fBlt g fs) σ H Q) : tCB (rDA X.K g) (tA X.K fs) σ H Q := by
  obtain ⟨H0, env, Hb, d, r, sm, ef, q⟩ := h
  obtain ⟨ds, ed, ef⟩ := bind1 ef
  exact ⟨H0, env, Hb, ds, r, sm, ed, fun vs Hb1 H1 s1 iv => ⟨Hb1, ds, d, s1.c, iv, ef, fun v Hb2 H2 s2 i2 => q v Hb2 H2 (s1.trans s2) i2⟩⟩
theorem e_blt {x : Str} {id : String} {es : List Expr} {g : List D → Option D} (hc : CallR X (.builtin id) (rDA X.K g)) (hm : X.mg x = none) (hv : bootBuiltins x = some (.builtin id)) (ha : PA X (e :: es) (tA X.K fs)) (hg : Gl X x := by rfl) (hn : x ≠ "__name__" := by decide) (hdb : (x == ("__debug__" : Str)) = false := by decide)
    (he : starEach (e :: es) X.env = (false, eval e X.env) :: starEach es X.env := by rfl) (hpl : (backTo pos (starEach es X.env)).any (·.1) = false := by rfl) : PE X (.Call (.Name x p) (e :: es) [] pos) (tD X.K (fBlt g fs)) := PE_weak (pe_callB hc hg hm hv ha hn hdb he hpl) fun _ _ _ h => t_cb h
theorem e_ty {x : Str} {T : String} {es : List Expr} {g : List D → Option D} (hc : CallR X (.type T) (rDA X.K g)) (hm : X.mg x = none) (hv : bootBuiltins x = some (.type T)) (ha : PA X (e :: es) (tA X.K fs)) (hg : Gl X x := by rfl) (hn : x ≠ "__name__" := by decide) (hdb : (x == ("__debug__" : Str)) = false := by decide)
    (he : starEach (e :: es) X.env = (false, eval e X.env) :: starEach es X.env := by rfl) (hpl : (backTo pos (starEach es X.env)).any (·.1) = false := by rfl) : PE X (.Call (.Name x p) (e :: es) [] pos) (tD X.K (fBlt g fs)) := PE_weak (pe_callTy hc hg hm hv ha hn hdb he hpl) fun _ _ _ h => t_cb h
end

def startE (n : Nat) (ds : List D) : En := ds.map some ++ List.replicate (n - ds.length) none
/-- what a def's body computes -/
def semOf (n m : Nat) (F : En → Option Fl) : List D → Option D := fun ds => if ds.length = m then (F (startE n ds)).bind fun fl => match fl with
  | .rt d => some d
  | .nx _ => some .non
  | _ => none
 else none
theorem rel_start {K : PySem.W.Frag} {Hb H : Hp} {N : List Str} {ds : List D} {vs : List V} (h : IsL K Hb ds vs) : Rel K H Hb H (L2.start N vs) (startE N.length ds) := by
  have hown : ∀ (ds : List D) (vs : List V), IsL K Hb ds vs → ∀ d ∈ ds, d.isOwn = false := by
    intro ds
    induction ds with
    | nil => intro _ _ d hd; cases hd
    | cons x xs ih =>
      intro vs h d hd
      simp only [IsL] at h
      obtain ⟨v, r, _, i1, i2⟩ := h
      rcases List.mem_cons.mp hd with rfl | hd
      · cases d <;> first | rfl | (simp only [Is] at i1)
      · exact ih r i2 d hd
  have pl := hown ds vs h
  have get : ∀ (i : Nat) (d : D), (startE N.length ds)[i]? = some (some d) → ds[i]? = some d := fun i d e => by
    unfold startE at e
    by_cases hi : i < ds.length
    · rw [List.getElem?_append_left (by simpa using hi), List.getElem?_map] at e
      cases q : ds[i]? with
      | none => rw [q] at e; cases e
      | some z => rw [q] at e; cases e; rfl
    · rw [List.getElem?_append_right (by simpa using hi), List.getElem?_replicate] at e
      split at e <;> cases e
  refine ⟨?_, fun i d e => ?_, fun i j d e a _ e1 e2 o1 _ _ _ => ?_⟩
  · unfold L2.start startE
    rw [List.length_append, List.length_append, List.length_map, List.length_map, List.length_replicate, List.length_replicate, h.length]
  · have e' := get i d e
    obtain ⟨v, h1, h2⟩ := h.get e'
    refine ⟨v, ?_, ?_⟩
    · unfold L2.start
      have hi := (List.getElem?_eq_some_iff.mp h1).1
      rw [List.getElem?_append_left (by simpa using hi), List.getElem?_map, h1]
      rfl
    · rw [IsS.plain (pl d (List.mem_of_getElem? e'))]
      exact h2
  · have := pl d (List.mem_of_getElem? (get i d e1))
    rw [this] at o1
    cases o1
section
variable {P : Program} {w : World} {K : PySem.W.Frag} {mg : Str → Option Value} {base : Heap}
theorem fn_d {x qual : Str} {st : Stmt} {f : Addr} {fd : FuncData} {N ps : List Str} {k : Nat} {F : En → Option Fl} (Fu : Fun K x qual st f fd) (S : FnScope N ps (defScope st))
    (hb : ∀ (cdv : Value) (A : Around) (outer : List Env) (s : Shared) (H : Hp) (E : XK), Room k (A.deeper (envOfC qual (defScope st) s.heap.objs.size f cdv)) → PSs (cxOf CX0 P w K mg base N qual (defScope st) f cdv A outer s H E).nox (defBody st) (tS K F)) :
    FnOk P w K mg base CX0 (k + 1) f fd ps (spD K (semOf N.length ps.length F)) := by
  refine Fu.ok S (fun vs H Q E h => ?_) (fun cdv A outer s H vs Q E hr h => ⟨_, hb cdv A outer s H E hr, ?_⟩)
  · obtain ⟨Hb, ds, d, sm, il, es, q⟩ := h
    unfold semOf at es
    split at es
    · rename_i hl
      rw [il.length, hl]
    · cases es
  · obtain ⟨Hb, ds, d, sm, il, es, q⟩ := h
    unfold semOf at es
    split at es
    · obtain ⟨fl, ef, es⟩ := bind1 es
      refine ⟨H, Hb, startE N.length ds, Hb, fl, rel_start il, Step.refl sm, ef, ?_⟩
      cases fl with
      | rt d' => cases es; exact q
      | nx e' =>
        cases es
        exact fun σ Hb' H' r' s' => q .non Hb' H' s' (by simp only [Is])
      | bk e' => cases es
      | ct e' => cases es
    · cases es
theorem fn_nice {f : Addr} {fd : FuncData} {ps : List Str} {k : Nat} {sem nice : List D → Option D} (h : FnOk P w K mg base CX0 k f fd ps (spD K sem)) (q : ∀ ds d, nice ds = some d → sem ds = some d) : FnOk P w K mg base CX0 k f fd ps (spD K nice) :=
  h.imp fun vs H Q E ⟨Hb, ds, d, a1, a2, a3, a4⟩ => ⟨Hb, ds, d, a1, a2, q ds d a3, a4⟩
/-- the law's own promise -/
def spLaw (K : PySem.W.Frag) : Sp := fun vs H Q _ => ∃ (a : Addr) (ns : List Int), vs = [.ref a] ∧ SqL K H a (ns.map V.int) ∧ ns.length ≤ 63 ∧ ∀ H', Q (.bl true) H'
theorem fn_law {f : Addr} {fd : FuncData} {k : Nat} {sem : List D → Option D} (h : FnOk P w K mg base CX0 k f fd ["script"] (spD K sem)) (q : ∀ ns : List Int, ns.length ≤ 63 → sem [.scr ns] = some (.bl true)) : FnOk P w K mg base CX0 k f fd ["script"] (spLaw K) :=
  h.imp fun vs H Q E ⟨a, ns, e, hs, hl, hq⟩ => ⟨H, [.scr ns], .bl true, Same.refl H, by
    subst e
    simp only [IsL, Is]
    exact ⟨_, _, rfl, ⟨a, rfl, hs⟩, rfl⟩, q ns hl, fun v Hb' H' _ iv => by
    simp only [Is] at iv
    subst iv
    exact hq H'⟩
end
end Dn
set_option Elab.async false
set_option linter.all false
set_option maxRecDepth 100000
/-! Part D: built-ins and methods of texts. -/
namespace Dn
open PySem L2 PySem.Spec PyProof.Rows

def strsOf : List D → Option (List (List Nat))
  | [] => some []
  | .str l :: ds => (strsOf ds).bind fun r => some (l :: r)
  | _ :: _ => none
def intsOf : List D → Option (List Int)
  | [] => some []
  | .int l :: ds => (intsOf ds).bind fun r => some (l :: r)
  | _ :: _ => none
def blsOf : List D → Option (List Bool)
  | [] => some []
  | .bl l :: ds => (blsOf ds).bind fun r => some (l :: r)
  | _ :: _ => none
theorem strsOf_eq : ∀ {ds : List D} {ls : List (List Nat)}, strsOf ds = some ls → ds = ls.map D.str
  | [], ls, h => by cases h; rfl
  | .str l :: ds, ls, h => by
    obtain ⟨r, e, h⟩ := bind1 h
    cases h
    rw [List.map_cons, strsOf_eq e]
  | .non :: _, _, h => by cases h
  | .bl _ :: _, _, h => by cases h
  | .int _ :: _, _, h => by cases h
  | .tup _ :: _, _, h => by cases h
  | .wk _ :: _, _, h => by cases h
  | .lst _ :: _, _, h => by cases h
  | .scr _ :: _, _, h => by cases h
  | .adr _ :: _, _, h => by cases h
  | .dct _ :: _, _, h => by cases h
  | .own _ :: _, _, h => by cases h
  | .ownd _ :: _, _, h => by cases h
theorem intsOf_eq : ∀ {ds : List D} {ls : List Int}, intsOf ds = some ls → ds = ls.map D.int
  | [], ls, h => by cases h; rfl
  | .int l :: ds, ls, h => by
    obtain ⟨r, e, h⟩ := bind1 h
    cases h
    rw [List.map_cons, intsOf_eq e]
  | .non :: _, _, h => by cases h
  | .bl _ :: _, _, h => by cases h
  | .str _ :: _, _, h => by cases h
  | .tup _ :: _, _, h => by cases h
  | .wk _ :: _, _, h => by cases h
  | .lst _ :: _, _, h => by cases h
  | .scr _ :: _, _, h => by cases h
  | .adr _ :: _, _, h => by cases h
  | .dct _ :: _, _, h => by cases h
  | .own _ :: _, _, h => by cases h
  | .ownd _ :: _, _, h => by cases h
theorem blsOf_eq : ∀ {ds : List D} {ls : List Bool}, blsOf ds = some ls → ds = ls.map D.bl
  | [], ls, h => by cases h; rfl
  | .bl l :: ds, ls, h => by
    obtain ⟨r, e, h⟩ := bind1 h
    cases h
    rw [List.map_cons, blsOf_eq e]
  | .non :: _, _, h => by cases h
  | .int _ :: _, _, h => by cases h
  | .str _ :: _, _, h => by cases h
  | .tup _ :: _, _, h => by cases h
  | .wk _ :: _, _, h => by cases h
  | .lst _ :: _, _, h => by cases h
  | .scr _ :: _, _, h => by cases h
  | .adr _ :: _, _, h => by cases h
  | .dct _ :: _, _, h => by cases h
  | .own _ :: _, _, h => by cases h
  | .ownd _ :: _, _, h => by cases h
theorem strsOf_map : ∀ ls : List (List Nat), strsOf (ls.map D.str) = some ls
  | [] => rfl
  | l :: ls => by rw [List.map_cons, strsOf, strsOf_map ls]; rfl
theorem intsOf_map : ∀ ls : List Int, intsOf (ls.map D.int) = some ls
  | [] => rfl
  | l :: ls => by rw [List.map_cons, intsOf, intsOf_map ls]; rfl
theorem blsOf_map : ∀ ls : List Bool, blsOf (ls.map D.bl) = some ls
  | [] => rfl
  | l :: ls => by rw [List.map_cons, blsOf, blsOf_map ls]; rfl
section
variable {K : PySem.W.Frag} {H : Hp}
theorem isl_strs : ∀ {ls : List (List Nat)} {vs : List V}, IsL K H (ls.map D.str) vs → vs = (ls.map S).map V.str
  | [], vs, h => by simpa only [List.map_nil, IsL] using h
  | l :: ls, vs, h => by
    simp only [List.map_cons, IsL, Is] at h
    obtain ⟨v, r, rfl, rfl, h⟩ := h
    rw [isl_strs h, List.map_cons, List.map_cons]
theorem isl_ints : ∀ {ls : List Int} {vs : List V}, IsL K H (ls.map D.int) vs → vs = ls.map V.int
  | [], vs, h => by simpa only [List.map_nil, IsL] using h
  | l :: ls, vs, h => by
    simp only [List.map_cons, IsL, Is] at h
    obtain ⟨v, r, rfl, rfl, h⟩ := h
    rw [isl_ints h, List.map_cons]
theorem isl_bls : ∀ {ls : List Bool} {vs : List V}, IsL K H (ls.map D.bl) vs → vs = ls.map V.bl
  | [], vs, h => by simpa only [List.map_nil, IsL] using h
  | l :: ls, vs, h => by
    simp only [List.map_cons, IsL, Is] at h
    obtain ⟨v, r, rfl, rfl, h⟩ := h
    rw [isl_bls h, List.map_cons]
theorem of_strs : ∀ (ls : List (List Nat)), IsL K H (ls.map D.str) ((ls.map S).map V.str)
  | [] => by simp only [List.map_nil, IsL]
  | l :: ls => by simp only [List.map_cons, IsL, Is]; exact ⟨_, _, rfl, rfl, of_strs ls⟩
theorem of_ints : ∀ (ls : List Int), IsL K H (ls.map D.int) (ls.map V.int)
  | [] => by simp only [List.map_nil, IsL]
  | l :: ls => by simp only [List.map_cons, IsL, Is]; exact ⟨_, _, rfl, rfl, of_ints ls⟩
/-- one argument -/
theorem isl1 {d : D} {vs : List V} (h : IsL K H [d] vs) : ∃ v, vs = [v] ∧ Is K H d v := by
  simp only [IsL] at h
  obtain ⟨v, r, rfl, i, rfl⟩ := h
  exact ⟨v, rfl, i⟩
theorem isl2 {d e : D} {vs : List V} (h : IsL K H [d, e] vs) : ∃ v w, vs = [v, w] ∧ Is K H d v ∧ Is K H e w := by
  simp only [IsL] at h
  obtain ⟨v, r, rfl, i, w, r2, rfl, i2, rfl⟩ := h
  exact ⟨v, w, rfl, i, i2⟩
end

/-! ### len, int, abs, all, sum, min, max -/
def lenG : List D → Option D
  | [.str l] => if l.length ≤ sizeLine then some (.int l.length) else none
  | [.tup l] => some (.int l.length)
  | [.wk l] => some (.int l.length)
  | [.lst l] => some (.int l.length)
  | [.scr l] => some (.int l.length)
  | _ => none
def intG : List D → Option D
  | [.int i] => some (.int i)
  | [.bl k] => some (.int (if k then 1 else 0))
  | [.str l] => if l.length ≤ 640 then (PySem.intText? (S l)).bind fun n => some (.int n) else none
  | _ => none
def absG : List D → Option D
  | [.int i] => some (.int (if i < 0 then -i else i))
  | _ => none
def tupG : List D → Option D
  | [.lst l] => some (.tup l)
  | [.tup l] => some (.tup l)
  | _ => none
def minOf {α : Type} (lt : α → α → Bool) (x : α) (xs : List α) : α := xs.foldl (fun a y => if lt y a then y else a) x
def maxOf {α : Type} (lt : α → α → Bool) (x : α) (xs : List α) : α := xs.foldl (fun a y => if lt a y then y else a) x
def ltS (a b : List Nat) : Bool := decide (a < b)
def ltI (a b : Int) : Bool := decide (a < b)
def minG : List D → Option D
  | [.lst ds] => match strsOf ds with
    | some (x :: xs) => some (.str (minOf ltS x xs))
    | _ => match intsOf ds with
      | some (x :: xs) => some (.int (minOf ltI x xs))
      | _ => none
  | [.tup ds] => match intsOf ds with
      | some (x :: xs) => some (.int (minOf ltI x xs))
      | _ => none
  | [.int i, .int j] => some (.int (if j < i then j else i))
  | _ => none
def maxG : List D → Option D
  | [.lst ds] => match intsOf ds with
      | some (x :: xs) => some (.int (maxOf ltI x xs))
      | _ => none
  | [.tup ds] => match intsOf ds with
      | some (x :: xs) => some (.int (maxOf ltI x xs))
      | _ => none
  | [.int i, .int j] => some (.int (if j > i then j else i))
  | _ => none
def allG : List D → Option D
  | [.lst ds] => (blsOf ds).bind fun bs => some (.bl (bs.all id))
  | _ => none
def sumG : List D → Option D
  | [.lst ds] => (intsOf ds).bind fun bs => some (.int bs.sum)
  | [.tup ds] => (intsOf ds).bind fun bs => some (.int bs.sum)
  | _ => none
section
variable {X : Cx}
theorem c_len : CallR X (.builtin "len") (rDA X.K lenG) := by
  intro pins s σ H xs us Q I r h
  obtain ⟨Hb, ds, d, sm, il, eg, q⟩ := h
  unfold lenG at eg
  split at eg
  · obtain ⟨v, rfl, iv⟩ := isl1 il
    simp only [Is] at iv
    subst iv
    obtain ⟨hl, rfl⟩ := iteS eg
    exact call_len_str pins s σ H _ us Q I r ⟨_, rfl, by rw [S_len]; exact hl, q _ Hb H (Step.refl sm) (by simp only [Is, S_len])⟩
  · obtain ⟨v, rfl, iv⟩ := isl1 il
    simp only [Is] at iv
    obtain ⟨p, vs, rfl, hx, lx⟩ := iv
    cases eg
    exact call_len_seq pins s σ H _ us Q I r ⟨p, vs, rfl, .inr ((hx.mono sm).sq), q _ Hb H (Step.refl sm) (by simp only [Is, lx.length])⟩
  · obtain ⟨v, rfl, iv⟩ := isl1 il
    simp only [Is] at iv
    obtain ⟨p, vs, rfl, hx, lx⟩ := iv
    cases eg
    exact call_len_seq pins s σ H _ us Q I r ⟨p, vs, rfl, .inr (sq_mono sm hx), q _ Hb H (Step.refl sm) (by simp only [Is, lx.length])⟩
  · obtain ⟨v, rfl, iv⟩ := isl1 il
    simp only [Is] at iv
    obtain ⟨p, vs, rfl, hx, lx⟩ := iv
    cases eg
    exact call_len_seq pins s σ H _ us Q I r ⟨p, vs, rfl, .inl (.inl (.inl (sm _ _ hx))), q _ Hb H (Step.refl sm) (by simp only [Is, lx.length])⟩
  · obtain ⟨v, rfl, iv⟩ := isl1 il
    simp only [Is] at iv
    obtain ⟨p, rfl, hx⟩ := iv
    cases eg
    exact call_len_seq pins s σ H _ us Q I r ⟨p, _, rfl, .inl (sm.seq hx), q _ Hb H (Step.refl sm) (by simp only [Is, List.length_map])⟩
  · cases eg
theorem c_int : CallR X (.type "int") (rDA X.K intG) := by
  intro pins s σ H xs us Q I r h
  obtain ⟨Hb, ds, d, sm, il, eg, q⟩ := h
  unfold intG at eg
  split at eg
  · obtain ⟨v, rfl, iv⟩ := isl1 il
    simp only [Is] at iv
    subst iv
    cases eg
    exact call_int1 pins s σ H _ us Q I r (.inl ⟨_, rfl, q _ Hb H (Step.refl sm) (by simp only [Is])⟩)
  · obtain ⟨v, rfl, iv⟩ := isl1 il
    simp only [Is] at iv
    subst iv
    cases eg
    exact call_int1 pins s σ H _ us Q I r (.inr ⟨_, rfl, q _ Hb H (Step.refl sm) (by simp only [Is])⟩)
  · obtain ⟨v, rfl, iv⟩ := isl1 il
    simp only [Is] at iv
    subst iv
    split at eg
    · rename_i hl
      obtain ⟨n, en, ed⟩ := bind1 eg
      cases ed
      exact call_int_str pins s σ H _ us Q I r ⟨_, n, rfl, en, by rw [S_len]; exact hl, q _ Hb H (Step.refl sm) (by simp only [Is])⟩
    · cases eg
  · cases eg
theorem c_abs : CallR X (.builtin "abs") (rDA X.K absG) := by
  intro pins s σ H xs us Q I r h
  obtain ⟨Hb, ds, d, sm, il, eg, q⟩ := h
  unfold absG at eg
  split at eg
  · obtain ⟨v, rfl, iv⟩ := isl1 il
    simp only [Is] at iv
    subst iv
    cases eg
    exact call_abs pins s σ H _ us Q I r ⟨_, rfl, q _ Hb H (Step.refl sm) (by simp only [Is])⟩
  · cases eg
theorem c_all (hc : X.calm = true) : CallR X (.builtin "all") (rDA X.K allG) := by
  intro pins s σ H xs us Q I r h
  obtain ⟨Hb, ds, d, sm, il, eg, q⟩ := h
  unfold allG at eg
  split at eg
  · obtain ⟨v, rfl, iv⟩ := isl1 il
    simp only [Is] at iv
    obtain ⟨p, vs, rfl, hx, lx⟩ := iv
    obtain ⟨bs, eb, ed⟩ := bind1 eg
    cases ed
    have e := blsOf_eq eb
    subst e
    have := isl_bls lx
    subst this
    exact cr_all hc pins s σ H _ us Q I r ⟨p, bs, rfl, .inl (.inl (sm _ _ hx)), q _ Hb H (Step.refl sm) (by simp only [Is])⟩
  · cases eg
theorem c_sum (hc : X.calm = true) : CallR X (.builtin "sum") (rDA X.K sumG) := by
  intro pins s σ H xs us Q I r h
  obtain ⟨Hb, ds, d, sm, il, eg, q⟩ := h
  unfold sumG at eg
  split at eg
  · obtain ⟨v, rfl, iv⟩ := isl1 il
    simp only [Is] at iv
    obtain ⟨p, vs, rfl, hx, lx⟩ := iv
    obtain ⟨bs, eb, ed⟩ := bind1 eg
    cases ed
    have e := intsOf_eq eb
    subst e
    have := isl_ints lx
    subst this
    exact cr_sum hc pins s σ H _ us Q I r ⟨p, bs, rfl, .inl (.inl (sm _ _ hx)), q _ Hb H (Step.refl sm) (by simp only [Is])⟩
  · obtain ⟨v, rfl, iv⟩ := isl1 il
    simp only [Is] at iv
    obtain ⟨p, vs, rfl, hx, lx⟩ := iv
    obtain ⟨bs, eb, ed⟩ := bind1 eg
    cases ed
    have e := intsOf_eq eb
    subst e
    have := isl_ints lx
    subst this
    obtain ⟨its, rv, hl, hz⟩ := I.tuple ((hx.mono sm).sq)
    rw [Vals.ref1 r]
    have hi := rv.ints
    obtain ⟨xs, ex⟩ := hi.allInts.items
    have hn : numsOf (intItems xs).toList = bs := by rw [← ex]; exact hi.numsOf
    rw [nums_intItems] at hn
    have hl' : s.heap.IsTuple p (intItems xs) := by rw [← ex]; exact hl
    refine PySem.W.ktm_sumG (I.ok.hd hc) hl' fun h' tk t' hk => ?_
    refine ⟨.int bs.sum, H, I.kept hk, ⟨t', ?_⟩, q _ Hb H (Step.refl sm) (by simp only [Is])⟩
    rw [preSum_eq, List.take_of_length_le (by simp), hn]
  · cases eg
theorem minOf_mem {α : Type} (lt : α → α → Bool) : ∀ (xs : List α) (x : α), minOf lt x xs ∈ x :: xs
  | [], x => List.mem_cons_self
  | y :: ys, x => by
    show minOf lt (if lt y x then y else x) ys ∈ _
    have := minOf_mem lt ys (if lt y x then y else x)
    rcases List.mem_cons.mp this with h | h
    · rw [h]
      split
      · exact List.mem_cons_of_mem _ List.mem_cons_self
      · exact List.mem_cons_self
    · exact List.mem_cons_of_mem _ (List.mem_cons_of_mem _ h)
theorem maxOf_mem {α : Type} (lt : α → α → Bool) : ∀ (xs : List α) (x : α), maxOf lt x xs ∈ x :: xs
  | [], x => List.mem_cons_self
  | y :: ys, x => by
    show maxOf lt (if lt x y then y else x) ys ∈ _
    have := maxOf_mem lt ys (if lt x y then y else x)
    rcases List.mem_cons.mp this with h | h
    · rw [h]
      split
      · exact List.mem_cons_of_mem _ List.mem_cons_self
      · exact List.mem_cons_self
    · exact List.mem_cons_of_mem _ (List.mem_cons_of_mem _ h)
theorem minOfI_le : ∀ (xs : List Int) (x : Int), ∀ y ∈ x :: xs, minOf ltI x xs ≤ y
  | [], x, y, h => by
    have : y = x := by simpa using h
    subst this
    exact Int.le_refl _
  | z :: zs, x, y, h => by
    show minOf ltI (if ltI z x then z else x) zs ≤ y
    have ih := minOfI_le zs (if ltI z x then z else x)
    have h0 := ih _ List.mem_cons_self
    have hle : (if ltI z x then z else x) ≤ x ∧ (if ltI z x then z else x) ≤ z := by
      unfold ltI
      by_cases q : z < x
      · rw [decide_eq_true q]
        simp
        omega
      · rw [decide_eq_false q]
        simp
        omega
    rcases List.mem_cons.mp h with rfl | h
    · omega
    · rcases List.mem_cons.mp h with rfl | h
      · omega
      · exact ih y (List.mem_cons_of_mem _ h)
theorem maxOfI_ge : ∀ (xs : List Int) (x : Int), ∀ y ∈ x :: xs, y ≤ maxOf ltI x xs
  | [], x, y, h => by
    have : y = x := by simpa using h
    subst this
    exact Int.le_refl _
  | z :: zs, x, y, h => by
    show y ≤ maxOf ltI (if ltI x z then z else x) zs
    have ih := maxOfI_ge zs (if ltI x z then z else x)
    have h0 := ih _ List.mem_cons_self
    have hle : x ≤ (if ltI x z then z else x) ∧ z ≤ (if ltI x z then z else x) := by
      unfold ltI
      by_cases q : x < z
      · rw [decide_eq_true q]
        simp
        omega
      · rw [decide_eq_false q]
        simp
        omega
    rcases List.mem_cons.mp h with rfl | h
    · omega
    · rcases List.mem_cons.mp h with rfl | h
      · omega
      · exact ih y (List.mem_cons_of_mem _ h)
theorem minD_strs : ∀ (ls : List (List Nat)) (l : List Nat), PySem.W.minD (.str (S l)) ((ls.map S).map PyData.str) = .str (S (minOf ltS l ls))
  | [], l => rfl
  | m :: ls, l => by
    show PySem.W.minD (if PySem.W.dataLt (.str (S m)) (.str (S l)) then .str (S m) else .str (S l)) _ = .str (S (minOf ltS (if ltS m l then m else l) ls))
    rw [PySem.W.dataLt_str]
    have : decide ((S m).cps.toList < (S l).cps.toList) = ltS m l := by simp [S, ltS]
    rw [this]
    cases ltS m l with
    | true => exact minD_strs ls m
    | false => exact minD_strs ls l
theorem readsAll_strs {h : Heap} : ∀ {us : List Value} {ls : List Str}, Vals (ls.map V.str) us → ∃ as, ReadsAll h us (ls.map PyData.str) as
  | us, [], r => by
    rw [List.map_nil] at r
    cases r
    exact ⟨_, ReadsAll.nil⟩
  | us, l :: ls, r => by
    rw [List.map_cons] at r
    cases r with
    | cons r1 r2 =>
      obtain ⟨t, rfl⟩ := r1
      obtain ⟨as, h2⟩ := readsAll_strs (h := h) r2
      exact ⟨_, ReadsAll.cons (Reads.str l t) h2⟩
theorem depth_strs : ∀ ls : List Str, PyData.depthAll (ls.map PyData.str) = 0
  | [] => by simp only [List.map_nil, PyData.depthAll]
  | l :: ls => by simp only [List.map_cons, PyData.depthAll, PyData.depth, depth_strs ls, Nat.max_self]
theorem readsAll_ints {h : Heap} : ∀ {us : List Value} {ls : List Int}, Vals (ls.map V.int) us → ∃ as, ReadsAll h us (ls.map PyData.int) as
  | us, [], r => by
    rw [List.map_nil] at r
    cases r
    exact ⟨_, ReadsAll.nil⟩
  | us, l :: ls, r => by
    rw [List.map_cons] at r
    cases r with
    | cons r1 r2 =>
      obtain ⟨t, rfl⟩ := r1
      obtain ⟨as, h2⟩ := readsAll_ints (h := h) r2
      exact ⟨_, ReadsAll.cons (Reads.int l t) h2⟩
theorem depth_ints0 : ∀ ls : List Int, PyData.depthAll (ls.map PyData.int) = 0
  | [] => by simp only [List.map_nil, PyData.depthAll]
  | l :: ls => by simp only [List.map_cons, PyData.depthAll, PyData.depth, depth_ints0 ls, Nat.max_self]
theorem alike_ints0 (n : Int) (ns : List Int) : PySem.W.AlikeAll (.int n :: ns.map PyData.int) := by
  refine ⟨fun x hx y hy => ?_, fun x hx => ?_⟩
  · have e1 : ∃ z, x = PyData.int z := by
      rcases List.mem_cons.mp hx with rfl | hx
      · exact ⟨_, rfl⟩
      · obtain ⟨z, _, rfl⟩ := List.mem_map.mp hx
        exact ⟨_, rfl⟩
    have e2 : ∃ z, y = PyData.int z := by
      rcases List.mem_cons.mp hy with rfl | hy
      · exact ⟨_, rfl⟩
      · obtain ⟨z, _, rfl⟩ := List.mem_map.mp hy
        exact ⟨_, rfl⟩
    obtain ⟨z1, rfl⟩ := e1
    obtain ⟨z2, rfl⟩ := e2
    simp only [PySem.W.alike]
  · rcases List.mem_cons.mp hx with rfl | hx
    · simp
    · obtain ⟨z, _, rfl⟩ := List.mem_map.mp hx
      simp
theorem minD_ints0 : ∀ (ls : List Int) (l : Int), PySem.W.minD (.int l) (ls.map PyData.int) = .int (minOf ltI l ls)
  | [], l => rfl
  | m :: ls, l => by
    show PySem.W.minD (if PySem.W.dataLt (.int m) (.int l) then .int m else .int l) _ = .int (minOf ltI (if ltI m l then m else l) ls)
    have : PySem.W.dataLt (.int m) (.int l) = ltI m l := by rw [PySem.W.dataLt_int]; rfl
    rw [this]
    cases ltI m l with
    | true => exact minD_ints0 ls m
    | false => exact minD_ints0 ls l
theorem maxD_ints0 : ∀ (ls : List Int) (l : Int), PySem.W.maxD (.int l) (ls.map PyData.int) = .int (maxOf ltI l ls)
  | [], l => rfl
  | m :: ls, l => by
    show PySem.W.maxD (if PySem.W.dataLt (.int l) (.int m) then .int m else .int l) _ = .int (maxOf ltI (if ltI l m then m else l) ls)
    have : PySem.W.dataLt (.int l) (.int m) = ltI l m := by rw [PySem.W.dataLt_int]; rfl
    rw [this]
    cases ltI l m with
    | true => exact maxD_ints0 ls m
    | false => exact maxD_ints0 ls l
theorem tup_int_at {its : List Value} {ns : List Int} {i : Nat} {v : Value} (rv : Vals (ns.map V.int) its) (hi : its.toArray[i]? = some v) : ∃ z t, v = Value.int z t := by
  have hi : its[i]? = some v := by simpa using hi
  have hi2 := (List.getElem?_eq_some_iff.mp hi).1
  have hlen := rv.length
  obtain ⟨w, hw⟩ : ∃ w, (ns.map V.int)[i]? = some w := ⟨_, List.getElem?_eq_getElem (by omega)⟩
  obtain ⟨u, hu1, hu2⟩ := rv.get hw
  rw [hi] at hu1
  cases hu1
  rw [List.getElem?_map] at hw
  cases e3 : ns[i]? with
  | none => rw [e3] at hw; cases hw
  | some z =>
    rw [e3] at hw
    cases hw
    obtain ⟨t, rfl⟩ := hu2
    exact ⟨z, t, rfl⟩
theorem c_min (hc : X.calm = true) (hu : X.A.units + 64 < cLine) : CallR X (.builtin "min") (rDA X.K minG) := by
  intro pins s σ H xs us Q I r h
  obtain ⟨Hb, ds, d, sm, il, eg, q⟩ := h
  unfold minG at eg
  split at eg
  · obtain ⟨v, rfl, iv⟩ := isl1 il
    simp only [Is] at iv
    obtain ⟨p, vs, rfl, hx, lx⟩ := iv
    split at eg
    · rename_i l ls eb
      cases eg
      have e := strsOf_eq eb
      subst e
      have := isl_strs lx
      subst this
      obtain ⟨its, rv, hl, hz⟩ := I.list (show SqL X.K H p _ from .inl (.inl (sm _ _ hx)))
      obtain ⟨as, ra⟩ := readsAll_strs (h := s.heap) rv
      rw [Vals.ref1 r]
      refine PySem.W.min_list_data (x := .str (S l)) (xs := (ls.map S).map PyData.str) (I.ok.hd hc) hl.isList (by simpa using ra) ⟨fun x hx y hy => ?_, fun x hx => ?_⟩ ?_ fun i v h' tk bs ev rd hk => ?_
      · have e1 : ∃ z, x = PyData.str z := by
          rcases List.mem_cons.mp hx with rfl | hx
          · exact ⟨_, rfl⟩
          · obtain ⟨z, _, rfl⟩ := List.mem_map.mp hx
            exact ⟨_, rfl⟩
        have e2 : ∃ z, y = PyData.str z := by
          rcases List.mem_cons.mp hy with rfl | hy
          · exact ⟨_, rfl⟩
          · obtain ⟨z, _, rfl⟩ := List.mem_map.mp hy
            exact ⟨_, rfl⟩
        obtain ⟨z1, rfl⟩ := e1
        obtain ⟨z2, rfl⟩ := e2
        simp only [PySem.W.alike]
      · rcases List.mem_cons.mp hx with rfl | hx
        · simp
        · obtain ⟨z, _, rfl⟩ := List.mem_map.mp hx
          simp
      · have := depth_strs ((l :: ls).map S)
        rw [List.map_cons, List.map_cons] at this
        rw [this]
        omega
      · rw [minD_strs] at rd
        have hv : ∃ z t, v = Value.str z t := by
          have hi : its[i]? = some v := by simpa using ev
          have hi2 := (List.getElem?_eq_some_iff.mp hi).1
          have hlen := rv.length
          obtain ⟨w, hw⟩ : ∃ w, (((l :: ls).map S).map V.str)[i]? = some w := ⟨_, List.getElem?_eq_getElem (by omega)⟩
          obtain ⟨u, hu1, hu2⟩ := rv.get hw
          rw [hi] at hu1
          cases hu1
          rw [List.getElem?_map] at hw
          cases e3 : ((l :: ls).map S)[i]? with
          | none => rw [e3] at hw; cases hw
          | some z =>
            rw [e3] at hw
            cases hw
            obtain ⟨t, rfl⟩ := hu2
            exact ⟨z, t, rfl⟩
        obtain ⟨z, t, rfl⟩ := hv
        cases rd
        exact ⟨.str _, H, I.kept hk, ⟨t, rfl⟩, q _ Hb H (Step.refl sm) (by simp only [Is])⟩
    · split at eg
      · rename_i n ns eb
        cases eg
        have e := intsOf_eq eb
        subst e
        have := isl_ints lx
        subst this
        refine cr_min hc pins s σ H _ us Q I r ⟨p, n :: ns, rfl, .inl (.inl (sm _ _ hx)), by simp, fun m hm hle => ?_⟩
        have : m = minOf ltI n ns := Int.le_antisymm (hle _ (minOf_mem ltI ns n)) (minOfI_le ns n m hm)
        subst this
        exact q _ Hb H (Step.refl sm) (by simp only [Is])
      · cases eg
  · obtain ⟨v, rfl, iv⟩ := isl1 il
    simp only [Is] at iv
    obtain ⟨p, vs, rfl, hx, lx⟩ := iv
    split at eg
    · rename_i n ns eb
      cases eg
      have e := intsOf_eq eb
      subst e
      have := isl_ints lx
      subst this
      obtain ⟨its, rv, hl, hz⟩ := I.tuple ((hx.mono sm).sq)
      obtain ⟨as, ra⟩ := readsAll_ints (h := s.heap) rv
      rw [Vals.ref1 r]
      refine PySem.W.min_tuple_data (x := .int n) (xs := ns.map PyData.int) (I.ok.hd hc) hl (by simpa using ra) (alike_ints0 n ns) (by have := depth_ints0 (n :: ns); rw [List.map_cons] at this; rw [this]; omega) fun i v h' tk bs ev rd hk => ?_
      rw [minD_ints0] at rd
      obtain ⟨z, t, rfl⟩ := tup_int_at rv ev
      cases rd
      exact ⟨.int _, H, I.kept hk, ⟨t, rfl⟩, q _ Hb H (Step.refl sm) (by simp only [Is])⟩
    · cases eg
  · obtain ⟨v, w, rfl, iv, iw⟩ := isl2 il
    simp only [Is] at iv iw
    subst iv iw
    cases eg
    exact call_min2 hc pins s σ H _ us Q I r ⟨_, _, rfl, q _ Hb H (Step.refl sm) (by simp only [Is])⟩
  · cases eg
theorem c_max (hc : X.calm = true) (hu : X.A.units + 64 < cLine) : CallR X (.builtin "max") (rDA X.K maxG) := by
  intro pins s σ H xs us Q I r h
  obtain ⟨Hb, ds, d, sm, il, eg, q⟩ := h
  unfold maxG at eg
  split at eg
  · obtain ⟨v, rfl, iv⟩ := isl1 il
    simp only [Is] at iv
    obtain ⟨p, vs, rfl, hx, lx⟩ := iv
    split at eg
    · rename_i n ns eb
      cases eg
      have e := intsOf_eq eb
      subst e
      have := isl_ints lx
      subst this
      refine cr_max hc pins s σ H _ us Q I r ⟨p, n :: ns, rfl, .inl (.inl (sm _ _ hx)), by simp, fun m hm hle => ?_⟩
      have : m = maxOf ltI n ns := Int.le_antisymm (maxOfI_ge ns n m hm) (hle _ (maxOf_mem ltI ns n))
      subst this
      exact q _ Hb H (Step.refl sm) (by simp only [Is])
    · cases eg
  · obtain ⟨v, rfl, iv⟩ := isl1 il
    simp only [Is] at iv
    obtain ⟨p, vs, rfl, hx, lx⟩ := iv
    split at eg
    · rename_i n ns eb
      cases eg
      have e := intsOf_eq eb
      subst e
      have := isl_ints lx
      subst this
      obtain ⟨its, rv, hl, hz⟩ := I.tuple ((hx.mono sm).sq)
      obtain ⟨as, ra⟩ := readsAll_ints (h := s.heap) rv
      rw [Vals.ref1 r]
      refine PySem.W.max_tuple_data (x := .int n) (xs := ns.map PyData.int) (I.ok.hd hc) hl (by simpa using ra) (alike_ints0 n ns) (by have := depth_ints0 (n :: ns); rw [List.map_cons] at this; rw [this]; omega) fun i v h' tk bs ev rd hk => ?_
      rw [maxD_ints0] at rd
      obtain ⟨z, t, rfl⟩ := tup_int_at rv ev
      cases rd
      exact ⟨.int _, H, I.kept hk, ⟨t, rfl⟩, q _ Hb H (Step.refl sm) (by simp only [Is])⟩
    · cases eg
  · obtain ⟨v, w, rfl, iv, iw⟩ := isl2 il
    simp only [Is] at iv iw
    subst iv iw
    cases eg
    exact call_max2 hc pins s σ H _ us Q I r ⟨_, _, rfl, q _ Hb H (Step.refl sm) (by simp only [Is])⟩
  · cases eg

/-! ### tuple(..) -/
variable {a b e o : Expr} {pos apos p : Pos} {fa fb fo : En → Option D} {fs : En → Option (List D)}
def tupD : D → Option D
  | .lst l => some (.tup l)
  | .tup l => some (.tup l)
  | _ => none
/-- tuple(x) of a list: a new one; of a tuple: itself -/
def kTupN (K : PySem.W.Frag) (x : V) (H : Hp) (Q : VK) : Prop :=
  (∃ p xs, x = .ref p ∧ SqL K H p xs ∧ ∀ q o, H q = none → o.dict = none → Q (.ref q) (upd H q (.frz o (.tup xs)))) ∨ (∃ p xs, x = .ref p ∧ SqT K H p xs ∧ Q (.ref p) H)
theorem rl_tupN (pins : List (Addr × Obj)) (s : Shared) (σ : L2.St) (H : Hp) (x : V) (v : Value) (Q : VK) (I : Inv X pins σ H s) (r : RelV x v) (h : kTupN X.K x H Q) :
    wpAny (model X.prog X.w) X.A (call (.type "tuple") [v]) (EP X pins σ Q) X.xe s := by
  rcases h with ⟨p, xs, rfl, hs, q⟩ | ⟨p, xs, rfl, hs, q⟩
  · cases r
    obtain ⟨us, rv, pl, hz⟩ := I.list hs
    refine call_tuple_list pl.isList (fun h' hk => ?_) (by rw [List.size_toArray, ← rv.length]; exact hz)
    have I1 : Inv X pins σ H { s with heap := h' } := I.kept (t' := s.toks) hk
    obtain ⟨o, ho, I2⟩ := inv_newT I1 rv hz
    exact ⟨.ref h'.objs.size, _, I2, rfl, q _ o (I1.hok.fresh (Nat.le_refl _)) ho⟩
  · exact rl_tuple pins s σ H _ v Q I r (.inr ⟨p, xs, rfl, hs, q⟩)
theorem pe_tupleN {X : Cx} {a : Expr} {ta : TE} {p pos : Pos} (hg : Gl X "tuple") (hm : X.mg "tuple" = none) (ha : PE X a ta) (na : starEach [a] X.env = (false, eval a X.env) :: starEach [] X.env) :
    PE X (.Call (.Name "tuple" p) [a] [] pos) (tThen ta (kTupN X.K)) := ⟨fun pins s σ H Q I h => by
  refine Call_ (ld_blt I hg hm boot_tuple (PyProof.Rows.callWith_type1 (one_arg ha I h ?_ na) na))
  intro v s2 x H2 I2 r q
  exact rl_tupN pins s2 σ H2 x v Q I2 r q⟩
theorem e_tuple (hm : X.mg "tuple" = none) (ha : PE X a (tD X.K fa)) (hg : Gl X "tuple" := by rfl) (na : starEach [a] X.env = (false, eval a X.env) :: starEach [] X.env := by rfl) : PE X (.Call (.Name "tuple" p) [a] [] pos) (tD X.K (f1 tupD fa)) :=
  PE_weak (pe_tupleN hg hm ha na) fun σ H Q h => by
    obtain ⟨H0, env, Hb, d, r, sm, ef, q⟩ := h
    obtain ⟨da, ea, eg⟩ := bind1 ef
    refine ⟨H0, env, Hb, da, r, sm, ea, fun v Hb1 H1 s1 iv => ?_⟩
    unfold tupD at eg
    split at eg
    · cases eg
      simp only [Is] at iv
      obtain ⟨p, vs, rfl, hx, lx⟩ := iv
      exact .inl ⟨p, vs, rfl, .inl (.inl (s1.c _ _ hx)), fun r o hr ho => q _ _ _ (s1.trans (Step.new s1.c hr)) (is_tup_new ho (s1.c.free hr) lx)⟩
    · cases eg
      have iv' := iv
      simp only [Is] at iv'
      obtain ⟨p, vs, rfl, hx, lx⟩ := iv'
      exact .inr ⟨p, vs, rfl, (hx.mono s1.c).sq, q _ Hb1 H1 s1 iv⟩
    · cases eg

/-! ### methods of texts -/
def fM1 (g : List Nat → D → Option D) (fo fa : En → Option D) : En → Option D := fun env => (fo env).bind fun d => match d with
  | .str l => (fa env).bind fun x => g l x
  | _ => none
def rDM (K : PySem.W.Frag) (g : List Nat → D → Option D) : V → List V → Hp → VK → Prop := fun x xs H Q => ∃ Hb l y b d, Same Hb H ∧ x = .str (S l) ∧ xs = [y] ∧ Is K Hb b y ∧ g l b = some d ∧ ∀ v Hb' H', Step Hb H Hb' H' → Is K Hb' d v → Q v H'
theorem e_m1 {id : String} {name : Str} {g : List Nat → D → Option D} (slot : Slot "str" name id) (ty : typeOf (.builtin id) = pure (.type "method_descriptor")) (rule : MtR X id (rDM X.K g)) (ho : PE X o (tD X.K fo)) (he : PE X e (tD X.K fa))
    (hs : starEach [e] X.env = [(false, eval e X.env)] := by rfl) (hbase : attributeBase o name X.env (eval o X.env) = eval o X.env := by rfl) (hline : (apos.endLine == pos.line) = true := by rfl) :
    PE X (.Call (.Attribute o name apos) [e] [] pos) (tD X.K (fM1 g fo fa)) := PE_weak (pe_m1 slot ty rule ho he hs hbase hline) fun σ H Q h => by
  obtain ⟨H0, env, Hb, d, r, sm, ef, q⟩ := h
  obtain ⟨dd, eo, ef⟩ := bind1 ef
  refine ⟨H0, env, Hb, dd, r, sm, eo, fun v Hb1 H1 s1 iv => ?_⟩
  split at ef
  · simp only [Is] at iv
    subst iv
    obtain ⟨x, ex, eg⟩ := bind1 ef
    exact ⟨⟨_, rfl⟩, H0, env, Hb1, x, r.step s1, s1.c, ex, fun w Hb2 H2 s2 iw => ⟨Hb2, _, w, x, d, s2.c, rfl, rfl, iw, eg, fun v' Hb3 H3 s3 iv' => q v' Hb3 H3 (s1.trans (s2.trans s3)) iv'⟩⟩
  · cases ef
def joinL (sep : List Nat) : List (List Nat) → List Nat
  | [] => []
  | [x] => x
  | x :: rest => x ++ sep ++ joinL sep rest
theorem join_S (sep : List Nat) : ∀ ls : List (List Nat), Str.join (S sep) (ls.map S) = S (joinL sep ls)
  | [] => rfl
  | [x] => rfl
  | x :: y :: r => by
    have ih := join_S sep (y :: r)
    rw [List.map_cons] at ih
    show S x ++ S sep ++ Str.join (S sep) (S y :: r.map S) = S (x ++ sep ++ joinL sep (y :: r))
    rw [ih, S_app, S_app]
def joinD (sep : List Nat) : D → Option D
  | .lst ds => (strsOf ds).bind fun ls => if (ls.map List.length).sum + ls.length * sep.length ≤ 1000000 then some (.str (joinL sep ls)) else none
  | .tup ds => (strsOf ds).bind fun ls => if (ls.map List.length).sum + ls.length * sep.length ≤ 1000000 then some (.str (joinL sep ls)) else none
  | _ => none
theorem sum_S (ls : List (List Nat)) : ((ls.map S).map fun x : Str => x.length) = ls.map List.length := by
  rw [List.map_map]
  apply List.map_congr_left
  intro x _
  exact S_len x
theorem m_join : MtR X "str.join" (rDM X.K joinD) := by
  intro pins s σ H x xs v us Q I rx rs h
  obtain ⟨Hb, l, y, b, d, sm, rfl, rfl, ib, eg, q⟩ := h
  unfold joinD at eg
  split at eg
  · simp only [Is] at ib
    obtain ⟨p, vs, rfl, hx, lx⟩ := ib
    obtain ⟨ls, el, eg⟩ := bind1 eg
    obtain ⟨hsz, rfl⟩ := iteS eg
    have e := strsOf_eq el
    subst e
    have := isl_strs lx
    subst this
    refine mt_join pins s σ H _ _ v us Q I rx rs ⟨_, p, ls.map S, rfl, rfl, .inl (.inl (.inl (sm _ _ hx))), ?_, q _ Hb H (Step.refl sm) ?_⟩
    · rw [sum_S, List.length_map, S_len]
      omega
    · simp only [Is]
      unfold Txt.join
      rw [StrLaws.glued_eq_join, join_S]
  · simp only [Is] at ib
    obtain ⟨p, vs, rfl, hx, lx⟩ := ib
    obtain ⟨ls, el, eg⟩ := bind1 eg
    obtain ⟨hsz, rfl⟩ := iteS eg
    have e := strsOf_eq el
    subst e
    have := isl_strs lx
    subst this
    refine mt_join pins s σ H _ _ v us Q I rx rs ⟨_, p, ls.map S, rfl, rfl, .inr ((hx.mono sm).sq), ?_, q _ Hb H (Step.refl sm) ?_⟩
    · rw [sum_S, List.length_map, S_len]
      omega
    · simp only [Is]
      unfold Txt.join
      rw [StrLaws.glued_eq_join, join_S]
  · cases eg
theorem e_join (ho : PE X o (tD X.K fo)) (he : PE X e (tD X.K fa)) (hs : starEach [e] X.env = [(false, eval e X.env)] := by rfl) (hbase : attributeBase o "join" X.env (eval o X.env) = eval o X.env := by rfl) (hline : (apos.endLine == pos.line) = true := by rfl) :
    PE X (.Call (.Attribute o "join" apos) [e] [] pos) (tD X.K (fM1 joinD fo fa)) := e_m1 F.slot_str_join F.type_str_join m_join ho he hs hbase hline

/-! ### where a sign stands -/
def spots (l : List Nat) (c : Nat) : List Nat := (List.range l.length).filter fun i => decide (l[i]? = some c)
theorem occ_run (l : List Nat) (c lim : Nat) : ∀ (is : List Nat) (acc : Array Nat) (free : Nat), (∀ i ∈ is, free ≤ i) → is.Pairwise (· < ·) → acc.size + is.length ≤ lim →
    (forIn is (acc, free) (StrLaws.occBody (S l) (S [c]) l.length lim)).run.fst.toList = acc.toList ++ is.filter fun i => decide (l[i]? = some c)
  | [], acc, free, _, _, _ => by simp
  | i :: is, acc, free, hf, hp, hs => by
    rw [List.forIn_cons]
    unfold StrLaws.occBody
    have h1 : free ≤ i := hf i List.mem_cons_self
    have hp' := List.pairwise_cons.mp hp
    rw [List.length_cons] at hs
    have sub := StrLaws.subAt_one (S l) c i
    rw [S_len] at sub
    have esl : (S l).cps.toList = l := by simp [S]
    rw [esl] at sub
    by_cases hc : l[i]? = some c
    · have hb := sub.mpr hc
      rw [if_pos ⟨⟨⟨by show acc.size < lim; omega, h1⟩, hb.1⟩, hb.2⟩]
      show (forIn is (acc.push i, i + 1) (StrLaws.occBody (S l) (S [c]) l.length lim)).run.fst.toList = _
      rw [occ_run l c lim is (acc.push i) (i + 1) (fun j hj => hp'.1 j hj) hp'.2 (by rw [Array.size_push]; omega)]
      rw [List.filter_cons_of_pos (by simpa using hc)]
      simp
    · rw [if_neg fun h => hc (sub.mp ⟨h.1.2, h.2⟩)]
      show (forIn is (acc, free) (StrLaws.occBody (S l) (S [c]) l.length lim)).run.fst.toList = _
      rw [occ_run l c lim is acc free (fun j hj => hf j (List.mem_cons_of_mem _ hj)) hp'.2 (by omega)]
      rw [List.filter_cons_of_neg (by simpa using hc)]
theorem occ_sign (l : List Nat) (c : Nat) : Builtin.Str.occurrences (S l) (S [c]) 0 l.length (l.length + 1) = spots l c := by
  rw [StrLaws.occ_eq, occ_run l c (l.length + 1) _ #[] 0 (fun _ _ => Nat.zero_le _) (List.pairwise_lt_range' ..) (by simp)]
  simp only [Nat.sub_zero, List.nil_append]
  unfold spots
  rw [← List.range_eq_range', List.range_succ, List.filter_append]
  simp
theorem spots_len (c : Nat) : ∀ l : List Nat, (spots l c).length = l.count c
  | [] => rfl
  | x :: xs => by
    unfold spots
    rw [List.length_cons, List.range_succ_eq_map, List.filter_cons, List.filter_map]
    have ih := spots_len c xs
    unfold spots at ih
    have e : ((List.range xs.length).filter ((fun i => decide ((x :: xs)[i]? = some c)) ∘ Nat.succ)) = (List.range xs.length).filter fun i => decide (xs[i]? = some c) := by
      congr 1
    by_cases h : x = c
    · subst h
      simp only [List.getElem?_cons_zero, decide_true, if_true, List.length_cons, List.length_map, e, ih, List.count_cons_self]
    · have : ¬ (some x = some c) := fun q => h (Option.some.inj q)
      simp only [List.getElem?_cons_zero, decide_eq_false this, List.length_map, e, ih]
      rw [List.count_cons_of_ne h]
      simp [List.length_map, e, ih]
def countD (l : List Nat) : D → Option D
  | .str [c] => some (.int (l.count c))
  | _ => none
theorem m_count : MtR X "str.count" (rDM X.K countD) := by
  intro pins s σ H x xs v us Q I rx rs h
  obtain ⟨Hb, l, y, b, d, sm, rfl, rfl, ib, eg, q⟩ := h
  unfold countD at eg
  split at eg
  · simp only [Is] at ib
    subst ib
    cases eg
    refine mt_count pins s σ H _ _ v us Q I rx rs ⟨_, _, rfl, rfl, q _ Hb H (Step.refl sm) ?_⟩
    simp only [Is]
    unfold Txt.count
    rw [S_len, occ_sign, spots_len]
  · cases eg
theorem e_count (ho : PE X o (tD X.K fo)) (he : PE X e (tD X.K fa)) (hs : starEach [e] X.env = [(false, eval e X.env)] := by rfl) (hbase : attributeBase o "count" X.env (eval o X.env) = eval o X.env := by rfl) (hline : (apos.endLine == pos.line) = true := by rfl) :
    PE X (.Call (.Attribute o "count" apos) [e] [] pos) (tD X.K (fM1 countD fo fa)) := e_m1 F.slot_str_count F.type_str_count m_count ho he hs hbase hline

/-! ### s[::k] -/
def stride (l : List Nat) (k : Int) : List Nat := (Txt.sliceBy (S l) none none (k, 0)).cps.toList
def slkD : D → D → Option D
  | .str l, .int k => if l.length ≤ sizeLine ∧ k ≠ 0 then some (.str (stride l k)) else none
  | _, _ => none
theorem e_slk {p3 : Pos} (he : PE X e (tD X.K fa)) (hk : PE X b (tD X.K fb)) (hi : ∀ x t r, letTemporaryGo e (.str x t) r = pure () := by intro _ _ _; with_unfolding_all rfl)
    (hss : ∀ (x : Str) (t : Tok) (n : Addr), subscripted (.Slice none none (some b) p3) false (.str x t) (.ref n) = operate [.ref n, .str x t] (getItem (.str x t) (.ref n)) := by intro _ _ _; with_unfolding_all rfl) :
    PE X (.Subscript e (.Slice none none (some b) p3) pos) (tD X.K (f2 slkD fa fb)) := ⟨fun pins s σ H Q I h => by
  obtain ⟨H0, env, Hb, d, r, sm, ef, q⟩ := h
  obtain ⟨da, db, ea, eb, eg⟩ := bind2 ef
  unfold slkD at eg
  split at eg
  · rename_i l k
    obtain ⟨⟨hl, hk0⟩, rfl⟩ := iteS eg
    refine Subscript_ (thn (he.run pins s σ H _ I ⟨H0, env, Hb, _, r, sm, ea, fun x Hb1 H1 s1 ix => (⟨Hb1, s1, ix⟩ : ∃ Hb1, Step Hb H Hb1 H1 ∧ Is X.K Hb1 (.str l) x)⟩) fun v s1 ⟨x, H1, I1, r1, Hb1, st1, ix⟩ => ?_)
    simp only [Is] at ix
    subst ix
    obtain ⟨t, rfl⟩ := r1
    refine wpAny_Slice (thn (po_none.run pins s1 σ H1 (fun o H2 => o = none ∧ H2 = H1) I1 ⟨rfl, rfl⟩) fun vl s2 ⟨lo, H2, I2, pl, el, e2⟩ => ?_)
    subst el e2
    refine thn (po_none.run pins s2 σ H2 (fun o H3 => o = none ∧ H3 = H2) I2 ⟨rfl, rfl⟩) fun vu s3 ⟨u, H3, I3, pu, eu, e3⟩ => ?_
    subst eu e3
    refine thn ((po_some hk).run pins s3 σ H3 (fun o H4 => o = some k ∧ ∃ Hb4, Step Hb H Hb4 H4) I3 ⟨H0, env, Hb1, .int k, r.step st1, st1.c, eb, fun v' Hb4 H4 s4 iv4 => ⟨k, by simpa only [Is] using iv4, rfl, Hb4, st1.trans s4⟩⟩) fun vs s4 ⟨o, H4, I4, ps, eo, Hb4, st4⟩ => ?_
    subst eo
    have I5 : Inv X pins σ H4 { s4 with heap := s4.heap.push { cls := .type "slice", data := .fields #[vl, vu, vs] } } := I4.kept (t' := s4.toks) fun b ob q => Heap.get?_push_of_some _ q
    cases pl
    cases pu
    cases ps with
    | int _ uk =>
      show wpAny (model X.prog X.w) X.A (subscriptTail e (.Slice none none (some b) p3) (.str (S l) t) (.ref s4.heap.objs.size)) (EP X pins σ Q) X.xe { s4 with heap := s4.heap.push { cls := .type "slice", data := .fields #[.none, .none, .int k uk] } }
      refine tail_of_ItemOn ⟨"str", _, F.slot_str_getitem.lookup, typeIs_str _ _ _, wpAny_getItem_str_slice (l := none) (u := none) (st := some (k, uk)) ⟨_, Heap.get?_push_size _ rfl, rfl, rfl⟩ (by simpa using hk0)
        (post_val_or_str ⟨Nat.le_trans (Txt.sliceBy_le (S l) _ _ (k, uk) (by simpa using hk0)) (by rw [S_len]; exact hl), fun t' c => ?_⟩)⟩ (hss _ _ _) (hi _ _)
      refine ⟨.str _, H4, I5.tok _, ⟨t', rfl⟩, q _ Hb4 H4 st4 ?_⟩
      simp only [Is]
      show V.str (Txt.sliceBy (S l) none none (k, uk)) = V.str ⟨(Txt.sliceBy (S l) none none (k, 0)).cps.toList.toArray⟩
      rfl
  · cases eg⟩
end
end Dn
set_option Elab.async false
set_option linter.all false
set_option maxRecDepth 100000
/-! Part E: defs of the text, and how the functions of slots are reckoned. -/
namespace Dn
open PySem L2 PySem.Spec PyProof.Rows

theorem room65 {k : Nat} {A : Around} (r : Room k A) : A.units + 65 < cLine := by have := r.un; omega
section
variable {P : Program} {w : World} {K : PySem.W.Frag} {mg : Str → Option Value} {base : Heap}
/-- a def stands -/
def Has (K : PySem.W.Frag) (mg : Str → Option Value) (x : Str) (st : Stmt) (ps : List Str) : Prop := ∃ f fd, Fun K x x st f fd ∧ mg x = some (.ref f) ∧ Binds K fd ps []
/-- a def does what sem says -/
def Def (P : Program) (w : World) (K : PySem.W.Frag) (mg : Str → Option Value) (base : Heap) (k : Nat) (x : Str) (ps : List Str) (sem : List D → Option D) : Prop :=
  ∃ f fd, FnOk P w K mg base CX0 k f fd ps (spD K sem) ∧ mg x = some (.ref f) ∧ PySem.W.keepIn K (.ref f) = true ∧ Binds K fd ps []
theorem d_of {x : Str} {st : Stmt} {N ps : List Str} {k : Nat} {F : En → Option Fl} {nice : List D → Option D} (h : Has K mg x st ps) (S : FnScope N ps (defScope st))
    (hb : ∀ (f : Addr) (cdv : Value) (A : Around) (outer : List Env) (s : Shared) (H : Hp) (E : XK), Room k (A.deeper (envOfC x (defScope st) s.heap.objs.size f cdv)) → PSs (cxOf CX0 P w K mg base N x (defScope st) f cdv A outer s H E).nox (defBody st) (tS K F))
    (q : ∀ ds d, nice ds = some d → semOf N.length ps.length F ds = some d) : Def P w K mg base (k + 1) x ps nice := by
  obtain ⟨f, fd, Fu, hm, hb'⟩ := h
  exact ⟨f, fd, fn_nice (fn_d Fu S (hb f)) q, hm, Fu.kp, hb'⟩
theorem l_of {x : Str} {st : Stmt} {N : List Str} {k : Nat} {F : En → Option Fl} {f : Addr} {fd : FuncData} (Fu : Fun K x x st f fd) (S : FnScope N ["script"] (defScope st))
    (hb : ∀ (f : Addr) (cdv : Value) (A : Around) (outer : List Env) (s : Shared) (H : Hp) (E : XK), Room k (A.deeper (envOfC x (defScope st) s.heap.objs.size f cdv)) → PSs (cxOf CX0 P w K mg base N x (defScope st) f cdv A outer s H E).nox (defBody st) (tS K F))
    (q : ∀ ns : List Int, ns.length ≤ 63 → semOf N.length 1 F [.scr ns] = some (.bl true)) : FnOk P w K mg base CX0 (k + 1) f fd ["script"] (spLaw K) :=
  fn_law (fn_d Fu S (hb f)) q
end
section
variable {X : Cx} {e : Expr} {es : List Expr} {pos p : Pos} {fs : En → Option (List D)}
theorem e_def {x : Str} {ps : List Str} {k j : Nat} {sem : List D → Option D} (h : Def X.prog X.w X.K X.mg X.base k x ps sem) (hr : Room j X.A) (ha : PA X (e :: es) (tA X.K fs)) (hkj : k ≤ j := by decide) (hg : Gl X x := by rfl) (hdb : (x == ("__debug__" : Str)) = false := by decide)
    (he : starEach (e :: es) X.env = (false, eval e X.env) :: starEach es X.env := by rfl) (hpl : (backTo pos (starEach es X.env)).any (·.1) = false := by rfl) :
    PE X (.Call (.Name x p) (e :: es) [] pos) (tD X.K (fCall sem fs)) := by
  obtain ⟨f, fd, Fo, hm, hk, hb⟩ := h
  exact e_call Fo (hr.mono hkj) hm hk hb ha hg hdb he hpl
theorem e_gs (l : List Nat) {x y : Str} (hm : ∃ tk, X.mg x = some (.str y tk)) (h : y = S l := by decide +kernel) (hg : Gl X x := by rfl) (hd : (x == ("__debug__" : Str)) = false := by decide) : PE X (.Name x pos) (tD X.K (fC (.str l))) := by
  obtain ⟨tk, hm⟩ := hm
  exact e_gstr l hm h hg hd
theorem e_gi (i : Int) {x : Str} (hm : ∃ tk, X.mg x = some (.int i tk)) (hg : Gl X x := by rfl) (hd : (x == ("__debug__" : Str)) = false := by decide) : PE X (.Name x pos) (tD X.K (fC (.int i))) := by
  obtain ⟨tk, hm⟩ := hm
  exact e_gint i hm hg hd
end

/-! ### reckoning -/
theorem seq_nx {F G : En → Option Fl} {env e : En} (h : F env = some (.nx e)) : fSeq F G env = G e := by
  unfold fSeq
  rw [h]
  rfl
theorem seq_rt {F G : En → Option Fl} {env : En} {d : D} (h : F env = some (.rt d)) : fSeq F G env = some (.rt d) := by
  unfold fSeq
  rw [h]
  rfl
theorem set_of {i : Nat} {f : En → Option D} {env : En} {d : D} (h : f env = some d) : fSet i f env = some (.nx (env.set i (some d))) := by
  unfold fSet
  rw [h]
  rfl
theorem ret_of {f : En → Option D} {env : En} {d : D} (h : f env = some d) : fRet f env = some (.rt d) := by
  unfold fRet
  rw [h]
  rfl
theorem if_t {c : En → Option Bool} {F G : En → Option Fl} {env : En} (h : c env = some true) : fIfS c F G env = F env := by
  unfold fIfS
  rw [h]
  rfl
theorem if_f {c : En → Option Bool} {F G : En → Option Fl} {env : En} (h : c env = some false) : fIfS c F G env = G env := by
  unfold fIfS
  rw [h]
  rfl
/-- a comprehension without a test -/
theorem lc_map {α : Type} {g : D → En → Option En} {f : En → Option D} {env : En} (c : α → D) (h : α → D) : ∀ (xs : List α), (∀ x ∈ xs, ∃ e1, g (c x) env = some e1 ∧ f e1 = some (h x)) → lcF g fYes f env (xs.map c) = some (xs.map h)
  | [], _ => rfl
  | x :: xs, q => by
    obtain ⟨e1, a1, a2⟩ := q x List.mem_cons_self
    have ih := lc_map c h xs fun y hy => q y (List.mem_cons_of_mem _ hy)
    rw [List.map_cons, List.map_cons, lcF, a1]
    simp only [Option.bind_some, fYes, if_true, a2, ih]
theorem lc_filter {α : Type} {g : D → En → Option En} {t : En → Option Bool} {f : En → Option D} {env : En} (c : α → D) (k : α → Bool) (h : α → D) : ∀ (xs : List α), (∀ x ∈ xs, ∃ e1, g (c x) env = some e1 ∧ t e1 = some (k x) ∧ (k x = true → f e1 = some (h x))) → lcF g t f env (xs.map c) = some ((xs.filter k).map h)
  | [], _ => rfl
  | x :: xs, q => by
    obtain ⟨e1, a1, a2, a3⟩ := q x List.mem_cons_self
    have ih := lc_filter c k h xs fun y hy => q y (List.mem_cons_of_mem _ hy)
    rw [List.map_cons, lcF, a1]
    simp only [Option.bind_some, a2]
    cases hk : k x with
    | true =>
      rw [List.filter_cons_of_pos hk, List.map_cons]
      simp only [if_true, a3 hk, Option.bind_some, ih]
    | false =>
      rw [List.filter_cons_of_neg (by rw [hk]; decide)]
      simp only [Bool.false_eq_true, if_false, ih]
theorem lcw {it : En → Option (List D)} {g : D → En → Option En} {t : En → Option Bool} {f : En → Option D} {vs : List Nat} {env : En} {ds r : List D} (h1 : it env = some ds) (h2 : ds.length ≤ 1000000) (h3 : lcF g t f (wipeE env vs) ds = some r) : fLc it g t f vs env = some (.lst r) := by
  unfold fLc
  rw [h1]
  simp only [Option.bind_some, if_pos h2, h3]
/-- a loop that goes through -/
theorem for_inv {α : Type} {g : D → En → Option En} {B : En → Option Fl} (c : α → D) (I : List α → En → Prop) : ∀ (xs pre : List α) (env : En), I pre env → (∀ (p : List α) (x : α) (q : List α) (e : En), pre ++ xs = p ++ x :: q → I p e → ∃ e1 e2, g (c x) e = some e1 ∧ B e1 = some (.nx e2) ∧ I (p ++ [x]) e2) →
    ∃ e', forF g B (xs.map c) env = some (.nx e') ∧ I (pre ++ xs) e'
  | [], pre, env, h, _ => ⟨env, rfl, by rw [List.append_nil]; exact h⟩
  | x :: xs, pre, env, h, q => by
    obtain ⟨e1, e2, a1, a2, a3⟩ := q pre x xs env rfl h
    obtain ⟨e', b1, b2⟩ := for_inv c I xs (pre ++ [x]) e2 a3 fun p y r e hp hi => q p y r e (by rw [← hp]; simp) hi
    refine ⟨e', ?_, by simpa using b2⟩
    rw [List.map_cons, forF, a1]
    simp only [Option.bind_some, a2, b1]
theorem forw {it : En → Option (List D)} {g : D → En → Option En} {B : En → Option Fl} {env : En} {ds : List D} (h : it env = some ds) : fFor it g B env = forF g B ds env := by
  unfold fFor
  rw [h]
  rfl
end Dn
set_option Elab.async false
set_option linter.all false
set_option maxRecDepth 100000
/-! Part F: values, step by step. -/
namespace Dn
open PySem L2

section
variable {env : En} {a b c : D} {fa fb fc fo : En → Option D} {fs : En → Option (List D)} {ds : List D}
theorem v_c : fC a env = some a := rfl
theorem v_var {i : Nat} (h : env[i]? = some (some a)) (ho : a.isOwn = false) : fV i env = some a := by
  unfold fV
  rw [h]
  simp only [ho, Bool.false_eq_true, if_false]
theorem v_2 {g : D → D → Option D} (h1 : fa env = some a) (h2 : fb env = some b) (h3 : g a b = some c) : f2 g fa fb env = some c := by
  unfold f2
  rw [h1, h2]
  exact h3
theorem v_1 {g : D → Option D} (h1 : fa env = some a) (h3 : g a = some c) : f1 g fa env = some c := by
  unfold f1
  rw [h1]
  exact h3
theorem v_nil : fNil env = some [] := rfl
theorem v_cons (h1 : fa env = some a) (h2 : fs env = some ds) : fCons fa fs env = some (a :: ds) := by
  unfold fCons
  rw [h1, h2]
  rfl
theorem v_call {sem : List D → Option D} (h1 : fs env = some ds) (h2 : sem ds = some c) : fCall sem fs env = some c := by
  unfold fCall
  rw [h1]
  exact h2
theorem v_blt {sem : List D → Option D} (h1 : fs env = some ds) (h2 : sem ds = some c) : fBlt sem fs env = some c := by
  unfold fBlt
  rw [h1]
  exact h2
theorem v_tup (h1 : fs env = some ds) (h2 : ds.length ≤ sizeLine) : fTup fs env = some (.tup ds) := by
  unfold fTup
  rw [h1]
  simp only [Option.bind_some, if_pos h2]
theorem v_lst (h1 : fs env = some ds) (h2 : ds.length ≤ sizeLine) : fLst fs env = some (.lst ds) := by
  unfold fLst
  rw [h1]
  simp only [Option.bind_some, if_pos h2]
theorem v_sl {fl fh : En → Option (Option Int)} {lo hi : Option Int} (h1 : fa env = some a) (h2 : fl env = some lo) (h3 : fh env = some hi) (h4 : slD a lo hi = some c) : fSl fa fl fh env = some c := by
  unfold fSl
  rw [h1, h2, h3]
  exact h4
theorem v_no : fNo env = some none := rfl
theorem v_po {i : Int} (h : fa env = some (.int i)) : fPo fa env = some (some i) := by
  unfold fPo
  rw [h]
  rfl
theorem v_m1 {g : List Nat → D → Option D} {l : List Nat} (h1 : fo env = some (.str l)) (h2 : fa env = some a) (h3 : g l a = some c) : fM1 g fo fa env = some c := by
  unfold fM1
  rw [h1]
  simp only [Option.bind_some, h2, h3]
theorem v_b {k : Bool} (h : fa env = some (.bl k)) : fB fa env = some k := by
  unfold fB
  rw [h]
  rfl
theorem v_andt {ga gb : En → Option Bool} {k : Bool} (h1 : ga env = some true) (h2 : gb env = some k) : fAnd ga gb env = some k := by
  unfold fAnd
  rw [h1]
  simp only [Option.bind_some, if_true, h2]
theorem v_andf {ga gb : En → Option Bool} (h1 : ga env = some false) : fAnd ga gb env = some false := by
  unfold fAnd
  rw [h1]
  rfl
theorem v_ort {ga gb : En → Option Bool} (h1 : ga env = some true) : fOr ga gb env = some true := by
  unfold fOr
  rw [h1]
  rfl
theorem v_orf {ga gb : En → Option Bool} {k : Bool} (h1 : ga env = some false) (h2 : gb env = some k) : fOr ga gb env = some k := by
  unfold fOr
  rw [h1]
  simp only [Option.bind_some, Bool.false_eq_true, if_false, h2]
theorem v_not {ga : En → Option Bool} {k : Bool} (h1 : ga env = some k) : fNot ga env = some (!k) := by
  unfold fNot
  rw [h1]
  rfl
theorem v_andVt (h1 : fa env = some (.bl true)) (h2 : fb env = some c) : fAndV fa fb env = some c := by
  unfold fAndV
  rw [h1]
  simp only [Option.bind_some, asB, if_true, h2]
theorem v_andVf (h1 : fa env = some (.bl false)) : fAndV fa fb env = some (.bl false) := by
  unfold fAndV
  rw [h1]
  rfl
theorem v_orVt (h1 : fa env = some (.bl true)) : fOrV fa fb env = some (.bl true) := by
  unfold fOrV
  rw [h1]
  rfl
theorem v_orVf (h1 : fa env = some (.bl false)) (h2 : fb env = some c) : fOrV fa fb env = some c := by
  unfold fOrV
  rw [h1]
  simp only [Option.bind_some, asB, Bool.false_eq_true, if_false, h2]
theorem v_notV {k : Bool} (h1 : fa env = some (.bl k)) : fNotV fa env = some (.bl (!k)) := by
  unfold fNotV
  rw [h1]
  rfl
theorem v_it (h : fa env = some (.tup ds)) : fIt fa env = some ds := by
  unfold fIt
  rw [h]
  rfl
theorem v_itl (h : fa env = some (.lst ds)) : fIt fa env = some ds := by
  unfold fIt
  rw [h]
  rfl
theorem v_its {l : List Nat} (h : fa env = some (.str l)) : fIt fa env = some (l.map fun x => .str [x]) := by
  unfold fIt
  rw [h]
  rfl
theorem v_rng1 {n : Int} (h : fs env = some [.int n]) (h2 : -1000000 ≤ n ∧ n ≤ 1000000) : fRng1 fs env = some ((List.range n.toNat).map fun i => .int (i : Nat)) := by
  unfold fRng1
  rw [h]
  simp only [Option.bind_some, rangeD, Int.sub_zero, Int.zero_add]
  rw [if_pos (by omega)]
theorem v_rng2 {m n : Int} (h : fs env = some [.int m, .int n]) (h2 : -1000000 ≤ n ∧ n ≤ 1000000 ∧ -1000000 ≤ m ∧ m ≤ 1000000) : fRng2 fs env = some ((List.range (n - m).toNat).map fun i => .int (m + (i : Nat))) := by
  unfold fRng2
  rw [h]
  simp only [Option.bind_some, rangeD]
  rw [if_pos (by omega)]
end
/-! operations -/
theorem add_i (i j : Int) : addD (.int i) (.int j) = some (.int (i + j)) := rfl
theorem sub_i (i j : Int) : subD (.int i) (.int j) = some (.int (i - j)) := rfl
theorem mul_i {i j : Int} (h : (-(2 ^ 64) < i ∧ i < 2 ^ 64) ∨ (-(2 ^ 64) < j ∧ j < 2 ^ 64)) : mulD (.int i) (.int j) = some (.int (i * j)) := if_pos h
theorem fdiv_i {i j : Int} (h : 0 < j ∧ j < 1073741824) : fdivD (.int i) (.int j) = some (.int (i / j)) := if_pos h
theorem mod_i {i j : Int} (h : 0 < j) : modD (.int i) (.int j) = some (.int (i % j)) := if_pos h
theorem neg_i (i : Int) : negD (.int i) = some (.int (-i)) := rfl
theorem lt_i (i j : Int) : ltD (.int i) (.int j) = some (.bl (decide (i < j))) := rfl
theorem le_i (i j : Int) : leD (.int i) (.int j) = some (.bl (decide (i ≤ j))) := rfl
theorem gt_i (i j : Int) : gtD (.int i) (.int j) = some (.bl (decide (j < i))) := rfl
theorem ge_i (i j : Int) : geD (.int i) (.int j) = some (.bl (decide (j ≤ i))) := rfl
theorem eqv_i (i j : Int) : eqv (.int i) (.int j) = decide (i = j) := by
  unfold eqv
  simp only [toP, PyData.eqv]
  by_cases h : i = j
  · subst h; simp
  · simp [h]
theorem S_inj {a b : List Nat} (h : S a = S b) : a = b := SX.S_inj h
theorem eqv_s (i j : List Nat) : eqv (.str i) (.str j) = decide (i = j) := by
  unfold eqv
  simp only [toP, PyData.eqv]
  by_cases h : i = j
  · subst h; simp
  · rw [decide_eq_false h]
    rw [beq_eq_false_iff_ne]
    exact fun q => h (S_inj q)
theorem eqv_b (i j : Bool) : eqv (.bl i) (.bl j) = decide (i = j) := by
  unfold eqv
  simp only [toP, PyData.eqv]
  cases i <;> cases j <;> rfl
theorem eqv_refl (d : D) : eqv d d = true := PySem.SeqAt.eqv_refl_plain (toP d) (plain_toP d)
theorem eq_i (i j : Int) : eqD (.int i) (.int j) = some (.bl (decide (i = j))) := by
  unfold eqD
  rw [if_pos ⟨rfl, rfl⟩, eqv_i]
theorem ne_i (i j : Int) : neD (.int i) (.int j) = some (.bl (!decide (i = j))) := by
  unfold neD
  rw [if_pos ⟨rfl, rfl⟩, eqv_i]
theorem eq_s (i j : List Nat) : eqD (.str i) (.str j) = some (.bl (decide (i = j))) := by
  unfold eqD
  rw [if_pos ⟨rfl, rfl⟩, eqv_s]
theorem ne_s (i j : List Nat) : neD (.str i) (.str j) = some (.bl (!decide (i = j))) := by
  unfold neD
  rw [if_pos ⟨rfl, rfl⟩, eqv_s]
theorem eq_same {d : D} (h : okN 60 d = true) : eqD d d = some (.bl true) := by
  unfold eqD
  rw [if_pos ⟨h, h⟩, eqv_refl]
theorem ne_same {d : D} (h : okN 60 d = true) : neD d d = some (.bl false) := by
  unfold neD
  rw [if_pos ⟨h, h⟩, eqv_refl]
  rfl
theorem add_s {x y : List Nat} (h : x.length + y.length ≤ 1000000) : addD (.str x) (.str y) = some (.str (x ++ y)) := if_pos (Nat.le_trans h size1000)
theorem add_t {x y : List D} (h : x.length + y.length ≤ 1000000) : addD (.tup x) (.tup y) = some (.tup (x ++ y)) := if_pos (Nat.le_trans h size1000)
theorem add_l {x y : List D} (h : x.length + y.length ≤ 1000000) : addD (.lst x) (.lst y) = some (.lst (x ++ y)) := if_pos (Nat.le_trans h size1000)
theorem mul_lim {k : Nat} {n : Int} (h : k ≤ 1000 ∧ -1000 ≤ n ∧ n ≤ 1000) : k ≤ 1000000 ∧ -1000000 ≤ n ∧ n ≤ 1000000 ∧ k * n.toNat ≤ 1000000 := by
  have : k * n.toNat ≤ 1000 * 1000 := Nat.mul_le_mul h.1 (by omega)
  omega
theorem mul_s {x : List Nat} {n : Int} (h : x.length ≤ 1000 ∧ -1000 ≤ n ∧ n ≤ 1000) : mulD (.str x) (.int n) = some (.str (reps x n.toNat)) := if_pos (mul_lim h)
theorem mul_l {x : List D} {n : Int} (h : x.length ≤ 1000 ∧ -1000 ≤ n ∧ n ≤ 1000) : mulD (.lst x) (.int n) = some (.lst (reps x n.toNat)) := if_pos (mul_lim h)
theorem mul_sB {x : List Nat} {n : Nat} (h : x.length ≤ 1000000) (h2 : n ≤ 1000000) (h3 : x.length * n ≤ 1000000) : mulD (.str x) (.int (n : Nat)) = some (.str (reps x n)) := if_pos ⟨h, by omega, by omega, by rw [Int.toNat_natCast]; exact h3⟩
theorem len_s {x : List Nat} (h : x.length ≤ 1000000) : lenG [.str x] = some (.int x.length) := if_pos (Nat.le_trans h size1000)
theorem len_t (x : List D) : lenG [.tup x] = some (.int x.length) := rfl
theorem len_l (x : List D) : lenG [.lst x] = some (.int x.length) := rfl
theorem len_c (x : List Int) : lenG [.scr x] = some (.int x.length) := rfl
theorem int_b (k : Bool) : intG [.bl k] = some (.int (if k then 1 else 0)) := rfl
theorem int_i (k : Int) : intG [.int k] = some (.int k) := rfl
theorem abs_i (k : Int) : absG [.int k] = some (.int (if k < 0 then -k else k)) := rfl
theorem atI_n {α : Type} {xs : List α} {i : Int} (h0 : 0 ≤ i) (h1 : i < xs.length) : atI xs i = xs[i.toNat]? := by
  unfold atI ixN
  rw [if_pos h0, if_pos h1]
  rfl
theorem ix_t {xs : List D} {i : Int} {d : D} (h0 : 0 ≤ i) (h : xs[i.toNat]? = some d) : ixD (.tup xs) (.int i) = some d := by
  show atI xs i = some d
  have := (List.getElem?_eq_some_iff.mp h).1
  rw [atI_n h0 (by omega)]
  exact h
theorem ix_l {xs : List D} {i : Int} {d : D} (h0 : 0 ≤ i) (h : xs[i.toNat]? = some d) : ixD (.lst xs) (.int i) = some d := by
  show atI xs i = some d
  have := (List.getElem?_eq_some_iff.mp h).1
  rw [atI_n h0 (by omega)]
  exact h
theorem ix_s {xs : List Nat} {i : Int} {d : Nat} (hl : xs.length ≤ 1000000) (h0 : 0 ≤ i) (h : xs[i.toNat]? = some d) : ixD (.str xs) (.int i) = some (.str [d]) := by
  show (if xs.length ≤ sizeLine then (atI xs i).bind _ else none) = _
  have := (List.getElem?_eq_some_iff.mp h).1
  rw [if_pos (Nat.le_trans hl size1000), atI_n h0 (by omega), h]
  rfl
theorem cut_from {α : Type} (xs : List α) (n : Nat) : cut xs (some (n : Int)) none = xs.drop n := by
  unfold cut
  rw [HT.sIx_nat, HT.sIx_none]
  by_cases h : n ≤ xs.length
  · rw [Nat.min_eq_left h, List.take_of_length_le (by rw [List.length_drop]; omega)]
  · rw [Nat.min_eq_right (by omega), List.drop_length, List.drop_of_length_le (by omega)]
    simp
theorem cut_to {α : Type} (xs : List α) (n : Nat) : cut xs none (some (n : Int)) = xs.take n := by
  unfold cut
  rw [HT.sIx_nat, HT.sIx_none, List.drop_zero, Nat.sub_zero]
  by_cases h : n ≤ xs.length
  · rw [Nat.min_eq_left h]
  · rw [Nat.min_eq_right (by omega), List.take_length, List.take_of_length_le (by omega)]
theorem sl_s {x : List Nat} {lo hi : Option Int} (h : x.length ≤ 1000000) : slD (.str x) lo hi = some (.str (cut x lo hi)) := if_pos (Nat.le_trans h size1000)
theorem sl_t (x : List D) (lo hi : Option Int) : slD (.tup x) lo hi = some (.tup (cut x lo hi)) := rfl
theorem sl_l (x : List D) (lo hi : Option Int) : slD (.lst x) lo hi = some (.lst (cut x lo hi)) := rfl
theorem join_l {sep : List Nat} {ls : List (List Nat)} (h : (ls.map List.length).sum + ls.length * sep.length ≤ 1000000) : joinD sep (.lst (ls.map D.str)) = some (.str (joinL sep ls)) := by
  show (strsOf (ls.map D.str)).bind _ = _
  rw [strsOf_map]
  exact if_pos h
theorem joinL_nil (ls : List (List Nat)) : joinL [] ls = ls.flatten := by
  induction ls with
  | nil => rfl
  | cons x xs ih =>
    cases xs with
    | nil => simp [joinL]
    | cons y ys =>
      show x ++ [] ++ joinL [] (y :: ys) = _
      rw [ih, List.append_nil]
      simp
theorem min_s {x : List Nat} {xs : List (List Nat)} : minG [.lst ((x :: xs).map D.str)] = some (.str (minOf ltS x xs)) := by
  unfold minG
  simp only [strsOf_map]
theorem max_i {x : Int} {xs : List Int} : maxG [.lst ((x :: xs).map D.int)] = some (.int (maxOf ltI x xs)) := by
  unfold maxG
  simp only [intsOf_map]
theorem all_b (bs : List Bool) : allG [.lst (bs.map D.bl)] = some (.bl (bs.all id)) := by
  show (blsOf (bs.map D.bl)).bind _ = _
  rw [blsOf_map]
  rfl
theorem flat_one : ∀ (l : List Nat), (l.map fun c => [c]).flatten = l
  | [] => rfl
  | c :: l => by rw [List.map_cons, List.flatten_cons, flat_one l]; rfl

/-! statements -/
section
variable {env e e' : En} {F G : En → Option Fl} {fl : Fl} {f : En → Option D} {d : D}
theorem w_seq (h1 : F env = some (.nx e)) (h2 : G e = some fl) : fSeq F G env = some fl := (seq_nx h1).trans h2
theorem w_ret (h1 : F env = some (.rt d)) : fSeq F G env = some (.rt d) := seq_rt h1
theorem w_set {i : Nat} (h : f env = some d) (he : env.set i (some d) = e) : fSet i f env = some (.nx e) := by
  rw [set_of h, he]
theorem w_ift {c : En → Option Bool} (h : c env = some true) (h2 : F env = some fl) : fIfS c F G env = some fl := (if_t h).trans h2
theorem w_iff {c : En → Option Bool} (h : c env = some false) (h2 : G env = some fl) : fIfS c F G env = some fl := (if_f h).trans h2
theorem w_pass : fPass env = some (.nx env) := rfl
theorem w_for {it : En → Option (List D)} {g : D → En → Option En} {ds : List D} (h : it env = some ds) (h2 : forF g F ds env = some fl) : fFor it g F env = some fl := (forw h).trans h2
theorem w_forn {g : D → En → Option En} : forF g F [] env = some (.nx env) := rfl
theorem w_forc {g : D → En → Option En} {x : D} {ds : List D} (h1 : g x env = some e) (h2 : F e = some (.nx e')) (h3 : forF g F ds e' = some fl) : forF g F (x :: ds) env = some fl := by
  rw [forF, h1]
  simp only [Option.bind_some, h2, h3]
theorem w_forr {g : D → En → Option En} {x d : D} {ds : List D} (h1 : g x env = some e) (h2 : F e = some (.rt d)) : forF g F (x :: ds) env = some (.rt d) := by
  rw [forF, h1]
  simp only [Option.bind_some, h2]
theorem sem_rt {n m : Nat} {ds : List D} (hl : ds.length = m) (h : F (startE n ds) = some (.rt d)) : semOf n m F ds = some d := by
  unfold semOf
  rw [if_pos hl, h]
  rfl
theorem sem_nx {n m : Nat} {ds : List D} (hl : ds.length = m) (h : F (startE n ds) = some (.nx e)) : semOf n m F ds = some .non := by
  unfold semOf
  rw [if_pos hl, h]
  rfl
end
end Dn
set_option Elab.async false
set_option linter.all false
set_option maxRecDepth 100000
/-! The law's own numbers. -/
namespace Dn
open PySem L2
local macro_rules | `(tactic| walk_at "dg") => `(tactic| first
  | with_reducible exact add_i _ _ | with_reducible exact sub_i _ _ | ((with_reducible refine mul_i ?_); omega) | ((with_reducible refine fdiv_i ?_); omega) | ((with_reducible refine mod_i ?_); omega) | with_reducible exact neg_i _
  | with_reducible exact lt_i _ _ | with_reducible exact le_i _ _ | with_reducible exact gt_i _ _ | with_reducible exact ge_i _ _ | with_reducible exact eq_i _ _ | with_reducible exact ne_i _ _ | with_reducible exact eq_s _ _ | with_reducible exact ne_s _ _
  | ((with_reducible refine add_s ?_); omega) | ((with_reducible refine add_t ?_); omega) | ((with_reducible refine add_l ?_); omega) | ((with_reducible refine mul_s ?_); omega) | ((with_reducible refine mul_l ?_); omega)
  | ((with_reducible refine len_s ?_); omega) | with_reducible exact len_t _ | with_reducible exact len_l _ | with_reducible exact len_c _ | with_reducible exact int_b _ | with_reducible exact int_i _ | with_reducible exact abs_i _
  | ((with_reducible refine sl_s ?_); omega) | with_reducible exact sl_t _ _ _ | with_reducible exact sl_l _ _ _ | ((with_reducible apply ix_t); (· omega); (· rfl)) | ((with_reducible apply ix_l); (· omega); (· rfl)) | with_reducible assumption)
local macro_rules | `(tactic| walk_at "dc") => `(tactic| with_reducible assumption)
local macro_rules | `(tactic| walk_at "dn") => `(tactic| first
  | with_reducible exact v_c | with_reducible exact v_nil | with_reducible exact v_no
  | ((with_reducible apply v_var); (· rfl); (· rfl))
  | ((with_reducible apply v_2); (· walk_at "dn"); (· walk_at "dn"); (· walk_at "dg"))
  | ((with_reducible apply v_1); (· walk_at "dn"); (· walk_at "dg"))
  | ((with_reducible apply v_cons); (· walk_at "dn"); (· walk_at "dn"))
  | ((with_reducible apply v_blt); (· walk_at "dn"); (· walk_at "dg"))
  | ((with_reducible apply v_call); (· walk_at "dn"); (· walk_at "dc"))
  | ((with_reducible apply v_tup); (· walk_at "dn"); (· first | decide | (simp only [List.length_cons, List.length_nil]; decide)))
  | ((with_reducible apply v_lst); (· walk_at "dn"); (· first | decide | (simp only [List.length_cons, List.length_nil]; decide)))
  | ((with_reducible apply v_po); (· walk_at "dn"))
  | ((with_reducible apply v_sl); (· walk_at "dn"); (· walk_at "dn"); (· walk_at "dn"); (· walk_at "dg"))
  | ((with_reducible apply v_m1); (· walk_at "dn"); (· walk_at "dn"); (· walk_at "dg"))
  | ((with_reducible apply v_b); (· walk_at "dn"))
  | ((with_reducible apply v_not); (· walk_at "dn"))
  | ((with_reducible apply v_notV); (· walk_at "dn"))
  | ((with_reducible apply v_rng1); (· walk_at "dn"); (· omega))
  | ((with_reducible apply v_rng2); (· walk_at "dn"); (· omega))
  | ((with_reducible apply v_it); (· walk_at "dn"))
  | ((with_reducible apply v_itl); (· walk_at "dn"))
  | ((with_reducible apply v_its); (· walk_at "dn"))
  | with_reducible assumption)
local macro_rules | `(tactic| walk_at "dt") => `(tactic| first
  | with_reducible exact v_c | with_reducible exact v_nil | with_reducible exact v_no
  | ((with_reducible apply v_var); (· rfl); (· rfl))
  | ((with_reducible apply v_2) <;> walk_at "dt")
  | ((with_reducible apply v_1) <;> walk_at "dt")
  | ((with_reducible apply v_cons) <;> walk_at "dt")
  | ((with_reducible apply v_blt) <;> walk_at "dt")
  | ((with_reducible apply v_call) <;> walk_at "dt")
  | ((with_reducible apply v_tup) <;> walk_at "dt")
  | ((with_reducible apply v_lst) <;> walk_at "dt")
  | ((with_reducible apply v_po) <;> walk_at "dt")
  | ((with_reducible apply v_sl) <;> walk_at "dt")
  | ((with_reducible apply v_m1) <;> walk_at "dt")
  | ((with_reducible apply v_b) <;> walk_at "dt")
  | ((with_reducible apply v_notV) <;> walk_at "dt")
  | ((with_reducible apply v_not) <;> walk_at "dt")
  | ((with_reducible apply v_rng1) <;> first | omega | walk_at "dt")
  | ((with_reducible apply v_rng2) <;> first | omega | walk_at "dt")
  | walk_at "dg"
  | (show List.length _ ≤ sizeLine; first | decide | (simp only [List.length_cons, List.length_nil]; decide))
  | skip)
local macro_rules | `(tactic| walk_at "ds") => `(tactic| first
  | ((with_reducible apply w_ss) <;> first | walk_at "d1" | skip)
  | ((with_reducible apply w_r) <;> first | walk_at "d1" | skip)
  | ((with_reducible apply w_sp) <;> first | walk_at "d1" | skip)
  | ((with_reducible apply w_so) <;> first | walk_at "d1" | skip)
  | (with_reducible apply w_sv)
  | (with_reducible apply w_sq))
local macro_rules | `(tactic| walk_at "dx") => `(tactic| simp only [put, jn, List.set_cons_zero, List.set_cons_succ])
noncomputable def m__law_cell_at : En → Option Fl :=
  (fSeq (fIfS (fB (f2 ltD (fV 1) (fBlt lenG (fCons (fV 0) fNil))))
    (fRet (f2 ixD (fV 0) (fV 1)))
    fPass)
  (fRet (fC (.int 0))))
noncomputable def n__law_cell_at : List D → Option D := semOf 2 2 m__law_cell_at
noncomputable def m__law_mixed : En → Option Fl :=
  (fSeq (fSet 2 (f2 modD (f2 mulD (f2 addD (f2 addD (fCall n__law_cell_at (fCons (fV 0) (fCons (fV 1) fNil))) (f2 mulD (fC (.int 7919)) (fV 1))) (fC (.int 1))) (fC (.int 48271))) (fC (.int 2147483647))))
  (fRet (f2 modD (f2 addD (f2 addD (f2 mulD (fV 2) (fV 2)) (f2 mulD (fC (.int 7)) (fV 2))) (fV 1)) (fC (.int 2147483629)))))
noncomputable def n__law_mixed : List D → Option D := semOf 3 2 m__law_mixed
noncomputable def m__law_drawn : En → Option Fl :=
  (fSeq (fSet 2 (f2 modD (f2 mulD (f2 addD (f2 addD (fV 0) (f2 mulD (fC (.int 104729)) (fV 1))) (fC (.int 17))) (fC (.int 69621))) (fC (.int 2147483647))))
  (fRet (f2 modD (f2 addD (f2 addD (f2 mulD (fV 2) (fV 2)) (f2 mulD (fC (.int 3)) (fV 2))) (fV 1)) (fC (.int 2147483629)))))
noncomputable def n__law_drawn : List D → Option D := semOf 3 2 m__law_drawn
theorem cell_ok (ns : List Int) (k : Int) (hk : 0 ≤ k) : ∃ c, n__law_cell_at [.scr ns, .int k] = some (.int c) := by
  by_cases h : k < (ns.length : Int)
  · have hn : k.toNat < ns.length := by omega
    have hx : ixD (.scr ns) (.int k) = some (.int ns[k.toNat]) := by
      show (atI ns k).bind _ = _
      rw [atI_n hk h, List.getElem?_eq_getElem hn]
      rfl
    refine ⟨ns[k.toNat], sem_rt rfl ?_⟩
    show m__law_cell_at [some (.scr ns), some (.int k)] = _
    unfold m__law_cell_at
    refine w_ret (w_ift ?_ (ret_of (by walk_at "dn")))
    refine v_b ?_
    rw [← decide_eq_true h]
    walk_at "dn"
  · refine ⟨0, sem_rt rfl ?_⟩
    show m__law_cell_at [some (.scr ns), some (.int k)] = _
    unfold m__law_cell_at
    refine w_seq (w_iff ?_ w_pass) (ret_of (by walk_at "dn"))
    refine v_b ?_
    rw [← decide_eq_false h]
    walk_at "dn"
theorem mixed_ok (ns : List Int) (k : Int) (hk : 0 ≤ k) (hk2 : k ≤ 1000) : ∃ m, 0 ≤ m ∧ m < 2147483629 ∧ n__law_mixed [.scr ns, .int k] = some (.int m) := by
  obtain ⟨c, hc⟩ := cell_ok ns k hk
  generalize hd : (c + 7919 * k + 1) * 48271 % 2147483647 = d
  have d0 : 0 ≤ d ∧ d < 2147483647 := by omega
  refine ⟨(d * d + 7 * d + k) % 2147483629, by omega, by omega, sem_rt rfl ?_⟩
  show m__law_mixed [some (.scr ns), some (.int k), none] = _
  unfold m__law_mixed
  refine w_seq (w_set (d := .int d) (by rw [← hd]; walk_at "dn") rfl) (ret_of ?_)
  walk_at "dn"
theorem drawn_ok (n k : Int) (hk : 0 ≤ k ∧ k ≤ 1000) : ∃ m, 0 ≤ m ∧ m < 2147483629 ∧ n__law_drawn [.int n, .int k] = some (.int m) := by
  generalize hd : (n + 104729 * k + 17) * 69621 % 2147483647 = d
  have d0 : 0 ≤ d ∧ d < 2147483647 := by omega
  refine ⟨(d * d + 3 * d + k) % 2147483629, by omega, by omega, sem_rt rfl ?_⟩
  show m__law_drawn [some (.int n), some (.int k), none] = _
  unfold m__law_drawn
  refine w_seq (w_set (d := .int d) (by rw [← hd]; walk_at "dn") rfl) (ret_of ?_)
  walk_at "dn"
end Dn
set_option Elab.async false
set_option linter.all false
set_option maxRecDepth 100000
/-! Rows: spread, turned, least_turn, are_turns. -/
namespace Dn
open PySem L2
local macro_rules | `(tactic| walk_at "dg") => `(tactic| first
  | with_reducible exact add_i _ _ | with_reducible exact sub_i _ _ | ((with_reducible refine mul_i ?_); omega) | ((with_reducible refine fdiv_i ?_); omega) | ((with_reducible refine mod_i ?_); omega) | with_reducible exact neg_i _
  | with_reducible exact lt_i _ _ | with_reducible exact le_i _ _ | with_reducible exact gt_i _ _ | with_reducible exact ge_i _ _ | with_reducible exact eq_i _ _ | with_reducible exact ne_i _ _ | with_reducible exact eq_s _ _ | with_reducible exact ne_s _ _
  | ((with_reducible refine add_s ?_); omega) | ((with_reducible refine add_t ?_); omega) | ((with_reducible refine add_l ?_); omega) | ((with_reducible refine mul_s ?_); omega) | ((with_reducible refine mul_l ?_); omega)
  | ((with_reducible refine len_s ?_); omega) | with_reducible exact len_t _ | with_reducible exact len_l _ | with_reducible exact len_c _ | with_reducible exact int_b _ | with_reducible exact int_i _ | with_reducible exact abs_i _
  | ((with_reducible refine sl_s ?_); omega) | with_reducible exact sl_t _ _ _ | with_reducible exact sl_l _ _ _ | ((with_reducible apply ix_t); (· omega); (· rfl)) | ((with_reducible apply ix_l); (· omega); (· rfl)) | with_reducible assumption)
local macro_rules | `(tactic| walk_at "dc") => `(tactic| with_reducible assumption)
local macro_rules | `(tactic| walk_at "dn") => `(tactic| first
  | with_reducible exact v_c | with_reducible exact v_nil | with_reducible exact v_no
  | ((with_reducible apply v_var); (· rfl); (· rfl))
  | ((with_reducible apply v_2); (· walk_at "dn"); (· walk_at "dn"); (· walk_at "dg"))
  | ((with_reducible apply v_1); (· walk_at "dn"); (· walk_at "dg"))
  | ((with_reducible apply v_cons); (· walk_at "dn"); (· walk_at "dn"))
  | ((with_reducible apply v_blt); (· walk_at "dn"); (· walk_at "dg"))
  | ((with_reducible apply v_call); (· walk_at "dn"); (· walk_at "dc"))
  | ((with_reducible apply v_tup); (· walk_at "dn"); (· first | decide | (simp only [List.length_cons, List.length_nil]; decide)))
  | ((with_reducible apply v_lst); (· walk_at "dn"); (· first | decide | (simp only [List.length_cons, List.length_nil]; decide)))
  | ((with_reducible apply v_po); (· walk_at "dn"))
  | ((with_reducible apply v_sl); (· walk_at "dn"); (· walk_at "dn"); (· walk_at "dn"); (· walk_at "dg"))
  | ((with_reducible apply v_m1); (· walk_at "dn"); (· walk_at "dn"); (· walk_at "dg"))
  | ((with_reducible apply v_b); (· walk_at "dn"))
  | ((with_reducible apply v_not); (· walk_at "dn"))
  | ((with_reducible apply v_notV); (· walk_at "dn"))
  | ((with_reducible apply v_rng1); (· walk_at "dn"); (· omega))
  | ((with_reducible apply v_rng2); (· walk_at "dn"); (· omega))
  | ((with_reducible apply v_it); (· walk_at "dn"))
  | ((with_reducible apply v_itl); (· walk_at "dn"))
  | ((with_reducible apply v_its); (· walk_at "dn"))
  | with_reducible assumption)
local macro_rules | `(tactic| walk_at "dt") => `(tactic| first
  | with_reducible exact v_c | with_reducible exact v_nil | with_reducible exact v_no
  | ((with_reducible apply v_var); (· rfl); (· rfl))
  | ((with_reducible apply v_2) <;> walk_at "dt")
  | ((with_reducible apply v_1) <;> walk_at "dt")
  | ((with_reducible apply v_cons) <;> walk_at "dt")
  | ((with_reducible apply v_blt) <;> walk_at "dt")
  | ((with_reducible apply v_call) <;> walk_at "dt")
  | ((with_reducible apply v_tup) <;> walk_at "dt")
  | ((with_reducible apply v_lst) <;> walk_at "dt")
  | ((with_reducible apply v_po) <;> walk_at "dt")
  | ((with_reducible apply v_sl) <;> walk_at "dt")
  | ((with_reducible apply v_m1) <;> walk_at "dt")
  | ((with_reducible apply v_b) <;> walk_at "dt")
  | ((with_reducible apply v_notV) <;> walk_at "dt")
  | ((with_reducible apply v_not) <;> walk_at "dt")
  | ((with_reducible apply v_rng1) <;> first | omega | walk_at "dt")
  | ((with_reducible apply v_rng2) <;> first | omega | walk_at "dt")
  | walk_at "dg"
  | (show List.length _ ≤ sizeLine; first | decide | (simp only [List.length_cons, List.length_nil]; decide))
  | skip)
local macro_rules | `(tactic| walk_at "ds") => `(tactic| first
  | ((with_reducible apply w_ss) <;> first | walk_at "d1" | skip)
  | ((with_reducible apply w_r) <;> first | walk_at "d1" | skip)
  | ((with_reducible apply w_sp) <;> first | walk_at "d1" | skip)
  | ((with_reducible apply w_so) <;> first | walk_at "d1" | skip)
  | (with_reducible apply w_sv)
  | (with_reducible apply w_sq))
local macro_rules | `(tactic| walk_at "dx") => `(tactic| simp only [put, jn, List.set_cons_zero, List.set_cons_succ])
noncomputable def m_spread : En → Option Fl :=
  (fSeq (fSet 2 (fLc (fRng1 (fCons (fV 0) fNil)) (gN 3) fYes (f2 fdivD (f2 mulD (fV 3) (fV 1)) (fV 0)) [3]))
  (fRet (fM1 joinD (fC (.str [])) (fLc (fRng1 (fCons (fV 1) fNil)) (gN 4) fYes (f2 ixD (fLst (fCons (fC (.str [46])) (fCons (fC (.str [120])) fNil))) (fBlt intG (fCons (f2 inD (fV 4) (fV 2)) fNil))) [4]))))
noncomputable def n_spread : List D → Option D := semOf 5 2 m_spread
noncomputable def m_turned : En → Option Fl :=
  (fSeq (fSet 2 (f2 modD (f2 subD (fC (.int 0)) (fV 1)) (fBlt lenG (fCons (fV 0) fNil))))
  (fRet (f2 addD (fSl (fV 0) (fPo (fV 2)) fNo) (fSl (fV 0) fNo (fPo (fV 2))))))
noncomputable def n_turned : List D → Option D := semOf 3 2 m_turned
noncomputable def m_least_turn : En → Option Fl :=
  (fRet (fBlt minG (fCons (fLc (fRng1 (fCons (fBlt lenG (fCons (fV 0) fNil)) fNil)) (gN 1) fYes (fCall n_turned (fCons (fV 0) (fCons (fV 1) fNil))) [1]) fNil)))
noncomputable def n_least_turn : List D → Option D := semOf 2 1 m_least_turn
noncomputable def m_are_turns : En → Option Fl :=
  (fRet (fAndV (f2 eqD (fBlt lenG (fCons (fV 0) fNil)) (fBlt lenG (fCons (fV 1) fNil))) (f2 eqD (fCall n_least_turn (fCons (fV 0) fNil)) (fCall n_least_turn (fCons (fV 1) fNil)))))
noncomputable def n_are_turns : List D → Option D := semOf 2 2 m_are_turns
theorem in_li (i : Int) (ns : List Int) : inD (.int i) (.lst (ns.map D.int)) = some (.bl (ns.any fun n => decide (n = i))) := by
  unfold inD inB
  have h1 : ok60 (.int i) = true := rfl
  have h2 : ((ns.map D.int).all fun d => okN 60 d) = true := by
    rw [List.all_eq_true]
    intro x hx
    obtain ⟨n, _, rfl⟩ := List.mem_map.mp hx
    rfl
  have h3 : ((ns.map D.int).any fun d => eqv d (.int i)) = ns.any fun n => decide (n = i) := by
    rw [List.any_map]
    exact congrArg (fun f => ns.any f) (funext fun n => eqv_i n i)
  simp only [h1, h2, and_self, if_true, Option.bind_some, h3]
def spreadL (m s : Nat) : List Nat := (List.range s).map fun i => if ((List.range m).any fun k => decide (k * s / m = i)) then 120 else 46
theorem sum_ones {α : Type} (f : α → List Nat) (h : ∀ x, (f x).length = 1) : ∀ xs : List α, ((xs.map f).map List.length).sum = xs.length
  | [] => rfl
  | x :: xs => by rw [List.map_cons, List.map_cons, List.sum_cons, h x, sum_ones f h xs, List.length_cons, Nat.add_comm]
theorem flat_ones {α : Type} (f : α → Nat) : ∀ xs : List α, (xs.map fun x => [f x]).flatten = xs.map f
  | [] => rfl
  | x :: xs => by rw [List.map_cons, List.flatten_cons, flat_ones f xs]; rfl
theorem e_spread {m s : Nat} (hm : m ≤ 1000) (hs : s ≤ 1000) : n_spread [.int m, .int s] = some (.str (spreadL m s)) := by
  refine sem_rt rfl ?_
  show m_spread [some (.int m), some (.int s), none, none, none] = _
  unfold m_spread
  have h1 : fLc (fRng1 (fCons (fV 0) fNil)) (gN 3) fYes (f2 fdivD (f2 mulD (fV 3) (fV 1)) (fV 0)) [3] [some (.int m), some (.int s), none, none, none] = some (.lst (((List.range m).map fun k => ((k * s / m : Nat) : Int)).map D.int)) := by
    refine lcw (v_rng1 (by walk_at "dn") (by omega)) (by simp; omega) ?_
    rw [List.map_map]
    refine lc_map (fun i : Nat => .int (i : Nat)) _ _ fun k hk => ⟨_, rfl, ?_⟩
    have hk := List.mem_range.mp hk
    have e : (((k * s / m : Nat) : Nat) : Int) = (k : Int) * (s : Int) / (m : Int) := by simp
    show _ = some (D.int ((k * s / m : Nat) : Int))
    rw [e]
    show f2 fdivD (f2 mulD (fV 3) (fV 1)) (fV 0) [some (.int m), some (.int s), none, some (.int (k : Nat)), none] = _
    walk_at "dn"
  refine w_seq (w_set h1 rfl) (ret_of ?_)
  generalize hp : ((List.range m).map fun k => ((k * s / m : Nat) : Int)) = ps
  have h2 : fLc (fRng1 (fCons (fV 1) fNil)) (gN 4) fYes (f2 ixD (fLst (fCons (fC (.str [46])) (fCons (fC (.str [120])) fNil))) (fBlt intG (fCons (f2 inD (fV 4) (fV 2)) fNil))) [4] [some (.int m), some (.int s), some (.lst (ps.map D.int)), none, none] = some (.lst (((List.range s).map fun i : Nat => [if (ps.any fun n => decide (n = (i : Int))) then 120 else 46]).map D.str)) := by
    refine lcw (v_rng1 (by walk_at "dn") (by omega)) (by simp; omega) ?_
    rw [List.map_map]
    refine lc_map (fun i : Nat => .int (i : Nat)) _ _ fun k hk => ⟨_, rfl, ?_⟩
    show f2 ixD (fLst (fCons (fC (.str [46])) (fCons (fC (.str [120])) fNil))) (fBlt intG (fCons (f2 inD (fV 4) (fV 2)) fNil)) [some (.int m), some (.int s), some (.lst (ps.map D.int)), none, some (.int (k : Nat))] = some (D.str [if (ps.any fun n => decide (n = (k : Int))) then 120 else 46])
    have hi := in_li (k : Int) ps
    refine v_2 (by walk_at "dn") (v_blt (v_cons (v_2 (by walk_at "dn") (by walk_at "dn") hi) v_nil) (int_b _)) ?_
    cases (ps.any fun n => decide (n = (k : Int))) <;> rfl
  refine v_m1 v_c h2 ?_
  rw [join_l]
  · rw [joinL_nil, flat_ones]
    refine congrArg (fun l => some (D.str l)) ?_
    unfold spreadL
    apply List.map_congr_left
    intro i _
    have e3 : (ps.any fun n => decide (n = (i : Int))) = (List.range m).any fun k => decide (k * s / m = i) := by
      rw [← hp, List.any_map]
      exact congrArg (fun f => (List.range m).any f) (funext fun k => decide_eq_decide.mpr ⟨fun q => Int.ofNat.inj q, fun q => congrArg Int.ofNat q⟩)
    rw [e3]
  · rw [sum_ones _ fun _ => rfl]
    simp
    omega
def rotL (row : List Nat) (by' : Int) : List Nat := row.drop ((0 - by') % row.length).toNat ++ row.take ((0 - by') % row.length).toNat
theorem e_turned {row : List Nat} {by' : Int} (h : 0 < row.length) (h2 : row.length ≤ 100000) : n_turned [.str row, .int by'] = some (.str (rotL row by')) := by
  refine sem_rt rfl ?_
  show m_turned [some (.str row), some (.int by'), none] = _
  unfold m_turned
  refine w_seq (w_set (by walk_at "dn") rfl) ?_
  refine ret_of ?_
  obtain ⟨n, hn, hn2⟩ : ∃ n : Nat, (n : Int) = (0 - by') % row.length ∧ n < row.length := by
    have := Int.emod_nonneg (0 - by') (show (row.length : Int) ≠ 0 by omega)
    have := Int.emod_lt_of_pos (0 - by') (show (0 : Int) < (row.length : Int) by omega)
    exact ⟨((0 - by') % row.length).toNat, by omega, by omega⟩
  unfold rotL
  rw [← hn]
  have e1 : slD (.str row) (some (n : Int)) none = some (.str (row.drop n)) := by rw [sl_s (by omega), cut_from]
  have e2 : slD (.str row) none (some (n : Int)) = some (.str (row.take n)) := by rw [sl_s (by omega), cut_to]
  refine v_2 (v_sl (by walk_at "dn") (by walk_at "dn") v_no e1) (v_sl (by walk_at "dn") v_no (by walk_at "dn") e2) (add_s ?_)
  rw [List.length_drop, List.length_take]
  omega
def turnsL (row : List Nat) : List (List Nat) := (List.range row.length).map fun k => rotL row (k : Nat)
def leastL (row : List Nat) : List Nat := match turnsL row with
  | [] => []
  | x :: xs => minOf ltS x xs
theorem turnsL_ne {row : List Nat} (h : 0 < row.length) : ∃ x xs, turnsL row = x :: xs ∧ leastL row = minOf ltS x xs := by
  cases e : turnsL row with
  | nil =>
    have := congrArg List.length e
    unfold turnsL at this
    simp at this
    rw [this] at h
    simp at h
  | cons x xs => exact ⟨x, xs, rfl, by unfold leastL; rw [e]⟩
theorem e_least {row : List Nat} (h : 0 < row.length) (h2 : row.length ≤ 1000) : n_least_turn [.str row] = some (.str (leastL row)) := by
  refine sem_rt rfl ?_
  show m_least_turn [some (.str row), none] = _
  unfold m_least_turn
  refine ret_of ?_
  obtain ⟨x, xs, e1, e2⟩ := turnsL_ne h
  have h1 : fLc (fRng1 (fCons (fBlt lenG (fCons (fV 0) fNil)) fNil)) (gN 1) fYes (fCall n_turned (fCons (fV 0) (fCons (fV 1) fNil))) [1] [some (.str row), none] = some (.lst ((turnsL row).map D.str)) := by
    refine lcw (v_rng1 (by walk_at "dn") (by omega)) (by simp; omega) ?_
    unfold turnsL
    rw [List.map_map]
    refine lc_map (fun i : Nat => .int (i : Nat)) _ _ fun k hk => ⟨_, rfl, ?_⟩
    show fCall n_turned (fCons (fV 0) (fCons (fV 1) fNil)) [some (.str row), some (.int (k : Nat))] = some (D.str (rotL row (k : Nat)))
    exact v_call (by walk_at "dn") (e_turned h (by omega))
  rw [e2]
  rw [e1] at h1
  exact v_blt (v_cons h1 v_nil) min_s
theorem e_are {one other : List Nat} (h : 0 < one.length) (h2 : one.length ≤ 1000) (h3 : 0 < other.length) (h4 : other.length ≤ 1000) : n_are_turns [.str one, .str other] = some (.bl (decide (one.length = other.length) && decide (leastL one = leastL other))) := by
  refine sem_rt rfl ?_
  show m_are_turns [some (.str one), some (.str other)] = _
  unfold m_are_turns
  refine ret_of ?_
  by_cases hl : one.length = other.length
  · rw [decide_eq_true hl, Bool.true_and]
    refine v_andVt ?_ (v_2 (v_call (by walk_at "dn") (e_least h h2)) (v_call (by walk_at "dn") (e_least h3 h4)) (eq_s _ _))
    have : (true : Bool) = decide ((one.length : Int) = (other.length : Int)) := (decide_eq_true (by omega)).symm
    rw [this]
    walk_at "dn"
  · rw [decide_eq_false hl, Bool.false_and]
    refine v_andVf ?_
    have : (false : Bool) = decide ((one.length : Int) = (other.length : Int)) := (decide_eq_false (by omega)).symm
    rw [this]
    walk_at "dn"
end Dn
set_option Elab.async false
set_option linter.all false
set_option maxRecDepth 100000
/-! Part G: zip and enumerate over lists, tuples, texts. -/
namespace Dn
open PySem L2 PySem.Spec PyProof.Rows

/-- a thing that is walked -/
inductive Sr where
  | l (a : Addr) (xs : List V) | t (a : Addr) (xs : List V) | s (z : Str) (u : Tok)
def Sr.cond (K : PySem.W.Frag) (H : Hp) : Sr → Prop
  | .l a xs => SqL K H a xs
  | .t a xs => SqT K H a xs
  | .s _ _ => True
def Sr.vals : Sr → List V
  | .l _ xs => xs
  | .t _ xs => xs
  | .s z _ => z.cps.toList.map fun c => V.str ⟨#[c]⟩
def Sr.at (it : Addr) (i : Nat) (h : Heap) : Sr → Prop
  | .l a _ => h.IsListIter it a i
  | .t a _ => h.IsTupleIter it a i
  | .s z u => h.IsStrIter it (strIterType z) z u i
def Sr.val : Sr → Value → Prop
  | .l a _, v => v = .ref a
  | .t a _, v => v = .ref a
  | .s z u, v => v = .str z u
def Sr.ob : Sr → Obj
  | .l a _ => { cls := .type "list_iterator", data := .fields #[.ref a, .int 0 0] }
  | .t a _ => { cls := .type "tuple_iterator", data := .fields #[.ref a, .int 0 0] }
  | .s z u => { cls := .type (strIterType z), data := .fields #[.str z u, .int 0 0] }
theorem Sr.is_obj {it : Addr} {i : Nat} {h : Heap} : ∀ {r : Sr}, r.at it i h → ∃ o, h.get? it = some o ∧ ∀ v, o.data ≠ .cell v
  | .l a xs, ⟨o, ho, _, hd⟩ => ⟨o, ho, fun v q => by rw [hd] at q; cases q⟩
  | .t a xs, ⟨o, ho, _, hd⟩ => ⟨o, ho, fun v q => by rw [hd] at q; cases q⟩
  | .s z u, ⟨o, ho, _, hd⟩ => ⟨o, ho, fun v q => by rw [hd] at q; cases q⟩
theorem Sr.stay {it : Addr} {i : Nat} {h h' : Heap} (k : ∀ o, h.get? it = some o → h'.get? it = some o) : ∀ {r : Sr}, r.at it i h → r.at it i h'
  | .l a xs, ⟨o, ho, q⟩ => ⟨o, k o ho, q⟩
  | .t a xs, ⟨o, ho, q⟩ => ⟨o, k o ho, q⟩
  | .s z u, ⟨o, ho, q⟩ => ⟨o, k o ho, q⟩
theorem Sr.at0 {it : Addr} {h : Heap} : ∀ {r : Sr}, h.get? it = some r.ob → r.at it 0 h
  | .l a xs, e => ⟨_, e, rfl, rfl⟩
  | .t a xs, e => ⟨_, e, rfl, rfl⟩
  | .s z u, e => ⟨_, e, rfl, rfl⟩
section
variable {X : Cx} {pins : List (Addr × Obj)} {σ : L2.St} {H : Hp} {s : Shared}
theorem sqT_ne (I : Inv X pins σ H s) {a : Addr} {xs : List V} (h : SqT X.K H a xs) {b : Addr} (f : FpOk X pins H b) : a ≠ b := fun e => by
  subst e
  rcases h with (h | ⟨o, h⟩) | ⟨o, its, n, hk, _⟩
  · rw [f.1] at h; cases h
  · rw [f.1] at h; cases h
  · have hb := I.ok.mod.kin _ _ hk
    rcases f.2.2.2.1 with z | z
    · exact I.ok.noex _ _ hb z
    · exact absurd (Nat.lt_of_lt_of_le (Heap.lt_size hb) (Nat.le_trans I.ok.bsz z)) (Nat.lt_irrefl _)
theorem sqL_ne (I : Inv X pins σ H s) {a : Addr} {xs : List V} (h : SqL X.K H a xs) {b : Addr} (f : FpOk X pins H b) : a ≠ b := fun e => by
  subst e
  rcases h with (h | ⟨o, h⟩) | ⟨o, its, n, hk, _⟩
  · rw [f.1] at h; cases h
  · rw [f.1] at h; cases h
  · have hb := I.ok.mod.kin _ _ hk
    rcases f.2.2.2.1 with z | z
    · exact I.ok.noex _ _ hb z
    · exact absurd (Nat.lt_of_lt_of_le (Heap.lt_size hb) (Nat.le_trans I.ok.bsz z)) (Nat.lt_irrefl _)
/-- what its iterator draws, as things stand -/
theorem Sr.draws (I : Inv X pins σ H s) (hc : X.calm = true) (r : Sr) (c : r.cond X.K H) {it : Addr} (f : FpOk X pins H it) :
    ∃ (fp : List Addr) (Pr : Nat → Value → Prop) (hr : Heap → Prop), Draws X.prog X.w X.A.in1 it (it :: fp) r.vals.length Pr (fun i h => r.at it i h ∧ hr h) ∧ hr s.heap ∧ (∀ j v, Pr j v → ∃ x, r.vals[j]? = some x ∧ RelV x v) ∧ ∀ b ∈ fp, ∀ e, FpOk X pins H e → b ≠ e := by
  cases r with
  | l a xs =>
    obtain ⟨its, rv, p, _⟩ := I.list c
    refine ⟨[a], _, _, by have := Draws.list (prog := X.prog) (w := X.w) (A := X.A.in1) (I.ok.hd hc) it a (sqL_ne I c f) its.toArray; rw [List.size_toArray, ← rv.length] at this; exact this, p.isList, fun j v e => ?_, fun b hb e fe => ?_⟩
    · have e : its[j]? = some v := by simpa using e
      have hj := (List.getElem?_eq_some_iff.mp e).1
      have hl := rv.length
      obtain ⟨u, h1, h2⟩ := rv.get (List.getElem?_eq_getElem (show j < xs.length by omega))
      rw [e] at h1
      cases h1
      exact ⟨_, List.getElem?_eq_getElem (by show j < xs.length; omega), h2⟩
    · have : b = a := by simpa using hb
      subst this
      exact sqL_ne I c fe
  | t a xs =>
    obtain ⟨its, rv, p, _⟩ := I.tuple c
    refine ⟨[a], _, _, by have := Draws.tuple (prog := X.prog) (w := X.w) (A := X.A.in1) (I.ok.hd hc) it a (sqT_ne I c f) its.toArray; rw [List.size_toArray, ← rv.length] at this; exact this, p, fun j v e => ?_, fun b hb e fe => ?_⟩
    · have e : its[j]? = some v := by simpa using e
      have hj := (List.getElem?_eq_some_iff.mp e).1
      have hl := rv.length
      obtain ⟨u, h1, h2⟩ := rv.get (List.getElem?_eq_getElem (show j < xs.length by omega))
      rw [e] at h1
      cases h1
      exact ⟨_, List.getElem?_eq_getElem (by show j < xs.length; omega), h2⟩
    · have : b = a := by simpa using hb
      subst this
      exact sqT_ne I c fe
  | s z u =>
    have D := Draws.text (prog := X.prog) (w := X.w) (A := X.A.in1) (I.ok.hd hc) it z u
    have len_s : ∀ {h : Heap}, Sr.at it (Sr.s z u).vals.length h (Sr.s z u) → h.IsStrIter it (strIterType z) z u z.cps.size := fun {h} y => by
      have e : (Sr.s z u).vals.length = z.cps.size := by simp [Sr.vals]
      rw [e] at y
      exact y
    refine ⟨[], _, fun _ => True, ⟨fun i h st => D.live i h st.1, fun i h h' st k => ⟨D.frame i h h' st.1 k, trivial⟩, fun i s Q E hi st q => D.item i s Q E (by simpa [Sr.vals] using hi) st.1 fun x h' tk a1 a2 a3 => q x h' tk a1 ⟨a2, trivial⟩ a3, fun s Q E st q => D.done s Q E (len_s st.1) q⟩, trivial, fun j v e => ?_, fun b hb => by cases hb⟩
    obtain ⟨c, u', e1, rfl⟩ := e
    refine ⟨.str ⟨#[c]⟩, ?_, ⟨u', rfl⟩⟩
    show (z.cps.toList.map _)[j]? = _
    rw [List.getElem?_map]
    have : z.cps.toList[j]? = some c := by simpa using e1
    rw [this]
    rfl
theorem Sr.begins (I : Inv X pins σ H s) : ∀ (r : Sr) (c : r.cond X.K H) {v : Value}, r.val v → ∃ hr : Heap → Prop, Begins v r.ob hr ∧ hr s.heap
  | .l a xs, c, v, e => by
    obtain ⟨its, rv, p, _⟩ := I.list c
    cases e
    exact ⟨_, begins_list a its.toArray, p.isList⟩
  | .t a xs, c, v, e => by
    obtain ⟨its, rv, p, _⟩ := I.tuple c
    cases e
    exact ⟨_, begins_tuple a its.toArray, p⟩
  | .s z u, c, v, e => by
    cases e
    exact ⟨_, begins_text z u, trivial⟩
end
/-- new tuples, one a turn -/
def itJ (n : Nat) (rows : Nat → List V) (cond : Hp → Prop) : It :=
  ⟨fun i H => i < n ∧ cond H, fun i H v H' => ∃ T, v = .ref T ∧ H T = none ∧ H' = upd H T (.tup (rows i)), fun i H => i = n ∧ cond H⟩
theorem turn_j {P : Program} {w : World} {K : PySem.W.Frag} {elts : List Expr} {k : Nat} {pos : Pos} {n : Nat} {rows : Nat → List V} {cond : Hp → Prop} {fpT : List Addr} {I0 : Addr} {tn : Nat → Heap → Prop} (mem : I0 ∈ fpT)
    (obj : ∀ i h, tn i h → ∀ b ∈ fpT, ∃ o, h.get? b = some o ∧ ∀ v, o.data ≠ .cell v) (keep : ∀ i h h', tn i h → (∀ b ∈ fpT, ∀ o, h.get? b = some o → h'.get? b = some o) → tn i h') (hsz : ∀ i, (rows i).length ≤ sizeLine)
    (W : ∀ (X : Cx) (pins : List (Addr × Obj)) (σ : L2.St) (H : Hp) (s : Shared), X.prog = P → X.w = w → X.K = K → X.calm = true → Inv X pins σ H s → (∀ b ∈ fpT, FpOk X pins H b) → cond H → ∀ i, tn i s.heap →
      ∃ fp wr Y St, GoesN P w X.A (.Tuple elts k pos) I0 fp wr n Y St ∧ St i s.heap ∧ (∀ b ∈ wr, b ∈ fpT) ∧ (∀ j h, St j h → tn j h) ∧ ∀ j h0 v h, j < n → Y j h0 v h → ∃ T vals, v = .ref T ∧ h0.objs.size ≤ T ∧ h.IsTuple T vals ∧ Vals (rows j) vals.toList)
    (self : ∀ (A : Around) (i : Nat) (s : Shared) (Q : Value → Shared → Prop) (E : Value → Shared → Prop), tn i s.heap → Q (.ref I0) s → wpAny (model P w) A (pyIter (.ref I0)) Q E s) :
    Turn P w K (.Tuple elts k pos) (itJ n rows cond) fpT I0 tn where
  mem := mem
  obj := obj
  keep := keep
  self := self
  item := by
    intro X hP hw hK hc i pins s σ H E I hf st hg
    obtain ⟨hi, hcd⟩ := hg
    obtain ⟨fp, wr, Y, St, G, s0, hwr, hst, hY⟩ := W X pins σ H s hP hw hK hc I hf hcd i st
    subst hP hw hK
    have old : ∀ b ∈ fpT, b < s.heap.objs.size := fun b hb => by
      obtain ⟨o, e, _⟩ := obj i s.heap st b hb
      exact Heap.lt_size e
    have g := G.goes i s (fun v s2 => ∃ x H', Inv X pins σ H' s2 ∧ RelV x v ∧ (itJ n rows cond).yld i H x H' ∧ tn (i + 1) s2.heap ∧ ∀ b ∈ fpT, H' b = none) E hi s0 fun v h' tk hy st' hk htk => by
      obtain ⟨T, vals, rfl, hT, hIs, hV⟩ := hY i s.heap v h' hi hy
      have I1 : Inv X pins σ (upd H T (.tup (rows i))) { s with heap := h', toks := tk } :=
        I.turnedNew (ch := fpT) (fun b o hb q => hk b o (fun z => hb (hwr b z)) q) hf hT ⟨hsz i, vals.toList, hV, by rw [show vals.toList.toArray = vals by simp]; exact hIs⟩
      refine ⟨.ref T, _, I1, rfl, ⟨T, rfl, I.hok.fresh hT, rfl⟩, hst _ _ st', fun b hb => ?_⟩
      rw [upd_ne (Nat.ne_of_lt (Nat.lt_of_lt_of_le (old b hb) hT))]
      exact (hf b hb).1
    exact g
  done := by
    intro X hP hw hK hc i pins s σ H E I hf st hg
    obtain ⟨hi, hcd⟩ := hg
    obtain ⟨fp, wr, Y, St, G, s0, hwr, hst, hY⟩ := W X pins σ H s hP hw hK hc I hf hcd i st
    subst hP hw hK
    subst hi
    exact G.stops s (fun s1 => Inv X pins σ H s1) E s0 fun h' tk hk _ => I.turnedL (ch := fpT) (fun b o hb q => hk b o (fun z => hb (hwr b z)) q) hf
theorem walk_j {K : PySem.W.Frag} {n : Nat} {rows : Nat → List V} {cond : Hp → Prop} {ds : List D} {Hb : Hp} (hn : ds.length = n) (hc : ∀ H, Same Hb H → cond H) (hr : ∀ (i : Nat) (d : D), ds[i]? = some d → ∃ es, d = .wk es ∧ IsL K Hb es (rows i)) : WalkD K (itJ n rows cond) ds Hb := fun Hb1 H1 s1 s2 => by
  refine ⟨fun i d e => ⟨⟨by have := (List.getElem?_eq_some_iff.mp e).1; omega, hc H1 (s1.trans s2)⟩, fun x H' hy => ?_⟩, ⟨hn, hc H1 (s1.trans s2)⟩⟩
  obtain ⟨T, rfl, hT, rfl⟩ := hy
  obtain ⟨es, rfl, il⟩ := hr i d e
  exact ⟨_, Step.new s2 hT, is_wk_new (s2.free hT) (il.mono s1)⟩

/-! ### zip of two -/
def pairs2 (xs ys : List V) (i : Nat) : List V := [xs.getD i .non, ys.getD i .non]
theorem turn_z2 {P : Program} {w : World} {K : PySem.W.Frag} {elts : List Expr} {k : Nat} {pos : Pos} (r1 r2 : Sr) (z TI TO i1 i2 : Addr) (hd : [z, TI, TO, i1, i2].Nodup) :
    Turn P w K (.Tuple elts k pos) (itJ (min r1.vals.length r2.vals.length) (pairs2 r1.vals r2.vals) fun H => r1.cond K H ∧ r2.cond K H) [z, TI, TO, i1, i2] z
      (fun i h => IsZip h z TI TO .none ∧ IsTupOf2 h TI (.ref i1) (.ref i2) ∧ (∃ a1 a2, IsTupOf2 h TO a1 a2) ∧ r1.at i1 i h ∧ r2.at i2 i h) := by
  refine turn_j (by simp) (fun i h st b hb => ?_) (fun i h h' st k => ?_) (fun i => by show 2 ≤ sizeLine; decide) (fun X pins σ H s hP hw hK hc I hf hcd i st => ?_) fun A i s Q E st q => wpAny_pyIter_zip st.1 q
  · obtain ⟨hz, hTI, ⟨x, y, hTO⟩, h1, h2⟩ := st
    have e' : b = z ∨ b = TI ∨ b = TO ∨ b = i1 ∨ b = i2 := by simpa using hb
    rcases e' with rfl | rfl | rfl | rfl | rfl
    · exact ⟨_, hz, fun v q => nomatch q⟩
    · exact ⟨_, hTI, fun v q => nomatch q⟩
    · exact ⟨_, hTO, fun v q => nomatch q⟩
    · exact Sr.is_obj h1
    · exact Sr.is_obj h2
  · obtain ⟨hz, hTI, ⟨x, y, hTO⟩, h1, h2⟩ := st
    exact ⟨k z (by simp) _ hz, k TI (by simp) _ hTI, ⟨x, y, k TO (by simp) _ hTO⟩, Sr.stay (k i1 (by simp)) h1, Sr.stay (k i2 (by simp)) h2⟩
  · obtain ⟨hz, hTI, hTO, h1, h2⟩ := st
    subst hP hw hK
    obtain ⟨fp1, P1, q1, D1, v1, e1, n1⟩ := r1.draws I hc hcd.1 (hf i1 (by simp))
    obtain ⟨fp2, P2, q2, D2, v2, e2, n2⟩ := r2.draws I hc hcd.2 (hf i2 (by simp))
    have no1 : ∀ b ∈ [z, TI, TO, i1, i2], b ∉ fp1 := fun b hb m => n1 b m b (hf b hb) rfl
    have no2 : ∀ b ∈ [z, TI, TO, i1, i2], b ∉ fp2 := fun b hb m => n2 b m b (hf b hb) rfl
    simp only [List.nodup_cons, List.mem_cons, List.not_mem_nil, or_false, not_or, List.nodup_nil, and_true, not_false_eq_true] at hd
    obtain ⟨⟨a1, a2, a3, a4⟩, ⟨b1, b2, b3⟩, ⟨c1, c2⟩, d1⟩ := hd
    have S2 : ZipSep2 z TI TO i1 i2 (i1 :: fp1) (i2 :: fp2) := ⟨fun q => a1 q.symm, fun q => a2 q.symm, b1, b2, List.mem_cons_self, by simp only [List.mem_cons, not_or]; exact ⟨a3, no1 z (by simp)⟩, by simp only [List.mem_cons, not_or]; exact ⟨c1, no1 TO (by simp)⟩, b3, List.mem_cons_self,
      by simp only [List.mem_cons, not_or]; exact ⟨a4, no2 z (by simp)⟩, by simp only [List.mem_cons, not_or]; exact ⟨c2, no2 TO (by simp)⟩, by simp only [List.mem_cons, not_or]; exact ⟨d1, no2 i1 (by simp)⟩, by simp only [List.mem_cons, not_or]; exact ⟨fun q => d1 q.symm, no1 i2 (by simp)⟩⟩
    refine ⟨_, _, _, _, GoesN.zip2 S2 D1 D2, ⟨hz, hTI, hTO, ⟨h1, v1⟩, ⟨h2, v2⟩⟩, fun b hb => ?_, fun j h st => ⟨st.1, st.2.1, st.2.2.1, st.2.2.2.1.1, st.2.2.2.2.1⟩, fun j h0 v h hj hy => ?_⟩
    · have e' : b = z ∨ b = TO ∨ b = i1 ∨ b = i2 := by simpa using hb
      rcases e' with rfl | rfl | rfl | rfl <;> simp
    · obtain ⟨T, x, y, ev, hT, p1, p2, hIs⟩ := hy
      obtain ⟨x', g1, g2⟩ := e1 j x p1
      obtain ⟨y', g3, g4⟩ := e2 j y p2
      refine ⟨T, _, ev, hT, hIs, ?_⟩
      show Vals [r1.vals.getD j .non, r2.vals.getD j .non] [x, y]
      rw [List.getD_eq_getElem?_getD, List.getD_eq_getElem?_getD, g1, g3]
      exact .cons g2 (.cons g4 .nil)
theorem turn_z3 {P : Program} {w : World} {K : PySem.W.Frag} {elts : List Expr} {k : Nat} {pos : Pos} (r1 r2 r3 : Sr) (z TI TO i1 i2 i3 : Addr) (hd : [z, TI, TO, i1, i2, i3].Nodup) :
    Turn P w K (.Tuple elts k pos) (itJ (min (min r1.vals.length r2.vals.length) r3.vals.length) (fun i => [r1.vals.getD i .non, r2.vals.getD i .non, r3.vals.getD i .non]) fun H => r1.cond K H ∧ r2.cond K H ∧ r3.cond K H) [z, TI, TO, i1, i2, i3] z
      (fun i h => IsZip h z TI TO .none ∧ IsTupOf3 h TI (.ref i1) (.ref i2) (.ref i3) ∧ (∃ a1 a2 a3, IsTupOf3 h TO a1 a2 a3) ∧ r1.at i1 i h ∧ r2.at i2 i h ∧ r3.at i3 i h) := by
  refine turn_j (by simp) (fun i h st b hb => ?_) (fun i h h' st k => ?_) (fun i => by show 3 ≤ sizeLine; decide) (fun X pins σ H s hP hw hK hc I hf hcd i st => ?_) fun A i s Q E st q => wpAny_pyIter_zip st.1 q
  · obtain ⟨hz, hTI, ⟨x, y, u, hTO⟩, h1, h2, h3⟩ := st
    have e' : b = z ∨ b = TI ∨ b = TO ∨ b = i1 ∨ b = i2 ∨ b = i3 := by simpa using hb
    rcases e' with rfl | rfl | rfl | rfl | rfl | rfl
    · exact ⟨_, hz, fun v q => nomatch q⟩
    · exact ⟨_, hTI, fun v q => nomatch q⟩
    · exact ⟨_, hTO, fun v q => nomatch q⟩
    · exact Sr.is_obj h1
    · exact Sr.is_obj h2
    · exact Sr.is_obj h3
  · obtain ⟨hz, hTI, ⟨x, y, u, hTO⟩, h1, h2, h3⟩ := st
    exact ⟨k z (by simp) _ hz, k TI (by simp) _ hTI, ⟨x, y, u, k TO (by simp) _ hTO⟩, Sr.stay (k i1 (by simp)) h1, Sr.stay (k i2 (by simp)) h2, Sr.stay (k i3 (by simp)) h3⟩
  · obtain ⟨hz, hTI, hTO, h1, h2, h3⟩ := st
    subst hP hw hK
    obtain ⟨fp1, P1, q1, D1, v1, e1, n1⟩ := r1.draws I hc hcd.1 (hf i1 (by simp))
    obtain ⟨fp2, P2, q2, D2, v2, e2, n2⟩ := r2.draws I hc hcd.2.1 (hf i2 (by simp))
    obtain ⟨fp3, P3, q3, D3, v3, e3, n3⟩ := r3.draws I hc hcd.2.2 (hf i3 (by simp))
    have no1 : ∀ b ∈ [z, TI, TO, i1, i2, i3], b ∉ fp1 := fun b hb m => n1 b m b (hf b hb) rfl
    have no2 : ∀ b ∈ [z, TI, TO, i1, i2, i3], b ∉ fp2 := fun b hb m => n2 b m b (hf b hb) rfl
    have no3 : ∀ b ∈ [z, TI, TO, i1, i2, i3], b ∉ fp3 := fun b hb m => n3 b m b (hf b hb) rfl
    simp only [List.nodup_cons, List.mem_cons, List.not_mem_nil, or_false, not_or, List.nodup_nil, and_true, not_false_eq_true] at hd
    obtain ⟨⟨a1, a2, a3, a4, a5⟩, ⟨b1, b2, b3, b4⟩, ⟨c1, c2, c3⟩, ⟨d1, d2⟩, f1⟩ := hd
    have mk : ∀ {b i : Addr} {fp : List Addr}, b ≠ i → b ∉ fp → b ∉ i :: fp := fun h1 h2 => by simp only [List.mem_cons, not_or]; exact ⟨h1, h2⟩
    have S3 : ZipSep3 z TI TO i1 i2 i3 (i1 :: fp1) (i2 :: fp2) (i3 :: fp3) :=
      { TIz := fun q => a1 q.symm, TOz := fun q => a2 q.symm, TITO := b1, TIi1 := b2, mem1 := List.mem_cons_self, zf1 := mk a3 (no1 z (by simp)), Tf1 := mk c1 (no1 TO (by simp)), TIi2 := b3, mem2 := List.mem_cons_self, zf2 := mk a4 (no2 z (by simp)), Tf2 := mk c2 (no2 TO (by simp)),
        TIi3 := b4, mem3 := List.mem_cons_self, zf3 := mk a5 (no3 z (by simp)), Tf3 := mk c3 (no3 TO (by simp)), sep1_2 := mk d1 (no2 i1 (by simp)), sep1_3 := mk d2 (no3 i1 (by simp)), sep2_1 := mk (fun q => d1 q.symm) (no1 i2 (by simp)), sep2_3 := mk f1 (no3 i2 (by simp)),
        sep3_1 := mk (fun q => d2 q.symm) (no1 i3 (by simp)), sep3_2 := mk (fun q => f1 q.symm) (no2 i3 (by simp)) }
    refine ⟨_, _, _, _, GoesN.zip3 S3 D1 D2 D3, ⟨hz, hTI, hTO, ⟨h1, v1⟩, ⟨h2, v2⟩, ⟨h3, v3⟩⟩, fun b hb => ?_, fun j h st => ⟨st.1, st.2.1, st.2.2.1, st.2.2.2.1.1, st.2.2.2.2.1.1, st.2.2.2.2.2.1⟩, fun j h0 v h hj hy => ?_⟩
    · have e' : b = z ∨ b = TO ∨ b = i1 ∨ b = i2 ∨ b = i3 := by simpa using hb
      rcases e' with rfl | rfl | rfl | rfl | rfl <;> simp
    · obtain ⟨T, x, y, u, ev, hT, p1, p2, p3, hIs⟩ := hy
      obtain ⟨x', g1, g2⟩ := e1 j x p1
      obtain ⟨y', g3, g4⟩ := e2 j y p2
      obtain ⟨u', g5, g6⟩ := e3 j u p3
      refine ⟨T, _, ev, hT, hIs, ?_⟩
      show Vals [r1.vals.getD j .non, r2.vals.getD j .non, r3.vals.getD j .non] [x, y, u]
      rw [List.getD_eq_getElem?_getD, List.getD_eq_getElem?_getD, List.getD_eq_getElem?_getD, g1, g3, g5]
      exact .cons g2 (.cons g4 (.cons g6 .nil))
theorem turn_en {P : Program} {w : World} {K : PySem.W.Frag} {elts : List Expr} {k : Nat} {pos : Pos} (r1 : Sr) (e it : Addr) (hd : e ≠ it) :
    Turn P w K (.Tuple elts k pos) (itJ r1.vals.length (fun i => [.int ((i : Nat) : Int), r1.vals.getD i .non]) fun H => r1.cond K H) [e, it] e
      (fun i h => (∃ old, IsEnum h e it (0 + (i : Int)) old) ∧ r1.at it i h) := by
  refine turn_j (by simp) (fun i h st b hb => ?_) (fun i h h' st k => ?_) (fun i => by show 2 ≤ sizeLine; decide) (fun X pins σ H s hP hw hK hc I hf hcd i st => ?_) fun A i s Q E st q => wpAny_pyIter_enum st.1.choose_spec q
  · obtain ⟨⟨old, he⟩, h1⟩ := st
    have e' : b = e ∨ b = it := by simpa using hb
    rcases e' with rfl | rfl
    · exact ⟨_, he, fun v q => nomatch q⟩
    · exact Sr.is_obj h1
  · obtain ⟨⟨old, he⟩, h1⟩ := st
    exact ⟨⟨old, k e (by simp) _ he⟩, Sr.stay (k it (by simp)) h1⟩
  · obtain ⟨he, h1⟩ := st
    subst hP hw hK
    obtain ⟨fp1, P1, q1, D1, v1, e1, n1⟩ := r1.draws I hc hcd (hf it (by simp))
    have ne : e ∉ it :: fp1 := by simp only [List.mem_cons, not_or]; exact ⟨hd, fun m => n1 e m e (hf e (by simp)) rfl⟩
    refine ⟨_, _, _, _, GoesN.enumFrom 0 D1 e hd ne List.mem_cons_self, ⟨he, h1, v1⟩, fun b hb => by simpa using hb, fun j h st => ⟨st.1, st.2.1⟩, fun j h0 v h hj hy => ?_⟩
    obtain ⟨T, t, x, ev, hT, p1, hIs⟩ := hy
    obtain ⟨x', g1, g2⟩ := e1 j x p1
    refine ⟨T, _, ev, hT, hIs, ?_⟩
    show Vals [.int (j : Int), r1.vals.getD j .non] [.int (0 + (j : Int)) t, x]
    rw [List.getD_eq_getElem?_getD, g1, Int.zero_add]
    exact .cons ⟨t, rfl⟩ (.cons g2 .nil)

/-! ### the source of a plain thing -/
theorem src_of {K : PySem.W.Frag} {Hb : Hp} {d : D} {v : V} {u : Value} {xs : List D} (h : Is K Hb d v) (e : itemsD d = some xs) (r : RelV v u) : ∃ q : Sr, q.val u ∧ (∀ H, Same Hb H → q.cond K H) ∧ IsL K Hb xs q.vals := by
  cases d with
  | tup ds =>
    cases e
    simp only [Is] at h
    obtain ⟨p, vs, rfl, hx, lx⟩ := h
    exact ⟨.t p vs, r, fun H sm => (hx.mono sm).sq, lx⟩
  | wk ds =>
    cases e
    simp only [Is] at h
    obtain ⟨p, vs, rfl, hx, lx⟩ := h
    exact ⟨.t p vs, r, fun H sm => sq_mono sm hx, lx⟩
  | lst ds =>
    cases e
    simp only [Is] at h
    obtain ⟨p, vs, rfl, hx, lx⟩ := h
    exact ⟨.l p vs, r, fun H sm => .inl (.inl (sm _ _ hx)), lx⟩
  | str l =>
    cases e
    simp only [Is] at h
    subst h
    obtain ⟨t, rfl⟩ := r
    refine ⟨.s (S l) t, rfl, fun _ _ => trivial, ?_⟩
    show IsL K Hb (l.map fun c => D.str [c]) (l.map fun c => V.str ⟨#[c]⟩)
    induction l with
    | nil => simp [IsL]
    | cons c l ih =>
      simp only [List.map_cons, IsL, Is]
      exact ⟨_, _, rfl, rfl, ih⟩
  | _ => cases e
theorem isl_getD {K : PySem.W.Frag} {Hb : Hp} {xs : List D} {vs : List V} (h : IsL K Hb xs vs) {i : Nat} {x : D} (e : xs[i]? = some x) : Is K Hb x (vs.getD i .non) := by
  obtain ⟨v, a, b⟩ := h.get e
  rw [List.getD_eq_getElem?_getD, a]
  exact b
def zip2D (xs ys : List D) : List D := List.zipWith (fun x y => D.wk [x, y]) xs ys
def zip3D (xs ys zs : List D) : List D := List.zipWith (fun x (p : D × D) => D.wk [x, p.1, p.2]) xs (ys.zip zs)
def enumD (xs : List D) : List D := List.zipWith (fun (i : Nat) x => D.wk [.int (i : Nat), x]) (List.range xs.length) xs
def fZip2 (fa fb : En → Option D) : En → Option (List D) := fun env => (fa env).bind fun a => (fb env).bind fun b => (itemsD a).bind fun xs => (itemsD b).bind fun ys => some (zip2D xs ys)
def fZip3 (fa fb fc : En → Option D) : En → Option (List D) := fun env => (fa env).bind fun a => (fb env).bind fun b => (fc env).bind fun c => (itemsD a).bind fun xs => (itemsD b).bind fun ys => (itemsD c).bind fun zs => some (zip3D xs ys zs)
def fEnum (fa : En → Option D) : En → Option (List D) := fun env => (fa env).bind fun a => (itemsD a).bind fun xs => some (enumD xs)
section
variable {X : Cx} {a b c e : Expr} {elts : List Expr} {kk : Nat} {p pos tpos : Pos} {fa fb fc : En → Option D}
theorem i_zip2 (hm : X.mg "zip" = none) (ha : PE X a (tD X.K fa)) (hb : PE X b (tD X.K fb)) (hg : Gl X "zip" := by rfl) (hs : starEach [a, b] X.env = (false, eval a X.env) :: starEach [b] X.env := by rfl) (hs2 : starEach [b] X.env = (false, eval b X.env) :: starEach [] X.env := by rfl) (hpl : (backTo pos (starEach [b] X.env)).any (·.1) = false := by rfl) :
    PI X (.Tuple elts kk tpos) (.Call (.Name "zip" p) [a, b] [] pos) (tI X.K (fZip2 fa fb)) := ⟨fun pins s σ H R I h => by
  obtain ⟨H0, env, Hb, ds, r, sm, ef, q⟩ := h
  obtain ⟨da, ea, ef⟩ := bind1 ef
  obtain ⟨db, eb, ef⟩ := bind1 ef
  obtain ⟨xs, ex, ef⟩ := bind1 ef
  obtain ⟨ys, ey, ef⟩ := bind1 ef
  cases ef
  have hA : PA X [a, b] (tA X.K (fCons fa (fCons fb fNil))) := a_cons ha (a_cons hb a_nil hs2) hs
  refine Call_ (ld_blt I hg hm PyProof.Rows.boot_zip (PyProof.Rows.callWith_type1 (thn (hA.run pos pins s σ H (fun vs H1 => ∃ Hb1, Step Hb H Hb1 H1 ∧ IsL X.K Hb1 [da, db] vs) I ⟨H0, env, Hb, [da, db], r, sm, by unfold fCons fNil; rw [ea, eb]; rfl, fun vs Hb1 H1 s1 iv => ⟨Hb1, s1, iv⟩⟩) fun us s1 ⟨vs, H1, I1, rv, Hb1, st1, iv⟩ => ?_) hs hpl))
  obtain ⟨v1, v2, rfl, i1, i2⟩ := isl2 iv
  cases rv with
  | cons r1 rv =>
    cases rv with
    | cons r2 rv =>
      cases rv
      obtain ⟨q1, w1, c1, l1⟩ := src_of i1 ex r1
      obtain ⟨q2, w2, c2, l2⟩ := src_of i2 ey r2
      obtain ⟨b1, B1, k1⟩ := q1.begins I1 (c1 H1 st1.c) w1
      obtain ⟨b2, B2, k2⟩ := q2.begins I1 (c2 H1 st1.c) w2
      refine zip_begins2 B1 B2 k1 k2 fun h' hz hTI hTO g1 g2 hsz hk => wpAny_pyIter_zip hz ?_
      have I2 : Inv X pins σ H1 { s1 with heap := h' } := I1.kept (t' := s1.toks) hk
      refine ⟨s1.heap.objs.size + 4, [s1.heap.objs.size + 4, s1.heap.objs.size + 2, s1.heap.objs.size + 3, s1.heap.objs.size, s1.heap.objs.size + 1], _, _, H1, rfl, I2, turn_z2 q1 q2 _ _ _ _ _ ?_, ⟨hz, hTI, ⟨_, _, hTO⟩, Sr.at0 g1, Sr.at0 g2⟩, fun x hx => ?_, q _ Hb1 H1 st1 ?_⟩
      · generalize s1.heap.objs.size = n
        have : (n : Nat) = n := rfl
        simp
      · have hle : s1.heap.objs.size ≤ x := by
          generalize s1.heap.objs.size = n at hx
          have e' : x = n + 4 ∨ x = n + 2 ∨ x = n + 3 ∨ x = n ∨ x = n + 1 := by simpa using hx
          rcases e' with z | z | z | z | z <;> rw [z] <;> first | exact Nat.le_refl _ | exact Nat.le_add_right _ _
        exact I1.fpOk hle (I1.hok.fresh hle)
      · refine walk_j ?_ (fun H' s' => ⟨c1 H' s', c2 H' s'⟩) fun i d e => ?_
        · unfold zip2D
          rw [List.length_zipWith, l1.length, l2.length]
        · unfold zip2D at e
          rw [List.getElem?_zipWith] at e
          cases e1 : xs[i]? with
          | none => rw [e1] at e; cases e
          | some x =>
            cases e2 : ys[i]? with
            | none => rw [e1, e2] at e; cases e
            | some y =>
              rw [e1, e2] at e
              cases e
              refine ⟨_, rfl, ?_⟩
              simp only [IsL, pairs2]
              exact ⟨_, _, rfl, isl_getD l1 e1, _, _, rfl, isl_getD l2 e2, rfl⟩⟩
theorem i_zip3 (hm : X.mg "zip" = none) (ha : PE X a (tD X.K fa)) (hb : PE X b (tD X.K fb)) (hc : PE X c (tD X.K fc)) (hg : Gl X "zip" := by rfl) (hs : starEach [a, b, c] X.env = (false, eval a X.env) :: starEach [b, c] X.env := by rfl) (hs2 : starEach [b, c] X.env = (false, eval b X.env) :: starEach [c] X.env := by rfl)
    (hs3 : starEach [c] X.env = (false, eval c X.env) :: starEach [] X.env := by rfl) (hpl : (backTo pos (starEach [b, c] X.env)).any (·.1) = false := by rfl) : PI X (.Tuple elts kk tpos) (.Call (.Name "zip" p) [a, b, c] [] pos) (tI X.K (fZip3 fa fb fc)) := ⟨fun pins s σ H R I h => by
  obtain ⟨H0, env, Hb, ds, r, sm, ef, q⟩ := h
  obtain ⟨da, ea, ef⟩ := bind1 ef
  obtain ⟨db, eb, ef⟩ := bind1 ef
  obtain ⟨dc, ec, ef⟩ := bind1 ef
  obtain ⟨xs, ex, ef⟩ := bind1 ef
  obtain ⟨ys, ey, ef⟩ := bind1 ef
  obtain ⟨zs, ez, ef⟩ := bind1 ef
  cases ef
  have hA : PA X [a, b, c] (tA X.K (fCons fa (fCons fb (fCons fc fNil)))) := a_cons ha (a_cons hb (a_cons hc a_nil hs3) hs2) hs
  refine Call_ (ld_blt I hg hm PyProof.Rows.boot_zip (PyProof.Rows.callWith_type1 (thn (hA.run pos pins s σ H (fun vs H1 => ∃ Hb1, Step Hb H Hb1 H1 ∧ IsL X.K Hb1 [da, db, dc] vs) I ⟨H0, env, Hb, [da, db, dc], r, sm, by unfold fCons fNil; rw [ea, eb, ec]; rfl, fun vs Hb1 H1 s1 iv => ⟨Hb1, s1, iv⟩⟩) fun us s1 ⟨vs, H1, I1, rv, Hb1, st1, iv⟩ => ?_) hs hpl))
  simp only [IsL] at iv
  obtain ⟨v1, t1, rfl, i1, v2, t2, rfl, i2, v3, t3, rfl, i3, rfl⟩ := iv
  cases rv with
  | cons r1 rv =>
    cases rv with
    | cons r2 rv =>
      cases rv with
      | cons r3 rv =>
        cases rv
        obtain ⟨q1, w1, c1, l1⟩ := src_of i1 ex r1
        obtain ⟨q2, w2, c2, l2⟩ := src_of i2 ey r2
        obtain ⟨q3, w3, c3, l3⟩ := src_of i3 ez r3
        obtain ⟨b1, B1, k1⟩ := q1.begins I1 (c1 H1 st1.c) w1
        obtain ⟨b2, B2, k2⟩ := q2.begins I1 (c2 H1 st1.c) w2
        obtain ⟨b3, B3, k3⟩ := q3.begins I1 (c3 H1 st1.c) w3
        refine zip_begins3 B1 B2 B3 k1 k2 k3 fun h' hz hTI hTO g1 g2 g3 hsz hk => wpAny_pyIter_zip hz ?_
        have I2 : Inv X pins σ H1 { s1 with heap := h' } := I1.kept (t' := s1.toks) hk
        refine ⟨s1.heap.objs.size + 5, [s1.heap.objs.size + 5, s1.heap.objs.size + 3, s1.heap.objs.size + 4, s1.heap.objs.size, s1.heap.objs.size + 1, s1.heap.objs.size + 2], _, _, H1, rfl, I2, turn_z3 q1 q2 q3 _ _ _ _ _ _ ?_, ⟨hz, hTI, ⟨_, _, _, hTO⟩, Sr.at0 g1, Sr.at0 g2, Sr.at0 g3⟩, fun x hx => ?_, q _ Hb1 H1 st1 ?_⟩
        · generalize s1.heap.objs.size = n
          have : (n : Nat) = n := rfl
          simp
        · have hle : s1.heap.objs.size ≤ x := by
            generalize s1.heap.objs.size = n at hx
            have e' : x = n + 5 ∨ x = n + 3 ∨ x = n + 4 ∨ x = n ∨ x = n + 1 ∨ x = n + 2 := by simpa using hx
            rcases e' with z | z | z | z | z | z <;> rw [z] <;> first | exact Nat.le_refl _ | exact Nat.le_add_right _ _
          exact I1.fpOk hle (I1.hok.fresh hle)
        · refine walk_j ?_ (fun H' s' => ⟨c1 H' s', c2 H' s', c3 H' s'⟩) fun i d e => ?_
          · unfold zip3D
            rw [List.length_zipWith, List.length_zip, l1.length, l2.length, l3.length]
            omega
          · unfold zip3D at e
            rw [List.getElem?_zipWith] at e
            cases e1 : xs[i]? with
            | none => rw [e1] at e; cases e
            | some x =>
              cases e2 : (ys.zip zs)[i]? with
              | none => rw [e1, e2] at e; cases e
              | some y =>
                rw [e1, e2] at e
                cases e
                obtain ⟨y1, y2⟩ := y
                obtain ⟨e3, e4⟩ := List.getElem?_zip_eq_some.mp e2
                refine ⟨_, rfl, ?_⟩
                simp only [IsL]
                exact ⟨_, _, rfl, isl_getD l1 e1, _, _, rfl, isl_getD l2 e3, _, _, rfl, isl_getD l3 e4, rfl⟩⟩
set_option maxHeartbeats 1000000 in
theorem en_meets {v : Value} {ob : Obj} {Hr : Heap → Prop} (B : Begins v ob Hr) :
    Meets (Builtin.«enumerate.__new__» ⟨[.type "enumerate", v], []⟩) (fun _ R s => Hr s.heap ∧ R (.ok (.ret (.ref (s.heap.push ob).objs.size))) { s with heap := (s.heap.push ob).push { cls := .type "enumerate", data := .fields #[.none, .bool false, .ref s.heap.objs.size, rawInt 0, .none, .none] } }) :=
  .of_wp fun prog w A R s h => by
    obtain ⟨hp, gn, dr, tk, os⟩ := s
    obtain ⟨hr, h⟩ := h
    have hsub := sub_enumerate
    have go : ∀ {A' : Around} {E : Value → Shared → Prop} {Q : Value → Shared → Prop}, Q (.ref hp.objs.size) ⟨hp.push ob, gn, dr, tk, os⟩ → wpAny (model prog w) A' (pyIter v) Q E ⟨hp, gn, dr, tk, os⟩ := fun z => B.iter prog w _ _ ⟨hp, gn, dr, tk, os⟩ _ hr z
    wp_walk using go
    refine wpAny_stack_any fun sk => wpAny_pure ?_
    split
    · rename_i cc _ _ _ _ _
      cases (cc == Value.type "enumerate") <;> (wp_walk using go; exact ⟨_, rfl, h⟩)
    · wp_walk using go
      exact ⟨_, rfl, h⟩
theorem en_begins {prog : Program} {w : World} {A : Around} {E : Value → Shared → Prop} {s : Shared} {v : Value} {ob : Obj} {Hr : Heap → Prop} {Q : Value → Shared → Prop} (B : Begins v ob Hr) (h1 : Hr s.heap)
    (h : ∀ h', IsEnum h' (s.heap.objs.size + 1) s.heap.objs.size 0 .none → h'.get? s.heap.objs.size = some ob → (∀ b o, s.heap.get? b = some o → h'.get? b = some o) → Q (.ref (s.heap.objs.size + 1)) { s with heap := h' }) : wpAny (model prog w) A (call (.type "enumerate") [v]) Q E s := by
  refine callType_new F.called_enumerate (by decide) (F.typeCall_enumerate_1 _) (F.newCall_enumerate_1 _) (fun obj => F.args_object_init_2 obj _) F.entry_enumerate_new (en_meets B) ⟨h1, ?_⟩
  have hz : (s.heap.push ob).objs.size = s.heap.objs.size + 1 := Heap.size_push ..
  have he : IsEnum ((s.heap.push ob).push { cls := .type "enumerate", data := .fields #[.none, .bool false, .ref s.heap.objs.size, rawInt 0, .none, .none] }) (s.heap.objs.size + 1) s.heap.objs.size 0 .none := by
    have z := Heap.get?_push_size (s.heap.push ob) (o := { cls := .type "enumerate", data := .fields #[.none, .bool false, .ref s.heap.objs.size, rawInt 0, .none, .none] }) rfl
    rw [hz] at z
    exact z
  show _ ∧ _
  rw [hz]
  exact ⟨⟨_, he, rfl⟩, h _ he (Heap.get?_push_of_some _ (Heap.get?_push_size _ B.free)) fun b o x => Heap.get?_push_of_some _ (Heap.get?_push_of_some _ x)⟩
theorem i_enum (hm : X.mg "enumerate" = none) (ha : PE X a (tD X.K fa)) (hg : Gl X "enumerate" := by rfl) (hs : starEach [a] X.env = (false, eval a X.env) :: starEach [] X.env := by rfl) :
    PI X (.Tuple elts kk tpos) (.Call (.Name "enumerate" p) [a] [] pos) (tI X.K (fEnum fa)) := ⟨fun pins s σ H R I h => by
  obtain ⟨H0, env, Hb, ds, r, sm, ef, q⟩ := h
  obtain ⟨da, ea, ef⟩ := bind1 ef
  obtain ⟨xs, ex, ef⟩ := bind1 ef
  cases ef
  have hA : PA X [a] (tA X.K (fCons fa fNil)) := a_cons ha a_nil hs
  refine Call_ (ld_blt I hg hm boot_enumerate (PyProof.Rows.callWith_type1 (thn (hA.run pos pins s σ H (fun vs H1 => ∃ Hb1, Step Hb H Hb1 H1 ∧ IsL X.K Hb1 [da] vs) I ⟨H0, env, Hb, [da], r, sm, by unfold fCons fNil; rw [ea]; rfl, fun vs Hb1 H1 s1 iv => ⟨Hb1, s1, iv⟩⟩) fun us s1 ⟨vs, H1, I1, rv, Hb1, st1, iv⟩ => ?_) hs rfl))
  obtain ⟨v1, rfl, i1⟩ := isl1 iv
  cases rv with
  | cons r1 rv =>
    cases rv
    obtain ⟨q1, w1, c1, l1⟩ := src_of i1 ex r1
    obtain ⟨b1, B1, k1⟩ := q1.begins I1 (c1 H1 st1.c) w1
    refine en_begins B1 k1 fun h' he g1 hk => wpAny_pyIter_enum he ?_
    have I2 : Inv X pins σ H1 { s1 with heap := h' } := I1.kept (t' := s1.toks) hk
    refine ⟨s1.heap.objs.size + 1, [s1.heap.objs.size + 1, s1.heap.objs.size], _, _, H1, rfl, I2, turn_en q1 _ _ (Nat.succ_ne_self _), ⟨⟨_, he⟩, Sr.at0 g1⟩, fun x hx => ?_, q _ Hb1 H1 st1 ?_⟩
    · have hle : s1.heap.objs.size ≤ x := by
        generalize s1.heap.objs.size = n at hx
        have e' : x = n + 1 ∨ x = n := by simpa using hx
        rcases e' with z | z <;> rw [z] <;> first | exact Nat.le_refl _ | exact Nat.le_add_right _ _
      exact I1.fpOk hle (I1.hok.fresh hle)
    · refine walk_j ?_ (fun H' s' => c1 H' s') fun i d e => ?_
      · unfold enumD
        rw [List.length_zipWith, List.length_range, l1.length, Nat.min_self]
      · unfold enumD at e
        rw [List.getElem?_zipWith] at e
        cases e1 : xs[i]? with
        | none =>
          rw [e1] at e
          cases e0 : (List.range xs.length)[i]? with
          | none => rw [e0] at e; cases e
          | some j => rw [e0] at e; cases e
        | some x =>
          have hi := (List.getElem?_eq_some_iff.mp e1).1
          have e0 : (List.range xs.length)[i]? = some i := by rw [List.getElem?_eq_getElem (by simpa using hi), List.getElem_range]
          rw [e0, e1] at e
          cases e
          refine ⟨_, rfl, ?_⟩
          simp only [IsL, Is]
          exact ⟨_, _, rfl, rfl, _, _, rfl, isl_getD l1 e1, rfl⟩⟩
end
end Dn
set_option Elab.async false
set_option linter.all false
set_option maxRecDepth 100000
/-! Part H: sorted, min, max, sum of tuples too, str.index, sorted(set(..)). -/
namespace Dn
open PySem L2 PySem.Spec PyProof.Rows

section
variable {prog : Program} {w : World} {A : Around} {E : Value → Shared → Prop} {s : Shared}
theorem collect_tup {l : Addr} {vs : List Value} {Q : List Value → Shared → Prop} (hl : s.heap.IsTuple l vs.toArray)
    (h : Q vs { s with heap := (s.heap.push (seqObj "list" #[] 0)).update s.heap.objs.size (Obj.mapSeq (· ++ vs.toArray)) }) (hsz : vs.length ≤ sizeLine) :
    wpAny (model prog w) A (collect (.ref l)) Q E s := by
  obtain ⟨o, ho, hc, n, hd⟩ := id hl
  unfold collect
  refine wpAny_bind (wpAny_runValue (codeAny_builtin entry_proto_collect' ?_))
  show wpAny _ _ (do again (.builtin "list.__iadd__" ⟨[← newList [], .ref l], []⟩)) _ _ s
  refine wpAny_bind (wpAny_newList (wpAny_pure ⟨Code.quiet_builtin _ (by decide +kernel), codeAny_builtin entry_list_iadd' ?_⟩))
  show wpAny _ _ (Builtin.List.listExtendWith (.ref s.heap.objs.size) (.ref l) (.ref s.heap.objs.size)) _ _ { s with heap := s.heap.push (seqObj "list" #[] 0) }
  unfold Builtin.List.listExtendWith
  have ho' : (s.heap.push (seqObj "list" #[] 0)).get? l = some o := Heap.get?_push_of_some _ ho
  refine wpAny_bind (wpAny_typeOf (T := "tuple") ⟨o, ho', hc⟩ ?_)
  have ht : (Value.type "tuple" == Value.type "tuple") = true := by rfl
  rw [if_pos (by rw [ht]; simp)]
  refine wpAny_bind (listItems_at ho' hd ?_)
  refine wpAny_bind (listItems_at (xs := #[]) (n := 0) (Heap.get?_push_size _ rfl) rfl ?_)
  rw [if_neg (by simp)]
  refine wpAny_bind (listUpdate_at (xs := #[]) (n := 0) (Heap.get?_push_size _ rfl) rfl ?_ (Nat.zero_le _) (by show (#[] ++ vs.toArray).size ≤ sizeLine + 1; simp only [Array.size_append, List.size_toArray, List.length_nil]; omega))
  refine wpAny_pure ?_
  show wpAny (model prog w) A (do
      let o ← load s.heap.objs.size
      match o.data with
      | .seq xs _ => pure xs.toList
      | _ => unsupported "internal:collect") Q E { s with heap := (s.heap.push (seqObj "list" #[] 0)).update s.heap.objs.size (Obj.mapSeq (· ++ vs.toArray)) }
  refine wpAny_bind (wpAny_load (get?_update_seq (Heap.get?_push_size _ rfl) _) ?_)
  show wpAny _ _ (pure ((#[] : Array Value) ++ vs.toArray).toList) Q E _
  rw [show ((#[] : Array Value) ++ vs.toArray).toList = vs by simp]
  exact wpAny_pure h
open PySem.W in
theorem sorted_tup_of {l : Addr} {vs : List Value} {Q : Value → Shared → Prop} (hl : s.heap.IsTuple l vs.toArray) (hL : vs.length ≤ sizeLine)
    (body : ∀ E' : Value → Shared → Prop, wpAny (model prog w) A.in1.in1 (Builtin.«list.sort» ⟨[.ref (s.heap.objs.size + 1)], []⟩) (fun f s' => f = .done (.ret .none) ∧ Q (.ref (s.heap.objs.size + 1)) s') E' { s with heap := copyHeap s.heap vs }) :
    wpAny (model prog w) A (call (.builtin "sorted") [.ref l]) Q E s := by
  refine Calls.call_function_entry kind_sorted plain_sorted entry_sorted (args_sorted1 _) ?_
  unfold Builtin.«sorted»
  refine wpAny_bind (m := checkCount "sorted" 1 1 _) (wpAny_pure ?_)
  refine wpAny_bind (collect_tup hl ?_ hL)
  refine wpAny_bind (wpAny_newList ?_ hL)
  have hsz : ((s.heap.push (seqObj "list" #[] 0)).update s.heap.objs.size (Obj.mapSeq (· ++ vs.toArray))).objs.size = s.heap.objs.size + 1 := by
    rw [Heap.size_update, size_push']
  show wpAny _ _ _ _ _ { s with heap := copyHeap s.heap vs }
  rw [hsz]
  refine wpAny_bind (wpAny_holding (wpAny_call_entry slot_list_sort ⟨_, copyHeap_at s.heap vs, rfl⟩ entry_list_sort ?body (args_list_sort _)))
  case body =>
    show wpAny (model prog w) A.in1.in1 (Builtin.«list.sort» ⟨[.ref (s.heap.objs.size + 1)], []⟩) _ _ _
    refine wpAny_mono (body _) (fun f s' hf => ?_) fun _ _ e => e
    obtain ⟨rfl, hq⟩ := hf
    exact ⟨_, rfl, wpAny_pure ⟨_, rfl, hq⟩⟩
open PySem.W in
theorem sorted_tup_data {β : Type} {R : Value → β → Prop} {enc : β → PyData} {vs : List Value} {bs : List β} {l : Addr} {Q : Value → Shared → Prop} (hl : s.heap.IsTuple l vs.toArray) (e : EachIs R vs bs) (er : EachIs (fun v b => ∃ as, Reads s.heap v (enc b) as) vs bs) (hal : AllAlike (bs.map enc)) (hk : Sortable (bs.map enc)) (hL : bs.length ≤ sizeLine)
    (hu : ∀ b, b ∈ bs → A.units + 2 + (enc b).depth < cLine) (h : ∀ out, out.length = bs.length → EachIs R out (bs.mergeSort (dataLe false enc)) → Q (.ref (s.heap.objs.size + 1)) { s with heap := sortedAll s.heap vs (List.toArray out) }) :
    wpAny (model prog w) A (call (.builtin "sorted") [.ref l]) Q E s := by
  have er' : EachIs (fun v b => ∃ as, Reads (sortingHeap (copyHeap s.heap vs) (s.heap.objs.size + 1) vs) v (enc b) as) vs bs := er.mono fun _ _ ⟨as, r⟩ => ⟨as, PyProof.Rows.Reads.keeps (fun _ _ => sorting_copy_old) r⟩
  have S := SortsAt.data (prog := prog) (w := w) (A := A.in1.in1) (s := { s with heap := sortingHeap (copyHeap s.heap vs) (s.heap.objs.size + 1) vs }) (each_map (R := fun v d => ∃ as, Reads (sortingHeap (copyHeap s.heap vs) (s.heap.objs.size + 1) vs) v d as) enc er') hal hk (bound_map hu)
  have hL' : vs.length ≤ sizeLine := by rw [e.length]; exact hL
  refine sorted_tup_of hl hL' fun _ => list_sort_vals (s := { s with heap := copyHeap s.heap vs }) (copyHeap_at s.heap vs) S hL' ⟨rfl, ?_⟩
  exact h _ (by rw [sortVals_length false rfl]; exact e.length) (sortVals_data false e er' hal)
end

/-! ### sorted -/
def isT1 : D → Bool
  | .tup (_ :: _) => true
  | _ => false
def notT : D → Bool
  | .int _ => true
  | .str _ => true
  | .bl _ => true
  | .lst _ => true
  | _ => false
def srtOk (ds : List D) : Bool := (ds.all fun a => okN 50 a && ds.all fun b => PySem.W.alike (toP a) (toP b)) && ((ds.all isT1) || (ds.all notT))
def leP : D → D → Bool := PySem.W.dataLe false toP
def sortedG : List D → Option D
  | [.lst ds] => if srtOk ds = true then some (.lst (ds.mergeSort leP)) else none
  | [.tup ds] => if srtOk ds = true then some (.lst (ds.mergeSort leP)) else none
  | _ => none
section
variable {X : Cx}
open PySem.W (EachIs AllAlike Sortable)
theorem each_zip {K : PySem.W.Frag} {H : Hp} : ∀ {ds : List D} {vs : List V} {us : List Value}, IsL K H ds vs → Vals vs us → EachIs (fun (v : Value) (b : V × D) => RelV b.1 v ∧ Is K H b.2 b.1) us (vs.zip ds) ∧ (vs.zip ds).map Prod.snd = ds
  | [], vs, us, h, r => by
    simp only [IsL] at h
    subst h
    cases r
    exact ⟨.nil, rfl⟩
  | d :: ds, vs, us, h, r => by
    simp only [IsL] at h
    obtain ⟨v, vs', rfl, i, h⟩ := h
    cases r with
    | cons r1 r2 =>
      obtain ⟨a, b⟩ := each_zip h r2
      exact ⟨.cons ⟨r1, i⟩ a, by rw [List.zip_cons_cons, List.map_cons, b]⟩
theorem zip_each {K : PySem.W.Frag} {H : Hp} : ∀ {bs : List (V × D)} {us : List Value}, EachIs (fun (v : Value) (b : V × D) => RelV b.1 v ∧ Is K H b.2 b.1) us bs → Vals (bs.map Prod.fst) us ∧ IsL K H (bs.map Prod.snd) (bs.map Prod.fst)
  | [], _, .nil => ⟨.nil, by simp only [List.map_nil, IsL]⟩
  | b :: bs, _, .cons h1 h2 => by
    obtain ⟨a, c⟩ := zip_each h2
    refine ⟨.cons h1.1 a, ?_⟩
    simp only [List.map_cons, IsL]
    exact ⟨_, _, rfl, h1.2, c⟩
theorem each_reads {pins : List (Addr × Obj)} {s : Shared} {σ : L2.St} {H : Hp} (I : Inv X pins σ H s) : ∀ {bs : List (V × D)} {us : List Value}, (∀ b ∈ bs, okN 50 b.2 = true) → EachIs (fun (v : Value) (b : V × D) => RelV b.1 v ∧ Is X.K H b.2 b.1) us bs → EachIs (fun v b => ∃ as, Reads s.heap v (toP b.2) as) us bs
  | [], _, _, .nil => .nil
  | b :: bs, _, ok, .cons h1 h2 => by
    have a1 := (dp_of 50 b.2 b.1 (ok b List.mem_cons_self) h1.2).1
    exact .cons (Dp.reads I _ _ _ a1 h1.1) (each_reads I (fun c hc => ok c (List.mem_cons_of_mem _ hc)) h2)
theorem each_depth {K : PySem.W.Frag} {H : Hp} : ∀ {bs : List (V × D)} {us : List Value}, (∀ b ∈ bs, okN 50 b.2 = true) → EachIs (fun (v : Value) (b : V × D) => RelV b.1 v ∧ Is K H b.2 b.1) us bs → ∀ b ∈ bs, (toP b.2).depth ≤ 50
  | [], _, _, .nil, b, hb => by cases hb
  | c :: bs, _, ok, .cons h1 h2, b, hb => by
    rcases List.mem_cons.mp hb with rfl | hb
    · exact (dp_of 50 b.2 b.1 (ok b List.mem_cons_self) h1.2).2
    · exact each_depth (fun c hc => ok c (List.mem_cons_of_mem _ hc)) h2 b hb
theorem srt_ok {ds : List D} (h : srtOk ds = true) : (∀ a ∈ ds, okN 50 a = true) ∧ AllAlike (ds.map toP) ∧ Sortable (ds.map toP) := by
  unfold srtOk at h
  rw [Bool.and_eq_true, Bool.or_eq_true] at h
  obtain ⟨h1, h2⟩ := h
  have q : ∀ a ∈ ds, okN 50 a = true ∧ ∀ b ∈ ds, PySem.W.alike (toP a) (toP b) = true := fun a ha => by
    have := List.all_eq_true.mp h1 a ha
    rw [Bool.and_eq_true] at this
    exact ⟨this.1, fun b hb => List.all_eq_true.mp this.2 b hb⟩
  refine ⟨fun a ha => (q a ha).1, fun d hd d' hd' => ?_, ?_⟩
  · obtain ⟨a, ha, rfl⟩ := List.mem_map.mp hd
    obtain ⟨b, hb, rfl⟩ := List.mem_map.mp hd'
    exact (q a ha).2 b hb
  · rcases h2 with h2 | h2
    · refine .inl fun d hd => ?_
      obtain ⟨a, ha, rfl⟩ := List.mem_map.mp hd
      have := List.all_eq_true.mp h2 a ha
      unfold isT1 at this
      split at this
      · exact ⟨_, _, by simp only [toP, toPs]; rfl⟩
      · cases this
    · refine .inr fun d hd => ?_
      obtain ⟨a, ha, rfl⟩ := List.mem_map.mp hd
      have := List.all_eq_true.mp h2 a ha
      unfold notT at this
      split at this <;> first | (simp only [toP]; exact ⟨by simp, by simp⟩) | cases this
theorem c_sorted (hu : X.A.units + 64 < cLine) : CallR X (.builtin "sorted") (rDA X.K sortedG) := by
  intro pins s σ H xs us Q I r h
  obtain ⟨Hb, ds, d, sm, il, eg, q⟩ := h
  have main : ∀ (es : List D) (vs : List V) (its : List Value), IsL X.K Hb es vs → Vals vs its → vs.length ≤ sizeLine → srtOk es = true →
      (∀ v Hb' H', Step Hb H Hb' H' → Is X.K Hb' (.lst (es.mergeSort leP)) v → Q v H') →
      EachIs (fun (v : Value) (b : V × D) => RelV b.1 v ∧ Is X.K Hb b.2 b.1) its (vs.zip es) ∧ EachIs (fun v b => ∃ as, Reads s.heap v (toP b.2) as) its (vs.zip es) ∧ AllAlike ((vs.zip es).map fun b => toP b.2) ∧ Sortable ((vs.zip es).map fun b => toP b.2) ∧
      (vs.zip es).length ≤ sizeLine ∧ (∀ b ∈ vs.zip es, X.A.units + 2 + (toP b.2).depth < cLine) ∧
      ∀ out : List Value, out.length = (vs.zip es).length → EachIs (fun (v : Value) (b : V × D) => RelV b.1 v ∧ Is X.K Hb b.2 b.1) out ((vs.zip es).mergeSort (PySem.W.dataLe false fun b => toP b.2)) → EP X pins σ Q (.ref (s.heap.objs.size + 1)) { s with heap := sortedAll s.heap its (List.toArray out) } := by
    intro es vs its lx rv hz ok q
    obtain ⟨e1, e2⟩ := each_zip lx rv
    obtain ⟨o1, o2, o3⟩ := srt_ok ok
    have mem : ∀ b ∈ vs.zip es, b.2 ∈ es := fun b hb => by rw [← e2]; exact List.mem_map_of_mem hb
    have em : ((vs.zip es).map fun b => toP b.2) = es.map toP := by
      conv => rhs; rw [← e2]
      rw [List.map_map] <;> rfl
    have hz' : (vs.zip es).length ≤ sizeLine := by
      rw [List.length_zip, lx.length, Nat.min_self, ← lx.length]
      exact hz
    have e1' : EachIs (fun (v : Value) (b : V × D) => RelV b.1 v ∧ Is X.K H b.2 b.1) its (vs.zip es) := e1.mono fun _ _ x => ⟨x.1, x.2.mono sm⟩
    refine ⟨e1, each_reads I (fun b hb => o1 _ (mem b hb)) e1', by rw [em]; exact o2, by rw [em]; exact o3, hz', fun b hb => ?_, fun out hl eo => ?_⟩
    · have := each_depth (fun b hb => o1 _ (mem b hb)) e1 b hb
      omega
    · obtain ⟨z1, z2⟩ := zip_each eo
      have ez : (((vs.zip es).mergeSort (PySem.W.dataLe false fun b => toP b.2)).map Prod.snd) = es.mergeSort leP := by
        rw [List.map_mergeSort (r := PySem.W.dataLe false fun b : V × D => toP b.2) (s := leP) (f := Prod.snd) fun a _ b _ => rfl, e2]
      rw [ez] at z2
      obtain ⟨ep, he'⟩ := PyProof.Rows.sortedAll_at s.heap its out.toArray
      have hlen : (((vs.zip es).mergeSort (PySem.W.dataLe false fun b => toP b.2)).map Prod.fst).length ≤ sizeLine := by
        rw [List.length_map, List.length_mergeSort]
        exact hz'
      have hf : H (s.heap.objs.size + 1) = none := I.hok.fresh (Nat.le_succ _)
      refine ⟨.ref _, upd H (s.heap.objs.size + 1) (.lst _), I.laid (t' := s.toks) (fun _ _ => PyProof.Rows.sortedAll_old) (Nat.le_succ _) ⟨hlen, out, ep, z1, he'⟩, rfl, q _ _ _ (Step.new sm hf) ?_⟩
      exact is_lst_new (sm.free hf) z2
  unfold sortedG at eg
  split at eg
  · obtain ⟨v, rfl, iv⟩ := isl1 il
    simp only [Is] at iv
    obtain ⟨p, vs, rfl, hx, lx⟩ := iv
    obtain ⟨ok, rfl⟩ := iteS eg
    obtain ⟨its, rv, hl, hz⟩ := I.list (show SqL X.K H p _ from .inl (.inl (sm _ _ hx)))
    obtain ⟨m1, m2, m3, m4, m5, m6, m7⟩ := main _ vs its lx rv hz ok q
    rw [Vals.ref1 r]
    exact PySem.W.sorted_data hl.isList m1 m2 m3 m4 m5 m6 m7
  · obtain ⟨v, rfl, iv⟩ := isl1 il
    simp only [Is] at iv
    obtain ⟨p, vs, rfl, hx, lx⟩ := iv
    obtain ⟨ok, rfl⟩ := iteS eg
    obtain ⟨its, rv, hl, hz⟩ := I.tuple (hx.mono sm).sq
    obtain ⟨m1, m2, m3, m4, m5, m6, m7⟩ := main _ vs its lx rv hz ok q
    rw [Vals.ref1 r]
    exact sorted_tup_data hl m1 m2 m3 m4 m5 m6 m7
  · cases eg

/-! ### where a sign stands first -/
theorem occ_full (l : List Nat) (c : Nat) : ∀ (is : List Nat) (acc : Array Nat) (free : Nat), acc.size = 1 → (forIn is (acc, free) (StrLaws.occBody (S l) (S [c]) l.length 1)).run.fst.toList = acc.toList
  | [], acc, free, _ => by simp
  | i :: is, acc, free, h => by
    rw [List.forIn_cons]
    unfold StrLaws.occBody
    rw [if_neg fun q => by have : acc.size < 1 := q.1.1.1; omega]
    show (forIn is (acc, free) (StrLaws.occBody (S l) (S [c]) l.length 1)).run.fst.toList = _
    exact occ_full l c is acc free h
theorem occ_first (l : List Nat) (c : Nat) : ∀ (is : List Nat), (forIn is ((#[] : Array Nat), 0) (StrLaws.occBody (S l) (S [c]) l.length 1)).run.fst.toList = (is.filter fun i => decide (l[i]? = some c)).take 1
  | [] => by simp
  | i :: is => by
    rw [List.forIn_cons]
    have sub := StrLaws.subAt_one (S l) c i
    rw [S_len] at sub
    have esl : (S l).cps.toList = l := by simp [S]
    rw [esl] at sub
    by_cases hc : l[i]? = some c
    · have hb := sub.mpr hc
      unfold StrLaws.occBody
      rw [if_pos ⟨⟨⟨by show (0 : Nat) < 1; omega, Nat.zero_le _⟩, hb.1⟩, hb.2⟩]
      show (forIn is ((#[] : Array Nat).push i, i + 1) (StrLaws.occBody (S l) (S [c]) l.length 1)).run.fst.toList = _
      rw [occ_full l c is _ _ rfl, List.filter_cons_of_pos (by simpa using hc)]
      rfl
    · unfold StrLaws.occBody
      rw [if_neg fun h => hc (sub.mp ⟨h.1.2, h.2⟩)]
      show (forIn is ((#[] : Array Nat), 0) (StrLaws.occBody (S l) (S [c]) l.length 1)).run.fst.toList = _
      rw [occ_first l c is, List.filter_cons_of_neg (by simpa using hc)]
theorem spots_head (c : Nat) : ∀ l : List Nat, c ∈ l → (spots l c).take 1 = [l.idxOf c]
  | [], h => by cases h
  | x :: xs, h => by
    unfold spots
    rw [List.length_cons, List.range_succ_eq_map, List.filter_cons, List.filter_map]
    have e : ((List.range xs.length).filter ((fun i => decide ((x :: xs)[i]? = some c)) ∘ Nat.succ)) = (List.range xs.length).filter fun i => decide (xs[i]? = some c) := by
      congr 1
    by_cases hx : x = c
    · subst hx
      simp
    · have hm : c ∈ xs := by
        rcases List.mem_cons.mp h with q | q
        · exact absurd q.symm hx
        · exact q
      have ih := spots_head c xs hm
      unfold spots at ih
      have : ¬ (some x = some c) := fun q => hx (Option.some.inj q)
      rw [List.getElem?_cons_zero, decide_eq_false this, if_neg (by simp), e, ← List.map_take, ih, List.idxOf_cons]
      have : (x == c) = false := by simpa using hx
      rw [this]
      rfl
theorem occ_idx (l : List Nat) (c : Nat) (h : c ∈ l) : Builtin.Str.occurrences (S l) (S [c]) 0 l.length 1 = [l.idxOf c] := by
  rw [StrLaws.occ_eq, occ_first l c]
  simp only [Nat.sub_zero]
  rw [← List.range_eq_range', List.range_succ, List.filter_append]
  have := spots_head c l h
  unfold spots at this
  simpa using this
def indexD (l : List Nat) : D → Option D
  | .str [c] => if c ∈ l then some (.int (l.idxOf c)) else none
  | _ => none
theorem m_index : MtR X "str.index" (rDM X.K indexD) := by
  intro pins s σ H x xs v us Q I rx rs h
  obtain ⟨Hb, l, y, b, d, sm, rfl, rfl, ib, eg, q⟩ := h
  unfold indexD at eg
  split at eg
  · rename_i c
    simp only [Is] at ib
    subst ib
    obtain ⟨hm, rfl⟩ := iteS eg
    obtain ⟨t, rfl⟩ := rx
    obtain ⟨u, rfl, ru⟩ := rs.one
    obtain ⟨t2, rfl⟩ := ru
    refine call_gives PySem.F.slot_str_index (typeIs_str _ _ _) PySem.F.entry_str_index (PySem.F.args_str_index_2 _ _) (PySem.gives_str_index (S l) (S [c]) t t2 (l.idxOf c) [] ?_) ?_
    · rw [S_len]
      exact occ_idx l c hm
    · exact ⟨.int _, H, I.tok _, ⟨_, rfl⟩, q _ Hb H (Step.refl sm) (by simp only [Is])⟩
  · cases eg
variable {a b e o : Expr} {pos apos p p2 pos2 : Pos} {fa fb fo : En → Option D} {fs : En → Option (List D)}
theorem e_index (ho : PE X o (tD X.K fo)) (he : PE X e (tD X.K fa)) (hs : starEach [e] X.env = [(false, eval e X.env)] := by rfl) (hbase : attributeBase o "index" X.env (eval o X.env) = eval o X.env := by rfl) (hline : (apos.endLine == pos.line) = true := by rfl) :
    PE X (.Call (.Attribute o "index" apos) [e] [] pos) (tD X.K (fM1 indexD fo fa)) := e_m1 F.slot_str_index F.type_str_index m_index ho he hs hbase hline

/-! ### sorted(set(t)), a tuple of ints -/
def uniqI (ns : List Int) : List Int := ns.eraseDups.mergeSort fun a b => decide (a ≤ b)
theorem nodup_eraseDups {α : Type} [BEq α] [LawfulBEq α] (l : List α) : l.eraseDups.Nodup := by
  induction h : l.length using Nat.strongRecOn generalizing l with
  | ind n ih =>
    cases l with
    | nil => simp
    | cons x xs =>
      rw [List.eraseDups_cons, List.nodup_cons]
      subst h
      have hl : (xs.filter fun b => !b == x).length < (x :: xs).length := by
        have := List.length_filter_le (fun b => !b == x) xs
        rw [List.length_cons]
        omega
      refine ⟨fun q => ?_, ih _ hl _ rfl⟩
      rw [List.mem_eraseDups] at q
      have := (List.mem_filter.mp q).2
      simp at this
theorem uniqI_mem (ns : List Int) (k : Int) : k ∈ uniqI ns ↔ k ∈ ns := by
  unfold uniqI
  rw [List.mem_mergeSort, List.mem_eraseDups]
theorem uniqI_rises (ns : List Int) : (uniqI ns).Pairwise (· < ·) := by
  have h1 : (uniqI ns).Pairwise fun a b => decide (a ≤ b) = true := List.pairwise_mergeSort (fun a b c h h' => by simp at *; omega) (fun a b => by simp; omega) _
  have h2 : (uniqI ns).Nodup := (List.mergeSort_perm _ _).nodup_iff.mpr (nodup_eraseDups ns)
  refine List.Pairwise.imp₂ (fun x y h h' => ?_) h1 h2
  have : x ≤ y := by simpa using h
  have : x ≠ y := h'
  omega
theorem rises_eq {xs ys : List Int} (hx : xs.Pairwise (· < ·)) (hy : ys.Pairwise (· < ·)) (h : ∀ k, k ∈ xs ↔ k ∈ ys) : xs = ys := by
  have nd : ∀ {l : List Int}, l.Pairwise (· < ·) → l.Nodup := fun h => h.imp fun q e => by omega
  exact List.Perm.eq_of_pairwise (le := fun a b : Int => a < b) (fun a b _ _ h h' => by omega) hx hy ((List.perm_ext_iff_of_nodup (nd hx) (nd hy)).mpr h)
def sortSetD : D → Option D
  | .tup ds => (intsOf ds).bind fun ns => if ns.length < 64 then some (.lst ((uniqI ns).map D.int)) else none
  | _ => none
def rMkSet (X : Cx) : List V → Hp → VK → Prop := fun xs H Q => ∃ (p : Addr) (ns : List Int), xs = [V.ref p] ∧ SqT X.K H p (ns.map V.int) ∧ ns.length < 64 ∧
  ∀ (a : Addr) (c : Nat), H a = none → c ≤ ns.length → Q (.ref a) (upd H a (SetO X.w a (fun j => decide (j ∈ ns)) c))
theorem cr_mkSet (hc : X.calm = true) : CallR X (.type "set") (rMkSet X) := by
  intro pins s σ H xs us Q I r h
  obtain ⟨p, ns, rfl, hx, hl, q⟩ := h
  obtain ⟨its, rv, ht, hz⟩ := I.tuple hx
  rw [Vals.ref1 r]
  have hi := rv.ints
  refine call_set_tupI ns (I.ok.hd hc) ht (by simpa using hi) (by unfold scanBound; omega) fun h' tk c R hcn k => ?_
  exact ⟨.ref _, upd H s.heap.objs.size (SetO X.w s.heap.objs.size _ c), I.laid (t' := tk) k (Nat.le_refl _) (setO_new R), rfl, q _ _ (I.hok.fresh (Nat.le_refl _)) hcn⟩
theorem e_sset (hc : X.calm = true) (hm : X.mg "sorted" = none) (hm2 : X.mg "set" = none) (ha : PE X a (tD X.K fa)) (hg : Gl X "sorted" := by rfl) (hg2 : Gl X "set" := by rfl)
    (na : starEach [.Call (.Name "set" p2) [a] [] pos2] X.env = (false, eval (.Call (.Name "set" p2) [a] [] pos2) X.env) :: starEach [] X.env := by rfl) (na2 : starEach [a] X.env = (false, eval a X.env) :: starEach [] X.env := by rfl) :
    PE X (.Call (.Name "sorted" p) [.Call (.Name "set" p2) [a] [] pos2] [] pos) (tD X.K (f1 sortSetD fa)) := by
  refine PE_weak (pe_callB (cr_sortedSet hc) hg hm (by decide +kernel) (pa_cons (pe_callTy (cr_mkSet hc) hg2 hm2 (by decide +kernel) (pa_cons ha pa_nil na2) (he := na2)) pa_nil na) (he := na)) fun σ H Q h => ?_
  obtain ⟨H0, env, Hb, d, r, sm, ef, q⟩ := h
  obtain ⟨da, ea, eg⟩ := bind1 ef
  refine ⟨H0, env, Hb, da, r, sm, ea, fun v Hb1 H1 s1 iv => ?_⟩
  unfold sortSetD at eg
  split at eg
  · obtain ⟨ns, en, eg⟩ := bind1 eg
    obtain ⟨hl, rfl⟩ := iteS eg
    have e := intsOf_eq en
    subst e
    simp only [Is] at iv
    obtain ⟨p, vs, rfl, hx, lx⟩ := iv
    have := isl_ints lx
    subst this
    refine ⟨p, ns, rfl, (hx.mono s1.c).sq, hl, fun z c hz hcn => ?_⟩
    refine ⟨z, _, c, rfl, upd_same, by omega, fun ns' p' rises hmem _ hp => ?_⟩
    have e : ns' = uniqI ns := rises_eq rises (uniqI_rises ns) fun k => by rw [hmem k, uniqI_mem]; simp
    subst e
    have st : Step Hb1 H1 (upd Hb1 z (SetO X.w z (fun j => decide (j ∈ ns)) c)) (upd H1 z (SetO X.w z (fun j => decide (j ∈ ns)) c)) := Step.new s1.c hz
    exact q _ _ _ (s1.trans (st.trans (Step.new st.c hp))) (is_lst_new (st.c.free hp) (of_ints _))
  · cases eg
variable {c : Expr} {fc : En → Option D}
theorem t_chain {op op' : CmpOp} {g g' : D → D → Option D} (ho : OpR X (compareOp op) (rD2 X.K g)) (ho' : OpR X (compareOp op') (rD2 X.K g')) (ha : PE X a (tD X.K fa)) (hb : PE X b (tD X.K fb)) (hc : PE X c (tD X.K fc))
    (hm : lastMarks [op, op'] [b, c] = false := by with_unfolding_all rfl) : PT X (.Compare a [op, op'] [b, c] pos) (tT X.K (fB (fChain g g' fa fb fc))) :=
  PT_weak (pt_chain ho ho' ha hb hc hm) fun σ H Q h => by
    obtain ⟨H0, env, Hb, k0, r, sm, ef, q0⟩ := h
    obtain ⟨d, ef, e0⟩ := bind1 ef
    have hd := asB_some e0
    subst hd
    have q : ∀ v Hb' H', Step Hb H Hb' H' → Is X.K Hb' (.bl k0) v → ∃ k, v = .bl k ∧ Q k H' := fun v Hb' H' s iv => ⟨k0, by simpa only [Is] using iv, q0 Hb' H' s⟩
    obtain ⟨da, ea, ef⟩ := bind1 ef
    obtain ⟨db, eb, ef⟩ := bind1 ef
    obtain ⟨z, ez, ef⟩ := bind1 ef
    obtain ⟨k, ek, eg⟩ := bind1 ef
    have hz := asB_some ek
    subst hz
    refine ⟨H0, env, Hb, da, r, sm, ea, fun x Hb1 H1 s1 ix => ⟨H0, env, Hb1, db, r.step s1, s1.c, eb, fun y Hb2 H2 s2 iy => ⟨Hb2, da, db, .bl k, s2.c, ix.mono s2.b, iy, ez, fun v Hb3 H3 s3 iv => ⟨k, by simpa only [Is] using iv, ?_⟩⟩⟩⟩
    cases k with
    | false =>
      simp at eg
      subst eg
      exact q _ Hb3 H3 (s1.trans (s2.trans s3)) (by simp only [Is])
    | true =>
      obtain ⟨dc, ec, eg⟩ := bind1 eg
      exact ⟨H0, env, Hb3, dc, ((r.step s1).step s2).step s3, s3.c, ec, fun w Hb4 H4 s4 iw => ⟨Hb4, db, dc, _, s4.c, (iy.mono s3.b).mono s4.b, iw, eg, fun v' Hb' H' s5 iv' => q v' Hb' H' (s1.trans (s2.trans (s3.trans (s4.trans s5)))) iv'⟩⟩

/-! ### argument lists, displays -/
end
end Dn
set_option Elab.async false
set_option linter.all false
set_option maxRecDepth 100000
/-! Rows: struck, laid, marks drawn. -/
namespace Dn
open PySem L2
local macro_rules | `(tactic| walk_at "dg") => `(tactic| first
  | with_reducible exact add_i _ _ | with_reducible exact sub_i _ _ | ((with_reducible refine mul_i ?_); omega) | ((with_reducible refine fdiv_i ?_); omega) | ((with_reducible refine mod_i ?_); omega) | with_reducible exact neg_i _
  | with_reducible exact lt_i _ _ | with_reducible exact le_i _ _ | with_reducible exact gt_i _ _ | with_reducible exact ge_i _ _ | with_reducible exact eq_i _ _ | with_reducible exact ne_i _ _ | with_reducible exact eq_s _ _ | with_reducible exact ne_s _ _
  | ((with_reducible refine add_s ?_); omega) | ((with_reducible refine add_t ?_); omega) | ((with_reducible refine add_l ?_); omega) | ((with_reducible refine mul_s ?_); omega) | ((with_reducible refine mul_l ?_); omega)
  | ((with_reducible refine len_s ?_); omega) | with_reducible exact len_t _ | with_reducible exact len_l _ | with_reducible exact len_c _ | with_reducible exact int_b _ | with_reducible exact int_i _ | with_reducible exact abs_i _
  | ((with_reducible refine sl_s ?_); omega) | with_reducible exact sl_t _ _ _ | with_reducible exact sl_l _ _ _ | ((with_reducible apply ix_t); (· omega); (· rfl)) | ((with_reducible apply ix_l); (· omega); (· rfl)) | with_reducible assumption)
local macro_rules | `(tactic| walk_at "dc") => `(tactic| with_reducible assumption)
local macro_rules | `(tactic| walk_at "dn") => `(tactic| first
  | with_reducible exact v_c | with_reducible exact v_nil | with_reducible exact v_no
  | ((with_reducible apply v_var); (· rfl); (· rfl))
  | ((with_reducible apply v_2); (· walk_at "dn"); (· walk_at "dn"); (· walk_at "dg"))
  | ((with_reducible apply v_1); (· walk_at "dn"); (· walk_at "dg"))
  | ((with_reducible apply v_cons); (· walk_at "dn"); (· walk_at "dn"))
  | ((with_reducible apply v_blt); (· walk_at "dn"); (· walk_at "dg"))
  | ((with_reducible apply v_call); (· walk_at "dn"); (· walk_at "dc"))
  | ((with_reducible apply v_tup); (· walk_at "dn"); (· first | decide | (simp only [List.length_cons, List.length_nil]; decide)))
  | ((with_reducible apply v_lst); (· walk_at "dn"); (· first | decide | (simp only [List.length_cons, List.length_nil]; decide)))
  | ((with_reducible apply v_po); (· walk_at "dn"))
  | ((with_reducible apply v_sl); (· walk_at "dn"); (· walk_at "dn"); (· walk_at "dn"); (· walk_at "dg"))
  | ((with_reducible apply v_m1); (· walk_at "dn"); (· walk_at "dn"); (· walk_at "dg"))
  | ((with_reducible apply v_b); (· walk_at "dn"))
  | ((with_reducible apply v_not); (· walk_at "dn"))
  | ((with_reducible apply v_notV); (· walk_at "dn"))
  | ((with_reducible apply v_rng1); (· walk_at "dn"); (· omega))
  | ((with_reducible apply v_rng2); (· walk_at "dn"); (· omega))
  | ((with_reducible apply v_it); (· walk_at "dn"))
  | ((with_reducible apply v_itl); (· walk_at "dn"))
  | ((with_reducible apply v_its); (· walk_at "dn"))
  | with_reducible assumption)
local macro_rules | `(tactic| walk_at "dt") => `(tactic| first
  | with_reducible exact v_c | with_reducible exact v_nil | with_reducible exact v_no
  | ((with_reducible apply v_var); (· rfl); (· rfl))
  | ((with_reducible apply v_2) <;> walk_at "dt")
  | ((with_reducible apply v_1) <;> walk_at "dt")
  | ((with_reducible apply v_cons) <;> walk_at "dt")
  | ((with_reducible apply v_blt) <;> walk_at "dt")
  | ((with_reducible apply v_call) <;> walk_at "dt")
  | ((with_reducible apply v_tup) <;> walk_at "dt")
  | ((with_reducible apply v_lst) <;> walk_at "dt")
  | ((with_reducible apply v_po) <;> walk_at "dt")
  | ((with_reducible apply v_sl) <;> walk_at "dt")
  | ((with_reducible apply v_m1) <;> walk_at "dt")
  | ((with_reducible apply v_b) <;> walk_at "dt")
  | ((with_reducible apply v_notV) <;> walk_at "dt")
  | ((with_reducible apply v_not) <;> walk_at "dt")
  | ((with_reducible apply v_rng1) <;> first | omega | walk_at "dt")
  | ((with_reducible apply v_rng2) <;> first | omega | walk_at "dt")
  | walk_at "dg"
  | (show List.length _ ≤ sizeLine; first | decide | (simp only [List.length_cons, List.length_nil]; decide))
  | skip)
local macro_rules | `(tactic| walk_at "ds") => `(tactic| first
  | ((with_reducible apply w_ss) <;> first | walk_at "d1" | skip)
  | ((with_reducible apply w_r) <;> first | walk_at "d1" | skip)
  | ((with_reducible apply w_sp) <;> first | walk_at "d1" | skip)
  | ((with_reducible apply w_so) <;> first | walk_at "d1" | skip)
  | (with_reducible apply w_sv)
  | (with_reducible apply w_sq))
local macro_rules | `(tactic| walk_at "dx") => `(tactic| simp only [put, jn, List.set_cons_zero, List.set_cons_succ])
noncomputable def m_struck : En → Option Fl :=
  (fRet (f1 tupD (fLc (fEnum (fV 0)) (gT (gCons' (gN 1) (gCons' (gN 2) gNil'))) (fB (f2 neD (fV 2) (fC (.str [46])))) (fV 1) [1, 2])))
noncomputable def n_struck : List D → Option D := semOf 3 1 m_struck
noncomputable def m_laid : En → Option Fl :=
  (fRet (fM1 joinD (fC (.str [])) (fLc (fZip2 (fV 0) (fV 1)) (gT (gCons' (gN 2) (gCons' (gN 3) gNil'))) fYes (f2 ixD (fC (.str [46, 120, 88])) (fBlt maxG (fCons (fM1 indexD (fC (.str [46, 120, 88])) (fV 2)) (fCons (fM1 indexD (fC (.str [46, 120, 88])) (fV 3)) fNil)))) [2, 3])))
noncomputable def n_laid : List D → Option D := semOf 4 2 m_laid
noncomputable def m__law_marks : En → Option Fl :=
  (fSeq (fSet 2 (fC (.str [])))
  (fSeq (fFor (fRng1 (fCons (fV 1) fNil)) (gN 3)
    (fSeq (fSet 4 (f2 fdivD (fCall n__law_drawn (fCons (fV 0) (fCons (fV 3) fNil))) (fC (.int 4))))
    (fSet 2 (f2 addD (fV 2) (f2 ixD (fC (.str [46, 46, 46, 120, 120, 88])) (f2 modD (fV 4) (fC (.int 6))))))))
  (fRet (fV 2))))
noncomputable def n__law_marks : List D → Option D := semOf 5 2 m__law_marks
theorem enum_at (xs : List D) : enumD xs = (List.range xs.length).map fun i => D.wk [.int (i : Nat), xs.getD i .non] := by
  unfold enumD
  refine List.ext_getElem (by simp) fun i h1 h2 => ?_
  have h3 : i < xs.length := by simpa using h2
  simp [List.getElem_zipWith, List.getD_eq_getElem?_getD, List.getElem?_eq_getElem h3]
theorem zip2_at (xs ys : List D) (h : xs.length = ys.length) : zip2D xs ys = (List.range xs.length).map fun i => D.wk [xs.getD i .non, ys.getD i .non] := by
  unfold zip2D
  refine List.ext_getElem (by simp [h]) fun i h1 h2 => ?_
  have h3 : i < xs.length := by simpa using h2
  have h4 : i < ys.length := by omega
  simp [List.getElem_zipWith, List.getD_eq_getElem?_getD, List.getElem?_eq_getElem h3, List.getElem?_eq_getElem h4]
theorem zip3_at (xs ys zs : List D) (h : xs.length = ys.length) (h' : xs.length = zs.length) : zip3D xs ys zs = (List.range xs.length).map fun i => D.wk [xs.getD i .non, ys.getD i .non, zs.getD i .non] := by
  unfold zip3D
  refine List.ext_getElem (by simp [← h, ← h']) fun i h1 h2 => ?_
  have h3 : i < xs.length := by simpa using h2
  have h4 : i < ys.length := by omega
  have h5 : i < zs.length := by omega
  simp [List.getElem_zipWith, List.getD_eq_getElem?_getD, List.getElem?_eq_getElem h3, List.getElem?_eq_getElem h4, List.getElem?_eq_getElem h5]
theorem v_enum {fa : En → Option D} {env : En} {a : D} {xs : List D} (h : fa env = some a) (h2 : itemsD a = some xs) : fEnum fa env = some (enumD xs) := by
  unfold fEnum
  rw [h]
  simp only [Option.bind_some, h2]
theorem v_zip2 {fa fb : En → Option D} {env : En} {a b : D} {xs ys : List D} (h : fa env = some a) (h1 : fb env = some b) (h2 : itemsD a = some xs) (h3 : itemsD b = some ys) : fZip2 fa fb env = some (zip2D xs ys) := by
  unfold fZip2
  rw [h, h1]
  simp only [Option.bind_some, h2, h3]
theorem v_zip3 {fa fb fc : En → Option D} {env : En} {a b c : D} {xs ys zs : List D} (h : fa env = some a) (h1 : fb env = some b) (hc : fc env = some c) (h2 : itemsD a = some xs) (h3 : itemsD b = some ys) (h4 : itemsD c = some zs) : fZip3 fa fb fc env = some (zip3D xs ys zs) := by
  unfold fZip3
  rw [h, h1, hc]
  simp only [Option.bind_some, h2, h3, h4]
theorem getD_signs {row : List Nat} {i : Nat} (h : i < row.length) : (row.map fun x => D.str [x]).getD i .non = .str [row.getD i 46] := by
  simp [List.getD_eq_getElem?_getD, List.getElem?_eq_getElem h]
def strkN (row : List Nat) : List Nat := (List.range row.length).filter fun i => !decide (row.getD i 46 = 46)
def strk (row : List Nat) : List Int := (strkN row).map fun i : Nat => (i : Int)
theorem e_struck {row : List Nat} (h : row.length ≤ 1000) : n_struck [.str row] = some (.tup ((strk row).map D.int)) := by
  refine sem_rt rfl ?_
  show m_struck [some (.str row), none, none] = _
  unfold m_struck
  refine ret_of (v_1 (a := .lst ((strk row).map D.int)) (lcw (v_enum (by walk_at "dn") rfl) ?_ ?_) rfl)
  · rw [enum_at]
    simp
    omega
  · rw [enum_at, List.length_map]
    unfold strk strkN
    rw [List.map_map]
    refine lc_filter (fun i : Nat => D.wk [.int (i : Nat), (row.map fun x => D.str [x]).getD i .non]) _ _ (List.range row.length) fun i hi => ?_
    rw [getD_signs (List.mem_range.mp hi)]
    refine ⟨[some (.str row), some (.int (i : Nat)), some (.str [row.getD i 46])], rfl, ?_, fun _ => rfl⟩
    refine v_b (v_2 (by walk_at "dn") v_c ?_)
    rw [ne_s]
    simp
def isM (c : Nat) : Prop := c = 46 ∨ c = 120 ∨ c = 88
def isRow (l : List Nat) : Prop := ∀ c ∈ l, isM c
def rk (c : Nat) : Int := if c = 88 then 2 else if c = 120 then 1 else 0
def mx (c d : Nat) : Nat := if c = 88 ∨ d = 88 then 88 else if c = 120 ∨ d = 120 then 120 else 46
theorem e_rk {c : Nat} (h : isM c) : indexD [46, 120, 88] (.str [c]) = some (.int (rk c)) := by
  rcases h with rfl | rfl | rfl <;> rfl
def layL (a b : List Nat) : List Nat := List.zipWith mx a b
theorem layL_at (a b : List Nat) (h : a.length = b.length) : layL a b = (List.range a.length).map fun i => mx (a.getD i 46) (b.getD i 46) := by
  unfold layL
  refine List.ext_getElem (by simp [h]) fun i h1 h2 => ?_
  have h3 : i < a.length := by simpa using h2
  have h4 : i < b.length := by omega
  simp [List.getElem_zipWith, List.getD_eq_getElem?_getD, List.getElem?_eq_getElem h3, List.getElem?_eq_getElem h4]
theorem isM_at {l : List Nat} (h : isRow l) (i : Nat) : isM (l.getD i 46) := by
  rw [List.getD_eq_getElem?_getD]
  cases e : l[i]? with
  | none => exact .inl rfl
  | some c => exact h c (List.mem_of_getElem? e)
theorem e_laid {a b : List Nat} (ha : isRow a) (hb : isRow b) (h : a.length = b.length) (h2 : a.length ≤ 100000) : n_laid [.str a, .str b] = some (.str (layL a b)) := by
  refine sem_rt rfl ?_
  show m_laid [some (.str a), some (.str b), none, none] = _
  unfold m_laid
  refine ret_of (v_m1 v_c (lcw (r := ((List.range a.length).map fun i => [mx (a.getD i 46) (b.getD i 46)]).map D.str) (v_zip2 (by walk_at "dn") (by walk_at "dn") rfl rfl) ?_ ?_) ?_)
  · rw [zip2_at _ _ (by simp [h])]
    simp
    omega
  · rw [zip2_at _ _ (by simp [h]), List.length_map, List.map_map]
    refine lc_map (fun i : Nat => D.wk [(a.map fun x => D.str [x]).getD i .non, (b.map fun x => D.str [x]).getD i .non]) _ _ fun i hi => ?_
    rw [getD_signs (List.mem_range.mp hi), getD_signs (by rw [← h]; exact List.mem_range.mp hi)]
    refine ⟨[some (.str a), some (.str b), some (.str [a.getD i 46]), some (.str [b.getD i 46])], rfl, ?_⟩
    refine v_2 v_c (v_blt (v_cons (v_m1 v_c (by walk_at "dn") (e_rk (isM_at ha i))) (v_cons (v_m1 v_c (by walk_at "dn") (e_rk (isM_at hb i))) v_nil)) rfl) ?_
    show _ = some (D.str [mx (a.getD i 46) (b.getD i 46)])
    rcases isM_at ha i with e | e | e <;> rcases isM_at hb i with e' | e' | e' <;> rw [e, e'] <;> rfl
  · rw [join_l, joinL_nil, flat_ones, layL_at a b h]
    rw [sum_ones _ fun _ => rfl]
    simp
    omega
theorem e_marks (n : Int) {s : Nat} (hs : s ≤ 1000) : ∃ row, n__law_marks [.int n, .int s] = some (.str row) ∧ row.length = s ∧ isRow row := by
  have key := for_inv (g := gN 3) (B := (fSeq (fSet 4 (f2 fdivD (fCall n__law_drawn (fCons (fV 0) (fCons (fV 3) fNil))) (fC (.int 4)))) (fSet 2 (f2 addD (fV 2) (f2 ixD (fC (.str [46, 46, 46, 120, 120, 88])) (f2 modD (fV 4) (fC (.int 6))))))))
    (fun i : Nat => D.int (i : Nat)) (fun p e => ∃ row x y, e = [some (.int n), some (.int s), some (.str row), x, y] ∧ row.length = p.length ∧ isRow row) (List.range s) [] [some (.int n), some (.int s), some (.str []), none, none] ⟨[], none, none, rfl, rfl, fun c h => by cases h⟩ ?_
  · obtain ⟨e', h1, row, x, y, rfl, hl, hr⟩ := key
    refine ⟨row, sem_rt rfl ?_, by simpa using hl, hr⟩
    show m__law_marks [some (.int n), some (.int s), none, none, none] = _
    unfold m__law_marks
    refine w_seq (w_set v_c rfl) (w_seq (w_for (v_rng1 (n := (s : Int)) (by walk_at "dn") (by omega)) h1) (ret_of ?_))
    walk_at "dn"
  · rintro p i q e hp ⟨row, x, y, rfl, hl, hr⟩
    have hi : i ∈ List.range s := by
      have : i ∈ ([] : List Nat) ++ List.range s := by rw [hp]; simp
      simpa using this
    have hi := List.mem_range.mp hi
    have hpl : p.length ≤ s := by
      have := congrArg List.length hp
      simp at this
      omega
    obtain ⟨m, h0, h1, em⟩ := drawn_ok n (i : Int) (by omega)
    have hx : ∃ c, isM c ∧ ixD (.str [46, 46, 46, 120, 120, 88]) (.int (m / 4 % 6)) = some (.str [c]) := by
      have h6 : m / 4 % 6 = 0 ∨ m / 4 % 6 = 1 ∨ m / 4 % 6 = 2 ∨ m / 4 % 6 = 3 ∨ m / 4 % 6 = 4 ∨ m / 4 % 6 = 5 := by omega
      rcases h6 with e | e | e | e | e | e <;> rw [e]
      · exact ⟨46, .inl rfl, rfl⟩
      · exact ⟨46, .inl rfl, rfl⟩
      · exact ⟨46, .inl rfl, rfl⟩
      · exact ⟨120, .inr (.inl rfl), rfl⟩
      · exact ⟨120, .inr (.inl rfl), rfl⟩
      · exact ⟨88, .inr (.inr rfl), rfl⟩
    obtain ⟨c, hc, hx⟩ := hx
    refine ⟨_, [some (.int n), some (.int s), some (.str (row ++ [c])), some (.int (i : Nat)), some (.int (m / 4))], rfl, ?_, row ++ [c], _, _, rfl, by simp [hl], ?_⟩
    · show fSeq _ _ [some (.int n), some (.int s), some (.str row), some (.int (i : Nat)), y] = _
      refine w_seq (w_set (v_2 (v_call (by walk_at "dn") em) v_c (fdiv_i (by omega))) rfl) ?_
      refine w_set (d := .str (row ++ [c])) (v_2 (by walk_at "dn") (v_2 v_c (by walk_at "dn") hx) (add_s ?_)) rfl
      simp
      omega
    · intro d hd
      rcases List.mem_append.mp hd with h | h
      · exact hr d h
      · rw [List.mem_singleton.mp h]
        exact hc
theorem w_nf {fa fb : En → Option D} {env : En} {x y : D} (h1 : fa env = some x) (h2 : fb env = some y) (h3 : x = y) (h4 : okN 60 x = true) : fB (f2 neD fa fb) env = some false := by
  subst h3
  exact v_b (v_2 h1 h2 (ne_same h4))
theorem okN_strs (n : Nat) (ls : List (List Nat)) : ((ls.map D.str).all fun x => okN n x) = true := by
  rw [List.all_eq_true]
  intro x hx
  obtain ⟨l, _, rfl⟩ := List.mem_map.mp hx
  cases n <;> rfl
theorem okN_ints (n : Nat) (ls : List Int) : ((ls.map D.int).all fun x => okN n x) = true := by
  rw [List.all_eq_true]
  intro x hx
  obtain ⟨l, _, rfl⟩ := List.mem_map.mp hx
  cases n <;> rfl
theorem ok_tints (ls : List Int) : okN 60 (.tup (ls.map D.int)) = true := okN_ints 59 ls
theorem ok_lints (ls : List Int) : okN 60 (.lst (ls.map D.int)) = true := okN_ints 59 ls
theorem ok_lstrs (ls : List (List Nat)) : okN 60 (.lst (ls.map D.str)) = true := okN_strs 59 ls
theorem mx_row {c d : Nat} (h : isM c) (h' : isM d) : isM (mx c d) := by
  rcases h with rfl | rfl | rfl <;> rcases h' with rfl | rfl | rfl <;> simp [mx, isM]
theorem lay_row {a b : List Nat} (ha : isRow a) (hb : isRow b) (h : a.length = b.length) : isRow (layL a b) := by
  intro c hc
  rw [layL_at a b h] at hc
  obtain ⟨i, _, rfl⟩ := List.mem_map.mp hc
  exact mx_row (isM_at ha i) (isM_at hb i)
theorem lay_len {a b : List Nat} (h : a.length = b.length) : (layL a b).length = a.length := by
  unfold layL
  rw [List.length_zipWith, ← h, Nat.min_self]
theorem lay_get {a b : List Nat} (h : a.length = b.length) {i : Nat} (hi : i < a.length) : (layL a b).getD i 46 = mx (a.getD i 46) (b.getD i 46) := by
  rw [layL_at a b h]
  simp [List.getD_eq_getElem?_getD, hi]
theorem row_ext {a b : List Nat} (h : a.length = b.length) (q : ∀ i, i < a.length → a.getD i 46 = b.getD i 46) : a = b := by
  refine List.ext_getElem h fun i h1 h2 => ?_
  have := q i h1
  simpa [List.getD_eq_getElem?_getD, List.getElem?_eq_getElem h1, List.getElem?_eq_getElem h2] using this
theorem rot_len (row : List Nat) (b : Int) : (rotL row b).length = row.length := by
  unfold rotL
  rw [List.length_append, List.length_drop, List.length_take]
  omega
theorem rot_row {row : List Nat} (h : isRow row) (b : Int) : isRow (rotL row b) := by
  intro c hc
  unfold rotL at hc
  rcases List.mem_append.mp hc with q | q
  · exact h c (List.mem_of_mem_drop q)
  · exact h c (List.mem_of_mem_take q)
theorem reps_one (c n : Nat) : reps [c] n = List.replicate n c := by
  unfold reps
  induction n with
  | zero => rfl
  | succ n ih => rw [List.replicate_succ, List.flatten_cons, ih, List.replicate_succ]; rfl
theorem strkN_rises (row : List Nat) : (strkN row).Pairwise (· < ·) := List.Pairwise.filter _ List.pairwise_lt_range
theorem strk_rises (row : List Nat) : (strk row).Pairwise (· < ·) := by
  unfold strk
  rw [List.pairwise_map]
  exact (strkN_rises row).imp fun h => by omega
theorem mem_strkN {row : List Nat} {i : Nat} : i ∈ strkN row ↔ i < row.length ∧ row.getD i 46 ≠ 46 := by
  unfold strkN
  rw [List.mem_filter, List.mem_range]
  simp
theorem mem_strk {row : List Nat} {k : Int} : k ∈ strk row ↔ ∃ i : Nat, k = (i : Int) ∧ i < row.length ∧ row.getD i 46 ≠ 46 := by
  unfold strk
  rw [List.mem_map]
  constructor
  · rintro ⟨i, h, rfl⟩
    exact ⟨i, rfl, mem_strkN.mp h⟩
  · rintro ⟨i, rfl, h⟩
    exact ⟨i, mem_strkN.mpr h, rfl⟩
theorem strk_len (row : List Nat) : (strk row).length ≤ row.length := by
  unfold strk strkN
  rw [List.length_map]
  have := List.length_filter_le (fun i => !decide (row.getD i 46 = 46)) (List.range row.length)
  simpa using this
theorem at_get {row : List Nat} {i : Nat} (h : i < row.length) : row[i]? = some (row.getD i 46) := by
  rw [List.getD_eq_getElem?_getD, List.getElem?_eq_getElem h]
  rfl
end Dn
set_option Elab.async false
set_option linter.all false
set_option maxRecDepth 100000
/-! Rows: turning, least turns, gaps; in plain lists first. -/
namespace Dn
open PySem L2
local macro_rules | `(tactic| walk_at "dg") => `(tactic| first
  | with_reducible exact add_i _ _ | with_reducible exact sub_i _ _ | ((with_reducible refine mul_i ?_); omega) | ((with_reducible refine fdiv_i ?_); omega) | ((with_reducible refine mod_i ?_); omega) | with_reducible exact neg_i _
  | with_reducible exact lt_i _ _ | with_reducible exact le_i _ _ | with_reducible exact gt_i _ _ | with_reducible exact ge_i _ _ | with_reducible exact eq_i _ _ | with_reducible exact ne_i _ _ | with_reducible exact eq_s _ _ | with_reducible exact ne_s _ _
  | ((with_reducible refine add_s ?_); omega) | ((with_reducible refine add_t ?_); omega) | ((with_reducible refine add_l ?_); omega) | ((with_reducible refine mul_s ?_); omega) | ((with_reducible refine mul_l ?_); omega)
  | ((with_reducible refine len_s ?_); omega) | with_reducible exact len_t _ | with_reducible exact len_l _ | with_reducible exact len_c _ | with_reducible exact int_b _ | with_reducible exact int_i _ | with_reducible exact abs_i _
  | ((with_reducible refine sl_s ?_); omega) | with_reducible exact sl_t _ _ _ | with_reducible exact sl_l _ _ _ | ((with_reducible apply ix_t); (· omega); (· rfl)) | ((with_reducible apply ix_l); (· omega); (· rfl)) | with_reducible assumption)
local macro_rules | `(tactic| walk_at "dc") => `(tactic| with_reducible assumption)
local macro_rules | `(tactic| walk_at "dn") => `(tactic| first
  | with_reducible exact v_c | with_reducible exact v_nil | with_reducible exact v_no
  | ((with_reducible apply v_var); (· rfl); (· rfl))
  | ((with_reducible apply v_2); (· walk_at "dn"); (· walk_at "dn"); (· walk_at "dg"))
  | ((with_reducible apply v_1); (· walk_at "dn"); (· walk_at "dg"))
  | ((with_reducible apply v_cons); (· walk_at "dn"); (· walk_at "dn"))
  | ((with_reducible apply v_blt); (· walk_at "dn"); (· walk_at "dg"))
  | ((with_reducible apply v_call); (· walk_at "dn"); (· walk_at "dc"))
  | ((with_reducible apply v_tup); (· walk_at "dn"); (· first | decide | (simp only [List.length_cons, List.length_nil]; decide)))
  | ((with_reducible apply v_lst); (· walk_at "dn"); (· first | decide | (simp only [List.length_cons, List.length_nil]; decide)))
  | ((with_reducible apply v_po); (· walk_at "dn"))
  | ((with_reducible apply v_sl); (· walk_at "dn"); (· walk_at "dn"); (· walk_at "dn"); (· walk_at "dg"))
  | ((with_reducible apply v_m1); (· walk_at "dn"); (· walk_at "dn"); (· walk_at "dg"))
  | ((with_reducible apply v_b); (· walk_at "dn"))
  | ((with_reducible apply v_not); (· walk_at "dn"))
  | ((with_reducible apply v_notV); (· walk_at "dn"))
  | ((with_reducible apply v_rng1); (· walk_at "dn"); (· omega))
  | ((with_reducible apply v_rng2); (· walk_at "dn"); (· omega))
  | ((with_reducible apply v_it); (· walk_at "dn"))
  | ((with_reducible apply v_itl); (· walk_at "dn"))
  | ((with_reducible apply v_its); (· walk_at "dn"))
  | with_reducible assumption)
local macro_rules | `(tactic| walk_at "dt") => `(tactic| first
  | with_reducible exact v_c | with_reducible exact v_nil | with_reducible exact v_no
  | ((with_reducible apply v_var); (· rfl); (· rfl))
  | ((with_reducible apply v_2) <;> walk_at "dt")
  | ((with_reducible apply v_1) <;> walk_at "dt")
  | ((with_reducible apply v_cons) <;> walk_at "dt")
  | ((with_reducible apply v_blt) <;> walk_at "dt")
  | ((with_reducible apply v_call) <;> walk_at "dt")
  | ((with_reducible apply v_tup) <;> walk_at "dt")
  | ((with_reducible apply v_lst) <;> walk_at "dt")
  | ((with_reducible apply v_po) <;> walk_at "dt")
  | ((with_reducible apply v_sl) <;> walk_at "dt")
  | ((with_reducible apply v_m1) <;> walk_at "dt")
  | ((with_reducible apply v_b) <;> walk_at "dt")
  | ((with_reducible apply v_notV) <;> walk_at "dt")
  | ((with_reducible apply v_not) <;> walk_at "dt")
  | ((with_reducible apply v_rng1) <;> first | omega | walk_at "dt")
  | ((with_reducible apply v_rng2) <;> first | omega | walk_at "dt")
  | walk_at "dg"
  | (show List.length _ ≤ sizeLine; first | decide | (simp only [List.length_cons, List.length_nil]; decide))
  | skip)
local macro_rules | `(tactic| walk_at "ds") => `(tactic| first
  | ((with_reducible apply w_ss) <;> first | walk_at "d1" | skip)
  | ((with_reducible apply w_r) <;> first | walk_at "d1" | skip)
  | ((with_reducible apply w_sp) <;> first | walk_at "d1" | skip)
  | ((with_reducible apply w_so) <;> first | walk_at "d1" | skip)
  | (with_reducible apply w_sv)
  | (with_reducible apply w_sq))
local macro_rules | `(tactic| walk_at "dx") => `(tactic| simp only [put, jn, List.set_cons_zero, List.set_cons_succ])
noncomputable def m_gaps : En → Option Fl :=
  (fSeq (fSet 1 (fCall n_struck (fCons (fV 0) fNil)))
  (fSeq (fSet 2 (fTup fNil))
  (fSeq (fFor (fZip2 (fV 1) (f2 addD (fSl (fV 1) (fPo (fC (.int 1))) fNo) (fSl (fV 1) fNo (fPo (fC (.int 1)))))) (gT (gCons' (gN 3) (gCons' (gN 4) gNil')))
    (fSeq (fSet 5 (f2 modD (f2 subD (fV 4) (fV 3)) (fBlt lenG (fCons (fV 0) fNil))))
    (fSeq (fIfS (fB (f2 eqD (fV 5) (fC (.int 0))))
      (fSet 5 (fBlt lenG (fCons (fV 0) fNil)))
      fPass)
    (fSet 2 (f2 addD (fV 2) (fTup (fCons (fV 5) fNil)))))))
  (fRet (fV 2)))))
noncomputable def n_gaps : List D → Option D := semOf 6 1 m_gaps
noncomputable def m_turns_to : En → Option Fl :=
  (fSeq (fIfS (fB (f2 neD (fBlt lenG (fCons (fV 0) fNil)) (fBlt lenG (fCons (fV 1) fNil))))
    (fRet (fC .non))
    fPass)
  (fSeq (fFor (fRng1 (fCons (fBlt lenG (fCons (fV 0) fNil)) fNil)) (gN 2)
    (fIfS (fB (f2 eqD (fCall n_turned (fCons (fV 0) (fCons (fV 2) fNil))) (fV 1)))
      (fRet (fV 2))
      fPass))
  (fRet (fC .non))))
noncomputable def n_turns_to : List D → Option D := semOf 3 2 m_turns_to
theorem mod_sub (x a n : Int) : (x % n - a) % n = (x - a) % n := by
  rw [show x % n - a = x % n + (-a) by omega, Int.emod_add_emod]
  rfl
theorem mod_add (x a n : Int) : (x % n + a) % n = (x + a) % n := Int.emod_add_emod x n a
theorem mod_at {n : Nat} (h : 0 < n) (x : Int) : ∃ k : Nat, (k : Int) = x % n ∧ k < n := by
  have h1 := Int.emod_nonneg x (show (n : Int) ≠ 0 by omega)
  have h2 := Int.emod_lt_of_pos x (show (0 : Int) < (n : Int) by omega)
  exact ⟨(x % n).toNat, by omega, by omega⟩
theorem mod_small {x n : Int} (h0 : 0 ≤ x) (h : x < n) : x % n = x := Int.emod_eq_of_lt h0 h
theorem mod_one {x n : Int} (h0 : n ≤ x) (h : x < n + n) : x % n = x - n := by
  have : x = (x - n) + n := by omega
  rw [this, Int.add_emod_right, Int.emod_eq_of_lt (by omega) (by omega)]
  omega
theorem rot_get {row : List Nat} (b : Int) {i : Nat} (hi : i < row.length) : (rotL row b).getD i 46 = row.getD (((i : Int) - b) % row.length).toNat 46 := by
  obtain ⟨g, hg, hg2⟩ := mod_at (n := row.length) (by omega) (0 - b)
  have e : ((i : Int) - b) % row.length = ((g : Int) + i) % row.length := by
    rw [hg, mod_add]
    congr 1
    omega
  unfold rotL
  rw [e, ← hg, Int.toNat_natCast, List.getD_eq_getElem?_getD, List.getD_eq_getElem?_getD, List.getElem?_append]
  by_cases h : i < row.length - g
  · rw [if_pos (by rw [List.length_drop]; exact h), List.getElem?_drop, mod_small (by omega) (by omega)]
    congr 2
  · rw [if_neg (by rw [List.length_drop]; exact h), List.length_drop, List.getElem?_take, if_pos (by omega), mod_one (by omega) (by omega)]
    congr 2
    omega
theorem rot_add (row : List Nat) (a b : Int) : rotL (rotL row a) b = rotL row (a + b) := by
  refine row_ext (by rw [rot_len, rot_len, rot_len]) fun i hi => ?_
  rw [rot_len, rot_len] at hi
  obtain ⟨k, hk, hk2⟩ := mod_at (n := row.length) (by omega) ((i : Int) - b)
  rw [rot_get b (by rw [rot_len]; exact hi), rot_len, ← hk, Int.toNat_natCast, rot_get a hk2, hk, mod_sub, rot_get (a + b) hi]
  congr 3
  omega
theorem rot_congr (row : List Nat) {a b : Int} (h : a % row.length = b % row.length) : rotL row a = rotL row b := by
  refine row_ext (by rw [rot_len, rot_len]) fun i hi => ?_
  rw [rot_len] at hi
  rw [rot_get a hi, rot_get b hi, Int.sub_emod, h, ← Int.sub_emod]
theorem rot_zero (row : List Nat) : rotL row 0 = row := by
  unfold rotL
  simp
theorem rot_full (row : List Nat) : rotL row row.length = row := by
  rw [rot_congr row (b := 0) (by simp), rot_zero]
theorem rot_back (row : List Nat) (a : Int) : rotL (rotL row a) (0 - a) = row := by
  rw [rot_add, show a + (0 - a) = 0 by omega, rot_zero]
theorem rot_perm (row : List Nat) (b : Int) : (rotL row b).Perm row := by
  unfold rotL
  exact List.perm_append_comm.trans (by rw [List.take_append_drop])
theorem mem_turns {row : List Nat} (h : 0 < row.length) {y : List Nat} : y ∈ turnsL row ↔ ∃ k : Int, y = rotL row k := by
  unfold turnsL
  rw [List.mem_map]
  constructor
  · rintro ⟨k, _, rfl⟩
    exact ⟨_, rfl⟩
  · rintro ⟨k, rfl⟩
    obtain ⟨j, hj, hj2⟩ := mod_at h k
    refine ⟨j, List.mem_range.mpr hj2, rot_congr row ?_⟩
    rw [hj, Int.emod_emod_of_dvd _ (Int.dvd_refl _)]
theorem minS_le : ∀ (xs : List (List Nat)) (x : List Nat), ∀ y ∈ x :: xs, minOf ltS x xs ≤ y
  | [], x, y, h => by
    have : y = x := by simpa using h
    subst this
    exact List.le_refl _
  | z :: zs, x, y, h => by
    show minOf ltS (if ltS z x then z else x) zs ≤ y
    have ih := minS_le zs (if ltS z x then z else x)
    have h0 := ih _ List.mem_cons_self
    have hle : (if ltS z x then z else x) ≤ x ∧ (if ltS z x then z else x) ≤ z := by
      unfold ltS
      by_cases q : z < x
      · rw [decide_eq_true q]
        exact ⟨List.le_of_lt q, List.le_refl _⟩
      · rw [decide_eq_false q]
        exact ⟨List.le_refl _, List.not_lt.mp q⟩
    rcases List.mem_cons.mp h with rfl | h
    · exact List.le_trans h0 hle.1
    · rcases List.mem_cons.mp h with rfl | h
      · exact List.le_trans h0 hle.2
      · exact ih y (List.mem_cons_of_mem _ h)
theorem least_mem {row : List Nat} (h : 0 < row.length) : leastL row ∈ turnsL row := by
  obtain ⟨x, xs, e1, e2⟩ := turnsL_ne h
  rw [e2, e1]
  exact minOf_mem ltS xs x
theorem least_le {row : List Nat} (h : 0 < row.length) {y : List Nat} (hy : y ∈ turnsL row) : leastL row ≤ y := by
  obtain ⟨x, xs, e1, e2⟩ := turnsL_ne h
  rw [e2]
  rw [e1] at hy
  exact minS_le xs x y hy
theorem least_rot {row : List Nat} (h : 0 < row.length) (b : Int) : leastL (rotL row b) = leastL row := by
  have h' : 0 < (rotL row b).length := by rw [rot_len]; exact h
  refine List.le_antisymm (least_le h' ?_) (least_le h ?_)
  · obtain ⟨k, hk⟩ := (mem_turns h).mp (least_mem h)
    exact (mem_turns h').mpr ⟨k - b, by rw [rot_add, hk]; congr 1; omega⟩
  · obtain ⟨k, hk⟩ := (mem_turns h').mp (least_mem h')
    exact (mem_turns h).mpr ⟨b + k, by rw [hk, rot_add]⟩
theorem least_turn {row : List Nat} (h : 0 < row.length) : ∃ k : Int, leastL row = rotL row k := (mem_turns h).mp (least_mem h)
theorem least_len {row : List Nat} (h : 0 < row.length) : (leastL row).length = row.length := by
  obtain ⟨k, hk⟩ := least_turn h
  rw [hk, rot_len]
theorem least_iff {a b : List Nat} (ha : 0 < a.length) (hb : 0 < b.length) : leastL a = leastL b ↔ ∃ k : Int, b = rotL a k := by
  constructor
  · intro h
    obtain ⟨k, hk⟩ := least_turn ha
    obtain ⟨j, hj⟩ := least_turn hb
    refine ⟨k - j, ?_⟩
    rw [hk, hj] at h
    have := congrArg (fun r => rotL r (0 - j)) h
    simp only [rot_back, rot_add] at this
    rw [show k + (0 - j) = k - j by omega] at this
    rw [show j + (0 - j) = 0 by omega, rot_zero] at this
    exact this.symm
  · rintro ⟨k, rfl⟩
    exact (least_rot ha k).symm

/-! turns_to -/
def ttoL (a b : List Nat) : Option Nat := if a.length = b.length then (List.range a.length).find? fun k => decide (rotL a (k : Nat) = b) else none
def optD : Option Nat → D
  | none => .non
  | some k => .int (k : Nat)
theorem for_find {α : Type} {g : D → En → Option En} {B : En → Option Fl} (c : α → D) (p : α → Bool) (r : α → D) (J : En → Prop) : ∀ (xs : List α) (env : En), J env →
    (∀ x ∈ xs, ∀ e, J e → ∃ e1, g (c x) e = some e1 ∧ (p x = true → B e1 = some (.rt (r x))) ∧ (p x = false → ∃ e2, B e1 = some (.nx e2) ∧ J e2)) →
    match xs.find? p with
    | some x => forF g B (xs.map c) env = some (.rt (r x))
    | none => ∃ e', forF g B (xs.map c) env = some (.nx e') ∧ J e'
  | [], env, h, _ => ⟨env, rfl, h⟩
  | x :: xs, env, h, q => by
    obtain ⟨e1, a1, a2, a3⟩ := q x List.mem_cons_self env h
    cases hp : p x with
    | true =>
      rw [List.find?_cons_of_pos hp]
      exact w_forr a1 (a2 hp)
    | false =>
      obtain ⟨e2, b1, b2⟩ := a3 hp
      have ih := for_find c p r J xs e2 b2 fun y hy => q y (List.mem_cons_of_mem _ hy)
      rw [List.find?_cons_of_neg (by rw [hp]; decide)]
      cases hf : xs.find? p with
      | some y =>
        rw [hf] at ih
        exact w_forc a1 b1 ih
      | none =>
        rw [hf] at ih
        obtain ⟨e', i1, i2⟩ := ih
        exact ⟨e', w_forc a1 b1 i1, i2⟩
theorem e_turns {a b : List Nat} (h : 0 < a.length) (h2 : a.length ≤ 1000) (h3 : b.length ≤ 1000) : n_turns_to [.str a, .str b] = some (optD (ttoL a b)) := by
  have w : ∀ fl : Option D, (∃ d, fl = some d ∧ m_turns_to [some (.str a), some (.str b), none] = some (.rt d)) → n_turns_to [.str a, .str b] = fl := by
    rintro fl ⟨d, rfl, q⟩
    exact sem_rt rfl q
  refine w _ ⟨_, rfl, ?_⟩
  unfold m_turns_to ttoL
  by_cases hl : a.length = b.length
  · rw [if_pos hl]
    refine w_seq (w_iff (w_nf (by walk_at "dn") (by walk_at "dn") (by rw [hl]) rfl) w_pass) ?_
    have key := for_find (g := gN 2) (B := fIfS (fB (f2 eqD (fCall n_turned (fCons (fV 0) (fCons (fV 2) fNil))) (fV 1))) (fRet (fV 2)) fPass) (fun i : Nat => D.int (i : Nat)) (fun k => decide (rotL a (k : Nat) = b)) (fun k => .int (k : Nat))
      (fun e => ∃ x, e = [some (.str a), some (.str b), x]) (List.range a.length) [some (.str a), some (.str b), none] ⟨none, rfl⟩ ?_
    · cases hf : (List.range a.length).find? fun k => decide (rotL a (k : Nat) = b) with
      | some k =>
        rw [hf] at key
        exact w_ret (w_for (v_rng1 (n := (a.length : Int)) (by walk_at "dn") (by omega)) key)
      | none =>
        rw [hf] at key
        obtain ⟨e', k1, x, rfl⟩ := key
        exact w_seq (w_for (v_rng1 (n := (a.length : Int)) (by walk_at "dn") (by omega)) k1) (ret_of v_c)
    · rintro k hk e ⟨x, rfl⟩
      refine ⟨[some (.str a), some (.str b), some (.int (k : Nat))], rfl, fun hp => ?_, fun hp => ⟨[some (.str a), some (.str b), some (.int (k : Nat))], ?_, _, rfl⟩⟩
      · refine w_ift (v_b (v_2 (v_call (by walk_at "dn") (e_turned h (by omega))) (by walk_at "dn") ?_)) (ret_of (by walk_at "dn"))
        rw [eq_s, hp]
      · refine w_iff (v_b (v_2 (v_call (by walk_at "dn") (e_turned h (by omega))) (by walk_at "dn") ?_)) w_pass
        rw [eq_s, hp]
  · rw [if_neg hl]
    refine w_ret (w_ift (v_b (v_2 (by walk_at "dn") (by walk_at "dn") ?_)) (ret_of v_c))
    rw [ne_i, decide_eq_false (by omega)]
    rfl
theorem tto_some {a b : List Nat} {k : Nat} (h : ttoL a b = some k) : k < a.length ∧ rotL a (k : Nat) = b ∧ ∀ j < k, rotL a (j : Nat) ≠ b := by
  unfold ttoL at h
  by_cases hl : a.length = b.length
  · rw [if_pos hl] at h
    rw [List.find?_range_eq_some] at h
    simp at h
    exact ⟨h.2.1, h.1, fun j hj => h.2.2 j hj⟩
  · rw [if_neg hl] at h
    cases h
theorem tto_none {a b : List Nat} (h0 : 0 < a.length) (h : ttoL a b = none) (k : Int) : rotL a k ≠ b := by
  intro q
  unfold ttoL at h
  rw [if_pos (by rw [← q, rot_len])] at h
  rw [List.find?_eq_none] at h
  obtain ⟨j, hj, hj2⟩ := mod_at h0 k
  refine h j (List.mem_range.mpr hj2) ?_
  rw [decide_eq_true_eq, ← q]
  refine rot_congr a ?_
  rw [hj, Int.emod_emod_of_dvd _ (Int.dvd_refl _)]
theorem tto_of {a b : List Nat} (h0 : 0 < a.length) {k : Int} (h : rotL a k = b) : ∃ j, ttoL a b = some j := by
  cases e : ttoL a b with
  | some j => exact ⟨j, rfl⟩
  | none => exact absurd h (tto_none h0 e k)

/-! sorted -/
def sortI (ns : List Int) : List Int := ns.mergeSort fun a b => decide (a ≤ b)
theorem sortI_perm (ns : List Int) : (sortI ns).Perm ns := List.mergeSort_perm _ _
theorem sortI_rises (ns : List Int) : (sortI ns).Pairwise (· ≤ ·) := by
  have h1 : (sortI ns).Pairwise fun a b => decide (a ≤ b) = true := List.pairwise_mergeSort (fun a b c h h' => by simp at *; omega) (fun a b => by simp; omega) _
  exact h1.imp fun h => by simpa using h
theorem sortI_of {ns ms : List Int} (h : ms.Perm ns) (hr : ms.Pairwise (· ≤ ·)) : sortI ns = ms :=
  List.Perm.eq_of_pairwise (le := fun a b : Int => a ≤ b) (fun a b _ _ h h' => by omega) (sortI_rises ns) hr ((sortI_perm ns).trans h.symm)
theorem sortI_eq {ns ms : List Int} (h : ms.Perm ns) : sortI ms = sortI ns := (sortI_of ((sortI_perm ms).trans h) (sortI_rises ms)).symm
theorem srt_ints (ns : List Int) : srtOk (ns.map D.int) = true := by
  unfold srtOk
  rw [Bool.and_eq_true, Bool.or_eq_true]
  refine ⟨?_, .inr ?_⟩
  · rw [List.all_eq_true]
    intro x hx
    obtain ⟨i, _, rfl⟩ := List.mem_map.mp hx
    rw [Bool.and_eq_true]
    refine ⟨rfl, ?_⟩
    rw [List.all_eq_true]
    intro y hy
    obtain ⟨j, _, rfl⟩ := List.mem_map.mp hy
    simp only [toP, PySem.W.alike]
  · rw [List.all_eq_true]
    intro x hx
    obtain ⟨i, _, rfl⟩ := List.mem_map.mp hx
    rfl
theorem srt_mapI (ns : List Int) : (ns.map D.int).mergeSort leP = (sortI ns).map D.int := by
  unfold sortI
  rw [List.map_mergeSort (r := fun a b => decide (a ≤ b)) (s := leP) (f := D.int)]
  intro a _ b _
  unfold leP PySem.W.dataLe
  have := congrFun (congrFun (PySem.W.dataLe_int (fun x : Int => x)) a) b
  simp only [PySem.W.dataLe] at this
  rw [← this]
  simp only [PySem.W.sortLe, toP]
theorem sort_li (ns : List Int) : sortedG [.lst (ns.map D.int)] = some (.lst ((sortI ns).map D.int)) := by
  show (if _ then _ else _) = _
  rw [if_pos (srt_ints ns), srt_mapI]
theorem sort_ti (ns : List Int) : sortedG [.tup (ns.map D.int)] = some (.lst ((sortI ns).map D.int)) := by
  show (if _ then _ else _) = _
  rw [if_pos (srt_ints ns), srt_mapI]
end Dn
set_option Elab.async false
set_option linter.all false
set_option maxRecDepth 100000
/-! Part I: lists that a slot owns: made, written, told as plain ones. -/
namespace Dn
open PySem L2 PySem.Spec PyProof.Rows

def tN (K : PySem.W.Frag) (f : En → Option (List D)) : TE := fun σ H Q => ∃ H0 env Hb ds, Rel K H0 Hb H σ env ∧ Same Hb H ∧ f env = some ds ∧
  ∀ a vs Hb' H', Step Hb H Hb' H' → H a = none → Hb' a = none → H' a = some (.lst vs) → IsL K Hb' ds vs → Q (.ref a) H'
section
variable {X : Cx} {a b e o : Expr} {es : List Expr} {pos apos cpos tpos : Pos} {fa fb fv : En → Option D} {fs fn : En → Option (List D)} {F : En → Option Fl} {sts : List Stmt}
def fNL (fs : En → Option (List D)) : En → Option (List D) := fun env => (fs env).bind fun ds => if ds.length ≤ sizeLine then some ds else none
theorem n_lst (h : PA X es (tA X.K fs)) : PE X (.List es pos) (tN X.K (fNL fs)) := PE_weak (pe_lst h) fun σ H Q hh => by
  obtain ⟨H0, env, Hb, d, r, sm, ef, q⟩ := hh
  obtain ⟨ds, es, eg⟩ := bind1 ef
  obtain ⟨hl, rfl⟩ := iteS eg
  exact ⟨H0, env, Hb, ds, r, sm, es, fun vs Hb1 H1 s1 ix => ⟨by rw [ix.length]; exact hl, fun p hp =>
    q p vs Hb1 _ (s1.trans (Step.hid s1.c hp (s1.c.free hp))) (s1.a.free hp) (s1.c.free hp) upd_same ix⟩⟩
def mulN : D → D → Option (List D)
  | .lst x, .int n => if x.length ≤ 1000000 ∧ -1000000 ≤ n ∧ n ≤ 1000000 ∧ x.length * n.toNat ≤ 1000000 then some (reps x n.toNat) else none
  | _, _ => none
def fNM (fa fb : En → Option D) : En → Option (List D) := fun env => (fa env).bind fun a => (fb env).bind fun b => mulN a b
theorem n_mul (ha : PE X a (tD X.K fa)) (hb : PE X b (tD X.K fb)) : PE X (.BinOp a .Mult b pos) (tN X.K (fNM fa fb)) := PE_weak (pe_op op_rep ha hb) fun σ H Q hh => by
  obtain ⟨H0, env, Hb, d, r, sm, ef, q⟩ := hh
  obtain ⟨da, db, ea, eb, eg⟩ := bind2 ef
  refine ⟨H0, env, Hb, da, r, sm, ea, fun x Hb1 H1 s1 ix => ⟨H0, env, Hb1, db, r.step s1, s1.c, eb, fun y Hb2 H2 s2 iy => ?_⟩⟩
  unfold mulN at eg
  split at eg
  · obtain ⟨⟨h1, h2, h3, h4⟩, rfl⟩ := iteS eg
    have ix' := ix.mono s2.b
    simp only [Is] at ix' iy
    obtain ⟨p, xs, rfl, hx, lx⟩ := ix'
    subst iy
    have s12 := s1.trans s2
    refine ⟨p, _, xs, rfl, rfl, s2.c _ _ hx, by omega, by omega, ?_, fun z hz => q z _ Hb2 _ (s12.trans (Step.hid s2.c hz (s2.c.free hz))) (s12.a.free hz) (s2.c.free hz) upd_same ?_⟩
    · refine Nat.le_trans ?_ size1000
      rw [lx.length]
      exact h4
    · unfold reps
      generalize Int.toNat _ = m
      induction m with
      | zero => simp [IsL]
      | succ m ih =>
        rw [List.replicate_succ, List.replicate_succ, List.flatten_cons, List.flatten_cons]
        exact lx.append ih
  · cases eg

/-! ### slots that own -/
theorem Rel.own {K : PySem.W.Frag} {H0 Hb H Hb' H' : Hp} {σ : L2.St} {env : En} (r : Rel K H0 Hb H σ env) (s : Step Hb H Hb' H') (i : Nat) {p : Addr} {d : D} (hp : H p = none) (hd : IsS K H0 Hb' H' d (.ref p)) : Rel K H0 Hb' H' (σ.set i (some (.ref p))) (env.set i (some d)) := by
  have r' := r.step s
  have ownA : ∀ (j : Nat) (e : D) (q : Addr), env[j]? = some (some e) → e.isOwn = true → σ[j]? = some (some (.ref q)) → q ≠ p := fun j e q he ho hs z => by
    obtain ⟨v, h1, h2⟩ := r.val j e he
    rw [hs] at h1
    cases h1
    cases e with
    | own ds =>
      obtain ⟨a, vs, e1, e2, e3, e4, e5⟩ := h2
      cases e1
      rw [z, hp] at e4
      cases e4
    | ownd ds =>
      obtain ⟨a, vs, e1, e2, e3, e4, e5⟩ := h2
      cases e1
      rw [z, hp] at e4
      cases e4
    | _ => cases ho
  refine ⟨by rw [List.length_set, List.length_set, r.len], fun j e q => ?_, fun j k e e' a ne q1 q2 o1 o2 s1 s2 => ?_⟩
  · by_cases hj : i = j
    · subst hj
      have hi : i < env.length := by
        have := (List.getElem?_eq_some_iff.mp q).1
        rw [List.length_set] at this
        exact this
      rw [List.getElem?_set_self hi] at q
      cases q
      exact ⟨_, List.getElem?_set_self (by rw [r.len]; exact hi), hd⟩
    · rw [List.getElem?_set_ne hj] at q
      obtain ⟨w, a, b⟩ := r'.val j e q
      exact ⟨w, by rw [List.getElem?_set_ne hj]; exact a, b⟩
  · have hset : ∀ (m : Nat), i = m → (σ.set i (some (.ref p)))[m]? = some (some (.ref a)) → a = p := fun m hm hs => by
      subst hm
      have hi : i < σ.length := by
        have := (List.getElem?_eq_some_iff.mp hs).1
        rw [List.length_set] at this
        exact this
      rw [List.getElem?_set_self hi] at hs
      cases hs
      rfl
    by_cases hj : i = j
    · have := hset j hj s1
      subst this
      rw [List.getElem?_set_ne (by omega)] at q2 s2
      exact ownA k e' _ q2 o2 s2 rfl
    · by_cases hk : i = k
      · have := hset k hk s2
        subst this
        rw [List.getElem?_set_ne hj] at q1 s1
        exact ownA j e _ q1 o1 s1 rfl
      · rw [List.getElem?_set_ne hj] at q1 s1
        rw [List.getElem?_set_ne hk] at q2 s2
        exact r.sep j k e e' a ne q1 q2 o1 o2 s1 s2
def fOwn (i : Nat) (fn : En → Option (List D)) : En → Option Fl := fun env => (fn env).bind fun ds => some (.nx (env.set i (some (.own ds))))
theorem s_own (i : Nat) {x : Str} {pos' : Pos} (hN : X.N.Nodup) (he : PE X e (tN X.K fn)) (hi : X.N[i]? = some x := by rfl) (hx : Loc X.env.scope x := by first | exact Or.inl rfl | exact Or.inr rfl) (hs : swapsWith e (some (.Name x pos')) pos.line X.env = pure false := by rfl)
    (hf : X.fn x = true ∨ X.env.scope.names.lookup x = some .local := by first | exact .inl rfl | exact .inr rfl) : PS X (.Assign [.Name x pos'] e pos) (tS X.K (fOwn i fn)) := PS_weak (ps_set hN hi hx he hs hf) fun N σ H h => by
  obtain ⟨H0, Hb0, env, Hb, fl, r, sp, ef, out⟩ := h
  obtain ⟨ds, ed, ef⟩ := bind1 ef
  cases ef
  exact ⟨H0, env, Hb, ds, r, sp.c, ed, fun p vs Hb1 H1 s1 hp hb h1 il => out _ Hb1 H1 (r.own s1 i hp ⟨p, vs, rfl, sp.a.free hp, hb, h1, il⟩) (sp.trans s1)⟩
/-- an owned object is rewritten -/
theorem Rel.put {K : PySem.W.Frag} {H0 Hb H : Hp} {σ : L2.St} {env : En} (r : Rel K H0 Hb H σ env) {i : Nat} {p : Addr} {d d' : D} {ob : HO} (hi : env[i]? = some (some d)) (hd : d.isOwn = true) (hs : σ[i]? = some (some (.ref p))) (hd2 : d'.isOwn = true) (hn : IsS K H0 Hb (upd H p ob) d' (.ref p)) : Rel K H0 Hb (upd H p ob) σ (env.set i (some d')) := by
  have hlt := (List.getElem?_eq_some_iff.mp hi).1
  have other : ∀ (j : Nat) (e : D), i ≠ j → env[j]? = some (some e) → e.isOwn = true → σ[j]? ≠ some (some (.ref p)) := fun j e hne he ho hz => r.sep i j d e p hne hi he hd ho hs hz
  refine ⟨by rw [List.length_set, r.len], fun j e q => ?_, fun j k e e' a ne q1 q2 o1 o2 s1 s2 => ?_⟩
  · by_cases hj : i = j
    · subst hj
      rw [List.getElem?_set_self hlt] at q
      cases q
      exact ⟨_, hs, hn⟩
    · rw [List.getElem?_set_ne hj] at q
      obtain ⟨w, a, b⟩ := r.val j e q
      refine ⟨w, a, ?_⟩
      cases ho : e.isOwn with
      | false =>
        rw [IsS.plain ho] at b ⊢
        exact b
      | true =>
        have := other j e hj q ho
        cases e with
        | own ds =>
          obtain ⟨z, vs, e1, e2, e3, e4, e5⟩ := b
          refine ⟨z, vs, e1, e2, e3, ?_, e5⟩
          rw [upd_ne fun hz => this (by rw [a, e1, hz])]
          exact e4
        | ownd ds =>
          obtain ⟨z, vs, e1, e2, e3, e4, e5⟩ := b
          refine ⟨z, vs, e1, e2, e3, ?_, e5⟩
          rw [upd_ne fun hz => this (by rw [a, e1, hz])]
          exact e4
        | _ => cases ho
  · have key : ∀ (m : Nat) (x : D), (env.set i (some d'))[m]? = some (some x) → x.isOwn = true → ∃ y, env[m]? = some (some y) ∧ y.isOwn = true := fun m x q o => by
      by_cases hm : i = m
      · subst hm
        exact ⟨d, hi, hd⟩
      · rw [List.getElem?_set_ne hm] at q
        exact ⟨x, q, o⟩
    obtain ⟨y, y1, y2⟩ := key j e q1 o1
    obtain ⟨z, z1, z2⟩ := key k e' q2 o2
    exact r.sep j k y z a ne y1 z1 y2 z2 s1 s2
theorem Step.put {Hb0 H0 Hb H : Hp} (s : Step Hb0 H0 Hb H) {p : Addr} {ob : HO} (h0 : H0 p = none) (hb : Hb p = none) : Step Hb0 H0 Hb (upd H p ob) :=
  ⟨fun b x e => by rw [upd_ne (ne_of_none e h0)]; exact s.a b x e, s.b, fun b x e => by rw [upd_ne (ne_of_none e hb)]; exact s.c b x e, s.f, s.t⟩
/-- x[k] = v -/
def itemF (i : Nat) (k d : D) (env : En) : Option Fl := match env[i]?, k with
  | some (some (.own ds)), .int k => (ixN ds.length k).bind fun j => some (.nx (env.set i (some (.own (ds.set j d)))))
  | _, _ => none
def fItem (i : Nat) (fk fv : En → Option D) : En → Option Fl := fun env => (fv env).bind fun d => (fk env).bind fun k => itemF i k d env
theorem s_item (i : Nat) {x : Str} {xpos : Pos} {k : Expr} {fk : En → Option D} (hv : PE X e (tD X.K fv)) (hk : PE X k (tD X.K fk)) (hi : X.N[i]? = some x := by rfl) (hvis : Vis X.env.scope x := by first | exact Or.inl rfl | exact Or.inr (Or.inl rfl) | exact Or.inr (Or.inr rfl))
    (hd : (x == ("__debug__" : Str)) = false := by decide) (hcd : (x == ("__classdict__" : Str)) = false := by decide)
    (ha : ∀ v, assign (.Subscript (.Name x xpos) k tpos) X.env v = (do
      let ov ← holding [v] (eval (.Name x xpos) X.env)
      let iv ← holding [v, ov] (eval k X.env)
      standAt tpos
      holding [v, ov, iv] (setItem ov iv v)
      release [v, ov, iv] []) := by intro _; rfl)
    (hs : swapsWithSole [.Subscript (.Name x xpos) k tpos] e pos.line X.env = pure false := by rfl) (hw : swappedStores [.Subscript (.Name x xpos) k tpos] e X.env = pure none := by rfl)
    (h1 : (assignEach [.Subscript (.Name x xpos) k tpos] X.env).map (·.2) = [assign (.Subscript (.Name x xpos) k tpos) X.env] := by rfl) :
    PS X (.Assign [.Subscript (.Name x xpos) k tpos] e pos) (tS X.K (fItem i fk fv)) := PS_weak (ps_asg hv (pg_sub (pe_var hi hvis hd hcd) hk set_list ha) hs hw h1) fun N σ H h => by
  obtain ⟨H0, Hb0, env, Hb, fl, r, sp, ef, out⟩ := h
  obtain ⟨d, ed, ef⟩ := bind1 ef
  obtain ⟨kd, ek, ef⟩ := bind1 ef
  refine ⟨H0, env, Hb, d, r, sp.c, ed, fun v Hb1 H1 s1 iv => ?_⟩
  unfold itemF at ef
  split at ef
  · rename_i ds k0 hslot
    obtain ⟨j, hj, ef⟩ := bind1 ef
    cases ef
    obtain ⟨w, hσ, hown⟩ := r.val i _ hslot
    obtain ⟨p, vs, rfl, _⟩ := id hown
    refine ⟨_, hσ, H0, env, Hb1, .int k0, r.step s1, s1.c, ek, fun y Hb2 H2 s2 iy => ?_⟩
    simp only [Is] at iy
    subst iy
    have s12 := s1.trans s2
    obtain ⟨p', vs, e1, e2, e3, e4, e5⟩ := hown.step s12
    cases e1
    refine ⟨p, vs, k0, j, rfl, rfl, e4, by rw [e5.length]; exact hj, out _ Hb2 _ (((r.step s12).put (i := i) hslot rfl hσ (d' := .own (ds.set j d)) rfl ?_)) ((sp.trans s12).put e2 e3)⟩
    exact ⟨p, _, rfl, e2, e3, upd_same, IsL.set j e5 (iv.mono s2.b)⟩
  · cases ef
/-- x.append(v) -/
def appF (i : Nat) (d : D) (env : En) : Option Fl := match env[i]? with
  | some (some (.own ds)) => if ds.length < 1000000 then some (.nx (env.set i (some (.own (ds ++ [d]))))) else none
  | _ => none
def fApp (i : Nat) (fv : En → Option D) : En → Option Fl := fun env => (fv env).bind fun d => appF i d env
theorem s_app (i : Nat) {x : Str} {xpos : Pos} (hv : PE X e (tD X.K fv)) (hi : X.N[i]? = some x := by rfl) (hvis : Vis X.env.scope x := by first | exact Or.inl rfl | exact Or.inr (Or.inl rfl) | exact Or.inr (Or.inr rfl))
    (hd : (x == ("__debug__" : Str)) = false := by decide) (hcd : (x == ("__classdict__" : Str)) = false := by decide)
    (hbase : attributeBase (.Name x xpos) "append" X.env (eval (.Name x xpos) X.env) = eval (.Name x xpos) X.env := by rfl)
    (hfew : ((backTo cpos (starEach [e] X.env)).all (fun x => !x.1) && (backToKw cpos (keywordEach [] X.env)).all (fun x => x.1.isSome)
      && decide (([e] : List Expr).length + ([] : List Keyword).length + (if ([] : List Keyword).isEmpty then 0 else 1) < 30)) = true := by rfl)
    (hline : (apos.endLine == cpos.line) = true := by rfl) (hs : starEach [e] X.env = (false, eval e X.env) :: starEach [] X.env := by rfl) (hplain : (backTo cpos (starEach [] X.env)).any (·.1) = false := by rfl)
    (hsw : swapsWith (.Call (.Attribute (.Name x xpos) "append" apos) [e] [] cpos) none pos.line X.env = pure false := by rfl) :
    PS X (.Expr (.Call (.Attribute (.Name x xpos) "append" apos) [e] [] cpos) pos) (tS X.K (fApp i fv)) :=
  PS_weak (ps_expr (pe_bm F.plainAttrs_list F.slot_list_append F.type_list_append mt_append (pe_var hi hvis hd hcd) (pa_cons hv pa_nil hs) hbase hfew hline hs hplain) hsw) fun N σ H h => by
  obtain ⟨H0, Hb0, env, Hb, fl, r, sp, ef, out⟩ := h
  obtain ⟨d, ed, ef⟩ := bind1 ef
  unfold appF at ef
  split at ef
  · rename_i ds hslot
    obtain ⟨hl, hfl⟩ := iteS ef
    subst hfl
    obtain ⟨w, hσ, hown⟩ := r.val i _ hslot
    obtain ⟨p, vs, rfl, a2, a3, a4, a5⟩ := id hown
    refine ⟨_, hσ, .inl ⟨rfl, vs, .inl (.inl a4)⟩, H0, env, Hb, d, r, sp.c, ed, fun v Hb1 H1 s1 iv => ?_⟩
    obtain ⟨p', vs, e1, e2, e3, e4, e5⟩ := hown.step s1
    cases e1
    refine ⟨p, vs, v, rfl, rfl, e4, by rw [e5.length]; exact Nat.lt_of_lt_of_le hl size1000, out _ Hb1 _ ((r.step s1).put (i := i) hslot rfl hσ (d' := .own (ds ++ [d])) rfl ?_) ((sp.trans s1).put e2 e3)⟩
    refine ⟨p, _, rfl, e2, e3, upd_same, e5.append ?_⟩
    simp only [IsL]
    exact ⟨v, [], rfl, iv, rfl⟩
  · cases ef
/-- x.extend(v), v a list -/
def extF (i : Nat) (d : D) (env : En) : Option Fl := match env[i]?, d with
  | some (some (.own ds)), .lst es => if ds.length + es.length ≤ 1000000 then some (.nx (env.set i (some (.own (ds ++ es))))) else none
  | _, _ => none
def fExt (i : Nat) (fv : En → Option D) : En → Option Fl := fun env => (fv env).bind fun d => extF i d env
theorem s_ext (i : Nat) {x : Str} {xpos : Pos} (hv : PE X e (tD X.K fv)) (hi : X.N[i]? = some x := by rfl) (hvis : Vis X.env.scope x := by first | exact Or.inl rfl | exact Or.inr (Or.inl rfl) | exact Or.inr (Or.inr rfl))
    (hd : (x == ("__debug__" : Str)) = false := by decide) (hcd : (x == ("__classdict__" : Str)) = false := by decide)
    (hbase : attributeBase (.Name x xpos) "extend" X.env (eval (.Name x xpos) X.env) = eval (.Name x xpos) X.env := by rfl)
    (hfew : ((backTo cpos (starEach [e] X.env)).all (fun x => !x.1) && (backToKw cpos (keywordEach [] X.env)).all (fun x => x.1.isSome)
      && decide (([e] : List Expr).length + ([] : List Keyword).length + (if ([] : List Keyword).isEmpty then 0 else 1) < 30)) = true := by rfl)
    (hline : (apos.endLine == cpos.line) = true := by rfl) (hs : starEach [e] X.env = (false, eval e X.env) :: starEach [] X.env := by rfl) (hplain : (backTo cpos (starEach [] X.env)).any (·.1) = false := by rfl)
    (hsw : swapsWith (.Call (.Attribute (.Name x xpos) "extend" apos) [e] [] cpos) none pos.line X.env = pure false := by rfl) :
    PS X (.Expr (.Call (.Attribute (.Name x xpos) "extend" apos) [e] [] cpos) pos) (tS X.K (fExt i fv)) :=
  PS_weak (ps_expr (pe_bm F.plainAttrs_list F.slot_list_extend F.type_list_extend mt_extend (pe_var hi hvis hd hcd) (pa_cons hv pa_nil hs) hbase hfew hline hs hplain) hsw) fun N σ H h => by
  obtain ⟨H0, Hb0, env, Hb, fl, r, sp, ef, out⟩ := h
  obtain ⟨d, ed, ef⟩ := bind1 ef
  unfold extF at ef
  split at ef
  · rename_i ds es hslot
    obtain ⟨hl, hfl⟩ := iteS ef
    subst hfl
    obtain ⟨w, hσ, hown⟩ := r.val i _ hslot
    obtain ⟨p, vs, rfl, a2, a3, a4, a5⟩ := id hown
    refine ⟨_, hσ, .inl ⟨rfl, vs, .inl (.inl a4)⟩, H0, env, Hb, _, r, sp.c, ed, fun v Hb1 H1 s1 iv => ?_⟩
    simp only [Is] at iv
    obtain ⟨q, ws, rfl, hq, lq⟩ := iv
    obtain ⟨p', vs, e1, e2, e3, e4, e5⟩ := hown.step s1
    cases e1
    refine ⟨p, q, vs, ws, rfl, rfl, e4, s1.c _ _ hq, by rw [e5.length, lq.length]; exact Nat.le_trans hl size1000, out _ Hb1 _ ((r.step s1).put (i := i) hslot rfl hσ (d' := .own (ds ++ es)) rfl ?_) ((sp.trans s1).put e2 e3)⟩
    exact ⟨p, _, rfl, e2, e3, upd_same, e5.append lq⟩
  · cases ef
/-- an owned list is a plain one from here on -/
def fFrz (i : Nat) : En → Option Fl := fun env => match env[i]? with
  | some (some (.own ds)) => some (.nx (env.set i (some (.lst ds))))
  | some (some (.ownd ds)) => some (.nx (env.set i (some (.dct ds))))
  | _ => none
theorem Rel.frz {K : PySem.W.Frag} {H0 Hb H : Hp} {σ : L2.St} {env : En} (r : Rel K H0 Hb H σ env) {i : Nat} {p : Addr} {d d' : D} {ob : HO} (hi : env[i]? = some (some d)) (hd : d.isOwn = true) (hs : σ[i]? = some (some (.ref p))) (hb : Hb p = none) (hn : Is K (upd Hb p ob) d' (.ref p)) : Rel K H0 (upd Hb p ob) H σ (env.set i (some d')) := by
  have hlt := (List.getElem?_eq_some_iff.mp hi).1
  have hd' : d'.isOwn = false := by cases d' <;> first | rfl | (simp only [Is] at hn)
  refine ⟨by rw [List.length_set, r.len], fun j e q => ?_, fun j k e e' a ne q1 q2 o1 o2 s1 s2 => ?_⟩
  · by_cases hj : i = j
    · subst hj
      rw [List.getElem?_set_self hlt] at q
      cases q
      refine ⟨_, hs, ?_⟩
      rw [IsS.plain hd']
      exact hn
    · rw [List.getElem?_set_ne hj] at q
      obtain ⟨w, a, b⟩ := r.val j e q
      refine ⟨w, a, ?_⟩
      cases ho : e.isOwn with
      | false =>
        rw [IsS.plain ho] at b ⊢
        exact b.mono (same_new hb)
      | true =>
        have ne : ∀ z, w = .ref z → z ≠ p := fun z hz e2 => r.sep i j d e p hj hi q hd ho hs (by rw [a, hz, e2])
        cases e with
        | own ds =>
          obtain ⟨z, vs, e1, e2, e3, e4, e5⟩ := b
          exact ⟨z, vs, e1, e2, by rw [upd_ne (ne z e1)]; exact e3, e4, e5.mono (same_new hb)⟩
        | ownd ds =>
          obtain ⟨z, vs, e1, e2, e3, e4, e5⟩ := b
          exact ⟨z, vs, e1, e2, by rw [upd_ne (ne z e1)]; exact e3, e4, e5.mono (same_new hb)⟩
        | _ => cases ho
  · have key : ∀ (m : Nat) (x : D), (env.set i (some d'))[m]? = some (some x) → x.isOwn = true → env[m]? = some (some x) := fun m x q o => by
      by_cases hm : i = m
      · subst hm
        rw [List.getElem?_set_self hlt] at q
        cases q
        rw [hd'] at o
        cases o
      · rw [List.getElem?_set_ne hm] at q
        exact q
    exact r.sep j k e e' a ne (key j e q1 o1) (key k e' q2 o2) o1 o2 s1 s2
theorem Step.frz {Hb0 H0 Hb H : Hp} (s : Step Hb0 H0 Hb H) {p : Addr} {ob : HO} (h0 : H0 p = none) (hb : Hb p = none) (h : H p = some ob) (ht : ∀ ps, ob ≠ .tbl ps := by intro _ z; cases z) : Step Hb0 H0 (upd Hb p ob) H :=
  ⟨s.a, s.b.trans (same_new hb), fun b x e => by
    by_cases hz : b = p
    · subst hz
      rw [upd_same] at e
      rw [h, e]
    · rw [upd_ne hz] at e
      exact s.c b x e, fun q x e n => by
    rw [upd_ne (ne_of_none e h0)]
    exact s.f q x e n, fun n => (s.t n).upd ht⟩
theorem Step.frzD {Hb0 H0 Hb H : Hp} (s : Step Hb0 H0 Hb H) {p : Addr} {ob : HO} (h0 : H0 p = none) (hb : Hb p = none) (ht : ∀ ps, ob ≠ .tbl ps := by intro _ z; cases z) : Step Hb0 H0 (upd Hb p ob) (upd H p ob) :=
  ⟨fun b x e => by
    rw [upd_ne (ne_of_none e h0)]
    exact s.a b x e, s.b.trans (same_new hb), same_upd2 s.c, fun q x e n => by
    rw [upd_ne (ne_of_none e h0)]
    exact s.f q x e n, fun n => (s.t n).upd ht⟩
/-- an owned object is locked: the others stay -/
theorem Rel.lock {K : PySem.W.Frag} {H0 Hb H : Hp} {σ : L2.St} {env : En} (r : Rel K H0 Hb H σ env) {i : Nat} {p : Addr} {d d' : D} {ob : HO} (hi : env[i]? = some (some d)) (hd : d.isOwn = true) (hs : σ[i]? = some (some (.ref p))) (hb : Hb p = none) (hn : Is K (upd Hb p ob) d' (.ref p)) : Rel K H0 (upd Hb p ob) (upd H p ob) σ (env.set i (some d')) := by
  have r' := r.frz hi hd hs hb hn
  have hlt := (List.getElem?_eq_some_iff.mp hi).1
  refine ⟨r'.len, fun j e q => ?_, r'.sep⟩
  obtain ⟨w, a, b⟩ := r'.val j e q
  refine ⟨w, a, ?_⟩
  cases ho : e.isOwn with
  | false =>
    rw [IsS.plain ho] at b ⊢
    exact b
  | true =>
    have hij : i ≠ j := fun z => by
      subst z
      rw [List.getElem?_set_self hlt] at q
      cases q
      have : d'.isOwn = false := by cases d' <;> first | rfl | (simp only [Is] at hn)
      rw [this] at ho
      cases ho
    have q' := q
    rw [List.getElem?_set_ne hij] at q'
    have ne : ∀ z, w = .ref z → z ≠ p := fun z hz e2 => r.sep i j d e p hij hi q' hd ho hs (by rw [a, hz, e2])
    cases e with
    | own ds =>
      obtain ⟨z, vs, e1, e2, e3, e4, e5⟩ := b
      exact ⟨z, vs, e1, e2, e3, by rw [upd_ne (ne z e1)]; exact e4, e5⟩
    | ownd ds =>
      obtain ⟨z, vs, e1, e2, e3, e4, e5⟩ := b
      exact ⟨z, vs, e1, e2, e3, by rw [upd_ne (ne z e1)]; exact e4, e5⟩
    | _ => cases ho
theorem ss_frz (i : Nat) (h : PSs X sts (tS X.K F)) : PSs X sts (tS X.K (fSeq (fFrz i) F)) := ⟨fun pins s σ H N I h' => by
  obtain ⟨H0, Hb0, env, Hb, fl, r, sp, ef, out⟩ := h'
  obtain ⟨f1, e1, ef⟩ := bind1 ef
  unfold fFrz at e1
  split at e1
  · rename_i ds hslot
    cases e1
    obtain ⟨w, hσ, hown⟩ := r.val i _ hslot
    obtain ⟨p, vs, rfl, a2, a3, a4, a5⟩ := id hown
    exact h.run pins s σ H N I ⟨H0, Hb0, _, upd Hb p (.lst vs), fl, r.frz hslot rfl hσ a3 (is_lst_new a3 a5), sp.frz a2 a3 a4, ef, out⟩
  · rename_i ds hslot
    cases e1
    obtain ⟨w, hσ, hown⟩ := r.val i _ hslot
    obtain ⟨p, vs, rfl, a2, a3, a4, a5⟩ := id hown
    obtain ⟨o, I2⟩ := I.lock a4 (by trivial)
    refine h.run pins s σ _ N I2 ⟨H0, Hb0, _, upd Hb p (.frz o (.dK vs)), fl, r.lock hslot rfl hσ a3 ?_, sp.frzD a2 a3, ef, out⟩
    simp only [Is]
    exact ⟨p, vs, rfl, ⟨o, upd_same⟩, a5.mono (same_new a3)⟩
  · cases e1⟩
/-! ### while: fuel enough -/
theorem fuel_ex : ∃ n : Nat, 1000000 ≤ n := ⟨_, Nat.le_refl _⟩
noncomputable def fuelN : En → Nat := fun _ => Classical.choose fuel_ex
theorem fuelN_ge (env : En) : 1000000 ≤ fuelN env := Classical.choose_spec fuel_ex
theorem while_run {c : En → Option Bool} {B : En → Option Fl} (st : Nat → En) : ∀ (n i : Nat), (∀ j, i ≤ j → j < i + n → c (st j) = some true ∧ B (st j) = some (.nx (st (j + 1)))) → c (st (i + n)) = some false → ∀ f, n < f → whileF c B f (st i) = some (.nx (st (i + n)))
  | 0, i, _, h2, f, hf => by
    obtain ⟨g, rfl⟩ : ∃ g, f = g + 1 := ⟨f - 1, by omega⟩
    rw [whileF]
    rw [Nat.add_zero] at h2 ⊢
    rw [h2]
    rfl
  | n + 1, i, h1, h2, f, hf => by
    obtain ⟨g, rfl⟩ : ∃ g, f = g + 1 := ⟨f - 1, by omega⟩
    obtain ⟨a, b⟩ := h1 i (Nat.le_refl _) (by omega)
    have e : i + (n + 1) = i + 1 + n := by omega
    rw [whileF, a]
    simp only [Option.bind_some, if_true, b]
    rw [e] at h2 ⊢
    exact while_run st n (i + 1) (fun j x y => h1 j (by omega) (by omega)) h2 g (by omega)
theorem w_while {c : En → Option Bool} {B : En → Option Fl} (st : Nat → En) (n i : Nat) (h1 : ∀ j, i ≤ j → j < i + n → c (st j) = some true ∧ B (st j) = some (.nx (st (j + 1)))) (h2 : c (st (i + n)) = some false) (hn : n < 1000000) : fWhile fuelN c B (st i) = some (.nx (st (i + n))) := by
  unfold fWhile
  exact while_run st n i h1 h2 _ (Nat.lt_of_lt_of_le hn (fuelN_ge _))
/-! ### isinstance -/
def tyN : D → Option String
  | .non => some "NoneType"
  | .bl _ => some "bool"
  | .int _ => some "int"
  | .str _ => some "str"
  | .tup _ => some "tuple"
  | .wk _ => some "tuple"
  | .lst _ => some "list"
  | _ => none
def isiB (T t : String) : Bool := t == T || (t == "bool" && T == "int")
def isiD (T : String) (d : D) : Option D := (tyN d).bind fun t => some (.bl (isiB T t))
theorem ty_of {K : PySem.W.Frag} {Hb H : Hp} (sm : Same Hb H) {d : D} {v : V} {t : String} (h : Is K Hb d v) (e : tyN d = some t) : TyX K H v (.type t) := by
  have h := h.mono sm
  cases d <;> simp only [Is] at h <;> first | (cases e; done) | cases e
  · subst h; exact .base .non
  · subst h; exact .base (.bl _)
  · subst h; exact .base (.int _)
  · subst h; exact .base (.str _)
  · obtain ⟨p, xs, rfl, hx, lx⟩ := h
    rcases hx with ⟨o, _, hx⟩ | ⟨o, its, n, hk, _, hc, _⟩
    · exact .fTuple hx
    · exact .kTuple hk hc
  · obtain ⟨p, xs, rfl, hx, lx⟩ := h
    exact .base (.lst hx)
  · obtain ⟨p, xs, rfl, hx, lx⟩ := h
    rcases hx with (hx | ⟨o, hx⟩) | ⟨o, its, n, hk, hc, _⟩
    · exact .base (.tup hx)
    · exact .fTuple hx
    · exact .kTuple hk hc
theorem tyN_mem {d : D} {t : String} (e : tyN d = some t) : t ∈ ["NoneType", "bool", "int", "str", "tuple", "list"] := by
  cases d <;> cases e <;> decide
theorem e_isi (T : String) {q p : Pos} (hm : X.mg "isinstance" = none) (hmT : X.mg (Str.ofString T) = none) (ha : PE X a (tD X.K fa)) (hT : ∀ t ∈ ["NoneType", "bool", "int", "str", "tuple", "list"], kitB t T = some (isiB T t) := by decide +kernel) (hv : bootBuiltins (Str.ofString T) = some (.type T) := by decide +kernel)
    (hg : Gl X "isinstance" := by rfl) (hgT : Gl X (Str.ofString T) := by rfl) (hn : Str.ofString T ≠ "__name__" := by decide) (hdb : (Str.ofString T == ("__debug__" : Str)) = false := by decide)
    (na : starEach [a, .Name (Str.ofString T) q] X.env = (false, eval a X.env) :: starEach [.Name (Str.ofString T) q] X.env := by rfl) (na2 : starEach [.Name (Str.ofString T) q] X.env = (false, eval (.Name (Str.ofString T) q) X.env) :: starEach [] X.env := by rfl)
    (hpl : (backTo pos (starEach [.Name (Str.ofString T) q] X.env)).any (·.1) = false := by rfl) :
    PE X (.Call (.Name "isinstance" p) [a, .Name (Str.ofString T) q] [] pos) (tD X.K (f1 (isiD T) fa)) := by
  refine PE_weak (pe_callB call_isi hg hm (by decide +kernel) (pa_cons ha (pa_cons (pe_bltn (v := .ty T) hgT hmT hv rfl hn hdb) pa_nil na2) na) (he := na) (hpl := hpl)) fun σ H Q h => ?_
  obtain ⟨H0, env, Hb, d, r, sm, ef, q⟩ := h
  obtain ⟨da, ea, eg⟩ := bind1 ef
  refine ⟨H0, env, Hb, da, r, sm, ea, fun v Hb1 H1 s1 iv => ?_⟩
  obtain ⟨t, et, eg⟩ := bind1 eg
  cases eg
  exact ⟨v, .ty T, .type t, .type T, isiB T t, rfl, .ty T, ty_of s1.c iv et, kit_ty (hT t (tyN_mem et)), q _ Hb1 H1 s1 (by simp only [Is])⟩
/-- reading x[k], x owned -/
def fOIx (i : Nat) (fk : En → Option D) : En → Option D := fun env => (fk env).bind fun k => match env[i]?, k with
  | some (some (.own ds)), .int k => atI ds k
  | _, _ => none
end
end Dn
set_option Elab.async false
set_option linter.all false
set_option maxRecDepth 100000
/-! Fractions. -/
namespace Dn
open PySem L2
local macro_rules | `(tactic| walk_at "dg") => `(tactic| first
  | with_reducible exact add_i _ _ | with_reducible exact sub_i _ _ | ((with_reducible refine mul_i ?_); omega) | ((with_reducible refine fdiv_i ?_); omega) | ((with_reducible refine mod_i ?_); omega) | with_reducible exact neg_i _
  | with_reducible exact lt_i _ _ | with_reducible exact le_i _ _ | with_reducible exact gt_i _ _ | with_reducible exact ge_i _ _ | with_reducible exact eq_i _ _ | with_reducible exact ne_i _ _ | with_reducible exact eq_s _ _ | with_reducible exact ne_s _ _
  | ((with_reducible refine add_s ?_); omega) | ((with_reducible refine add_t ?_); omega) | ((with_reducible refine add_l ?_); omega) | ((with_reducible refine mul_s ?_); omega) | ((with_reducible refine mul_l ?_); omega)
  | ((with_reducible refine len_s ?_); omega) | with_reducible exact len_t _ | with_reducible exact len_l _ | with_reducible exact len_c _ | with_reducible exact int_b _ | with_reducible exact int_i _ | with_reducible exact abs_i _
  | ((with_reducible refine sl_s ?_); omega) | with_reducible exact sl_t _ _ _ | with_reducible exact sl_l _ _ _ | ((with_reducible apply ix_t); (· omega); (· rfl)) | ((with_reducible apply ix_l); (· omega); (· rfl)) | with_reducible assumption)
local macro_rules | `(tactic| walk_at "dc") => `(tactic| with_reducible assumption)
local macro_rules | `(tactic| walk_at "dn") => `(tactic| first
  | with_reducible exact v_c | with_reducible exact v_nil | with_reducible exact v_no
  | ((with_reducible apply v_var); (· rfl); (· rfl))
  | ((with_reducible apply v_2); (· walk_at "dn"); (· walk_at "dn"); (· walk_at "dg"))
  | ((with_reducible apply v_1); (· walk_at "dn"); (· walk_at "dg"))
  | ((with_reducible apply v_cons); (· walk_at "dn"); (· walk_at "dn"))
  | ((with_reducible apply v_blt); (· walk_at "dn"); (· walk_at "dg"))
  | ((with_reducible apply v_call); (· walk_at "dn"); (· walk_at "dc"))
  | ((with_reducible apply v_tup); (· walk_at "dn"); (· first | decide | (simp only [List.length_cons, List.length_nil]; decide)))
  | ((with_reducible apply v_lst); (· walk_at "dn"); (· first | decide | (simp only [List.length_cons, List.length_nil]; decide)))
  | ((with_reducible apply v_po); (· walk_at "dn"))
  | ((with_reducible apply v_sl); (· walk_at "dn"); (· walk_at "dn"); (· walk_at "dn"); (· walk_at "dg"))
  | ((with_reducible apply v_m1); (· walk_at "dn"); (· walk_at "dn"); (· walk_at "dg"))
  | ((with_reducible apply v_b); (· walk_at "dn"))
  | ((with_reducible apply v_not); (· walk_at "dn"))
  | ((with_reducible apply v_notV); (· walk_at "dn"))
  | ((with_reducible apply v_rng1); (· walk_at "dn"); (· omega))
  | ((with_reducible apply v_rng2); (· walk_at "dn"); (· omega))
  | ((with_reducible apply v_it); (· walk_at "dn"))
  | ((with_reducible apply v_itl); (· walk_at "dn"))
  | ((with_reducible apply v_its); (· walk_at "dn"))
  | with_reducible assumption)
local macro_rules | `(tactic| walk_at "dt") => `(tactic| first
  | with_reducible exact v_c | with_reducible exact v_nil | with_reducible exact v_no
  | ((with_reducible apply v_var); (· rfl); (· rfl))
  | ((with_reducible apply v_2) <;> walk_at "dt")
  | ((with_reducible apply v_1) <;> walk_at "dt")
  | ((with_reducible apply v_cons) <;> walk_at "dt")
  | ((with_reducible apply v_blt) <;> walk_at "dt")
  | ((with_reducible apply v_call) <;> walk_at "dt")
  | ((with_reducible apply v_tup) <;> walk_at "dt")
  | ((with_reducible apply v_lst) <;> walk_at "dt")
  | ((with_reducible apply v_po) <;> walk_at "dt")
  | ((with_reducible apply v_sl) <;> walk_at "dt")
  | ((with_reducible apply v_m1) <;> walk_at "dt")
  | ((with_reducible apply v_b) <;> walk_at "dt")
  | ((with_reducible apply v_notV) <;> walk_at "dt")
  | ((with_reducible apply v_not) <;> walk_at "dt")
  | ((with_reducible apply v_rng1) <;> first | omega | walk_at "dt")
  | ((with_reducible apply v_rng2) <;> first | omega | walk_at "dt")
  | walk_at "dg"
  | (show List.length _ ≤ sizeLine; first | decide | (simp only [List.length_cons, List.length_nil]; decide))
  | skip)
local macro_rules | `(tactic| walk_at "ds") => `(tactic| first
  | ((with_reducible apply w_ss) <;> first | walk_at "d1" | skip)
  | ((with_reducible apply w_r) <;> first | walk_at "d1" | skip)
  | ((with_reducible apply w_sp) <;> first | walk_at "d1" | skip)
  | ((with_reducible apply w_so) <;> first | walk_at "d1" | skip)
  | (with_reducible apply w_sv)
  | (with_reducible apply w_sq))
local macro_rules | `(tactic| walk_at "dx") => `(tactic| simp only [put, jn, List.set_cons_zero, List.set_cons_succ])
noncomputable def m_divisor : En → Option Fl :=
  (fSeq (fWhile fuelN (fB (f2 neD (fV 1) (fC (.int 0))))
    (fPar 0 1 (fCons (fV 1) (fCons (f2 modD (fV 0) (fV 1)) fNil))))
  (fRet (fV 0)))
noncomputable def n_divisor : List D → Option D := semOf 2 2 m_divisor
noncomputable def m_fraction : En → Option Fl :=
  (fSeq (fSet 2 (fCall n_divisor (fCons (fBlt absG (fCons (fV 0) fNil)) (fCons (fV 1) fNil))))
  (fRet (fTup (fCons (f2 fdivD (fV 0) (fV 2)) (fCons (f2 fdivD (fV 1) (fV 2)) fNil)))))
noncomputable def n_fraction : List D → Option D := semOf 3 2 m_fraction
noncomputable def m_beats : En → Option Fl :=
  (fRet (fCall n_fraction (fCons (f2 ixD (fV 0) (fC (.int 0))) (fCons (f2 ixD (fV 0) (fC (.int 1))) fNil))))
noncomputable def n_beats : List D → Option D := semOf 1 1 m_beats
theorem w_par {i j : Nat} {fs : En → Option (List D)} {env e : En} {d d' : D} (h : fs env = some [d, d']) (he : (env.set i (some d)).set j (some d') = e) : fPar i j fs env = some (.nx e) := by
  unfold fPar
  rw [h, ← he]
  rfl
theorem div_loop : ∀ (b a f : Nat), b < f → whileF (fB (f2 neD (fV 1) (fC (.int 0)))) (fPar 0 1 (fCons (fV 1) (fCons (f2 modD (fV 0) (fV 1)) fNil))) f [some (.int (a : Nat)), some (.int (b : Nat))] = some (.nx [some (.int ((Nat.gcd a b : Nat) : Int)), some (.int 0)]) := by
  intro b
  induction b using Nat.strongRecOn with
  | ind b ih =>
    intro a f hf
    obtain ⟨g, rfl⟩ : ∃ g, f = g + 1 := ⟨f - 1, by omega⟩
    rw [whileF]
    by_cases hb : b = 0
    · subst hb
      have c : fB (f2 neD (fV 1) (fC (.int 0))) [some (.int (a : Nat)), some (.int ((0 : Nat) : Int))] = some false := v_b (v_2 (by walk_at "dn") v_c rfl)
      rw [c, Nat.gcd_zero_right]
      rfl
    · have c : fB (f2 neD (fV 1) (fC (.int 0))) [some (.int (a : Nat)), some (.int (b : Nat))] = some true := by
        refine v_b (v_2 (by walk_at "dn") v_c ?_)
        rw [ne_i, decide_eq_false (by omega)]
        rfl
      have hm : modD (.int (a : Nat)) (.int (b : Nat)) = some (.int ((a % b : Nat) : Int)) := by
        rw [mod_i (by omega)]
        simp
      have st : fPar 0 1 (fCons (fV 1) (fCons (f2 modD (fV 0) (fV 1)) fNil)) [some (.int (a : Nat)), some (.int (b : Nat))] = some (.nx [some (.int (b : Nat)), some (.int ((a % b : Nat) : Int))]) :=
        w_par (v_cons (by walk_at "dn") (v_cons (v_2 (by walk_at "dn") (by walk_at "dn") hm) v_nil)) rfl
      rw [c]
      simp only [Option.bind_some, if_true, st]
      have hlt := Nat.mod_lt a (Nat.pos_of_ne_zero hb)
      rw [ih (a % b) hlt b g (by omega), Nat.gcd_comm b (a % b), ← Nat.gcd_rec, Nat.gcd_comm]
theorem div_fuel : ∀ (n b a f : Nat), b < 2 ^ n → 2 * n + 1 ≤ f → whileF (fB (f2 neD (fV 1) (fC (.int 0)))) (fPar 0 1 (fCons (fV 1) (fCons (f2 modD (fV 0) (fV 1)) fNil))) f [some (.int (a : Nat)), some (.int (b : Nat))] = whileF (fB (f2 neD (fV 1) (fC (.int 0)))) (fPar 0 1 (fCons (fV 1) (fCons (f2 modD (fV 0) (fV 1)) fNil))) (b + 1) [some (.int (a : Nat)), some (.int (b : Nat))] := by
  have st : ∀ a b : Nat, 0 < b → ∀ f, whileF (fB (f2 neD (fV 1) (fC (.int 0)))) (fPar 0 1 (fCons (fV 1) (fCons (f2 modD (fV 0) (fV 1)) fNil))) (f + 1) [some (.int (a : Nat)), some (.int (b : Nat))] = whileF (fB (f2 neD (fV 1) (fC (.int 0)))) (fPar 0 1 (fCons (fV 1) (fCons (f2 modD (fV 0) (fV 1)) fNil))) f [some (.int (b : Nat)), some (.int ((a % b : Nat) : Int))] := fun a b hb f => by
    have c : fB (f2 neD (fV 1) (fC (.int 0))) [some (.int (a : Nat)), some (.int (b : Nat))] = some true := by
      refine v_b (v_2 (by walk_at "dn") v_c ?_)
      rw [ne_i, decide_eq_false (by omega)]
      rfl
    have hm : modD (.int (a : Nat)) (.int (b : Nat)) = some (.int ((a % b : Nat) : Int)) := by
      rw [mod_i (by omega)]
      simp
    have st : fPar 0 1 (fCons (fV 1) (fCons (f2 modD (fV 0) (fV 1)) fNil)) [some (.int (a : Nat)), some (.int (b : Nat))] = some (.nx [some (.int (b : Nat)), some (.int ((a % b : Nat) : Int))]) :=
      w_par (v_cons (by walk_at "dn") (v_cons (v_2 (by walk_at "dn") (by walk_at "dn") hm) v_nil)) rfl
    rw [whileF, c]
    simp only [Option.bind_some, if_true, st]
  intro n
  induction n with
  | zero =>
    intro b a f hb hf
    have hb : b = 0 := by omega
    subst hb
    obtain ⟨g, rfl⟩ : ∃ g, f = g + 1 := ⟨f - 1, by omega⟩
    rw [div_loop 0 a _ (by omega), div_loop 0 a _ (by omega)]
  | succ n ih =>
    intro b a f hb hf
    rw [div_loop b a (b + 1) (by omega)]
    by_cases h0 : b = 0
    · subst h0
      rw [div_loop 0 a _ (by omega)]
    obtain ⟨g, rfl⟩ : ∃ g, f = g + 1 := ⟨f - 1, by omega⟩
    rw [st a b (by omega), show Nat.gcd a b = Nat.gcd b (a % b) by rw [Nat.gcd_comm b (a % b), ← Nat.gcd_rec, Nat.gcd_comm]]
    have hlt := Nat.mod_lt a (Nat.pos_of_ne_zero h0)
    generalize a % b = r at *
    by_cases h1 : r = 0
    · subst h1
      rw [div_loop 0 b _ (by omega)]
    obtain ⟨g, rfl⟩ : ∃ k, g = k + 1 := ⟨g - 1, by omega⟩
    have hlt2 := Nat.mod_lt b (Nat.pos_of_ne_zero h1)
    have hh : b % r < 2 ^ n := by
      have e2 : 2 ^ (n + 1) = 2 * 2 ^ n := by rw [Nat.pow_succ, Nat.mul_comm]
      by_cases hr : 2 * r ≤ b
      · omega
      · have : b % r = b - r := by
          rw [Nat.mod_eq_sub_mod (by omega), Nat.mod_eq_of_lt (by omega)]
        omega
    rw [st b r (by omega), ih (b % r) r g hh (by omega), div_loop (b % r) r _ (by omega), show Nat.gcd b r = Nat.gcd r (b % r) by rw [Nat.gcd_comm r (b % r), ← Nat.gcd_rec, Nat.gcd_comm]]
theorem e_divisor {a b : Nat} (hb : b < 1073741824) : n_divisor [.int (a : Nat), .int (b : Nat)] = some (.int ((Nat.gcd a b : Nat) : Int)) := by
  refine sem_rt rfl ?_
  show m_divisor [some (.int (a : Nat)), some (.int (b : Nat))] = _
  unfold m_divisor
  refine w_seq (e := [some (.int ((Nat.gcd a b : Nat) : Int)), some (.int 0)]) ?_ (ret_of (by walk_at "dn"))
  unfold fWhile
  rw [div_fuel 30 b a _ hb (Nat.le_trans (by decide) (fuelN_ge _)), div_loop b a _ (by omega)]
/-- a fraction told: upper and lower -/
def frD (u : Int) (l : Nat) : D := .tup [.int (u / (Nat.gcd u.natAbs l : Nat)), .int ((l / Nat.gcd u.natAbs l : Nat) : Int)]
theorem e_fraction {u : Int} {l : Nat} (h0 : 0 < l) (h : l < 1073741824) : n_fraction [.int u, .int (l : Nat)] = some (frD u l) := by
  refine sem_rt rfl ?_
  show m_fraction [some (.int u), some (.int (l : Nat)), none] = _
  unfold m_fraction
  have ha : absG [.int u] = some (.int ((u.natAbs : Nat) : Int)) := by
    rw [abs_i]
    congr 2
    by_cases q : u < 0
    · rw [if_pos q]; omega
    · rw [if_neg q]; omega
  have hg : 0 < Nat.gcd u.natAbs l := Nat.gcd_pos_of_pos_right _ h0
  have hg2 : Nat.gcd u.natAbs l ≤ l := Nat.le_of_dvd h0 (Nat.gcd_dvd_right _ _)
  refine w_seq (w_set (v_call (v_cons (v_blt (by walk_at "dn") ha) (by walk_at "dn")) (e_divisor h)) rfl) (ret_of ?_)
  unfold frD
  generalize Nat.gcd u.natAbs l = g at *
  rw [show ((l / g : Nat) : Int) = (l : Int) / (g : Int) by simp]
  refine v_tup (by walk_at "dn") (by show 2 ≤ sizeLine; decide)
theorem e_beats {s g : Nat} {ds : D} (h0 : 0 < g) (h : g < 1073741824) : n_beats [.tup [.int (s : Nat), .int (g : Nat), ds]] = some (frD s g) := by
  refine sem_rt rfl ?_
  show m_beats [some (.tup [.int (s : Nat), .int (g : Nat), ds])] = _
  unfold m_beats
  exact ret_of (v_call (v_cons (v_2 (by walk_at "dn") v_c rfl) (v_cons (v_2 (by walk_at "dn") v_c rfl) v_nil)) (e_fraction h0 h))
end Dn
set_option Elab.async false
set_option linter.all false
set_option maxRecDepth 100000
/-! Patterns. -/
namespace Dn
open PySem L2 PySem.Spec PyProof.Rows PySem.Builtin PySem.Builtin.Str
local macro_rules | `(tactic| walk_at "dg") => `(tactic| first
  | with_reducible exact add_i _ _ | with_reducible exact sub_i _ _ | ((with_reducible refine mul_i ?_); omega) | ((with_reducible refine fdiv_i ?_); omega) | ((with_reducible refine mod_i ?_); omega) | with_reducible exact neg_i _
  | with_reducible exact lt_i _ _ | with_reducible exact le_i _ _ | with_reducible exact gt_i _ _ | with_reducible exact ge_i _ _ | with_reducible exact eq_i _ _ | with_reducible exact ne_i _ _ | with_reducible exact eq_s _ _ | with_reducible exact ne_s _ _
  | ((with_reducible refine add_s ?_); omega) | ((with_reducible refine add_t ?_); omega) | ((with_reducible refine add_l ?_); omega) | ((with_reducible refine mul_s ?_); omega) | ((with_reducible refine mul_l ?_); omega)
  | ((with_reducible refine len_s ?_); omega) | with_reducible exact len_t _ | with_reducible exact len_l _ | with_reducible exact len_c _ | with_reducible exact int_b _ | with_reducible exact int_i _ | with_reducible exact abs_i _
  | ((with_reducible refine sl_s ?_); omega) | with_reducible exact sl_t _ _ _ | with_reducible exact sl_l _ _ _ | ((with_reducible apply ix_t); (· omega); (· rfl)) | ((with_reducible apply ix_l); (· omega); (· rfl)) | with_reducible assumption)
local macro_rules | `(tactic| walk_at "dc") => `(tactic| with_reducible assumption)
local macro_rules | `(tactic| walk_at "dn") => `(tactic| first
  | with_reducible exact v_c | with_reducible exact v_nil | with_reducible exact v_no
  | ((with_reducible apply v_var); (· rfl); (· rfl))
  | ((with_reducible apply v_2); (· walk_at "dn"); (· walk_at "dn"); (· walk_at "dg"))
  | ((with_reducible apply v_1); (· walk_at "dn"); (· walk_at "dg"))
  | ((with_reducible apply v_cons); (· walk_at "dn"); (· walk_at "dn"))
  | ((with_reducible apply v_blt); (· walk_at "dn"); (· walk_at "dg"))
  | ((with_reducible apply v_call); (· walk_at "dn"); (· walk_at "dc"))
  | ((with_reducible apply v_tup); (· walk_at "dn"); (· first | decide | (simp only [List.length_cons, List.length_nil]; decide)))
  | ((with_reducible apply v_lst); (· walk_at "dn"); (· first | decide | (simp only [List.length_cons, List.length_nil]; decide)))
  | ((with_reducible apply v_po); (· walk_at "dn"))
  | ((with_reducible apply v_sl); (· walk_at "dn"); (· walk_at "dn"); (· walk_at "dn"); (· walk_at "dg"))
  | ((with_reducible apply v_m1); (· walk_at "dn"); (· walk_at "dn"); (· walk_at "dg"))
  | ((with_reducible apply v_b); (· walk_at "dn"))
  | ((with_reducible apply v_not); (· walk_at "dn"))
  | ((with_reducible apply v_notV); (· walk_at "dn"))
  | ((with_reducible apply v_rng1); (· walk_at "dn"); (· omega))
  | ((with_reducible apply v_rng2); (· walk_at "dn"); (· omega))
  | ((with_reducible apply v_it); (· walk_at "dn"))
  | ((with_reducible apply v_itl); (· walk_at "dn"))
  | ((with_reducible apply v_its); (· walk_at "dn"))
  | with_reducible assumption)
local macro_rules | `(tactic| walk_at "dt") => `(tactic| first
  | with_reducible exact v_c | with_reducible exact v_nil | with_reducible exact v_no
  | ((with_reducible apply v_var); (· rfl); (· rfl))
  | ((with_reducible apply v_2) <;> walk_at "dt")
  | ((with_reducible apply v_1) <;> walk_at "dt")
  | ((with_reducible apply v_cons) <;> walk_at "dt")
  | ((with_reducible apply v_blt) <;> walk_at "dt")
  | ((with_reducible apply v_call) <;> walk_at "dt")
  | ((with_reducible apply v_tup) <;> walk_at "dt")
  | ((with_reducible apply v_lst) <;> walk_at "dt")
  | ((with_reducible apply v_po) <;> walk_at "dt")
  | ((with_reducible apply v_sl) <;> walk_at "dt")
  | ((with_reducible apply v_m1) <;> walk_at "dt")
  | ((with_reducible apply v_b) <;> walk_at "dt")
  | ((with_reducible apply v_notV) <;> walk_at "dt")
  | ((with_reducible apply v_not) <;> walk_at "dt")
  | ((with_reducible apply v_rng1) <;> first | omega | walk_at "dt")
  | ((with_reducible apply v_rng2) <;> first | omega | walk_at "dt")
  | walk_at "dg"
  | (show List.length _ ≤ sizeLine; first | decide | (simp only [List.length_cons, List.length_nil]; decide))
  | skip)
local macro_rules | `(tactic| walk_at "ds") => `(tactic| first
  | ((with_reducible apply w_ss) <;> first | walk_at "d1" | skip)
  | ((with_reducible apply w_r) <;> first | walk_at "d1" | skip)
  | ((with_reducible apply w_sp) <;> first | walk_at "d1" | skip)
  | ((with_reducible apply w_so) <;> first | walk_at "d1" | skip)
  | (with_reducible apply w_sv)
  | (with_reducible apply w_sq))
local macro_rules | `(tactic| walk_at "dx") => `(tactic| simp only [put, jn, List.set_cons_zero, List.set_cons_succ])
noncomputable def m_finer : En → Option Fl :=
  (fSeq (fAsg (fV 0) (gT (gCons' (gN 4) (gCons' (gN 5) (gCons' (gN 6) gNil')))))
  (fSeq (fSet 2 (f2 mulD (fC (.str [46])) (f2 subD (fV 1) (fC (.int 1)))))
  (fSeq (fSet 3 (f1 tupD (fLc (fIt (fV 6)) (gT (gCons' (gN 7) (gCons' (gN 8) gNil'))) fYes (fTup (fCons (fV 7) (fCons (fM1 joinD (fC (.str [])) (fLc (fIt (fV 8)) (gN 9) fYes (f2 addD (fV 9) (fV 2)) [9])) fNil))) [7, 8])))
  (fRet (fTup (fCons (f2 mulD (fV 4) (fV 1)) (fCons (f2 mulD (fV 5) (fV 1)) (fCons (fV 3) fNil))))))))
noncomputable def n_finer : List D → Option D := semOf 10 2 m_finer
noncomputable def m_is_finer : En → Option Fl :=
  (fSeq (fAsg (fV 0) (gT (gCons' (gN 2) (gCons' (gN 3) (gCons' (gN 4) gNil')))))
  (fSeq (fIfS (fOr (fB (f2 neD (f2 modD (fV 2) (fV 1)) (fC (.int 0)))) (fB (f2 neD (f2 modD (fV 3) (fV 1)) (fC (.int 0)))))
    (fRet (fC (.bl false)))
    fPass)
  (fRet (fBlt allG (fCons (fLc (fIt (fV 4)) (gT (gCons' (gN 5) (gCons' (gN 6) gNil'))) fYes (fBlt allG (fCons (fLc (fEnum (fV 6)) (gT (gCons' (gN 7) (gCons' (gN 8) gNil'))) (fB (f2 neD (f2 modD (fV 7) (fV 1)) (fC (.int 0)))) (f2 eqD (fV 8) (fC (.str [46]))) [7, 8]) fNil)) [5, 6]) fNil)))))
noncomputable def n_is_finer : List D → Option D := semOf 9 2 m_is_finer
noncomputable def m_coarser : En → Option Fl :=
  (fSeq (fAsg (fV 0) (gT (gCons' (gN 2) (gCons' (gN 3) (gCons' (gN 4) gNil')))))
  (fSeq (fSet 1 (fBlt maxG (fCons (fLc (fRng2 (fCons (fC (.int 1)) (fCons (f2 addD (fV 2) (fC (.int 1))) fNil))) (gN 1) (fB (fCall n_is_finer (fCons (fV 0) (fCons (fV 1) fNil)))) (fV 1) [1]) fNil)))
  (fRet (fTup (fCons (f2 fdivD (fV 2) (fV 1)) (fCons (f2 fdivD (fV 3) (fV 1)) (fCons (f1 tupD (fLc (fIt (fV 4)) (gT (gCons' (gN 5) (gCons' (gN 6) gNil'))) fYes (fTup (fCons (fV 5) (fCons (f2 slkD (fV 6) (fV 1)) fNil))) [5, 6])) fNil)))))))
noncomputable def n_coarser : List D → Option D := semOf 7 1 m_coarser
noncomputable def m_pattern_turned : En → Option Fl :=
  (fRet (f2 addD (fSl (fV 0) fNo (fPo (fC (.int 2)))) (fTup (fCons (f1 tupD (fLc (fIt (f2 ixD (fV 0) (fC (.int 2)))) (gT (gCons' (gN 2) (gCons' (gN 3) gNil'))) fYes (fTup (fCons (fV 2) (fCons (fCall n_turned (fCons (fV 3) (fCons (fV 1) fNil))) fNil))) [2, 3])) fNil))))
noncomputable def n_pattern_turned : List D → Option D := semOf 4 2 m_pattern_turned
noncomputable def m_only : En → Option Fl :=
  (fRet (f2 addD (fSl (fV 0) fNo (fPo (fC (.int 2)))) (fTup (fCons (f1 tupD (fLc (fIt (f2 ixD (fV 0) (fC (.int 2)))) (gN 2) (fB (f2 inD (f2 ixD (fV 2) (fC (.int 0))) (fV 1))) (fV 2) [2])) fNil))))
noncomputable def n_only : List D → Option D := semOf 3 2 m_only
noncomputable def m_loudness : En → Option Fl :=
  (fSeq (fSet 1 (fM1 joinD (fC (.str [])) (fLc (fIt (f2 ixD (fV 0) (fC (.int 2)))) (gT (gCons' (gN 3) (gCons' (gN 4) gNil'))) fYes (fV 4) [3, 4])))
  (fSeq (fSet 2 (fM1 countD (fV 1) (fC (.str [120]))))
  (fRet (fTup (fCons (fV 2) (fCons (f2 subD (f2 subD (fBlt lenG (fCons (fV 1) fNil)) (fV 2)) (fM1 countD (fV 1) (fC (.str [46])))) fNil))))))
noncomputable def n_loudness : List D → Option D := semOf 5 1 m_loudness
noncomputable def m__law_pattern : En → Option Fl :=
  (fSeq (fSet 1 (f2 ixD (fTup (fCons (f2 addD (fC (.int 1)) (f2 modD (f2 fdivD (fV 0) (fC (.int 8))) (fC (.int 16)))) (fCons (fC (.int 4)) (fCons (fC (.int 8)) (fCons (f2 addD (fC (.int 1)) (f2 modD (f2 fdivD (fV 0) (fC (.int 8))) (fC (.int 6)))) fNil))))) (f2 modD (fV 0) (fC (.int 4)))))
  (fSeq (fSet 2 (f2 addD (fC (.int 1)) (f2 modD (f2 fdivD (fV 0) (fC (.int 128))) (fC (.int 4)))))
  (fSeq (fSet 3 (fTup fNil))
  (fSeq (fFor (fEnum (fTup (fCons (fC (.str [97])) (fCons (fC (.str [104])) (fCons (fC (.str [107])) (fCons (fC (.str [115])) (fCons (fC (.str [122])) fNil))))))) (gT (gCons' (gN 4) (gCons' (gN 5) gNil')))
    (fSeq (fSet 6 (f2 fdivD (fCall n__law_drawn (fCons (fV 0) (fCons (f2 addD (fC (.int 30)) (fV 4)) fNil))) (fC (.int 4))))
    (fIfS (fB (f2 ltD (f2 modD (fV 6) (fC (.int 5))) (f2 addD (fC (.int 1)) (f2 modD (f2 fdivD (fV 0) (fC (.int 512))) (fC (.int 4))))))
      (fSet 3 (f2 addD (fV 3) (fTup (fCons (fTup (fCons (fV 5) (fCons (fCall n__law_marks (fCons (f2 fdivD (fV 6) (fC (.int 8))) (fCons (fV 1) fNil))) fNil))) fNil))))
      fPass)))
  (fRet (fTup (fCons (fV 1) (fCons (fV 2) (fCons (fV 3) fNil)))))))))
noncomputable def n__law_pattern : List D → Option D := semOf 7 1 m__law_pattern
structure Pt where
  s : Nat
  g : Nat
  ps : List (Nat × List Nat)
def padD (q : Nat × List Nat) : D := .tup [.str [q.1], .str q.2]
def ptD (p : Pt) : D := .tup [.int (p.s : Nat), .int (p.g : Nat), .tup (p.ps.map padD)]
structure Pt.Ok (p : Pt) : Prop where
  s0 : 0 < p.s
  s1 : p.s ≤ 1000
  g0 : 0 < p.g
  g1 : p.g ≤ 1000
  few : p.ps.length ≤ 5
  row : ∀ q ∈ p.ps, q.2.length = p.s ∧ isRow q.2
structure Pt.Big (p : Pt) : Prop where
  s0 : 0 < p.s
  s1 : p.s ≤ 100000
  g0 : 0 < p.g
  g1 : p.g ≤ 1000
  few : p.ps.length ≤ 5
  row : ∀ q ∈ p.ps, q.2.length = p.s ∧ isRow q.2
theorem Pt.Ok.big {p : Pt} (h : p.Ok) : p.Big := ⟨h.s0, Nat.le_trans h.s1 (by decide), h.g0, h.g1, h.few, h.row⟩
theorem okN_pads : ∀ (n : Nat) (ps : List (Nat × List Nat)), ((ps.map padD).all fun x => okN (n + 1) x) = true := fun n ps => by
  rw [List.all_eq_true]
  intro x hx
  obtain ⟨q, _, rfl⟩ := List.mem_map.mp hx
  show (([D.str [q.1], .str q.2] : List D).all fun x => okN n x) = true
  cases n <;> rfl
theorem ok_pt (p : Pt) : okN 60 (ptD p) = true := by
  show ([D.int (p.s : Nat), .int (p.g : Nat), .tup (p.ps.map padD)].all fun x => okN 59 x) = true
  rw [List.all_cons, List.all_cons, List.all_cons, List.all_nil]
  have : okN 59 (.tup (p.ps.map padD)) = true := okN_pads 57 p.ps
  rw [this]
  rfl
/-! finer -/
def fineL (row : List Nat) (m : Nat) : List Nat := (row.map fun c => c :: List.replicate (m - 1) 46).flatten
theorem fineL_len (row : List Nat) {m : Nat} (hm : 0 < m) : (fineL row m).length = row.length * m := by
  unfold fineL
  induction row with
  | nil => simp
  | cons c r ih =>
    rw [List.map_cons, List.flatten_cons, List.length_append, ih, List.length_cons, List.length_cons, List.length_replicate, Nat.succ_mul]
    omega
def finerP (p : Pt) (m : Nat) : Pt := ⟨p.s * m, p.g * m, p.ps.map fun q => (q.1, fineL q.2 m)⟩
theorem sum_const {α : Type} (f : α → List Nat) (n : Nat) (h : ∀ x, (f x).length = n) : ∀ xs : List α, ((xs.map f).map List.length).sum = xs.length * n
  | [] => by simp
  | x :: xs => by rw [List.map_cons, List.map_cons, List.sum_cons, h x, sum_const f n h xs, List.length_cons, Nat.succ_mul, Nat.add_comm]
theorem e_finerB {p : Pt} (ok : p.Big) {m : Nat} (h0 : 0 < m) (h1 : m ≤ 900) (hsm : p.s * m ≤ 1000000) : n_finer [ptD p, .int (m : Nat)] = some (ptD (finerP p m)) := by
  refine sem_rt rfl ?_
  show m_finer [some (ptD p), some (.int (m : Nat)), none, none, none, none, none, none, none, none] = _
  unfold m_finer
  have hA : fAsg (fV 0) (gT (gCons' (gN 4) (gCons' (gN 5) (gCons' (gN 6) gNil')))) [some (ptD p), some (.int (m : Nat)), none, none, none, none, none, none, none, none] = some (.nx [some (ptD p), some (.int (m : Nat)), none, none, some (.int (p.s : Nat)), some (.int (p.g : Nat)), some (.tup (p.ps.map padD)), none, none, none]) := rfl
  refine w_seq hA ?_
  have hr : mulD (.str [46]) (.int ((m : Int) - 1)) = some (.str (List.replicate (m - 1) 46)) := by
    rw [← reps_one, show m - 1 = ((m : Int) - 1).toNat by omega]
    exact mul_s ⟨by decide, by omega, by omega⟩
  refine w_seq (w_set (v_2 v_c (by walk_at "dn") hr) rfl) ?_
  have hin : ∀ q ∈ p.ps, ∀ x y z : Option D, fM1 joinD (fC (.str [])) (fLc (fIt (fV 8)) (gN 9) fYes (f2 addD (fV 9) (fV 2)) [9]) [some (ptD p), some (.int (m : Nat)), some (.str (List.replicate (m - 1) 46)), none, some (.int (p.s : Nat)), some (.int (p.g : Nat)), some (.tup (p.ps.map padD)), some (.str [q.1]), some (.str q.2), none] = some (.str (fineL q.2 m)) := fun q hq x y z => by
    have hl := (ok.row q hq).1
    have := ok.s1
    refine v_m1 v_c (lcw (r := (q.2.map fun c => c :: List.replicate (m - 1) 46).map D.str) (v_its (by walk_at "dn")) (by rw [List.length_map]; omega) ?_) ?_
    · rw [List.map_map]
      refine lc_map _ _ _ fun c _ => ⟨[some (ptD p), some (.int (m : Nat)), some (.str (List.replicate (m - 1) 46)), none, some (.int (p.s : Nat)), some (.int (p.g : Nat)), some (.tup (p.ps.map padD)), some (.str [q.1]), some (.str q.2), some (.str [c])], rfl, ?_⟩
      refine v_2 (by walk_at "dn") (by walk_at "dn") (add_s ?_)
      rw [List.length_replicate]
      show 1 + (m - 1) ≤ 1000000
      omega
    · rw [join_l, joinL_nil]
      · rfl
      · rw [sum_const _ m (fun c => by rw [List.length_cons, List.length_replicate]; omega)]
        simp only [List.length_nil, Nat.mul_zero, Nat.add_zero]
        rw [hl]
        exact hsm
  have hrows : fLc (fIt (fV 6)) (gT (gCons' (gN 7) (gCons' (gN 8) gNil'))) fYes (fTup (fCons (fV 7) (fCons (fM1 joinD (fC (.str [])) (fLc (fIt (fV 8)) (gN 9) fYes (f2 addD (fV 9) (fV 2)) [9])) fNil))) [7, 8] [some (ptD p), some (.int (m : Nat)), some (.str (List.replicate (m - 1) 46)), none, some (.int (p.s : Nat)), some (.int (p.g : Nat)), some (.tup (p.ps.map padD)), none, none, none] = some (.lst ((finerP p m).ps.map padD)) := by
    refine lcw (v_it (by walk_at "dn")) (by rw [List.length_map]; have := ok.few; omega) ?_
    unfold finerP
    rw [List.map_map]
    refine lc_map padD _ _ fun q hq => ⟨[some (ptD p), some (.int (m : Nat)), some (.str (List.replicate (m - 1) 46)), none, some (.int (p.s : Nat)), some (.int (p.g : Nat)), some (.tup (p.ps.map padD)), some (.str [q.1]), some (.str q.2), none], rfl, ?_⟩
    exact v_tup (ds := [.str [q.1], .str (fineL q.2 m)]) (v_cons (by walk_at "dn") (v_cons (hin q hq none none none) v_nil)) (show 2 ≤ sizeLine by decide)
  refine w_seq (w_set (v_1 hrows rfl) rfl) (ret_of ?_)
  have m1 : mulD (.int (p.s : Nat)) (.int (m : Nat)) = some (.int ((p.s * m : Nat) : Int)) := by
    have := ok.s1
    rw [mul_i (by omega)]
    simp
  have m2 : mulD (.int (p.g : Nat)) (.int (m : Nat)) = some (.int ((p.g * m : Nat) : Int)) := by
    have := ok.g1
    rw [mul_i (by omega)]
    simp
  exact v_tup (ds := [.int ((p.s * m : Nat) : Int), .int ((p.g * m : Nat) : Int), .tup ((finerP p m).ps.map padD)]) (v_cons (v_2 (by walk_at "dn") (by walk_at "dn") m1) (v_cons (v_2 (by walk_at "dn") (by walk_at "dn") m2) (by walk_at "dn"))) (show 3 ≤ sizeLine by decide)
theorem e_finer {p : Pt} (ok : p.Ok) {m : Nat} (h0 : 0 < m) (h1 : m ≤ 900) : n_finer [ptD p, .int (m : Nat)] = some (ptD (finerP p m)) := e_finerB ok.big h0 h1 (Nat.le_trans (Nat.mul_le_mul ok.s1 h1) (by decide))
/-! turned -/
def turnP (p : Pt) (b : Int) : Pt := ⟨p.s, p.g, p.ps.map fun q => (q.1, rotL q.2 b)⟩
theorem cut2 (p : Pt) : slD (ptD p) none (some 2) = some (.tup [.int (p.s : Nat), .int (p.g : Nat)]) := by
  unfold ptD
  rw [sl_t]
  exact congrArg (fun l => some (D.tup l)) (cut_to _ 2)
theorem e_pturned {p : Pt} (ok : p.Ok) (b : Int) : n_pattern_turned [ptD p, .int b] = some (ptD (turnP p b)) := by
  refine sem_rt rfl ?_
  show m_pattern_turned [some (ptD p), some (.int b), none, none] = _
  unfold m_pattern_turned
  have hl : fLc (fIt (f2 ixD (fV 0) (fC (.int 2)))) (gT (gCons' (gN 2) (gCons' (gN 3) gNil'))) fYes (fTup (fCons (fV 2) (fCons (fCall n_turned (fCons (fV 3) (fCons (fV 1) fNil))) fNil))) [2, 3] [some (ptD p), some (.int b), none, none] = some (.lst ((turnP p b).ps.map padD)) := by
    refine lcw (v_it (v_2 (by walk_at "dn") v_c rfl)) (by rw [List.length_map]; have := ok.few; omega) ?_
    unfold turnP
    rw [List.map_map]
    refine lc_map padD _ _ fun q hq => ⟨[some (ptD p), some (.int b), some (.str [q.1]), some (.str q.2)], rfl, ?_⟩
    obtain ⟨l1, l2⟩ := ok.row q hq
    have := ok.s0
    have := ok.s1
    exact v_tup (ds := [.str [q.1], .str (rotL q.2 b)]) (v_cons (by walk_at "dn") (v_cons (v_call (by walk_at "dn") (e_turned (by omega) (by omega))) v_nil)) (show 2 ≤ sizeLine by decide)
  exact ret_of (v_2 (v_sl (by walk_at "dn") v_no (v_po v_c) (cut2 p)) (v_tup (ds := [.tup ((turnP p b).ps.map padD)]) (v_cons (v_1 hl rfl) v_nil) (show 1 ≤ sizeLine by decide)) (add_t (show 2 + 1 ≤ 1000000 by decide)))
/-! only -/
def onlyP (p : Pt) (l : List Nat) : Pt := ⟨p.s, p.g, p.ps.filter fun q => decide (q.1 ∈ l)⟩
theorem e_only {p : Pt} (ok : p.Ok) (l : List Nat) : n_only [ptD p, .str l] = some (ptD (onlyP p l)) := by
  refine sem_rt rfl ?_
  show m_only [some (ptD p), some (.str l), none] = _
  unfold m_only
  have hl : fLc (fIt (f2 ixD (fV 0) (fC (.int 2)))) (gN 2) (fB (f2 inD (f2 ixD (fV 2) (fC (.int 0))) (fV 1))) (fV 2) [2] [some (ptD p), some (.str l), none] = some (.lst ((onlyP p l).ps.map padD)) := by
    refine lcw (v_it (v_2 (by walk_at "dn") v_c rfl)) (by rw [List.length_map]; have := ok.few; omega) ?_
    unfold onlyP
    refine lc_filter padD (fun q => decide (q.1 ∈ l)) padD p.ps fun q hq => ⟨[some (ptD p), some (.str l), some (padD q)], rfl, ?_, fun _ => rfl⟩
    exact v_b (v_2 (v_2 (by walk_at "dn") v_c rfl) (by walk_at "dn") rfl)
  exact ret_of (v_2 (v_sl (by walk_at "dn") v_no (v_po v_c) (cut2 p)) (v_tup (ds := [.tup ((onlyP p l).ps.map padD)]) (v_cons (v_1 hl rfl) v_nil) (show 1 ≤ sizeLine by decide)) (add_t (show 2 + 1 ≤ 1000000 by decide)))
/-! loudness -/
def marksP (p : Pt) : List Nat := (p.ps.map fun q => q.2).flatten
def loudD (p : Pt) : D := .tup [.int ((marksP p).count 120 : Nat), .int (((marksP p).length : Nat) - ((marksP p).count 120 : Nat) - ((marksP p).count 46 : Nat))]
theorem len_marks {p : Pt} (h : ∀ q ∈ p.ps, q.2.length = p.s) : (marksP p).length = p.ps.length * p.s := by
  unfold marksP
  rw [List.length_flatten, List.map_map]
  generalize p.s = s at *
  generalize p.ps = ps at *
  induction ps with
  | nil => simp
  | cons q r ih =>
    rw [List.map_cons, List.sum_cons, ih fun x hx => h x (List.mem_cons_of_mem _ hx), List.length_cons, Nat.succ_mul]
    have := h q List.mem_cons_self
    simp only [Function.comp]
    omega
theorem e_loudB {p : Pt} (ok : p.Big) : n_loudness [ptD p] = some (loudD p) := by
  refine sem_rt rfl ?_
  show m_loudness [some (ptD p), none, none, none, none] = _
  unfold m_loudness
  have hlen := len_marks fun q hq => (ok.row q hq).1
  have hl5 : (marksP p).length ≤ 500000 := by
    rw [hlen]
    exact Nat.mul_le_mul ok.few ok.s1
  have hl : fLc (fIt (f2 ixD (fV 0) (fC (.int 2)))) (gT (gCons' (gN 3) (gCons' (gN 4) gNil'))) fYes (fV 4) [3, 4] [some (ptD p), none, none, none, none] = some (.lst ((p.ps.map fun q => q.2).map D.str)) := by
    refine lcw (v_it (v_2 (by walk_at "dn") v_c rfl)) (by rw [List.length_map]; have := ok.few; omega) ?_
    rw [List.map_map]
    exact lc_map padD _ _ fun q hq => ⟨[some (ptD p), none, none, some (.str [q.1]), some (.str q.2)], rfl, rfl⟩
  refine w_seq (w_set (d := .str (marksP p)) (v_m1 v_c hl ?_) rfl) ?_
  · rw [join_l, joinL_nil]
    · rfl
    · have e : ((p.ps.map fun q => q.2).map List.length).sum = (marksP p).length := by
        unfold marksP
        rw [List.length_flatten]
      rw [e]
      simp
      omega
  refine w_seq (w_set (v_m1 (by walk_at "dn") v_c rfl) rfl) (ret_of ?_)
  unfold loudD
  exact v_tup (v_cons (by walk_at "dn") (v_cons (v_2 (v_2 (by walk_at "dn") (by walk_at "dn") (sub_i _ _)) (v_m1 (by walk_at "dn") v_c rfl) (sub_i _ _)) v_nil)) (show 2 ≤ sizeLine by decide)
theorem e_loud {p : Pt} (ok : p.Ok) : n_loudness [ptD p] = some (loudD p) := e_loudB ok.big
end Dn
set_option Elab.async false
set_option linter.all false
set_option maxRecDepth 100000
/-! Patterns: those that a law draws; is_finer, coarser. -/
namespace Dn
open PySem L2 PySem.Spec PyProof.Rows PySem.Builtin PySem.Builtin.Str
local macro_rules | `(tactic| walk_at "dg") => `(tactic| first
  | with_reducible exact add_i _ _ | with_reducible exact sub_i _ _ | ((with_reducible refine mul_i ?_); omega) | ((with_reducible refine fdiv_i ?_); omega) | ((with_reducible refine mod_i ?_); omega) | with_reducible exact neg_i _
  | with_reducible exact lt_i _ _ | with_reducible exact le_i _ _ | with_reducible exact gt_i _ _ | with_reducible exact ge_i _ _ | with_reducible exact eq_i _ _ | with_reducible exact ne_i _ _ | with_reducible exact eq_s _ _ | with_reducible exact ne_s _ _
  | ((with_reducible refine add_s ?_); omega) | ((with_reducible refine add_t ?_); omega) | ((with_reducible refine add_l ?_); omega) | ((with_reducible refine mul_s ?_); omega) | ((with_reducible refine mul_l ?_); omega)
  | ((with_reducible refine len_s ?_); omega) | with_reducible exact len_t _ | with_reducible exact len_l _ | with_reducible exact len_c _ | with_reducible exact int_b _ | with_reducible exact int_i _ | with_reducible exact abs_i _
  | ((with_reducible refine sl_s ?_); omega) | with_reducible exact sl_t _ _ _ | with_reducible exact sl_l _ _ _ | ((with_reducible apply ix_t); (· omega); (· rfl)) | ((with_reducible apply ix_l); (· omega); (· rfl)) | with_reducible assumption)
local macro_rules | `(tactic| walk_at "dc") => `(tactic| with_reducible assumption)
local macro_rules | `(tactic| walk_at "dn") => `(tactic| first
  | with_reducible exact v_c | with_reducible exact v_nil | with_reducible exact v_no
  | ((with_reducible apply v_var); (· rfl); (· rfl))
  | ((with_reducible apply v_2); (· walk_at "dn"); (· walk_at "dn"); (· walk_at "dg"))
  | ((with_reducible apply v_1); (· walk_at "dn"); (· walk_at "dg"))
  | ((with_reducible apply v_cons); (· walk_at "dn"); (· walk_at "dn"))
  | ((with_reducible apply v_blt); (· walk_at "dn"); (· walk_at "dg"))
  | ((with_reducible apply v_call); (· walk_at "dn"); (· walk_at "dc"))
  | ((with_reducible apply v_tup); (· walk_at "dn"); (· first | decide | (simp only [List.length_cons, List.length_nil]; decide)))
  | ((with_reducible apply v_lst); (· walk_at "dn"); (· first | decide | (simp only [List.length_cons, List.length_nil]; decide)))
  | ((with_reducible apply v_po); (· walk_at "dn"))
  | ((with_reducible apply v_sl); (· walk_at "dn"); (· walk_at "dn"); (· walk_at "dn"); (· walk_at "dg"))
  | ((with_reducible apply v_m1); (· walk_at "dn"); (· walk_at "dn"); (· walk_at "dg"))
  | ((with_reducible apply v_b); (· walk_at "dn"))
  | ((with_reducible apply v_not); (· walk_at "dn"))
  | ((with_reducible apply v_notV); (· walk_at "dn"))
  | ((with_reducible apply v_rng1); (· walk_at "dn"); (· omega))
  | ((with_reducible apply v_rng2); (· walk_at "dn"); (· omega))
  | ((with_reducible apply v_it); (· walk_at "dn"))
  | ((with_reducible apply v_itl); (· walk_at "dn"))
  | ((with_reducible apply v_its); (· walk_at "dn"))
  | with_reducible assumption)
local macro_rules | `(tactic| walk_at "dt") => `(tactic| first
  | with_reducible exact v_c | with_reducible exact v_nil | with_reducible exact v_no
  | ((with_reducible apply v_var); (· rfl); (· rfl))
  | ((with_reducible apply v_2) <;> walk_at "dt")
  | ((with_reducible apply v_1) <;> walk_at "dt")
  | ((with_reducible apply v_cons) <;> walk_at "dt")
  | ((with_reducible apply v_blt) <;> walk_at "dt")
  | ((with_reducible apply v_call) <;> walk_at "dt")
  | ((with_reducible apply v_tup) <;> walk_at "dt")
  | ((with_reducible apply v_lst) <;> walk_at "dt")
  | ((with_reducible apply v_po) <;> walk_at "dt")
  | ((with_reducible apply v_sl) <;> walk_at "dt")
  | ((with_reducible apply v_m1) <;> walk_at "dt")
  | ((with_reducible apply v_b) <;> walk_at "dt")
  | ((with_reducible apply v_notV) <;> walk_at "dt")
  | ((with_reducible apply v_not) <;> walk_at "dt")
  | ((with_reducible apply v_rng1) <;> first | omega | walk_at "dt")
  | ((with_reducible apply v_rng2) <;> first | omega | walk_at "dt")
  | walk_at "dg"
  | (show List.length _ ≤ sizeLine; first | decide | (simp only [List.length_cons, List.length_nil]; decide))
  | skip)
local macro_rules | `(tactic| walk_at "ds") => `(tactic| first
  | ((with_reducible apply w_ss) <;> first | walk_at "d1" | skip)
  | ((with_reducible apply w_r) <;> first | walk_at "d1" | skip)
  | ((with_reducible apply w_sp) <;> first | walk_at "d1" | skip)
  | ((with_reducible apply w_so) <;> first | walk_at "d1" | skip)
  | (with_reducible apply w_sv)
  | (with_reducible apply w_sq))
local macro_rules | `(tactic| walk_at "dx") => `(tactic| simp only [put, jn, List.set_cons_zero, List.set_cons_succ])
def letters : List Nat := [97, 104, 107, 115, 122]
/-- a pattern that a law draws -/
structure Pt.Drawn (p : Pt) : Prop where
  s0 : 0 < p.s
  s1 : p.s ≤ 16
  g0 : 0 < p.g
  g1 : p.g ≤ 4
  sub : (p.ps.map Prod.fst).Sublist letters
  row : ∀ q ∈ p.ps, q.2.length = p.s ∧ isRow q.2
theorem Pt.Drawn.ok {p : Pt} (h : p.Drawn) : p.Ok := by
  have h1 := h.s1
  have h2 := h.g1
  refine ⟨h.s0, by omega, h.g0, by omega, ?_, h.row⟩
  have := h.sub.length_le
  simpa [letters] using this
theorem e_lawpat {n : Int} (h0 : 0 ≤ n) : ∃ p : Pt, p.Drawn ∧ n__law_pattern [.int n] = some (ptD p) := by
  obtain ⟨s, s0, s1, hs⟩ : ∃ s : Nat, 0 < s ∧ s ≤ 16 ∧ ixD (.tup [.int (1 + n / 8 % 16), .int 4, .int 8, .int (1 + n / 8 % 6)]) (.int (n % 4)) = some (.int (s : Nat)) := by
    have h4 : n % 4 = 0 ∨ n % 4 = 1 ∨ n % 4 = 2 ∨ n % 4 = 3 := by omega
    rcases h4 with e | e | e | e <;> rw [e]
    · exact ⟨(1 + n / 8 % 16).toNat, by omega, by omega, by rw [show (((1 + n / 8 % 16).toNat : Nat) : Int) = 1 + n / 8 % 16 by omega]; rfl⟩
    · exact ⟨4, by omega, by omega, rfl⟩
    · exact ⟨8, by omega, by omega, rfl⟩
    · exact ⟨(1 + n / 8 % 6).toNat, by omega, by omega, by rw [show (((1 + n / 8 % 6).toNat : Nat) : Int) = 1 + n / 8 % 6 by omega]; rfl⟩
  obtain ⟨g, hg, g0, g1⟩ : ∃ g : Nat, (g : Int) = 1 + n / 128 % 4 ∧ 0 < g ∧ g ≤ 4 := ⟨(1 + n / 128 % 4).toNat, by omega, by omega, by omega⟩
  have key := for_inv (g := gT (gCons' (gN 4) (gCons' (gN 5) gNil'))) (B := (fSeq (fSet 6 (f2 fdivD (fCall n__law_drawn (fCons (fV 0) (fCons (f2 addD (fC (.int 30)) (fV 4)) fNil))) (fC (.int 4))))
    (fIfS (fB (f2 ltD (f2 modD (fV 6) (fC (.int 5))) (f2 addD (fC (.int 1)) (f2 modD (f2 fdivD (fV 0) (fC (.int 512))) (fC (.int 4))))))
      (fSet 3 (f2 addD (fV 3) (fTup (fCons (fTup (fCons (fV 5) (fCons (fCall n__law_marks (fCons (f2 fdivD (fV 6) (fC (.int 8))) (fCons (fV 1) fNil))) fNil))) fNil))))
      fPass))) (fun q : Nat × Nat => D.wk [.int (q.1 : Nat), .str [q.2]])
    (fun p e => ∃ (ps : List (Nat × List Nat)) (x y z : Option D), e = [some (.int n), some (.int (s : Nat)), some (.int (g : Nat)), some (.tup (ps.map padD)), x, y, z] ∧ (ps.map Prod.fst).Sublist (p.map Prod.snd) ∧ (∀ q ∈ ps, q.2.length = s ∧ isRow q.2) ∧ ps.length ≤ p.length)
    [(0, 97), (1, 104), (2, 107), (3, 115), (4, 122)] [] [some (.int n), some (.int (s : Nat)), some (.int (g : Nat)), some (.tup []), none, none, none] ⟨[], none, none, none, rfl, List.Sublist.slnil, fun q hq => (by cases hq), Nat.le_refl _⟩ ?_
  · obtain ⟨e', k1, ps, x, y, z, rfl, a1, a2, a3⟩ := key
    refine ⟨⟨s, g, ps⟩, ⟨s0, s1, g0, g1, a1, a2⟩, sem_rt rfl ?_⟩
    show m__law_pattern [some (.int n), none, none, none, none, none, none] = _
    unfold m__law_pattern
    refine w_seq (w_set (v_2 (v_tup (by walk_at "dn") (by show 4 ≤ sizeLine; decide)) (by walk_at "dn") hs) rfl) ?_
    refine w_seq (w_set (d := .int (g : Nat)) (by rw [hg]; walk_at "dn") rfl) ?_
    refine w_seq (w_set (v_tup v_nil (by decide)) rfl) ?_
    refine w_seq (w_for (v_enum (xs := [.str [97], .str [104], .str [107], .str [115], .str [122]]) (v_tup (by walk_at "dn") (by show 5 ≤ sizeLine; decide)) rfl) k1) (ret_of ?_)
    exact v_tup (ds := [.int (s : Nat), .int (g : Nat), .tup (ps.map padD)]) (by walk_at "dn") (show 3 ≤ sizeLine by decide)
  · rintro p ⟨k, pad⟩ q e hp ⟨ps, x, y, z, rfl, a1, a2, a3⟩
    have hk : k ≤ 4 := by
      have : ((k, pad) : Nat × Nat) ∈ ([] : List (Nat × Nat)) ++ [(0, 97), (1, 104), (2, 107), (3, 115), (4, 122)] := by rw [hp]; simp
      simp at this
      omega
    have hpl : p.length ≤ 5 := by
      have := congrArg List.length hp
      simp at this
      omega
    obtain ⟨d, d0, d1, ed⟩ := drawn_ok n (30 + (k : Int)) (by omega)
    obtain ⟨row, er, lr, rr⟩ := e_marks (d / 4 / 8) (s := s) (by omega)
    by_cases hc : d / 4 % 5 < 1 + n / 512 % 4
    · refine ⟨[some (.int n), some (.int (s : Nat)), some (.int (g : Nat)), some (.tup (ps.map padD)), some (.int (k : Nat)), some (.str [pad]), z], [some (.int n), some (.int (s : Nat)), some (.int (g : Nat)), some (.tup ((ps ++ [(pad, row)]).map padD)), some (.int (k : Nat)), some (.str [pad]), some (.int (d / 4))], rfl, ?_, ps ++ [(pad, row)], _, _, _, rfl, ?_, ?_, ?_⟩
      · refine w_seq (w_set (v_2 (v_call (by walk_at "dn") ed) v_c (fdiv_i (by omega))) rfl) (w_ift (v_b (v_2 (by walk_at "dn") (by walk_at "dn") ?_)) (w_set (v_2 (by walk_at "dn") (v_tup (ds := [padD (pad, row)]) (v_cons (v_tup (ds := [.str [pad], .str row]) (v_cons (by walk_at "dn") (v_cons (v_call (by walk_at "dn") er) v_nil)) (show 2 ≤ sizeLine by decide)) v_nil) (show 1 ≤ sizeLine by decide)) (add_t ?_)) ?_))
        · rw [lt_i, decide_eq_true hc]
        · rw [List.length_map]
          show ps.length + 1 ≤ 1000000
          omega
        · rw [List.map_append]
          rfl
      · rw [List.map_append, List.map_append]
        exact a1.append (List.Sublist.refl _)
      · intro q hq
        rcases List.mem_append.mp hq with h | h
        · exact a2 q h
        · rw [List.mem_singleton.mp h]
          exact ⟨lr, rr⟩
      · rw [List.length_append, List.length_append]
        show ps.length + 1 ≤ p.length + 1
        omega
    · refine ⟨[some (.int n), some (.int (s : Nat)), some (.int (g : Nat)), some (.tup (ps.map padD)), some (.int (k : Nat)), some (.str [pad]), z], [some (.int n), some (.int (s : Nat)), some (.int (g : Nat)), some (.tup (ps.map padD)), some (.int (k : Nat)), some (.str [pad]), some (.int (d / 4))], rfl, ?_, ps, _, _, _, rfl, ?_, a2, ?_⟩
      · refine w_seq (w_set (v_2 (v_call (by walk_at "dn") ed) v_c (fdiv_i (by omega))) rfl) (w_iff (v_b (v_2 (by walk_at "dn") (by walk_at "dn") ?_)) w_pass)
        rw [lt_i, decide_eq_false hc]
      · rw [List.map_append]
        exact a1.trans (List.sublist_append_left _ _)
      · rw [List.length_append]
        omega
end Dn
set_option Elab.async false
set_option linter.all false
set_option maxRecDepth 100000
/-! Patterns: is_finer, coarser. -/
namespace Dn
open PySem L2 PySem.Spec PyProof.Rows PySem.Builtin PySem.Builtin.Str
local macro_rules | `(tactic| walk_at "dg") => `(tactic| first
  | with_reducible exact add_i _ _ | with_reducible exact sub_i _ _ | ((with_reducible refine mul_i ?_); omega) | ((with_reducible refine fdiv_i ?_); omega) | ((with_reducible refine mod_i ?_); omega) | with_reducible exact neg_i _
  | with_reducible exact lt_i _ _ | with_reducible exact le_i _ _ | with_reducible exact gt_i _ _ | with_reducible exact ge_i _ _ | with_reducible exact eq_i _ _ | with_reducible exact ne_i _ _ | with_reducible exact eq_s _ _ | with_reducible exact ne_s _ _
  | ((with_reducible refine add_s ?_); omega) | ((with_reducible refine add_t ?_); omega) | ((with_reducible refine add_l ?_); omega) | ((with_reducible refine mul_s ?_); omega) | ((with_reducible refine mul_l ?_); omega)
  | ((with_reducible refine len_s ?_); omega) | with_reducible exact len_t _ | with_reducible exact len_l _ | with_reducible exact len_c _ | with_reducible exact int_b _ | with_reducible exact int_i _ | with_reducible exact abs_i _
  | ((with_reducible refine sl_s ?_); omega) | with_reducible exact sl_t _ _ _ | with_reducible exact sl_l _ _ _ | ((with_reducible apply ix_t); (· omega); (· rfl)) | ((with_reducible apply ix_l); (· omega); (· rfl)) | with_reducible assumption)
local macro_rules | `(tactic| walk_at "dc") => `(tactic| with_reducible assumption)
local macro_rules | `(tactic| walk_at "dn") => `(tactic| first
  | with_reducible exact v_c | with_reducible exact v_nil | with_reducible exact v_no
  | ((with_reducible apply v_var); (· rfl); (· rfl))
  | ((with_reducible apply v_2); (· walk_at "dn"); (· walk_at "dn"); (· walk_at "dg"))
  | ((with_reducible apply v_1); (· walk_at "dn"); (· walk_at "dg"))
  | ((with_reducible apply v_cons); (· walk_at "dn"); (· walk_at "dn"))
  | ((with_reducible apply v_blt); (· walk_at "dn"); (· walk_at "dg"))
  | ((with_reducible apply v_call); (· walk_at "dn"); (· walk_at "dc"))
  | ((with_reducible apply v_tup); (· walk_at "dn"); (· first | decide | (simp only [List.length_cons, List.length_nil]; decide)))
  | ((with_reducible apply v_lst); (· walk_at "dn"); (· first | decide | (simp only [List.length_cons, List.length_nil]; decide)))
  | ((with_reducible apply v_po); (· walk_at "dn"))
  | ((with_reducible apply v_sl); (· walk_at "dn"); (· walk_at "dn"); (· walk_at "dn"); (· walk_at "dg"))
  | ((with_reducible apply v_m1); (· walk_at "dn"); (· walk_at "dn"); (· walk_at "dg"))
  | ((with_reducible apply v_b); (· walk_at "dn"))
  | ((with_reducible apply v_not); (· walk_at "dn"))
  | ((with_reducible apply v_notV); (· walk_at "dn"))
  | ((with_reducible apply v_rng1); (· walk_at "dn"); (· omega))
  | ((with_reducible apply v_rng2); (· walk_at "dn"); (· omega))
  | ((with_reducible apply v_it); (· walk_at "dn"))
  | ((with_reducible apply v_itl); (· walk_at "dn"))
  | ((with_reducible apply v_its); (· walk_at "dn"))
  | with_reducible assumption)
local macro_rules | `(tactic| walk_at "dt") => `(tactic| first
  | with_reducible exact v_c | with_reducible exact v_nil | with_reducible exact v_no
  | ((with_reducible apply v_var); (· rfl); (· rfl))
  | ((with_reducible apply v_2) <;> walk_at "dt")
  | ((with_reducible apply v_1) <;> walk_at "dt")
  | ((with_reducible apply v_cons) <;> walk_at "dt")
  | ((with_reducible apply v_blt) <;> walk_at "dt")
  | ((with_reducible apply v_call) <;> walk_at "dt")
  | ((with_reducible apply v_tup) <;> walk_at "dt")
  | ((with_reducible apply v_lst) <;> walk_at "dt")
  | ((with_reducible apply v_po) <;> walk_at "dt")
  | ((with_reducible apply v_sl) <;> walk_at "dt")
  | ((with_reducible apply v_m1) <;> walk_at "dt")
  | ((with_reducible apply v_b) <;> walk_at "dt")
  | ((with_reducible apply v_notV) <;> walk_at "dt")
  | ((with_reducible apply v_not) <;> walk_at "dt")
  | ((with_reducible apply v_rng1) <;> first | omega | walk_at "dt")
  | ((with_reducible apply v_rng2) <;> first | omega | walk_at "dt")
  | walk_at "dg"
  | (show List.length _ ≤ sizeLine; first | decide | (simp only [List.length_cons, List.length_nil]; decide))
  | skip)
local macro_rules | `(tactic| walk_at "ds") => `(tactic| first
  | ((with_reducible apply w_ss) <;> first | walk_at "d1" | skip)
  | ((with_reducible apply w_r) <;> first | walk_at "d1" | skip)
  | ((with_reducible apply w_sp) <;> first | walk_at "d1" | skip)
  | ((with_reducible apply w_so) <;> first | walk_at "d1" | skip)
  | (with_reducible apply w_sv)
  | (with_reducible apply w_sq))
local macro_rules | `(tactic| walk_at "dx") => `(tactic| simp only [put, jn, List.set_cons_zero, List.set_cons_succ])
theorem fineL_get {m : Nat} (hm : 0 < m) : ∀ (row : List Nat) (j : Nat), (fineL row m).getD j 46 = if j % m = 0 then row.getD (j / m) 46 else 46
  | [], j => by
    show ([] : List Nat).getD j 46 = _
    simp
  | c :: r, j => by
    have e : fineL (c :: r) m = (c :: List.replicate (m - 1) 46) ++ fineL r m := by unfold fineL; rw [List.map_cons, List.flatten_cons]
    have hl : (c :: List.replicate (m - 1) 46).length = m := by rw [List.length_cons, List.length_replicate]; omega
    rw [e, List.getD_eq_getElem?_getD, List.getElem?_append, hl]
    by_cases hj : j < m
    · rw [if_pos hj, Nat.mod_eq_of_lt hj, Nat.div_eq_of_lt hj]
      cases j with
      | zero => rfl
      | succ i =>
        rw [if_neg (by omega), List.getElem?_cons_succ, List.getElem?_replicate, if_pos (by omega)]
        rfl
    · rw [if_neg hj, ← List.getD_eq_getElem?_getD, fineL_get hm r (j - m)]
      have h1 : j % m = (j - m) % m := Nat.mod_eq_sub_mod (by omega)
      have h2 : j / m = (j - m) / m + 1 := by rw [Nat.div_eq_sub_div hm (by omega)]
      rw [← h1, h2]
      rfl
/-- it is another one, m times finer -/
def Fine (p : Pt) (m : Nat) : Prop := m ∣ p.s ∧ m ∣ p.g ∧ ∀ q ∈ p.ps, ∀ i, i < q.2.length → ¬ m ∣ i → q.2.getD i 46 = 46
def fineB (p : Pt) (m : Nat) : Bool := decide (p.s % m = 0) && (decide (p.g % m = 0) && p.ps.all fun q => (List.range q.2.length).all fun i => decide (i % m = 0) || decide (q.2.getD i 46 = 46))
theorem fine_iff (p : Pt) (m : Nat) : fineB p m = true ↔ Fine p m := by
  unfold fineB Fine
  rw [Bool.and_eq_true, Bool.and_eq_true, decide_eq_true_eq, decide_eq_true_eq, List.all_eq_true, ← Nat.dvd_iff_mod_eq_zero, ← Nat.dvd_iff_mod_eq_zero]
  refine and_congr_right fun _ => and_congr_right fun _ => forall_congr' fun q => forall_congr' fun hq => ?_
  rw [List.all_eq_true]
  refine ⟨fun h i hi hn => ?_, fun h i hi => ?_⟩
  · have := h i (List.mem_range.mpr hi)
    rw [Bool.or_eq_true, decide_eq_true_eq, decide_eq_true_eq, ← Nat.dvd_iff_mod_eq_zero] at this
    exact this.resolve_left hn
  · rw [Bool.or_eq_true, decide_eq_true_eq, decide_eq_true_eq, ← Nat.dvd_iff_mod_eq_zero]
    by_cases q : m ∣ i
    · exact .inl q
    · exact .inr (h i (List.mem_range.mp hi) q)
theorem filter_all {α : Type} (k h : α → Bool) : ∀ xs : List α, ((xs.filter k).map h).all id = xs.all fun x => !k x || h x
  | [] => rfl
  | x :: xs => by
    have ih := filter_all k h xs
    cases hk : k x with
    | true => rw [List.filter_cons_of_pos hk, List.map_cons, List.all_cons, List.all_cons, ih, hk]; rfl
    | false => rw [List.filter_cons_of_neg (by rw [hk]; decide), List.all_cons, ih, hk]; rfl
theorem e_isfineB {p : Pt} (ok : p.Big) {m : Nat} (hm : 0 < m) : n_is_finer [ptD p, .int (m : Nat)] = some (.bl (fineB p m)) := by
  refine sem_rt rfl ?_
  show m_is_finer [some (ptD p), some (.int (m : Nat)), none, none, none, none, none, none, none] = _
  unfold m_is_finer
  have hA : fAsg (fV 0) (gT (gCons' (gN 2) (gCons' (gN 3) (gCons' (gN 4) gNil')))) [some (ptD p), some (.int (m : Nat)), none, none, none, none, none, none, none] = some (.nx [some (ptD p), some (.int (m : Nat)), some (.int (p.s : Nat)), some (.int (p.g : Nat)), some (.tup (p.ps.map padD)), none, none, none, none]) := rfl
  refine w_seq hA ?_
  have md : ∀ x : Nat, modD (.int (x : Nat)) (.int (m : Nat)) = some (.int ((x % m : Nat) : Int)) := fun x => by
    rw [mod_i (by omega)]
    simp
  have nz : ∀ x : Nat, neD (.int ((x % m : Nat) : Int)) (.int 0) = some (.bl (!decide (x % m = 0))) := fun x => by
    rw [ne_i]
    congr 3
    exact decide_eq_decide.mpr (by omega)
  have c1 : fB (f2 neD (f2 modD (fV 2) (fV 1)) (fC (.int 0))) [some (ptD p), some (.int (m : Nat)), some (.int (p.s : Nat)), some (.int (p.g : Nat)), some (.tup (p.ps.map padD)), none, none, none, none] = some (!decide (p.s % m = 0)) := v_b (v_2 (v_2 (by walk_at "dn") (by walk_at "dn") (md _)) v_c (nz _))
  have c2 : fB (f2 neD (f2 modD (fV 3) (fV 1)) (fC (.int 0))) [some (ptD p), some (.int (m : Nat)), some (.int (p.s : Nat)), some (.int (p.g : Nat)), some (.tup (p.ps.map padD)), none, none, none, none] = some (!decide (p.g % m = 0)) := v_b (v_2 (v_2 (by walk_at "dn") (by walk_at "dn") (md _)) v_c (nz _))
  unfold fineB
  by_cases h1 : p.s % m = 0
  · rw [decide_eq_true h1] at c1 ⊢
    by_cases h2 : p.g % m = 0
    · rw [decide_eq_true h2] at c2 ⊢
      rw [Bool.true_and, Bool.true_and]
      refine w_seq (w_iff (v_orf c1 c2) w_pass) (ret_of ?_)
      have hin : ∀ q ∈ p.ps, fBlt allG (fCons (fLc (fEnum (fV 6)) (gT (gCons' (gN 7) (gCons' (gN 8) gNil'))) (fB (f2 neD (f2 modD (fV 7) (fV 1)) (fC (.int 0)))) (f2 eqD (fV 8) (fC (.str [46]))) [7, 8]) fNil) [some (ptD p), some (.int (m : Nat)), some (.int (p.s : Nat)), some (.int (p.g : Nat)), some (.tup (p.ps.map padD)), some (.str [q.1]), some (.str q.2), none, none] = some (.bl ((List.range q.2.length).all fun i => decide (i % m = 0) || decide (q.2.getD i 46 = 46))) := fun q hq => by
        have hl := (ok.row q hq).1
        have := ok.s1
        refine v_blt (v_cons (lcw (r := (((List.range q.2.length).filter fun i => !decide (i % m = 0)).map fun i => decide (q.2.getD i 46 = 46)).map D.bl) (v_enum (by walk_at "dn") rfl) ?_ ?_) v_nil) ?_
        · rw [enum_at]
          simp
          omega
        · rw [enum_at, List.length_map, List.map_map]
          refine lc_filter (fun i : Nat => D.wk [.int (i : Nat), (q.2.map fun x => D.str [x]).getD i .non]) _ _ (List.range q.2.length) fun i hi => ?_
          rw [getD_signs (List.mem_range.mp hi)]
          refine ⟨[some (ptD p), some (.int (m : Nat)), some (.int (p.s : Nat)), some (.int (p.g : Nat)), some (.tup (p.ps.map padD)), some (.str [q.1]), some (.str q.2), some (.int (i : Nat)), some (.str [q.2.getD i 46])], rfl, v_b (v_2 (v_2 (by walk_at "dn") (by walk_at "dn") (md _)) v_c (nz _)), fun _ => v_2 (by walk_at "dn") v_c ?_⟩
          rw [eq_s]
          show _ = some (D.bl (decide (q.2.getD i 46 = 46)))
          congr 2
          exact decide_eq_decide.mpr ⟨fun h => (List.cons.inj h).1, fun h => by rw [h]⟩
        · rw [all_b, filter_all]
          simp
      refine v_blt (v_cons (lcw (r := (p.ps.map fun q => (List.range q.2.length).all fun i => decide (i % m = 0) || decide (q.2.getD i 46 = 46)).map D.bl) (v_it (by walk_at "dn")) (by rw [List.length_map]; have := ok.few; omega) ?_) v_nil) ?_
      · rw [List.map_map]
        exact lc_map padD _ _ fun q hq => ⟨[some (ptD p), some (.int (m : Nat)), some (.int (p.s : Nat)), some (.int (p.g : Nat)), some (.tup (p.ps.map padD)), some (.str [q.1]), some (.str q.2), none, none], rfl, hin q hq⟩
      · rw [all_b, List.all_map]
        rfl
    · rw [decide_eq_false h2] at c2 ⊢
      exact w_ret (w_ift (v_orf c1 c2) (ret_of v_c))
  · rw [decide_eq_false h1] at c1 ⊢
    exact w_ret (w_ift (v_ort c1) (ret_of v_c))
theorem e_isfine {p : Pt} (ok : p.Ok) {m : Nat} (hm : 0 < m) : n_is_finer [ptD p, .int (m : Nat)] = some (.bl (fineB p m)) := e_isfineB ok.big hm
/-- K is the greatest one -/
def Most (p : Pt) (K : Nat) : Prop := 0 < K ∧ K ≤ p.s ∧ Fine p K ∧ ∀ m, 0 < m → m ≤ p.s → Fine p m → m ≤ K
def everyL (row : List Nat) (k : Nat) : List Nat := (List.range (row.length / k)).map fun i => row.getD (k * i) 46
theorem stride_every {row : List Nat} {k : Nat} (hk : 0 < k) (hd : k ∣ row.length) : stride row (k : Nat) = everyL row k := by
  obtain ⟨c, hc⟩ := hd
  have hpick : strSliceIndices none none (k : Int) row.length = (List.range c).map fun i => k * i := by
    unfold strSliceIndices sliceRange
    have hpos : (k : Int) > 0 := by omega
    simp only [hpos, if_true]
    have hcount : (if (0 : Int) < (row.length : Int) then ((row.length : Int) - 0 + (k : Int) - 1) / (k : Int) else 0).toNat = c := by
      by_cases h0 : (0 : Int) < (row.length : Int)
      · rw [if_pos h0]
        have : ((row.length : Int) - 0 + (k : Int) - 1) / (k : Int) = c := by
          rw [hc, Int.natCast_mul, show (k : Int) * (c : Int) - 0 + (k : Int) - 1 = ((k : Int) - 1) + (k : Int) * (c : Int) by omega, Int.add_mul_ediv_left _ _ (by omega), Int.ediv_eq_zero_of_lt (by omega) (by omega)]
          omega
        rw [this]
        simp
      · rw [if_neg h0]
        have : row.length = 0 := by omega
        rw [this] at hc
        rcases Nat.mul_eq_zero.mp hc.symm with h | h
        · omega
        · rw [h]
          rfl
    rw [hcount]
    apply List.map_congr_left
    intro i _
    have : (0 : Int) + (k : Int) * (i : Int) = ((k * i : Nat) : Int) := by simp
    rw [this, Int.toNat_natCast]
  unfold stride Txt.sliceBy slicePicked
  have hlen : (S row).length = row.length := S_len row
  show (if _ then S row else _ : Str).cps.toList = _
  have hdiv : row.length / k = c := by rw [hc, Nat.mul_div_cancel_left _ hk]
  by_cases h1 : k = 1
  · subst h1
    have hc1 : c = row.length := by omega
    rw [if_pos (by simp only [hlen]; show ((1 : Int) == 1 && (strSliceIndices none none ((1 : Nat) : Int) row.length).length == row.length) = true; rw [hpick]; simp [hc1])]
    unfold everyL
    rw [hdiv, hc1]
    refine List.ext_getElem (by simp [S]) fun i a1 a2 => ?_
    have a3 : i < row.length := by simpa using a2
    simp [S, List.getD_eq_getElem?_getD, a3]
  · rw [if_neg (by simp only [hlen]; intro q; rw [Bool.and_eq_true] at q; have := q.1; simp at this; omega)]
    simp only [hlen]
    show ((strSliceIndices none none (k : Int) row.length).filterMap ((S row).cps[·]?)).toArray.toList = _
    rw [hpick, filterMap_get, List.map_map]
    · unfold everyL
      rw [hdiv]
      show List.map _ _ = _
      apply List.map_congr_left
      intro i hi
      have hi := List.mem_range.mp hi
      have hlt : k * i < row.length := by rw [hc]; exact Nat.mul_lt_mul_of_pos_left hi hk
      simp [S, Array.getD, List.getD_eq_getElem?_getD, hlt]
    · intro x hx
      obtain ⟨i, hi, rfl⟩ := List.mem_map.mp hx
      have hi := List.mem_range.mp hi
      show k * i < (S row).cps.size
      have : (S row).cps.size = row.length := by simp [S]
      rw [this, hc]
      exact Nat.mul_lt_mul_of_pos_left hi hk
end Dn
set_option Elab.async false
set_option linter.all false
set_option maxRecDepth 100000
/-! Patterns: coarser. -/
namespace Dn
open PySem L2
local macro_rules | `(tactic| walk_at "dg") => `(tactic| first
  | with_reducible exact add_i _ _ | with_reducible exact sub_i _ _ | ((with_reducible refine mul_i ?_); omega) | ((with_reducible refine fdiv_i ?_); omega) | ((with_reducible refine mod_i ?_); omega) | with_reducible exact neg_i _
  | with_reducible exact lt_i _ _ | with_reducible exact le_i _ _ | with_reducible exact gt_i _ _ | with_reducible exact ge_i _ _ | with_reducible exact eq_i _ _ | with_reducible exact ne_i _ _ | with_reducible exact eq_s _ _ | with_reducible exact ne_s _ _
  | ((with_reducible refine add_s ?_); omega) | ((with_reducible refine add_t ?_); omega) | ((with_reducible refine add_l ?_); omega) | ((with_reducible refine mul_s ?_); omega) | ((with_reducible refine mul_l ?_); omega)
  | ((with_reducible refine len_s ?_); omega) | with_reducible exact len_t _ | with_reducible exact len_l _ | with_reducible exact len_c _ | with_reducible exact int_b _ | with_reducible exact int_i _ | with_reducible exact abs_i _
  | ((with_reducible refine sl_s ?_); omega) | with_reducible exact sl_t _ _ _ | with_reducible exact sl_l _ _ _ | ((with_reducible apply ix_t); (· omega); (· rfl)) | ((with_reducible apply ix_l); (· omega); (· rfl)) | with_reducible assumption)
local macro_rules | `(tactic| walk_at "dc") => `(tactic| with_reducible assumption)
local macro_rules | `(tactic| walk_at "dn") => `(tactic| first
  | with_reducible exact v_c | with_reducible exact v_nil | with_reducible exact v_no
  | ((with_reducible apply v_var); (· rfl); (· rfl))
  | ((with_reducible apply v_2); (· walk_at "dn"); (· walk_at "dn"); (· walk_at "dg"))
  | ((with_reducible apply v_1); (· walk_at "dn"); (· walk_at "dg"))
  | ((with_reducible apply v_cons); (· walk_at "dn"); (· walk_at "dn"))
  | ((with_reducible apply v_blt); (· walk_at "dn"); (· walk_at "dg"))
  | ((with_reducible apply v_call); (· walk_at "dn"); (· walk_at "dc"))
  | ((with_reducible apply v_tup); (· walk_at "dn"); (· first | decide | (simp only [List.length_cons, List.length_nil]; decide)))
  | ((with_reducible apply v_lst); (· walk_at "dn"); (· first | decide | (simp only [List.length_cons, List.length_nil]; decide)))
  | ((with_reducible apply v_po); (· walk_at "dn"))
  | ((with_reducible apply v_sl); (· walk_at "dn"); (· walk_at "dn"); (· walk_at "dn"); (· walk_at "dg"))
  | ((with_reducible apply v_m1); (· walk_at "dn"); (· walk_at "dn"); (· walk_at "dg"))
  | ((with_reducible apply v_b); (· walk_at "dn"))
  | ((with_reducible apply v_not); (· walk_at "dn"))
  | ((with_reducible apply v_notV); (· walk_at "dn"))
  | ((with_reducible apply v_rng1); (· walk_at "dn"); (· omega))
  | ((with_reducible apply v_rng2); (· walk_at "dn"); (· omega))
  | ((with_reducible apply v_it); (· walk_at "dn"))
  | ((with_reducible apply v_itl); (· walk_at "dn"))
  | ((with_reducible apply v_its); (· walk_at "dn"))
  | with_reducible assumption)
local macro_rules | `(tactic| walk_at "dt") => `(tactic| first
  | with_reducible exact v_c | with_reducible exact v_nil | with_reducible exact v_no
  | ((with_reducible apply v_var); (· rfl); (· rfl))
  | ((with_reducible apply v_2) <;> walk_at "dt")
  | ((with_reducible apply v_1) <;> walk_at "dt")
  | ((with_reducible apply v_cons) <;> walk_at "dt")
  | ((with_reducible apply v_blt) <;> walk_at "dt")
  | ((with_reducible apply v_call) <;> walk_at "dt")
  | ((with_reducible apply v_tup) <;> walk_at "dt")
  | ((with_reducible apply v_lst) <;> walk_at "dt")
  | ((with_reducible apply v_po) <;> walk_at "dt")
  | ((with_reducible apply v_sl) <;> walk_at "dt")
  | ((with_reducible apply v_m1) <;> walk_at "dt")
  | ((with_reducible apply v_b) <;> walk_at "dt")
  | ((with_reducible apply v_notV) <;> walk_at "dt")
  | ((with_reducible apply v_not) <;> walk_at "dt")
  | ((with_reducible apply v_rng1) <;> first | omega | walk_at "dt")
  | ((with_reducible apply v_rng2) <;> first | omega | walk_at "dt")
  | walk_at "dg"
  | (show List.length _ ≤ sizeLine; first | decide | (simp only [List.length_cons, List.length_nil]; decide))
  | skip)
local macro_rules | `(tactic| walk_at "ds") => `(tactic| first
  | ((with_reducible apply w_ss) <;> first | walk_at "d1" | skip)
  | ((with_reducible apply w_r) <;> first | walk_at "d1" | skip)
  | ((with_reducible apply w_sp) <;> first | walk_at "d1" | skip)
  | ((with_reducible apply w_so) <;> first | walk_at "d1" | skip)
  | (with_reducible apply w_sv)
  | (with_reducible apply w_sq))
local macro_rules | `(tactic| walk_at "dx") => `(tactic| simp only [put, jn, List.set_cons_zero, List.set_cons_succ])
def coarseP (p : Pt) (K : Nat) : Pt := ⟨p.s / K, p.g / K, p.ps.map fun q => (q.1, everyL q.2 K)⟩
theorem fine_one (p : Pt) : Fine p 1 := ⟨Nat.one_dvd _, Nat.one_dvd _, fun q _ i _ h => absurd (Nat.one_dvd i) h⟩
theorem fine_lcm {p : Pt} {a b : Nat} (ha : Fine p a) (hb : Fine p b) : Fine p (Nat.lcm a b) := by
  refine ⟨Nat.lcm_dvd ha.1 hb.1, Nat.lcm_dvd ha.2.1 hb.2.1, fun q hq i hi hn => ?_⟩
  by_cases h : a ∣ i
  · by_cases h' : b ∣ i
    · exact absurd (Nat.lcm_dvd h h') hn
    · exact hb.2.2 q hq i hi h'
  · exact ha.2.2 q hq i hi h
theorem most_div {p : Pt} {K m : Nat} (hs : 0 < p.s) (hK : Most p K) (hm : 0 < m) (h : Fine p m) : m ∣ K := by
  have h1 := fine_lcm hK.2.2.1 h
  have h2 : 0 < Nat.lcm K m := Nat.lcm_pos hK.1 hm
  have h3 := hK.2.2.2 _ h2 (Nat.le_of_dvd hs h1.1) h1
  have h4 : K ∣ Nat.lcm K m := Nat.dvd_lcm_left K m
  have h5 := Nat.le_of_dvd h2 h4
  have h6 : Nat.lcm K m = K := by omega
  rw [← h6]
  exact Nat.dvd_lcm_right K m
theorem most_ex {p : Pt} (hs : 0 < p.s) : ∃ K, Most p K ∧ ∀ (x : Int) (xs : List Int), (((List.range p.s).map fun i => i + 1).filter fun m => fineB p m).map (fun m : Nat => (m : Int)) = x :: xs → maxOf ltI x xs = (K : Nat) := by
  have hne : (((List.range p.s).map fun i => i + 1).filter fun m => fineB p m) ≠ [] := by
    intro q
    have : (1 : Nat) ∈ (((List.range p.s).map fun i => i + 1).filter fun m => fineB p m) := by
      rw [List.mem_filter, List.mem_map]
      exact ⟨⟨0, List.mem_range.mpr hs, rfl⟩, (fine_iff p 1).mpr (fine_one p)⟩
    rw [q] at this
    cases this
  cases e : (((List.range p.s).map fun i => i + 1).filter fun m => fineB p m).map (fun m : Nat => (m : Int)) with
  | nil =>
    rw [List.map_eq_nil_iff] at e
    exact absurd e hne
  | cons x xs =>
    have hmem := maxOf_mem ltI xs x
    have hge := maxOfI_ge xs x
    rw [← e] at hmem hge
    obtain ⟨K, hK, eK⟩ := List.mem_map.mp hmem
    rw [List.mem_filter, List.mem_map] at hK
    obtain ⟨⟨i, hi, rfl⟩, hf⟩ := hK
    have hi := List.mem_range.mp hi
    refine ⟨i + 1, ⟨by omega, by omega, (fine_iff p _).mp hf, fun m h1 h2 h3 => ?_⟩, fun x' xs' q => ?_⟩
    · have := hge (m : Int) (List.mem_map.mpr ⟨m, by
        rw [List.mem_filter, List.mem_map]
        exact ⟨⟨m - 1, List.mem_range.mpr (by omega), by omega⟩, (fine_iff p m).mpr h3⟩, rfl⟩)
      rw [← eK] at this
      omega
    · cases q
      exact eK.symm
theorem most_one {p : Pt} {K J : Nat} (h : Most p K) (h' : Most p J) : K = J := by
  have h1 := h.2.2.2 J h'.1 h'.2.1 h'.2.2.1
  have h2 := h'.2.2.2 K h.1 h.2.1 h.2.2.1
  omega
theorem e_coarserB {p : Pt} (ok : p.Big) : ∃ K, Most p K ∧ n_coarser [ptD p] = some (ptD (coarseP p K)) := by
  obtain ⟨K, hK, hmax⟩ := most_ex ok.s0
  have s0 := ok.s0
  have s1 := ok.s1
  refine ⟨K, hK, sem_rt rfl ?_⟩
  show m_coarser [some (ptD p), none, none, none, none, none, none] = _
  unfold m_coarser
  have hA : fAsg (fV 0) (gT (gCons' (gN 2) (gCons' (gN 3) (gCons' (gN 4) gNil')))) [some (ptD p), none, none, none, none, none, none] = some (.nx [some (ptD p), none, some (.int (p.s : Nat)), some (.int (p.g : Nat)), some (.tup (p.ps.map padD)), none, none]) := rfl
  refine w_seq hA ?_
  have hl : fLc (fRng2 (fCons (fC (.int 1)) (fCons (f2 addD (fV 2) (fC (.int 1))) fNil))) (gN 1) (fB (fCall n_is_finer (fCons (fV 0) (fCons (fV 1) fNil)))) (fV 1) [1] [some (ptD p), none, some (.int (p.s : Nat)), some (.int (p.g : Nat)), some (.tup (p.ps.map padD)), none, none] = some (.lst (((((List.range p.s).map fun i => i + 1).filter fun m => fineB p m).map (fun m : Nat => (m : Int))).map D.int)) := by
    refine lcw (ds := ((List.range p.s).map fun i => i + 1).map fun m : Nat => D.int (m : Nat)) ?_ (by simp; omega) ?_
    · refine Eq.trans (v_rng2 (m := 1) (n := (p.s : Int) + 1) (by walk_at "dn") (by omega)) ?_
      rw [show ((p.s : Int) + 1 - 1).toNat = p.s by omega, List.map_map]
      refine congrArg some (List.map_congr_left fun i _ => ?_)
      show D.int (1 + (i : Int)) = D.int ((i + 1 : Nat) : Int)
      congr 1
      omega
    · rw [List.map_map (f := fun m : Nat => (m : Int))]
      refine lc_filter (fun m : Nat => D.int (m : Nat)) (fun m => fineB p m) _ ((List.range p.s).map fun i => i + 1) fun m hm => ⟨[some (ptD p), some (.int (m : Nat)), some (.int (p.s : Nat)), some (.int (p.g : Nat)), some (.tup (p.ps.map padD)), none, none], rfl, ?_, fun _ => rfl⟩
      obtain ⟨i, _, rfl⟩ := List.mem_map.mp hm
      exact v_b (v_call (by walk_at "dn") (e_isfineB ok (by omega)))
  have hmx : maxG [.lst (((((List.range p.s).map fun i => i + 1).filter fun m => fineB p m).map (fun m : Nat => (m : Int))).map D.int)] = some (.int (K : Nat)) := by
    cases e : (((List.range p.s).map fun i => i + 1).filter fun m => fineB p m).map (fun m : Nat => (m : Int)) with
    | nil =>
      rw [List.map_eq_nil_iff] at e
      have : K ∈ (((List.range p.s).map fun i => i + 1).filter fun m => fineB p m) := by
        rw [List.mem_filter, List.mem_map]
        exact ⟨⟨K - 1, List.mem_range.mpr (by have := hK.1; have := hK.2.1; omega), by have := hK.1; omega⟩, (fine_iff p K).mpr hK.2.2.1⟩
      rw [e] at this
      cases this
    | cons x xs => rw [max_i, hmax x xs e]
  refine w_seq (w_set (v_blt (v_cons hl v_nil) hmx) rfl) (ret_of ?_)
  have K0 := hK.1
  have Ks := hK.2.1
  have d1 : fdivD (.int (p.s : Nat)) (.int (K : Nat)) = some (.int ((p.s / K : Nat) : Int)) := by
    rw [fdiv_i (by omega)]
    simp
  have d2 : fdivD (.int (p.g : Nat)) (.int (K : Nat)) = some (.int ((p.g / K : Nat) : Int)) := by
    rw [fdiv_i (by omega)]
    simp
  have hr : fLc (fIt (fV 4)) (gT (gCons' (gN 5) (gCons' (gN 6) gNil'))) fYes (fTup (fCons (fV 5) (fCons (f2 slkD (fV 6) (fV 1)) fNil))) [5, 6] [some (ptD p), some (.int (K : Nat)), some (.int (p.s : Nat)), some (.int (p.g : Nat)), some (.tup (p.ps.map padD)), none, none] = some (.lst ((coarseP p K).ps.map padD)) := by
    refine lcw (v_it (by walk_at "dn")) (by rw [List.length_map]; have := ok.few; omega) ?_
    unfold coarseP
    rw [List.map_map]
    refine lc_map padD _ _ fun q hq => ⟨[some (ptD p), some (.int (K : Nat)), some (.int (p.s : Nat)), some (.int (p.g : Nat)), some (.tup (p.ps.map padD)), some (.str [q.1]), some (.str q.2)], rfl, ?_⟩
    obtain ⟨l1, l2⟩ := ok.row q hq
    have hs : slkD (.str q.2) (.int (K : Nat)) = some (.str (everyL q.2 K)) := by
      show (if q.2.length ≤ sizeLine ∧ (K : Int) ≠ 0 then _ else _) = _
      rw [if_pos ⟨by have := size1000; omega, by omega⟩, stride_every K0 (by rw [l1]; exact hK.2.2.1.1)]
    exact v_tup (ds := [.str [q.1], .str (everyL q.2 K)]) (v_cons (by walk_at "dn") (v_cons (v_2 (by walk_at "dn") (by walk_at "dn") hs) v_nil)) (show 2 ≤ sizeLine by decide)
  exact v_tup (ds := [.int ((p.s / K : Nat) : Int), .int ((p.g / K : Nat) : Int), .tup ((coarseP p K).ps.map padD)]) (v_cons (v_2 (by walk_at "dn") (by walk_at "dn") d1) (v_cons (v_2 (by walk_at "dn") (by walk_at "dn") d2) (v_cons (v_1 hr rfl) v_nil))) (show 3 ≤ sizeLine by decide)
theorem e_coarser {p : Pt} (ok : p.Ok) : ∃ K, Most p K ∧ n_coarser [ptD p] = some (ptD (coarseP p K)) := e_coarserB ok.big
theorem fine_of_fine {p : Pt} (h : ∀ q ∈ p.ps, q.2.length = p.s) {m : Nat} (hm : 0 < m) (k : Nat) : Fine (finerP p m) (m * k) ↔ Fine p k := by
  constructor
  · rintro ⟨h1, h2, h3⟩
    have e1 : m * k ∣ m * p.s := by rw [Nat.mul_comm m p.s]; exact h1
    have e2 : m * k ∣ m * p.g := by rw [Nat.mul_comm m p.g]; exact h2
    refine ⟨Nat.dvd_of_mul_dvd_mul_left hm e1, Nat.dvd_of_mul_dvd_mul_left hm e2, fun q hq i hi hn => ?_⟩
    have := h3 (q.1, fineL q.2 m) (List.mem_map.mpr ⟨q, hq, rfl⟩) (m * i) (by
      show m * i < (fineL q.2 m).length
      rw [fineL_len _ hm, Nat.mul_comm q.2.length m]
      exact Nat.mul_lt_mul_of_pos_left hi hm) (fun hd => hn (Nat.dvd_of_mul_dvd_mul_left hm hd))
    rw [show ((q.1, fineL q.2 m) : Nat × List Nat).2 = fineL q.2 m from rfl, fineL_get hm, Nat.mul_mod_right, if_pos rfl, Nat.mul_div_cancel_left _ hm] at this
    exact this
  · rintro ⟨h1, h2, h3⟩
    refine ⟨by show m * k ∣ p.s * m; rw [Nat.mul_comm p.s m]; exact Nat.mul_dvd_mul_left m h1, by show m * k ∣ p.g * m; rw [Nat.mul_comm p.g m]; exact Nat.mul_dvd_mul_left m h2, fun q hq i hi hn => ?_⟩
    obtain ⟨q', hq', rfl⟩ := List.mem_map.mp hq
    show (fineL q'.2 m).getD i 46 = 46
    rw [fineL_get hm]
    by_cases hz : i % m = 0
    · rw [if_pos hz]
      obtain ⟨j, hj⟩ := Nat.dvd_of_mod_eq_zero hz
      subst hj
      rw [Nat.mul_div_cancel_left _ hm]
      refine h3 q' hq' j ?_ fun hd => hn (Nat.mul_dvd_mul_left m hd)
      have hi : m * j < (fineL q'.2 m).length := hi
      rw [fineL_len _ hm, Nat.mul_comm q'.2.length m] at hi
      exact Nat.lt_of_mul_lt_mul_left hi
    · rw [if_neg hz]
theorem most_fine {p : Pt} (h : ∀ q ∈ p.ps, q.2.length = p.s) (hs : 0 < p.s) {m K : Nat} (hm : 0 < m) (hK : Most p K) : Most (finerP p m) (m * K) := by
  have hsm : 0 < (finerP p m).s := Nat.mul_pos hs hm
  refine ⟨Nat.mul_pos hm hK.1, ?_, (fine_of_fine h hm K).mpr hK.2.2.1, fun k k0 k1 k2 => ?_⟩
  · show m * K ≤ p.s * m
    rw [Nat.mul_comm p.s m]
    exact Nat.mul_le_mul_left m hK.2.1
  · obtain ⟨J, hJ, _⟩ := most_ex hsm
    have hmf : Fine (finerP p m) m := by
      have := (fine_of_fine h hm 1).mpr (fine_one p)
      rwa [Nat.mul_one] at this
    obtain ⟨j, hj⟩ := most_div hsm hJ hm hmf
    have hJf := hJ.2.2.1
    rw [hj] at hJf
    have hjf := (fine_of_fine h hm j).mp hJf
    have j0 : 0 < j := by
      rcases Nat.eq_zero_or_pos j with z | z
      · rw [z, Nat.mul_zero] at hj
        have := hJ.1
        omega
      · exact z
    have hjK := hK.2.2.2 j j0 (Nat.le_of_dvd hs hjf.1) hjf
    have h1 := hJ.2.2.2 k k0 k1 k2
    have h2 := Nat.mul_le_mul_left m hjK
    omega
theorem every_fine {row : List Nat} {m K : Nat} (hm : 0 < m) (hK : 0 < K) (hd : K ∣ row.length) : everyL (fineL row m) (m * K) = everyL row K := by
  obtain ⟨c, hc⟩ := hd
  unfold everyL
  have e1 : (fineL row m).length / (m * K) = c := by
    rw [fineL_len _ hm, hc, Nat.mul_comm (K * c) m, ← Nat.mul_assoc]
    exact Nat.mul_div_cancel_left c (Nat.mul_pos hm hK)
  have e2 : row.length / K = c := by rw [hc]; exact Nat.mul_div_cancel_left c hK
  rw [e1, e2]
  refine List.map_congr_left fun i _ => ?_
  rw [fineL_get hm, Nat.mul_assoc, Nat.mul_mod_right, if_pos rfl, Nat.mul_div_cancel_left _ hm]
theorem coarse_fine {p : Pt} (h : ∀ q ∈ p.ps, q.2.length = p.s) {m K : Nat} (hm : 0 < m) (hK : Most p K) : coarseP (finerP p m) (m * K) = coarseP p K := by
  unfold coarseP finerP
  have e1 : p.s * m / (m * K) = p.s / K := by rw [Nat.mul_comm p.s m, Nat.mul_div_mul_left _ _ hm]
  have e2 : p.g * m / (m * K) = p.g / K := by rw [Nat.mul_comm p.g m, Nat.mul_div_mul_left _ _ hm]
  simp only [e1, e2, List.map_map]
  congr 1
  refine List.map_congr_left fun q hq => ?_
  show (q.1, everyL (fineL q.2 m) (m * K)) = (q.1, everyL q.2 K)
  rw [every_fine hm hK.1 (by rw [h q hq]; exact hK.2.2.1.1)]
end Dn
set_option Elab.async false
set_option linter.all false
set_option maxRecDepth 100000
/-! Patterns: turning, counts. -/
namespace Dn
open PySem L2
theorem mul_mod {m n r x : Int} (hm : 0 < m) (hn : 0 < n) (h0 : 0 ≤ r) (h1 : r < m) : (m * x + r) % (m * n) = m * (x % n) + r := by
  have e : m * x + r = (m * (x % n) + r) + (m * n) * (x / n) := by
    have := Int.emod_add_mul_ediv x n
    conv => lhs; rw [← this]
    rw [Int.mul_add, Int.mul_assoc]
    omega
  have a0 := Int.emod_nonneg x (show n ≠ 0 by omega)
  have a1 := Int.emod_lt_of_pos x hn
  have b0 : 0 ≤ m * (x % n) := Int.mul_nonneg (by omega) a0
  have b1 : m * (x % n) ≤ m * (n - 1) := Int.mul_le_mul_of_nonneg_left (by omega) (by omega)
  rw [Int.mul_sub, Int.mul_one] at b1
  rw [e, Int.add_mul_emod_self_left]
  exact Int.emod_eq_of_lt (by omega) (by omega)
theorem fine_rot {row : List Nat} (h : 0 < row.length) {m : Nat} (hm : 0 < m) (b : Int) : fineL (rotL row b) m = rotL (fineL row m) (b * m) := by
  refine row_ext (by rw [fineL_len _ hm, rot_len, rot_len, fineL_len _ hm]) fun j hj => ?_
  rw [fineL_len _ hm, rot_len] at hj
  have hja : j / m < row.length := Nat.div_lt_of_lt_mul (by rw [Nat.mul_comm]; exact hj)
  rw [rot_get (b * m) (by rw [fineL_len _ hm]; exact hj), fineL_len _ hm, fineL_get hm, fineL_get hm, rot_get b hja]
  obtain ⟨k, hk, hk2⟩ := mod_at h (((j / m : Nat) : Int) - b)
  have hr := Nat.mod_lt j hm
  have ej : ((j : Int) - b * m) = (m : Int) * (((j / m : Nat) : Int) - b) + ((j % m : Nat) : Int) := by
    have := Nat.div_add_mod j m
    have h2 : (j : Int) = (m : Int) * ((j / m : Nat) : Int) + ((j % m : Nat) : Int) := by
      rw [← Int.natCast_mul, ← Int.natCast_add, this]
    conv => lhs; rw [h2]
    rw [Int.mul_sub, Int.mul_comm b m]
    omega
  have et : ((j : Int) - b * m) % ((row.length * m : Nat) : Int) = ((m * k + j % m : Nat) : Int) := by
    rw [ej, Int.natCast_mul, Int.mul_comm (row.length : Int) (m : Int), mul_mod (by omega) (by omega) (by omega) (by omega), ← hk, Int.natCast_add, Int.natCast_mul]
  rw [et, Int.toNat_natCast, Nat.mul_add_mod, Nat.mod_mod, Nat.mul_add_div hm, Nat.div_eq_of_lt hr, Nat.add_zero, ← hk, Int.toNat_natCast]
theorem fineL_row {row : List Nat} (h : isRow row) (m : Nat) : isRow (fineL row m) := by
  intro c hc
  unfold fineL at hc
  obtain ⟨l, hl, hcl⟩ := List.mem_flatten.mp hc
  obtain ⟨d, hd, rfl⟩ := List.mem_map.mp hl
  rcases List.mem_cons.mp hcl with rfl | q
  · exact h c hd
  · exact .inl (List.eq_of_mem_replicate q)
theorem fineL_count {c : Nat} (hc : c ≠ 46) (m : Nat) : ∀ row : List Nat, (fineL row m).count c = row.count c
  | [] => rfl
  | d :: r => by
    have e : fineL (d :: r) m = (d :: List.replicate (m - 1) 46) ++ fineL r m := by unfold fineL; rw [List.map_cons, List.flatten_cons]
    rw [e, List.count_append, fineL_count hc m r, List.count_cons, List.count_cons, List.count_replicate, if_neg (by simpa using fun h => hc h.symm)]
    omega
theorem row_len {l : List Nat} (h : isRow l) : (l.length : Int) - (l.count 120 : Nat) - (l.count 46 : Nat) = (l.count 88 : Nat) := by
  induction l with
  | nil => rfl
  | cons c r ih =>
    have ih := ih fun d hd => h d (List.mem_cons_of_mem _ hd)
    rcases h c List.mem_cons_self with rfl | rfl | rfl <;> simp [List.count_cons] <;> omega
def cnt (p : Pt) (c : Nat) : Nat := (p.ps.map fun q => q.2.count c).sum
theorem cnt_marks (p : Pt) (c : Nat) : (marksP p).count c = cnt p c := by
  unfold marksP cnt
  rw [List.count_flatten, List.map_map]
  rfl
theorem loud_eq {p : Pt} (h : ∀ q ∈ p.ps, isRow q.2) : loudD p = .tup [.int (cnt p 120 : Nat), .int (cnt p 88 : Nat)] := by
  have hr : isRow (marksP p) := by
    intro c hc
    unfold marksP at hc
    obtain ⟨l, hl, hcl⟩ := List.mem_flatten.mp hc
    obtain ⟨q, hq, rfl⟩ := List.mem_map.mp hl
    exact h q hq c hcl
  unfold loudD
  rw [row_len hr, cnt_marks, cnt_marks]
theorem cnt_fine (p : Pt) {c : Nat} (hc : c ≠ 46) (m : Nat) : cnt (finerP p m) c = cnt p c := by
  unfold cnt finerP
  rw [List.map_map]
  congr 1
  exact List.map_congr_left fun q _ => fineL_count hc m q.2
theorem cnt_turn (p : Pt) (c : Nat) (b : Int) : cnt (turnP p b) c = cnt p c := by
  unfold cnt turnP
  rw [List.map_map]
  congr 1
  exact List.map_congr_left fun q _ => (rot_perm q.2 b).count_eq c
theorem cnt_parts (c : Nat) (f : Nat × List Nat → Nat) : ∀ (ps : List (Nat × List Nat)), (∀ q ∈ ps, q.1 ∈ letters) → (letters.map fun l => ((ps.filter fun q => decide (q.1 ∈ [l])).map f).sum).sum = (ps.map f).sum
  | [], _ => rfl
  | q :: ps, h => by
    have ih := cnt_parts c f ps fun x hx => h x (List.mem_cons_of_mem _ hx)
    have hq := h q List.mem_cons_self
    simp only [letters, List.map_cons, List.map_nil, List.sum_cons, List.sum_nil, List.filter_cons, List.mem_singleton] at ih hq ⊢
    rw [← ih]
    simp only [List.mem_cons, List.not_mem_nil, or_false] at hq
    rcases hq with e | e | e | e | e <;> simp [e] <;> omega
end Dn
set_option Elab.async false
set_option linter.all false
set_option maxRecDepth 100000
/-! Two patterns together: the plain pattern. -/
namespace Dn
theorem mx_comm (c d : Nat) : mx c d = mx d c := by unfold mx; grind
theorem mx_assoc (c d e : Nat) : mx (mx c d) e = mx c (mx d e) := by unfold mx; grind
theorem mx_rest {c : Nat} (h : isM c) : mx c 46 = c := by
  rcases h with rfl | rfl | rfl <;> rfl
theorem mx_rest' {c : Nat} (h : isM c) : mx 46 c = c := by rw [mx_comm]; exact mx_rest h
theorem mx_isM (c d : Nat) : isM (mx c d) := by unfold mx isM; grind
def padsP (p : Pt) : List Nat := p.ps.map Prod.fst
/-- a pattern whose pads rise -/
structure Pt.Fit (p : Pt) : Prop where
  s0 : 0 < p.s
  g0 : 0 < p.g
  sub : (padsP p).Sublist letters
  row : ∀ q ∈ p.ps, q.2.length = p.s ∧ isRow q.2
theorem Pt.Drawn.fit {p : Pt} (h : p.Drawn) : p.Fit := ⟨h.s0, h.g0, h.sub, h.row⟩
theorem letters_nodup : letters.Nodup := by decide
theorem Pt.Fit.nodup {p : Pt} (h : p.Fit) : (padsP p).Nodup := h.sub.nodup letters_nodup
theorem Pt.Fit.few {p : Pt} (h : p.Fit) : p.ps.length ≤ 5 := by
  have := h.sub.length_le
  simpa [letters, padsP] using this
def rowAt (p : Pt) (c : Nat) : List Nat := ((p.ps.find? fun q => decide (q.1 = c)).map Prod.snd).getD []
theorem rowAt_not {p : Pt} {c : Nat} (h : c ∉ padsP p) : rowAt p c = [] := by
  unfold rowAt
  rw [List.find?_eq_none.mpr]
  · rfl
  · intro q hq hc
    exact h (List.mem_map.mpr ⟨q, hq, by simpa using hc⟩)
theorem find_nodup {β : Type} : ∀ {ps : List (Nat × β)} {q : Nat × β}, (ps.map Prod.fst).Nodup → q ∈ ps → ps.find? (fun r => decide (r.1 = q.1)) = some q
  | [], q, _, h => by cases h
  | r :: ps, q, hn, h => by
    have hn := List.nodup_cons.mp hn
    by_cases e : r.1 = q.1
    · rw [List.find?_cons_of_pos (by simpa using e)]
      rcases List.mem_cons.mp h with rfl | h
      · rfl
      · exact absurd (e ▸ List.mem_map_of_mem h) hn.1
    · rw [List.find?_cons_of_neg (by simpa using e)]
      rcases List.mem_cons.mp h with rfl | h
      · exact absurd rfl e
      · exact find_nodup hn.2 h
theorem rowAt_mem {p : Pt} (hn : (padsP p).Nodup) {q : Nat × List Nat} (h : q ∈ p.ps) : rowAt p q.1 = q.2 := by
  unfold rowAt
  rw [find_nodup hn h]
  rfl
theorem rowAt_row {p : Pt} (f : p.Fit) (c : Nat) : isRow (rowAt p c) := by
  unfold rowAt
  cases e : p.ps.find? fun q => decide (q.1 = c) with
  | none => intro x hx; cases hx
  | some q => exact (f.row q (List.mem_of_find?_eq_some e)).2
/-- the mark of a pad at a step, m times finer, going round -/
def mkA (p : Pt) (m c i : Nat) : Nat := if i % (p.s * m) % m = 0 then (rowAt p c).getD (i % (p.s * m) / m) 46 else 46
theorem mkA_isM {p : Pt} (f : p.Fit) (m c i : Nat) : isM (mkA p m c i) := by
  unfold mkA
  split
  · exact isM_at (rowAt_row f c) _
  · exact .inl rfl
theorem mkA_not {p : Pt} {c : Nat} (h : c ∉ padsP p) (m i : Nat) : mkA p m c i = 46 := by
  unfold mkA
  rw [rowAt_not h]
  simp
/-- finer again -/
theorem mkA_mul (p : Pt) {ma m S : Nat} (hm : 0 < m) (hd : p.s * ma ∣ S) (c i : Nat) : mkA p (ma * m) c i = if i % (S * m) % m = 0 then mkA p ma c (i % (S * m) / m) else 46 := by
  have e1 : i % (p.s * (ma * m)) = (i % (S * m)) % (m * (p.s * ma)) := by
    rw [show p.s * (ma * m) = m * (p.s * ma) by grind]
    refine (Nat.mod_mod_of_dvd i ?_).symm
    rw [Nat.mul_comm S m]
    exact Nat.mul_dvd_mul_left m hd
  generalize i % (S * m) = j at *
  unfold mkA
  rw [e1]
  generalize hk : j % (m * (p.s * ma)) = k
  have k1 : k % m = j % m := by rw [← hk]; exact Nat.mod_mod_of_dvd j (Nat.dvd_mul_right m _)
  have k2 : k / m = j / m % (p.s * ma) := by rw [← hk]; exact Nat.mod_mul_right_div_self j m (p.s * ma)
  have k3 : k % (ma * m) = k % m + m * (k / m % ma) := by rw [Nat.mul_comm ma m]; exact Nat.mod_mul
  have k4 : k / (ma * m) = k / m / ma := by rw [Nat.mul_comm ma m, Nat.div_div_eq_div_mul]
  rw [k3, k4, k1, k2]
  by_cases h1 : j % m = 0
  · rw [if_pos h1, h1, Nat.zero_add]
    by_cases h2 : j / m % (p.s * ma) % ma = 0
    · rw [h2, Nat.mul_zero, if_pos rfl]
    · rw [if_neg h2, if_neg]
      intro z
      rcases Nat.mul_eq_zero.mp z with z | z
      · omega
      · exact h2 z
  · rw [if_neg h1, if_neg (by omega)]
def gG (a b : Pt) : Nat := Nat.lcm a.g b.g
def sS (a b : Pt) : Nat := Nat.lcm (a.s * (gG a b / a.g)) (b.s * (gG a b / b.g))
def rwP (a b : Pt) (c : Nat) : List Nat := (List.range (sS a b)).map fun i => mx (mkA a (gG a b / a.g) c i) (mkA b (gG a b / b.g) c i)
def togP (a b : Pt) : Pt := ⟨sS a b, gG a b, (letters.filter fun c => decide (c ∈ padsP a ∨ c ∈ padsP b)).map fun c => (c, rwP a b c)⟩
theorem pads_tog (a b : Pt) : padsP (togP a b) = letters.filter fun c => decide (c ∈ padsP a ∨ c ∈ padsP b) := by
  unfold padsP togP
  rw [List.map_map]
  conv => rhs; rw [← List.map_id (letters.filter _)]
  rfl
theorem gG_pos {a b : Pt} (ha : a.Fit) (hb : b.Fit) : 0 < gG a b := Nat.lcm_pos ha.g0 hb.g0
theorem gG_a (a b : Pt) : a.g ∣ gG a b := Nat.dvd_lcm_left _ _
theorem gG_b (a b : Pt) : b.g ∣ gG a b := Nat.dvd_lcm_right _ _
theorem m_pos {x y : Nat} (hx : 0 < y) (hy : 0 < x) (h : x ∣ y) : 0 < y / x := Nat.div_pos (Nat.le_of_dvd hx h) hy
theorem sS_pos {a b : Pt} (ha : a.Fit) (hb : b.Fit) : 0 < sS a b := by
  have h := gG_pos ha hb
  exact Nat.lcm_pos (Nat.mul_pos ha.s0 (m_pos h ha.g0 (gG_a a b))) (Nat.mul_pos hb.s0 (m_pos h hb.g0 (gG_b a b)))
theorem fit_tog {a b : Pt} (ha : a.Fit) (hb : b.Fit) : (togP a b).Fit := by
  refine ⟨sS_pos ha hb, gG_pos ha hb, ?_, fun q hq => ?_⟩
  · rw [pads_tog]
    exact List.filter_sublist
  · obtain ⟨c, _, rfl⟩ := List.mem_map.mp hq
    refine ⟨by simp [rwP, togP], fun x hx => ?_⟩
    obtain ⟨i, _, rfl⟩ := List.mem_map.mp hx
    exact mx_isM _ _
theorem mkA_tog {a b : Pt} (ha : a.Fit) (hb : b.Fit) {m : Nat} (hm : 0 < m) (c : Nat) (hc : c ∈ letters) (i : Nat) : mkA (togP a b) m c i = mx (mkA a (gG a b / a.g * m) c i) (mkA b (gG a b / b.g * m) c i) := by
  rw [mkA_mul a (S := sS a b) hm (Nat.dvd_lcm_left _ _), mkA_mul b (S := sS a b) hm (Nat.dvd_lcm_right _ _)]
  have hS := sS_pos ha hb
  have hj : i % (sS a b * m) / m < sS a b := Nat.div_lt_of_lt_mul (by rw [Nat.mul_comm]; exact Nat.mod_lt _ (Nat.mul_pos hm hS))
  have e0 : mkA (togP a b) m c i = if i % (sS a b * m) % m = 0 then (rowAt (togP a b) c).getD (i % (sS a b * m) / m) 46 else 46 := rfl
  rw [e0]
  by_cases h1 : i % (sS a b * m) % m = 0
  · rw [if_pos h1, if_pos h1, if_pos h1]
    show (rowAt (togP a b) c).getD (i % (sS a b * m) / m) 46 = mx (mkA a (gG a b / a.g) c (i % (sS a b * m) / m)) (mkA b (gG a b / b.g) c (i % (sS a b * m) / m))
    by_cases hp : c ∈ padsP (togP a b)
    · obtain ⟨q, hq, rfl⟩ := List.mem_map.mp hp
      rw [rowAt_mem (fit_tog ha hb).nodup hq]
      obtain ⟨d, _, rfl⟩ := List.mem_map.mp hq
      show ((List.range (sS a b)).map _).getD _ 46 = _
      rw [List.getD_eq_getElem?_getD, List.getElem?_map, List.getElem?_range hj]
      rfl
    · have : ¬ (c ∈ padsP a ∨ c ∈ padsP b) := fun z => hp (by rw [pads_tog, List.mem_filter]; exact ⟨hc, decide_eq_true z⟩)
      rw [rowAt_not hp, mkA_not (fun z => this (.inl z)), mkA_not (fun z => this (.inr z))]
      simp [mx]
  · rw [if_neg h1, if_neg h1, if_neg h1]
    rfl
theorem div_chain {x y z : Nat} (hx : 0 < x) (hy : 0 < y) (h1 : x ∣ y) (h2 : y ∣ z) : y / x * (z / y) = z / x := by
  obtain ⟨u, rfl⟩ := h1
  obtain ⟨v, rfl⟩ := h2
  rw [Nat.mul_div_cancel_left _ hx, Nat.mul_div_cancel_left _ hy, Nat.mul_assoc, Nat.mul_div_cancel_left _ hx]
theorem tog_comm (a b : Pt) : togP a b = togP b a := by
  have hg : gG a b = gG b a := Nat.lcm_comm _ _
  have hs : sS a b = sS b a := by unfold sS; rw [hg, Nat.lcm_comm]
  unfold togP
  have hr : ∀ c, rwP a b c = rwP b a c := fun c => by
    unfold rwP
    rw [hs, hg]
    refine List.map_congr_left fun i _ => mx_comm _ _
  rw [hg, hs]
  congr 1
  have hf : (letters.filter fun c => decide (c ∈ padsP a ∨ c ∈ padsP b)) = letters.filter fun c => decide (c ∈ padsP b ∨ c ∈ padsP a) := by
    refine List.filter_congr fun c _ => ?_
    simp only [or_comm]
  rw [hf]
  exact List.map_congr_left fun c _ => by rw [hr c]
theorem sS_tog {a b : Pt} (ha : a.Fit) (hb : b.Fit) (G : Nat) (hd : gG a b ∣ G) : sS a b * (G / gG a b) = Nat.lcm (a.s * (G / a.g)) (b.s * (G / b.g)) := by
  unfold sS
  rw [← Nat.lcm_mul_right, Nat.mul_assoc, Nat.mul_assoc, div_chain ha.g0 (gG_pos ha hb) (gG_a a b) hd, div_chain hb.g0 (gG_pos ha hb) (gG_b a b) hd]
theorem mem_pads_tog {a b : Pt} {c : Nat} (hc : c ∈ letters) : c ∈ padsP (togP a b) ↔ c ∈ padsP a ∨ c ∈ padsP b := by
  rw [pads_tog, List.mem_filter, decide_eq_true_eq]
  exact ⟨fun h => h.2, fun h => ⟨hc, h⟩⟩
theorem tog_assoc {a b c : Pt} (ha : a.Fit) (hb : b.Fit) (hc : c.Fit) : togP (togP a b) c = togP a (togP b c) := by
  have hG : gG (togP a b) c = gG a (togP b c) := Nat.lcm_assoc _ _ _
  have d1 : gG a b ∣ gG (togP a b) c := Nat.dvd_lcm_left _ _
  have d2 : gG b c ∣ gG (togP a b) c := by rw [hG]; exact Nat.dvd_lcm_right _ _
  have hab := fit_tog ha hb
  have hbc := fit_tog hb hc
  generalize hGe : gG (togP a b) c = G at *
  have hG' : gG a (togP b c) = G := hG.symm
  have hS : sS (togP a b) c = sS a (togP b c) := by
    show Nat.lcm (sS a b * (gG (togP a b) c / gG a b)) (c.s * (gG (togP a b) c / c.g)) = Nat.lcm (a.s * (gG a (togP b c) / a.g)) (sS b c * (gG a (togP b c) / gG b c))
    rw [hGe, hG', sS_tog ha hb G d1, sS_tog hb hc G d2, Nat.lcm_assoc]
  have hp : 0 < G := by rw [← hGe]; exact gG_pos hab hc
  have hr : ∀ x ∈ letters, rwP (togP a b) c x = rwP a (togP b c) x := fun x hx => by
    unfold rwP
    rw [hS, hGe, hG']
    refine List.map_congr_left fun i _ => ?_
    show mx (mkA (togP a b) (G / gG a b) x i) (mkA c (G / c.g) x i) = mx (mkA a (G / a.g) x i) (mkA (togP b c) (G / gG b c) x i)
    rw [mkA_tog ha hb (m_pos hp (gG_pos ha hb) d1) x hx, mkA_tog hb hc (m_pos hp (gG_pos hb hc) d2) x hx, div_chain ha.g0 (gG_pos ha hb) (gG_a a b) d1, div_chain hb.g0 (gG_pos ha hb) (gG_b a b) d1,
      div_chain hb.g0 (gG_pos hb hc) (gG_a b c) d2, div_chain hc.g0 (gG_pos hb hc) (gG_b b c) d2, mx_assoc]
  have hf : (letters.filter fun x => decide (x ∈ padsP (togP a b) ∨ x ∈ padsP c)) = letters.filter fun x => decide (x ∈ padsP a ∨ x ∈ padsP (togP b c)) := by
    refine List.filter_congr fun x hx => ?_
    refine decide_eq_decide.mpr ?_
    rw [mem_pads_tog hx, mem_pads_tog hx, or_assoc]
  show (⟨sS (togP a b) c, gG (togP a b) c, (letters.filter fun x => decide (x ∈ padsP (togP a b) ∨ x ∈ padsP c)).map fun x => (x, rwP (togP a b) c x)⟩ : Pt) = ⟨sS a (togP b c), gG a (togP b c), (letters.filter fun x => decide (x ∈ padsP a ∨ x ∈ padsP (togP b c))).map fun x => (x, rwP a (togP b c) x)⟩
  rw [hS, hGe, hG', hf]
  congr 1
  exact List.map_congr_left fun x hx => by rw [hr x (List.mem_filter.mp hx).1]
end Dn
set_option Elab.async false
set_option linter.all false
set_option maxRecDepth 100000
/-! Two patterns together: rows going round, how loud. -/
namespace Dn
theorem dS_a (a b : Pt) : a.s * (gG a b / a.g) ∣ sS a b := Nat.dvd_lcm_left _ _
theorem dS_b (a b : Pt) : b.s * (gG a b / b.g) ∣ sS a b := Nat.dvd_lcm_right _ _
def raP (p : Pt) (m S c : Nat) : List Nat := (List.range S).map fun i => mkA p m c i
theorem reps_get (x : List Nat) : ∀ (n i : Nat), i < n * x.length → (reps x n).getD i 46 = x.getD (i % x.length) 46
  | 0, i, h => by omega
  | n + 1, i, h => by
    have e : reps x (n + 1) = x ++ reps x n := by unfold reps; rw [List.replicate_succ, List.flatten_cons]
    rw [e, List.getD_eq_getElem?_getD, List.getElem?_append]
    by_cases hi : i < x.length
    · rw [if_pos hi, Nat.mod_eq_of_lt hi, ← List.getD_eq_getElem?_getD]
    · rw [if_neg hi, ← List.getD_eq_getElem?_getD]
      have h' : i - x.length < n * x.length := by rw [Nat.succ_mul] at h; omega
      rw [reps_get x n _ h', ← Nat.mod_eq_sub_mod (by omega)]
theorem range_get (f : Nat → Nat) {S i : Nat} (h : i < S) : ((List.range S).map f).getD i 46 = f i := by
  rw [List.getD_eq_getElem?_getD, List.getElem?_map, List.getElem?_range h]
  rfl
theorem fit_row {p : Pt} (f : p.Fit) {q : Nat × List Nat} (hq : q ∈ p.ps) {m S : Nat} (hm : 0 < m) (hd : p.s * m ∣ S) : reps (fineL q.2 m) (S / (p.s * m)) = raP p m S q.1 := by
  obtain ⟨n, rfl⟩ := hd
  have hl := (f.row q hq).1
  have hpos : 0 < p.s * m := Nat.mul_pos f.s0 hm
  rw [Nat.mul_div_cancel_left _ hpos]
  have hlen : (reps (fineL q.2 m) n).length = p.s * m * n := by rw [reps_len, fineL_len _ hm, hl, Nat.mul_comm]
  refine row_ext (by rw [hlen]; simp [raP]) fun i hi => ?_
  rw [hlen] at hi
  unfold raP
  rw [range_get _ hi, reps_get _ _ _ (by rw [fineL_len _ hm, hl, Nat.mul_comm n]; exact hi), fineL_len _ hm, hl, fineL_get hm]
  unfold mkA
  rw [rowAt_mem f.nodup hq]
theorem ra_not {p : Pt} {c : Nat} (h : c ∉ padsP p) (m S : Nat) : raP p m S c = List.replicate S 46 := by
  unfold raP
  rw [List.map_congr_left (g := fun _ => 46) fun i _ => mkA_not h m i, List.map_const', List.length_range]
theorem ra_len (p : Pt) (m S c : Nat) : (raP p m S c).length = S := by simp [raP]
theorem ra_row {p : Pt} (f : p.Fit) (m S c : Nat) : isRow (raP p m S c) := by
  intro x hx
  obtain ⟨i, _, rfl⟩ := List.mem_map.mp hx
  exact mkA_isM f m c i
theorem lay_ra {a b : Pt} (c : Nat) : layL (raP a (gG a b / a.g) (sS a b) c) (raP b (gG a b / b.g) (sS a b) c) = rwP a b c := by
  rw [layL_at _ _ (by rw [ra_len, ra_len]), ra_len]
  unfold rwP
  refine List.map_congr_left fun i hi => ?_
  have hi := List.mem_range.mp hi
  unfold raP
  rw [range_get _ hi, range_get _ hi]
theorem rw_a {a b : Pt} (ha : a.Fit) {c : Nat} (h : c ∉ padsP b) : rwP a b c = raP a (gG a b / a.g) (sS a b) c := by
  unfold rwP raP
  refine List.map_congr_left fun i _ => ?_
  rw [mkA_not h, mx_rest (mkA_isM ha _ _ _)]
theorem rw_b {a b : Pt} (hb : b.Fit) {c : Nat} (h : c ∉ padsP a) : rwP a b c = raP b (gG a b / b.g) (sS a b) c := by
  unfold rwP raP
  refine List.map_congr_left fun i _ => ?_
  rw [mkA_not h, mx_rest' (mkA_isM hb _ _ _)]
theorem reps_count (x : List Nat) (c : Nat) : ∀ n : Nat, (reps x n).count c = n * x.count c
  | 0 => by simp [reps]
  | n + 1 => by
    have e : reps x (n + 1) = x ++ reps x n := by unfold reps; rw [List.replicate_succ, List.flatten_cons]
    rw [e, List.count_append, reps_count x c n, Nat.succ_mul, Nat.add_comm]
theorem sub_filter {l p : List Nat} (h : p.Sublist l) (hn : l.Nodup) : l.filter (fun c => decide (c ∈ p)) = p := by
  induction h with
  | slnil => rfl
  | @cons l₁ l₂ a h ih =>
    have hn' := List.nodup_cons.mp hn
    rw [List.filter_cons_of_neg (by simpa using fun z => hn'.1 (h.subset z))]
    exact ih hn'.2
  | @cons_cons l₁ l₂ a h ih =>
    have hn' := List.nodup_cons.mp hn
    rw [List.filter_cons_of_pos (by simp)]
    congr 1
    have := ih hn'.2
    conv => rhs; rw [← this]
    refine List.filter_congr fun c hc => decide_eq_decide.mpr ?_
    rw [List.mem_cons]
    exact ⟨fun z => z.resolve_left fun e => hn'.1 (e ▸ hc), .inr⟩
/-- the counts of a pattern, by its pads -/
theorem cnt_pads {p : Pt} (hn : (padsP p).Nodup) (c : Nat) : cnt p c = ((padsP p).map fun x => (rowAt p x).count c).sum := by
  unfold cnt padsP
  rw [List.map_map]
  congr 1
  refine List.map_congr_left fun q hq => ?_
  show q.2.count c = (rowAt p q.1).count c
  rw [rowAt_mem hn hq]
theorem sum_mul (k : Nat) (f : Nat → Nat) : ∀ l : List Nat, (l.map fun x => k * f x).sum = k * (l.map f).sum
  | [] => by simp
  | x :: l => by rw [List.map_cons, List.sum_cons, List.map_cons, List.sum_cons, sum_mul k f l, Nat.mul_add]
theorem ra_count {p : Pt} (f : p.Fit) {x : Nat} (hx : x ∈ padsP p) {m S : Nat} (hm : 0 < m) (hd : p.s * m ∣ S) {c : Nat} (hc : c ≠ 46) : (raP p m S x).count c = S / (p.s * m) * (rowAt p x).count c := by
  obtain ⟨q, hq, rfl⟩ := List.mem_map.mp hx
  rw [← fit_row f hq hm hd, reps_count, fineL_count hc, rowAt_mem f.nodup hq]
/-- unlike pads: as loud as these rounds of both -/
theorem cnt_tog {a b : Pt} (ha : a.Fit) (hb : b.Fit) (hp : padsP (togP a b) = padsP a ++ padsP b) {c : Nat} (hc : c ≠ 46) : cnt (togP a b) c = sS a b / (a.s * (gG a b / a.g)) * cnt a c + sS a b / (b.s * (gG a b / b.g)) * cnt b c := by
  have hG := gG_pos ha hb
  have hab := fit_tog ha hb
  have nd := hab.nodup
  rw [hp] at nd
  have dis : ∀ x, x ∈ padsP a → x ∈ padsP b → False := fun x h1 h2 => (List.nodup_append.mp nd).2.2 x h1 x h2 rfl
  rw [cnt_pads hab.nodup, hp, List.map_append, List.sum_append, cnt_pads ha.nodup, cnt_pads hb.nodup, ← sum_mul, ← sum_mul]
  have key : ∀ x, x ∈ padsP (togP a b) → rowAt (togP a b) x = rwP a b x := fun x hx => by
    obtain ⟨q, hq, rfl⟩ := List.mem_map.mp hx
    rw [rowAt_mem hab.nodup hq]
    obtain ⟨d, _, rfl⟩ := List.mem_map.mp hq
    rfl
  congr 2
  · refine List.map_congr_left fun x hx => ?_
    rw [key x (by rw [hp]; exact List.mem_append_left _ hx), rw_a ha (fun z => dis x hx z), ra_count ha hx (m_pos hG ha.g0 (gG_a a b)) (dS_a a b) hc]
  · refine List.map_congr_left fun x hx => ?_
    rw [key x (by rw [hp]; exact List.mem_append_right _ hx), rw_b hb (fun z => dis x z hx), ra_count hb hx (m_pos hG hb.g0 (gG_b a b)) (dS_b a b) hc]
theorem pads_ahk {a b : Pt} (ha : (padsP a).Sublist [97, 104, 107]) (hb : (padsP b).Sublist [115, 122]) : padsP (togP a b) = padsP a ++ padsP b := by
  rw [pads_tog]
  show (([97, 104, 107] ++ [115, 122] : List Nat).filter fun c => decide (c ∈ padsP a ∨ c ∈ padsP b)) = _
  rw [List.filter_append]
  congr 1
  · rw [← sub_filter ha (by decide)]
    refine List.filter_congr fun c hc => decide_eq_decide.mpr ?_
    rw [sub_filter ha (by decide)]
    refine ⟨fun z => z.resolve_right fun z => ?_, .inl⟩
    have := hb.subset z
    simp at hc this
    omega
  · rw [← sub_filter hb (by decide)]
    refine List.filter_congr fun c hc => decide_eq_decide.mpr ?_
    rw [sub_filter hb (by decide)]
    refine ⟨fun z => z.resolve_left fun z => ?_, .inr⟩
    have := ha.subset z
    simp at hc this
    omega
end Dn
set_option Elab.async false
set_option linter.all false
set_option maxRecDepth 100000
/-! Part K: steps for statements, loops with a state. -/
namespace Dn
open PySem L2

section
variable {env e e' : En} {F G : En → Option Fl} {fl : Fl} {f : En → Option D} {d : D}
theorem w_ss {i : Nat} (h1 : f env = some d) (h2 : G (env.set i (some d)) = some fl) : fSeq (fSet i f) G env = some fl := (seq_nx (set_of h1)).trans h2
theorem w_sg {g : D → En → Option En} (h1 : f env = some d) (h2 : g d env = some e) (h3 : G e = some fl) : fSeq (fAsg f g) G env = some fl := by
  refine (seq_nx ?_).trans h3
  unfold fAsg
  rw [h1]
  simp only [Option.bind_some, h2]
theorem w_sp {i j : Nat} {fs : En → Option (List D)} {d d' : D} (h : fs env = some [d, d']) (h2 : G ((env.set i (some d)).set j (some d')) = some fl) : fSeq (fPar i j fs) G env = some fl := by
  refine (seq_nx ?_).trans h2
  unfold fPar
  rw [h]
  rfl
theorem w_so {i : Nat} {fn : En → Option (List D)} {ds : List D} (h : fn env = some ds) (h2 : G (env.set i (some (.own ds))) = some fl) : fSeq (fOwn i fn) G env = some fl := by
  refine (seq_nx ?_).trans h2
  unfold fOwn
  rw [h]
  rfl
theorem w_r (h : f env = some d) : fRet f env = some (.rt d) := ret_of h
/-- an if that is passed by -/
theorem w_sf {c : En → Option Bool} {B : En → Option Fl} (h1 : c env = some false) (h2 : G env = some fl) : fSeq (fIfS c B fPass) G env = some fl := w_seq (w_iff h1 w_pass) h2
theorem w_st {c : En → Option Bool} {B C : En → Option Fl} (h1 : c env = some true) (h2 : fSeq B G env = some fl) : fSeq (fIfS c B C) G env = some fl := by
  unfold fSeq at h2 ⊢
  rw [if_t h1]
  exact h2
theorem w_se {c : En → Option Bool} {B C : En → Option Fl} (h1 : c env = some false) (h2 : fSeq C G env = some fl) : fSeq (fIfS c B C) G env = some fl := by
  unfold fSeq at h2 ⊢
  rw [if_f h1]
  exact h2
theorem w_sq {A B : En → Option Fl} (h : fSeq A (fSeq B G) env = some fl) : fSeq (fSeq A B) G env = some fl := by
  unfold fSeq at h ⊢
  cases ha : A env with
  | none => rw [ha] at h; cases h
  | some x =>
    rw [ha] at h
    cases x with
    | nx e1 => exact h
    | rt d => exact h
    | bk e1 => exact h
    | ct e1 => exact h
theorem w_sv (h : G env = some fl) : fSeq fPass G env = some fl := h
theorem w_sr (h : f env = some d) : fSeq (fRet f) G env = some (.rt d) := seq_rt (ret_of h)
theorem w_sfor {it : En → Option (List D)} {g : D → En → Option En} {B : En → Option Fl} {ds : List D} (h : it env = some ds) (h2 : forF g B ds env = some (.nx e)) (h3 : G e = some fl) : fSeq (fFor it g B) G env = some fl := w_seq (w_for h h2) h3
theorem w_last (h : fSeq F fPass env = some fl) : F env = some fl := by
  unfold fSeq at h
  cases ha : F env with
  | none => rw [ha] at h; cases h
  | some x =>
    rw [ha] at h
    cases x <;> exact h
theorem w_skip (h : F env = some (.nx env)) (h2 : G env = some fl) : fSeq F G env = some fl := w_seq h h2
theorem w_not {c : En → Option Bool} {k : Bool} (h : c env = some (!k)) : fNot c env = some k := by
  unfold fNot
  rw [h]
  simp
end

/-! ### a loop with a state -/
def put (env : En) : List (Nat × D) → En
  | [] => env
  | p :: ps => put (env.set p.1 (some p.2)) ps
def jn (env : En) (w : Nat → Option D) : List Nat → En
  | [] => env
  | j :: js => jn (env.set j (w j)) w js
def Ends (r : Option Fl) (P : En → Prop) : Prop := ∃ e, r = some (.nx e) ∧ P e
theorem en_of {r : Option Fl} {P : En → Prop} {e : En} (h : r = some (.nx e)) (h2 : P e) : Ends r P := ⟨e, h, h2⟩
/-- the body's end: the state's slots are so, of others nothing is wanted -/
def Endsw (r : Option Fl) (env : En) (js : List Nat) : Prop := Ends r fun e2 => e2 = jn env (fun j => e2.getD j none) js
theorem en_w {r : Option Fl} {env e : En} {js : List Nat} (h : r = some (.nx e)) (h2 : e = jn env (fun j => e.getD j none) js) : Endsw r env js := ⟨e, h, h2⟩
/-- st: what the slots hold that the loop writes; js: slots of which nothing is wanted -/
theorem for_st {α σ : Type} {g : D → En → Option En} {B : En → Option Fl} {env : En} (c : α → D) (st : σ → List (Nat × D)) (js : List Nat) (I : List α → σ → Prop) (xs : List α) (s0 : σ)
    (h0 : jn (put env (st s0)) (fun j => env.getD j none) js = env) (hI : I [] s0)
    (h : ∀ (p : List α) (a : α) (q : List α) (s : σ) (w : Nat → Option D), xs = p ++ a :: q → I p s → ∃ e1 s', I (p ++ [a]) s' ∧ g (c a) (jn (put env (st s)) w js) = some e1 ∧ Endsw (B e1) (put env (st s')) js) :
    ∃ s w, I xs s ∧ forF g B (xs.map c) env = some (.nx (jn (put env (st s)) w js)) := by
  obtain ⟨e', h1, s, w, h2, h3⟩ := for_inv (g := g) (B := B) c (fun p e => ∃ s w, I p s ∧ e = jn (put env (st s)) w js) xs [] env ⟨s0, _, hI, h0.symm⟩ (fun p a q e hp ⟨s, w, hi, he⟩ => by
    subst he
    obtain ⟨e1, s', a1, a2, e2, a3, a4⟩ := h p a q s w hp hi
    exact ⟨e1, e2, a2, a3, s', _, a1, a4⟩)
  subst h3
  exact ⟨s, w, h2, h1⟩
/-- the same for a plain fold -/
theorem for_fold {α σ : Type} {g : D → En → Option En} {B : En → Option Fl} {env : En} (c : α → D) (st : σ → List (Nat × D)) (js : List Nat) (step : σ → α → σ) (xs : List α) (s0 : σ)
    (h0 : jn (put env (st s0)) (fun j => env.getD j none) js = env)
    (h : ∀ (p : List α) (a : α) (q : List α) (w : Nat → Option D), xs = p ++ a :: q → ∃ e1, g (c a) (jn (put env (st (p.foldl step s0))) w js) = some e1 ∧ Endsw (B e1) (put env (st (step (p.foldl step s0) a))) js) :
    ∃ w, forF g B (xs.map c) env = some (.nx (jn (put env (st (xs.foldl step s0))) w js)) := by
  obtain ⟨s, w, e1, e2⟩ := for_st (g := g) (B := B) c st js (fun p s => s = p.foldl step s0) xs s0 h0 rfl (fun p a q s w hp hi => by
    subst hi
    obtain ⟨e1, a1, a2⟩ := h p a q w hp
    exact ⟨e1, _, by rw [List.foldl_append]; rfl, a1, a2⟩)
  subst e1
  exact ⟨w, e2⟩
theorem w_fst {α σ : Type} {it : En → Option (List D)} {g : D → En → Option En} {B G : En → Option Fl} {env : En} {fl : Fl} (c : α → D) (st : σ → List (Nat × D)) (js : List Nat) (I : List α → σ → Prop) (xs : List α) (s0 : σ)
    (hit : it env = some (xs.map c)) (h0 : jn (put env (st s0)) (fun j => env.getD j none) js = env) (hI : I [] s0)
    (h : ∀ (p : List α) (a : α) (q : List α) (s : σ) (w : Nat → Option D), xs = p ++ a :: q → I p s → ∃ e1 s', I (p ++ [a]) s' ∧ g (c a) (jn (put env (st s)) w js) = some e1 ∧ Endsw (B e1) (put env (st s')) js)
    (h3 : ∀ (s : σ) (w : Nat → Option D), I xs s → G (jn (put env (st s)) w js) = some fl) : fSeq (fFor it g B) G env = some fl := by
  obtain ⟨s, w, a1, a2⟩ := for_st c st js I xs s0 h0 hI h
  exact w_sfor hit a2 (h3 s w a1)
theorem w_ffold {α σ : Type} {it : En → Option (List D)} {g : D → En → Option En} {B G : En → Option Fl} {env : En} {fl : Fl} (c : α → D) (st : σ → List (Nat × D)) (js : List Nat) (step : σ → α → σ) (xs : List α) (s0 : σ)
    (hit : it env = some (xs.map c)) (h0 : jn (put env (st s0)) (fun j => env.getD j none) js = env)
    (h : ∀ (p : List α) (a : α) (q : List α) (w : Nat → Option D), xs = p ++ a :: q → ∃ e1, g (c a) (jn (put env (st (p.foldl step s0))) w js) = some e1 ∧ Endsw (B e1) (put env (st (step (p.foldl step s0) a))) js)
    (h3 : ∀ (w : Nat → Option D), G (jn (put env (st (xs.foldl step s0))) w js) = some fl) : fSeq (fFor it g B) G env = some fl := by
  obtain ⟨w, a2⟩ := for_fold c st js step xs s0 h0 h
  exact w_sfor hit a2 (h3 w)
/-! the same where the body's end is told by Endsw -/
section
variable {env e e2 : En} {js2 : List Nat} {F G : En → Option Fl} {f : En → Option D} {d : D}
theorem en_seq (h1 : F env = some (.nx e)) (h2 : Endsw (G e) e2 js2) : Endsw (fSeq F G env) e2 js2 := by
  obtain ⟨x, a, b⟩ := h2
  exact ⟨x, w_seq h1 a, b⟩
theorem en_ss {i : Nat} (h1 : f env = some d) (h2 : Endsw (G (env.set i (some d))) e2 js2) : Endsw (fSeq (fSet i f) G env) e2 js2 := en_seq (set_of h1) h2
theorem en_sf {c : En → Option Bool} {B : En → Option Fl} (h1 : c env = some false) (h2 : Endsw (G env) e2 js2) : Endsw (fSeq (fIfS c B fPass) G env) e2 js2 := en_seq (w_iff h1 w_pass) h2
theorem en_if {c : En → Option Bool} {B C : En → Option Fl} {k : Bool} (h1 : c env = some k) (h2 : k = true → Endsw (fSeq B G env) e2 js2) (h3 : k = false → Endsw (fSeq C G env) e2 js2) : Endsw (fSeq (fIfS c B C) G env) e2 js2 := by
  cases k with
  | true =>
    obtain ⟨x, a, b⟩ := h2 rfl
    exact ⟨x, w_st h1 a, b⟩
  | false =>
    obtain ⟨x, a, b⟩ := h3 rfl
    exact ⟨x, w_se h1 a, b⟩
theorem en_last (h : Endsw (fSeq F fPass env) e2 js2) : Endsw (F env) e2 js2 := by
  obtain ⟨x, a, b⟩ := h
  exact ⟨x, w_last a, b⟩
theorem en_sq {A B : En → Option Fl} (h : Endsw (fSeq A (fSeq B G) env) e2 js2) : Endsw (fSeq (fSeq A B) G env) e2 js2 := by
  obtain ⟨x, a, b⟩ := h
  exact ⟨x, w_sq a, b⟩
theorem en_pass (h : env = jn e2 (fun j => env.getD j none) js2) : Endsw (fPass env) e2 js2 := ⟨env, rfl, h⟩
theorem en_fst {α σ : Type} {it : En → Option (List D)} {g : D → En → Option En} {B : En → Option Fl} (c : α → D) (st : σ → List (Nat × D)) (js : List Nat) (I : List α → σ → Prop) (xs : List α) (s0 : σ)
    (hit : it env = some (xs.map c)) (h0 : jn (put env (st s0)) (fun j => env.getD j none) js = env) (hI : I [] s0)
    (h : ∀ (p : List α) (a : α) (q : List α) (s : σ) (w : Nat → Option D), xs = p ++ a :: q → I p s → ∃ e1 s', I (p ++ [a]) s' ∧ g (c a) (jn (put env (st s)) w js) = some e1 ∧ Endsw (B e1) (put env (st s')) js)
    (h3 : ∀ (s : σ) (w : Nat → Option D), I xs s → Endsw (G (jn (put env (st s)) w js)) e2 js2) : Endsw (fSeq (fFor it g B) G env) e2 js2 := by
  obtain ⟨s, w, a1, a2⟩ := for_st c st js I xs s0 h0 hI h
  exact en_seq (w_for hit a2) (h3 s w a1)
theorem en_ffold {α σ : Type} {it : En → Option (List D)} {g : D → En → Option En} {B : En → Option Fl} (c : α → D) (st : σ → List (Nat × D)) (js : List Nat) (step : σ → α → σ) (xs : List α) (s0 : σ)
    (hit : it env = some (xs.map c)) (h0 : jn (put env (st s0)) (fun j => env.getD j none) js = env)
    (h : ∀ (p : List α) (a : α) (q : List α) (w : Nat → Option D), xs = p ++ a :: q → ∃ e1, g (c a) (jn (put env (st (p.foldl step s0))) w js) = some e1 ∧ Endsw (B e1) (put env (st (step (p.foldl step s0) a))) js)
    (h3 : ∀ (w : Nat → Option D), Endsw (G (jn (put env (st (xs.foldl step s0))) w js)) e2 js2) : Endsw (fSeq (fFor it g B) G env) e2 js2 := by
  obtain ⟨w, a2⟩ := for_fold c st js step xs s0 h0 h
  exact en_seq (w_for hit a2) (h3 w)
theorem w_app {i : Nat} {ds : List D} (h : f env = some d) (hs : env[i]? = some (some (.own ds))) (hl : ds.length < 1000000) : fApp i f env = some (.nx (env.set i (some (.own (ds ++ [d]))))) := by
  unfold fApp appF
  rw [h]
  simp only [Option.bind_some, hs, if_pos hl]
theorem w_ext {i : Nat} {ds es : List D} (h : f env = some (.lst es)) (hs : env[i]? = some (some (.own ds))) (hl : ds.length + es.length ≤ 1000000) : fExt i f env = some (.nx (env.set i (some (.own (ds ++ es))))) := by
  unfold fExt extF
  rw [h]
  simp only [Option.bind_some, hs]
  first | rw [if_pos hl] | rfl
theorem w_frz {i : Nat} {ds : List D} (hs : env[i]? = some (some (.own ds))) (h2 : G (env.set i (some (.lst ds))) = some fl) : fSeq (fFrz i) G env = some fl := by
  refine w_seq ?_ h2
  unfold fFrz
  rw [hs]
theorem w_frzd {i : Nat} {ds : List (List Nat × D)} (hs : env[i]? = some (some (.ownd ds))) (h2 : G (env.set i (some (.dct ds))) = some fl) : fSeq (fFrz i) G env = some fl := by
  refine w_seq ?_ h2
  unfold fFrz
  rw [hs]
end
theorem range_at {n a : Nat} {p q : List Nat} (h : List.range n = p ++ a :: q) : a = p.length ∧ a < n ∧ p = List.range a := by
  have hl := congrArg List.length h
  simp at hl
  have h1 : (List.range n)[p.length]? = some a := by rw [h]; simp
  rw [List.getElem?_range (by omega)] at h1
  have h1 : p.length = a := by simpa using h1
  subst h1
  refine ⟨rfl, by omega, ?_⟩
  have := congrArg (List.take p.length) h
  rw [List.take_append_of_le_length (Nat.le_refl _), List.take_length, List.take_range] at this
  rw [Nat.min_eq_left (by omega)] at this
  exact this.symm
end Dn
set_option Elab.async false
set_option linter.all false
set_option maxRecDepth 100000
/-! Part L: dicts of texts that are not written. -/
namespace Dn
open PySem L2 PySem.Spec PyProof.Rows

def dixD : D → D → Option D
  | .dct kvs, .str k => (kvs.find? fun p => decide (p.1 = k)).map (·.2)
  | _, _ => none
def pairOf : D → Option (List Nat × D)
  | .tup [.str k, v] => some (k, v)
  | _ => none
def pairsOf : List D → Option (List (List Nat × D))
  | [] => some []
  | d :: ds => (pairOf d).bind fun p => (pairsOf ds).bind fun r => some (p :: r)
def dictOf (ds : List D) : Option D := (pairsOf ds).bind fun kvs => if (kvs.map (·.1)).Nodup then some (.dct kvs) else none
def dictG : List D → Option D
  | [.tup ds] => dictOf ds
  | [.lst ds] => dictOf ds
  | _ => none
section
variable {X : Cx} {a b e : Expr} {pos : Pos} {fa fb : En → Option D}
theorem e_dix (hu : X.A.units + 65 < cLine) (ha : PE X a (tD X.K fa)) (hb : PE X b (tD X.K fb)) (hs : NoSl b := by exact fun _ _ => rfl) : PE X (.Subscript a b pos) (tD X.K (f2 dixD fa fb)) :=
  PE_weak (pe_dget (by omega) ha hb hs) fun σ H Q h => by
    obtain ⟨H0, env, Hb, d, r, sm, ef, q⟩ := h
    obtain ⟨da, db, ea, eb, eg⟩ := bind2 ef
    refine ⟨H0, env, Hb, da, r, sm, ea, fun x Hb1 H1 s1 ix => ⟨H0, env, Hb1, db, r.step s1, s1.c, eb, fun y Hb2 H2 s2 iy => ?_⟩⟩
    unfold dixD at eg
    split at eg
    · have ix := ix.mono s2.b
      simp only [Is] at ix iy
      obtain ⟨p, ks, rfl, ⟨o, hd⟩, hk⟩ := ix
      subst iy
      obtain ⟨v, hv, iv⟩ := (isK_val _ hk).1 d eg
      exact ⟨p, v, rfl, .inl ⟨ks, Sum.inr (S _), .inr ⟨o, s2.c _ _ hd⟩, rfl, hv.symm⟩, q v Hb2 H2 (s1.trans s2) iv⟩
    · cases eg
theorem pairs_is {K : PySem.W.Frag} {H : Hp} : ∀ {ds : List D} {kvs : List (List Nat × D)} {vs : List V}, pairsOf ds = some kvs → IsL K H ds vs →
    ∃ (ts : List Addr) (ks : List (Key × V)), vs = ts.map V.ref ∧ Paired (fun p kv => SqT K H p [kV kv.1, kv.2]) ts ks ∧ IsK K H kvs ks
  | [], kvs, vs, e, h => by
    cases e
    simp only [IsL] at h
    subst h
    exact ⟨[], [], rfl, .nil, by simp only [IsK]⟩
  | d :: ds, kvs, vs, e, h => by
    obtain ⟨p, e1, e⟩ := bind1 e
    obtain ⟨r, e2, e⟩ := bind1 e
    cases e
    simp only [IsL] at h
    obtain ⟨v, t, rfl, i1, i2⟩ := h
    obtain ⟨ts, ks, rfl, i3, i4⟩ := pairs_is e2 i2
    unfold pairOf at e1
    split at e1
    · cases e1
      simp only [Is, IsL] at i1
      obtain ⟨a, us, rfl, hq, u1, r1, rfl, rfl, u2, r2, rfl, j2, rfl⟩ := i1
      exact ⟨a :: ts, (Sum.inr (S _), u2) :: ks, rfl, .cons hq.sq i3, by simp only [IsK]; exact ⟨u2, ks, rfl, j2, i4⟩⟩
    · cases e1
theorem merge_nodup : ∀ (more acc : List (Key × V)), ((acc ++ more).map (·.1)).Nodup → mergeK acc more = acc ++ more
  | [], acc, _ => by simp [mergeK]
  | (k, v) :: more, acc, h => by
    have hn : valV acc k = none := by
      cases q : valV acc k with
      | none => rfl
      | some x =>
        exfalso
        have : k ∈ acc.map (·.1) := valV_in q
        rw [List.map_append, List.map_cons, List.nodup_append] at h
        exact h.2.2 k this k List.mem_cons_self rfl
    show mergeK (putK acc k v) more = _
    rw [putK_new v hn, merge_nodup more (acc ++ [(k, v)]) (by simpa using h)]
    simp
theorem isK_nodup {K : PySem.W.Frag} {H : Hp} {kvs : List (List Nat × D)} {ks : List (Key × V)} (h : IsK K H kvs ks) (hn : (kvs.map (·.1)).Nodup) : (ks.map (·.1)).Nodup := by
  rw [isK_keys h, show (kvs.map fun p => (Sum.inr (S p.1) : Key)) = (kvs.map (·.1)).map fun l => Sum.inr (S l) by rw [List.map_map]; rfl]
  exact List.Pairwise.map _ (fun a b hab z => hab (by
    injection z with z
    exact SX.S_inj z)) hn
/-- a tuple as it lies -/
theorem plain_of {pins : List (Addr × Obj)} {s : Shared} {σ : L2.St} {H : Hp} (I : Inv X pins σ H s) {p : Addr} {vs : List V} (h : SqP X.K H p vs) : ∃ its : List Value, Vals vs its ∧ PlainSeq "tuple" s.heap p its.toArray ∧ vs.length ≤ sizeLine := by
  rcases h with ⟨o, hd, h⟩ | ⟨o, its, n, hk, hd, hc, hs, hz, r⟩
  · obtain ⟨e, z, its, r, o', e', hc, n, hs⟩ := I.hok _ _ h
    rw [e] at e'
    cases e'
    exact ⟨its, r, ⟨o, n, e, hc, hd, hs⟩, z⟩
  · refine ⟨its.toList, r, ⟨o, n, I.kIn p o hk, hc, hd, by simpa using hs⟩, ?_⟩
    rw [r.length]
    simpa using hz
open Classical in
theorem c_dict (hc : X.calm = true) : CallR X (.type "dict") (rDA X.K dictG) := by
  intro pins s σ H xs us Q I r h
  obtain ⟨Hb, ds, d, sm, il, eg, q⟩ := h
  unfold dictG at eg
  split at eg
  · obtain ⟨v, rfl, iv⟩ := isl1 il
    simp only [Is] at iv
    obtain ⟨p, vs, rfl, hx, lx⟩ := iv
    obtain ⟨kvs, ek, eg⟩ := bind1 eg
    obtain ⟨hn, rfl⟩ := iteS eg
    obtain ⟨u, rfl, ru⟩ := vals1 r
    cases ru
    obtain ⟨ts, ks, rfl, hp, ik⟩ := pairs_is ek lx
    obtain ⟨its, rv, pl, hz⟩ := plain_of I (hx.mono sm)
    have ei := refs_at rv
    subst ei
    rw [List.length_map] at hz
    have hp' : Paired (fun p kv => SqT X.K H p [kV kv.1, kv.2]) ts ks := Paired.mapP hp fun _ _ z => sq_mono sm z
    obtain ⟨prs, rel, hl, hpr⟩ := pairs_of I hp'
    have hps : ∃ ps : List (Value × Value), ps.length = prs.length ∧ (∀ (j : Nat) (k v : Value), ps[j]? = some (k, v) → ∃ (q : Key × Value) (b : Addr), prs[j]? = some q ∧ q.2 = v ∧ ts[j]? = some b ∧ IsTup s.heap b #[k, v] ∧ keyIs q.1 k = true) := by
      refine ⟨(List.range prs.length).map fun j => match prs[j]? with
        | some q => if h : ∃ b u, ts[j]? = some b ∧ IsTup s.heap b #[u, q.2] ∧ keyIs q.1 u = true then (Classical.choose (Classical.choose_spec h), q.2) else (.none, .none)
        | none => (.none, .none), by simp, fun j k v e => ?_⟩
      rw [List.getElem?_map] at e
      obtain ⟨j', e1, e2⟩ := Option.map_eq_some_iff.mp e
      obtain ⟨hj, e3⟩ := List.getElem?_eq_some_iff.mp e1
      rw [List.getElem_range] at e3
      subst e3
      rw [List.length_range] at hj
      have hq : prs[j]? = some prs[j] := List.getElem?_eq_getElem hj
      simp only [hq] at e2
      have hex := hpr j prs[j] hq
      rw [dif_pos hex] at e2
      have hsp := Classical.choose_spec (Classical.choose_spec hex)
      cases e2
      exact ⟨prs[j], _, hq, rfl, hsp.1, hsp.2.1, hsp.2.2⟩
    obtain ⟨ps, hpl, hpp⟩ := hps
    have arg := PairArg.tuple (prog := X.prog) (w := X.w) p (ts.map Value.ref).toArray (fun j => ts.getD j 0) ps
    refine PySem.call_dict_pairs (knd := mixKind X.prog X.w) (kvs := prs) arg (I.ok.hd hc) ⟨pl, ?_, fun j k v e => ?_⟩ ⟨hpl.symm, fun i key v e => ?_⟩ (by rw [hpl, hl]; exact hz) fun h' tk hd' hk => ?_
    · simp [hpl, hl]
    · obtain ⟨q', b, e1, e2, e3, e4, e5⟩ := hpp j k v e
      have : ts.getD j 0 = b := by rw [List.getD_eq_getElem?_getD, e3]; rfl
      refine ⟨by simp [e3, this], ?_⟩
      show PairAt s.heap (ts.getD j 0) k v
      rw [this]
      exact .inl e4
    · obtain ⟨q', b, e1, e2, e3, e4, e5⟩ := hpp i key v e
      exact ⟨q'.1, by rw [e1, ← e2], e5⟩
    · have hm : mergeK [] ks = ks := by
        have := merge_nodup ks [] (by simpa using isK_nodup ik hn)
        simpa using this
      have rel2 : KV ks (merged [] prs) := by
        have := KV.merge rel (show KV ([] : List (Key × V)) [] from .nil)
        rw [hm] at this
        exact this
      obtain ⟨o, es, ep, ho, hrest⟩ := id hd'
      have hlen : ks.length ≤ sizeLine := by
        rw [rel.length, hl]
        exact hz
      have hsm : (s.heap.objs.size == sysModules) = false := beq_eq_false_iff_ne.mpr (Nat.ne_of_gt I.big)
      have I2 := I.laid (o := .frz o (.dK ks)) (t' := tk) (fun b ob e => hk b ob (by simp) e) (Nat.le_refl _) (show ObjOk X.prog X.w _ _ _ (.frz o (.dK ks)) from ⟨ho, hlen, hsm, _, rel2, hd'⟩)
      have hf : H s.heap.objs.size = none := I.hok.fresh (Nat.le_refl _)
      refine ⟨.ref s.heap.objs.size, _, I2, rfl, q _ (upd Hb s.heap.objs.size (.frz o (.dK ks))) _ (Step.new sm hf) ?_⟩
      simp only [Is]
      exact ⟨_, ks, rfl, ⟨o, upd_same⟩, ik.mono (same_new (sm.free hf))⟩
  · obtain ⟨v, rfl, iv⟩ := isl1 il
    simp only [Is] at iv
    obtain ⟨p, vs, rfl, hx, lx⟩ := iv
    obtain ⟨kvs, ek, eg⟩ := bind1 eg
    obtain ⟨hn, rfl⟩ := iteS eg
    obtain ⟨ts, ks, rfl, hp, ik⟩ := pairs_is ek lx
    have hm : mergeK [] ks = ks := by
      have := merge_nodup ks [] (by simpa using isK_nodup ik hn)
      simpa using this
    refine thn (call_dictP hc pins s σ H _ us (fun z H' => ∃ c, z = .ref c ∧ H c = none ∧ H' = upd H c (.dK ks)) I r ⟨p, ts, ks, rfl, .inl (.inl (sm _ _ hx)), Paired.mapP hp fun _ _ z => sq_mono sm z, fun c hcn => ⟨c, rfl, hcn, by rw [hm]⟩⟩) fun u s1 hz => ?_
    obtain ⟨z, H', I1, rz, c, rfl, hcn, rfl⟩ := hz
    obtain ⟨o, I2⟩ := I1.lock (d := c) upd_same (by trivial)
    have e2 : upd (upd H c (.dK ks)) c (.frz o (.dK ks)) = upd H c (.frz o (.dK ks)) := by
      funext y
      by_cases hy : y = c
      · subst hy
        rw [upd_same, upd_same]
      · rw [upd_ne hy, upd_ne hy, upd_ne hy]
    rw [e2] at I2
    refine ⟨.ref c, _, I2, rz, q _ (upd Hb c (.frz o (.dK ks))) _ (Step.new sm hcn) ?_⟩
    simp only [Is]
    exact ⟨_, ks, rfl, ⟨o, upd_same⟩, ik.mono (same_new (sm.free hcn))⟩
  · cases eg
end
end Dn
set_option Elab.async false
set_option linter.all false
set_option maxRecDepth 100000
/-! Part M: range with a step. -/
namespace Dn
open PySem L2 PySem.Spec PyProof.Rows

def rng3D (i j c : Int) : Option (List D) :=
  if c = -1 ∧ -(2 ^ 62) ≤ i ∧ i < 2 ^ 62 ∧ -(2 ^ 62) ≤ j ∧ j < 2 ^ 62 then some ((List.range (i - j).toNat).map fun k => .int (i + (k : Nat) * c))
  else if 0 < c ∧ c < 1000000 ∧ i = 0 ∧ 0 ≤ j ∧ j < 1000000 then some ((List.range (Builtin.Range.rangeSize 0 j c).toNat).map fun k => .int (i + (k : Nat) * c))
  else none
def fRng3 (fs : En → Option (List D)) : En → Option (List D) := fun env => (fs env).bind fun ds => match ds with
  | [.int i, .int j, .int c] => rng3D i j c
  | _ => none
theorem v_rng3 {fs : En → Option (List D)} {env : En} {i j c : Int} {l : List D} (h : fs env = some [.int i, .int j, .int c]) (h2 : rng3D i j c = some l) : fRng3 fs env = some l := by
  unfold fRng3
  rw [h]
  exact h2
theorem rng3_up {j c : Int} (h : 0 < c ∧ c < 1000000 ∧ 0 ≤ j ∧ j < 1000000) : rng3D 0 j c = some ((List.range (Builtin.Range.rangeSize 0 j c).toNat).map fun k => .int (0 + (k : Nat) * c)) := by
  unfold rng3D
  rw [if_neg (by omega), if_pos (by omega)]
theorem rng3_down {i j : Int} (h : -1000000 ≤ i ∧ i < 1000000 ∧ -1000000 ≤ j ∧ j < 1000000) : rng3D i j (-1) = some ((List.range (i - j).toNat).map fun k => .int (i + (k : Nat) * (-1))) := by
  unfold rng3D
  rw [if_pos (by omega)]
theorem walk_rc {K : PySem.W.Frag} {Hb : Hp} (lo c : Int) (n : Nat) : WalkD K (Itc lo c n) ((List.range n).map fun i => .int (lo + (i : Nat) * c)) Hb := fun Hb1 H1 s1 s2 => by
  refine ⟨fun i d e => ?_, by show n ≤ (List.map _ _).length; simp⟩
  rw [List.getElem?_map] at e
  cases e1 : (List.range n)[i]? with
  | none => rw [e1] at e; cases e
  | some z =>
    rw [e1] at e
    cases e
    obtain ⟨h1, h2⟩ := List.getElem?_eq_some_iff.mp e1
    rw [List.getElem_range] at h2
    subst h2
    refine ⟨by show i < n; simpa using h1, fun x H' hy => ?_⟩
    obtain ⟨rfl, rfl⟩ := hy
    exact ⟨Hb1, Step.refl s2, by simp only [Is]⟩
theorem size_nn {j c : Int} (hc : 0 < c) (hj : 0 ≤ j) (hj2 : j < 1000000) : 0 ≤ Builtin.Range.rangeSize 0 j c ∧ Builtin.Range.rangeSize 0 j c ≤ 1000000 := by
  unfold Builtin.Range.rangeSize
  rw [if_pos hc]
  split
  · have h1 : (j - 0 - 1) / c ≤ (j - 0 - 1) := Int.ediv_le_self _ (by omega)
    have h2 := Int.ediv_nonneg (show 0 ≤ j - 0 - 1 by omega) (show 0 ≤ c by omega)
    omega
  · omega
theorem rgc_up {j c : Int} (hc : 0 < c) (hc2 : c < 1000000) (hj : 0 ≤ j) (hj2 : j < 1000000) : RgC 0 j c (Builtin.Range.rangeSize 0 j c).toNat := by
  obtain ⟨h1, h2⟩ := size_nn hc hj hj2
  refine ⟨by omega, by omega, ?_, by omega⟩
  unfold Builtin.Range.small
  have h3 : Builtin.Range.rangeSize 0 j c * c ≤ 1000000 * 1000000 := Int.mul_le_mul h2 (by omega) (by omega) (by decide)
  have h4 : 0 ≤ Builtin.Range.rangeSize 0 j c * c := Int.mul_nonneg h1 (by omega)
  generalize Builtin.Range.rangeSize 0 j c = n at *
  simp only [Builtin.Range.rangeFitsLong, Bool.and_eq_true, Bool.or_eq_true, decide_eq_true_eq, beq_iff_eq]
  repeat (first | constructor | split)
  all_goals try omega
  refine .inr ?_
  rw [if_pos hc, Bool.and_eq_true, decide_eq_true_eq, decide_eq_true_eq]
  omega
section
variable {X : Cx} {tg a b c : Expr} {p pos : Pos} {fs : En → Option (List D)}
theorem i_range3 (hm : X.mg "range" = none) (ha : PA X [a, b, c] (tA X.K fs)) (hg : Gl X "range" := by rfl) (hs : starEach [a, b, c] X.env = (false, eval a X.env) :: starEach [b, c] X.env := by rfl) (hpl : (backTo pos (starEach [b, c] X.env)).any (·.1) = false := by rfl) : PI X tg (.Call (.Name "range" p) [a, b, c] [] pos) (tI X.K (fRng3 fs)) := ⟨fun pins s σ H R I h => by
  obtain ⟨H0, env, Hb, ds, r, sm, ef, q⟩ := h
  obtain ⟨xs, ed, ef⟩ := bind1 ef
  refine (pi_range3 hg hm ha hs hpl).run pins s σ H R I ⟨H0, env, Hb, xs, r, sm, ed, fun vs Hb1 H1 s1 iv => ?_⟩
  split at ef
  · simp only [IsL, Is] at iv
    obtain ⟨v, r1, rfl, rfl, v2, r2, rfl, rfl, v3, r3, rfl, rfl, rfl⟩ := iv
    unfold rng3D at ef
    split at ef
    · rename_i hc
      obtain ⟨rfl, h1, h2, h3, h4⟩ := hc
      cases ef
      exact ⟨_, _, _, _, rfl, RgC.neg h1 h2 h3 h4, q _ Hb1 H1 s1 (walk_rc (K := X.K) (Hb := Hb1) _ _ _)⟩
    · obtain ⟨⟨h1, h2, rfl, h3, h4⟩, rfl⟩ := iteS ef
      exact ⟨_, _, _, _, rfl, rgc_up h1 h2 h3 h4, q _ Hb1 H1 s1 (walk_rc (K := X.K) (Hb := Hb1) _ _ _)⟩
  · cases ef⟩
end
end Dn
set_option Elab.async false
set_option linter.all false
set_option maxRecDepth 100000
/-! Part N: split, str of a number. -/
namespace Dn
open PySem L2 PySem.Spec PyProof.Rows

def splitL (c : Nat) : List Nat → List (List Nat)
  | [] => [[]]
  | x :: r => if x = c then [] :: splitL c r else match splitL c r with
    | h :: t => (x :: h) :: t
    | [] => [[x]]
theorem splitL_ne (c : Nat) : ∀ l, ∃ h t, splitL c l = h :: t
  | [] => ⟨[], [], rfl⟩
  | x :: r => by
    obtain ⟨h, t, e⟩ := splitL_ne c r
    unfold splitL
    rw [e]
    split
    · exact ⟨_, _, rfl⟩
    · exact ⟨_, _, rfl⟩
theorem splitL_free {c : Nat} {l : List Nat} (h : c ∉ l) : splitL c l = [l] := by
  induction l with
  | nil => rfl
  | cons x r ih =>
    unfold splitL
    rw [if_neg (fun e => h (by rw [e]; exact List.mem_cons_self)), ih fun z => h (List.mem_cons_of_mem _ z)]
theorem splitL_app {c : Nat} {a b : List Nat} (h : c ∉ a) : splitL c (a ++ c :: b) = a :: splitL c b := by
  induction a with
  | nil =>
    rw [List.nil_append]
    conv => lhs; unfold splitL
    rw [if_pos rfl]
  | cons x r ih =>
    rw [List.cons_append]
    conv => lhs; unfold splitL
    rw [if_neg (fun e => h (by rw [e]; exact List.mem_cons_self)), ih fun z => h (List.mem_cons_of_mem _ z)]
/-- words without the sign, put together and parted again -/
theorem splitL_join {c : Nat} : ∀ {ws : List (List Nat)}, ws ≠ [] → (∀ w ∈ ws, c ∉ w) → splitL c (joinL [c] ws) = ws
  | [], h, _ => absurd rfl h
  | [w], _, h => splitL_free (h w List.mem_cons_self)
  | w :: v :: r, _, h => by
    show splitL c (w ++ [c] ++ joinL [c] (v :: r)) = _
    rw [List.append_assoc]
    show splitL c (w ++ c :: joinL [c] (v :: r)) = _
    rw [splitL_app (h w List.mem_cons_self), splitL_join (by simp) fun x hx => h x (List.mem_cons_of_mem _ hx)]
theorem S_of (x : Str) : S x.cps.toList = x := by
  apply Str.ext'
  simp [S]
theorem split_S (l : List Nat) (c : Nat) : Txt.split (S l) (S [c]) = (splitL c l).map S := by
  have h1 := StrLaws.join_split (S l) (S [c])
  have h2 := StrLaws.split_free (S l) c
  have hp := split_pos (S l) (S [c])
  have e : Txt.split (S l) (S [c]) = ((Txt.split (S l) (S [c])).map fun x => x.cps.toList).map S := by
    rw [List.map_map]
    conv => lhs; rw [← List.map_id (Txt.split (S l) (S [c]))]
    exact List.map_congr_left fun x _ => (S_of x).symm
  have h2' : ∀ p ∈ Txt.split (S l) (S [c]), c ∉ p.cps.toList := h2
  generalize hw : (Txt.split (S l) (S [c])).map (fun x => x.cps.toList) = ws at *
  have h3 : joinL [c] ws = l := by
    rw [e, join_S] at h1
    exact SX.S_inj h1
  have h4 : ∀ w ∈ ws, c ∉ w := fun w hm => by
    rw [← hw] at hm
    obtain ⟨x, hx, rfl⟩ := List.mem_map.mp hm
    exact h2' x hx
  have h5 : ws ≠ [] := fun z => by
    rw [z, List.map_nil] at e
    rw [e] at hp
    simp at hp
  rw [e, ← h3, splitL_join h5 h4]
def splitD (l : List Nat) : D → Option D
  | .str [c] => if l.length ≤ 1000000 then some (.lst ((splitL c l).map D.str)) else none
  | _ => none
section
variable {X : Cx} {o e : Expr} {pos apos : Pos} {fo fa : En → Option D}
theorem m_split : MtR X "str.split" (rDM X.K splitD) := by
  intro pins s σ H x xs v us Q I rx rs h
  obtain ⟨Hb, l, y, b, d, sm, rfl, rfl, ib, eg, q⟩ := h
  unfold splitD at eg
  split at eg
  · rename_i c
    simp only [Is] at ib
    subst ib
    obtain ⟨hl, rfl⟩ := iteS eg
    refine mt_split pins s σ H _ _ v us Q I rx rs ⟨_, _, rfl, rfl, rfl, ?_, fun p hp => q _ _ _ (Step.new sm hp) (is_lst_new (sm.free hp) ?_)⟩
    · rw [S_len, sizeLine_eq]
      omega
    · rw [split_S]
      exact of_strs _
  · cases eg
theorem e_split (ho : PE X o (tD X.K fo)) (he : PE X e (tD X.K fa)) (hs : starEach [e] X.env = [(false, eval e X.env)] := by rfl) (hbase : attributeBase o "split" X.env (eval o X.env) = eval o X.env := by rfl) (hline : (apos.endLine == pos.line) = true := by rfl) :
    PE X (.Call (.Attribute o "split" apos) [e] [] pos) (tD X.K (fM1 splitD fo fa)) := e_m1 F.slot_str_split F.type_str_split m_split ho he hs hbase hline
/-! str(n) -/
def dig (n : Nat) : List Nat := if n < 10 then [48 + n] else [48 + n / 10, 48 + n % 10]
def strG : List D → Option D
  | [.int i] => if 0 ≤ i ∧ i < 100 then some (.str (dig i.toNat)) else none
  | _ => none
theorem dig_eq : ∀ n : Nat, n < 100 → Str.ofString (toString ((n : Nat) : Int)) = S (dig n) := by
  have : ∀ n : Fin 100, Str.ofString (toString ((n.val : Nat) : Int)) = S (dig n.val) := by decide +kernel
  exact fun n h => this ⟨n, h⟩
theorem c_str : CallR X (.type "str") (rDA X.K strG) := by
  intro pins s σ H xs us Q I r h
  obtain ⟨Hb, ds, d, sm, il, eg, q⟩ := h
  unfold strG at eg
  split at eg
  · rename_i i
    obtain ⟨v, rfl, iv⟩ := isl1 il
    simp only [Is] at iv
    subst iv
    obtain ⟨⟨h0, h1⟩, rfl⟩ := iteS eg
    refine call_str_int pins s σ H _ us Q I r ⟨i, rfl, ?_, q _ Hb H (Step.refl sm) ?_⟩
    · have : i.natAbs < 2 ^ 7 := by omega
      rcases Nat.eq_zero_or_pos i.natAbs with z | z
      · rw [z]; decide
      · have := (Nat.log2_lt (by omega)).mpr ‹i.natAbs < 2 ^ 7›
        omega
    · simp only [Is]
      obtain ⟨n, rfl⟩ : ∃ n : Nat, i = (n : Int) := ⟨i.toNat, by omega⟩
      rw [Int.toNat_natCast, ← dig_eq n (by omega)]
  · cases eg
end
end Dn
set_option Elab.async false
set_option linter.all false
set_option maxRecDepth 100000
/-! Part P: what changes. A store of lists, dicts and objects; statements as wishes. -/
namespace Dn
open PySem L2 PySem.Spec PyProof.Rows

inductive Cell where
  | lst (xs : List D) | dct (kvs : List (List Nat × D)) | obj (fs : List (Str × D))
abbrev Sto := Addr → Option Cell
def Sto.put (st : Sto) (a : Addr) (c : Cell) : Sto := fun b => if b = a then some c else st b
theorem Sto.put_same (st : Sto) (a : Addr) (c : Cell) : st.put a c a = some c := if_pos rfl
theorem Sto.put_ne {st : Sto} {a b : Addr} {c : Cell} (h : b ≠ a) : st.put a c b = st b := if_neg h
abbrev WX := Value → Option Addr → L2.St → Hp → Prop
/-- where the program's classes stand -/
structure Wd where
  C : Addr
  cl : Str → Addr
  T : List (Addr × Str) := []
def IsF (K : PySem.W.Frag) (H : Hp) : List (Str × D) → List (Str × V) → Prop
  | [], vs => vs = []
  | (f, d) :: fs, vs => ∃ v r, vs = (f, v) :: r ∧ Is K H d v ∧ IsF K H fs r
theorem IsF.mono {K : PySem.W.Frag} {H H' : Hp} (e : Same H H') : ∀ {fs : List (Str × D)} {vs : List (Str × V)}, IsF K H fs vs → IsF K H' fs vs
  | [], _, h => h
  | (f, d) :: fs, vs, h => by
    obtain ⟨v, r, e1, e2, e3⟩ := h
    exact ⟨v, r, e1, e2.mono e, e3.mono e⟩
theorem IsF.length {K : PySem.W.Frag} {H : Hp} : ∀ {fs : List (Str × D)} {vs : List (Str × V)}, IsF K H fs vs → vs.length = fs.length
  | [], _, h => by rw [show _ = [] from h]; rfl
  | (f, d) :: fs, vs, h => by
    obtain ⟨v, r, rfl, e2, e3⟩ := h
    rw [List.length_cons, List.length_cons, e3.length]
theorem IsF.look {K : PySem.W.Frag} {H : Hp} {x : Str} : ∀ {fs : List (Str × D)} {vs : List (Str × V)}, IsF K H fs vs → (∀ d, fs.lookup x = some d → ∃ v, vs.lookup x = some v ∧ Is K H d v) ∧ (fs.lookup x = none → vs.lookup x = none)
  | [], _, h => by rw [show _ = [] from h]; exact ⟨fun d e => by simp at e, fun _ => rfl⟩
  | (f, d) :: fs, vs, h => by
    obtain ⟨v, r, rfl, e2, e3⟩ := h
    obtain ⟨i1, i2⟩ := e3.look (x := x)
    simp only [List.lookup_cons]
    cases hq : x == f with
    | true => exact ⟨fun d' e => by cases e; exact ⟨v, rfl, e2⟩, fun e => by cases e⟩
    | false => exact ⟨i1, i2⟩
def CellIs (K : PySem.W.Frag) (Z : Wd) (Hb H : Hp) (a : Addr) : Cell → Prop
  | .lst ds => ∃ vs, H a = some (.lst vs) ∧ IsL K Hb ds vs
  | .dct kvs => ∃ ks, H a = some (.dK ks) ∧ IsK K Hb kvs ks
  | .obj fs => ∃ dx vs, H a = some (.ins Z.C dx vs) ∧ IsF K Hb fs vs
structure RelSt (K : PySem.W.Frag) (Z : Wd) (Hb H : Hp) (st : Sto) : Prop where
  c : Same Hb H
  cell : ∀ a x, st a = some x → Hb a = none ∧ CellIs K Z Hb H a x
  tabs : LamX.Tabs Z.T H
  nt : NoT Hb
structure StepW (Hb H : Hp) (st : Sto) (Hb' H' : Hp) (st' : Sto) : Prop where
  b : Same Hb Hb'
  f : ∀ p o, H p = some o → Hb p = none → st p = none → (∀ ps, o ≠ .tbl ps) → H' p = some o ∧ Hb' p = none ∧ st' p = none
structure Rel0 (K : PySem.W.Frag) (Hb : Hp) (σ : L2.St) (env : En) : Prop where
  len : σ.length = env.length
  val : ∀ (i : Nat) (d : D), env[i]? = some (some d) → ∃ v, σ[i]? = some (some v) ∧ Is K Hb d v
section
variable {K : PySem.W.Frag} {Z : Wd} {Hb H Hb' H' Hb2 H2 : Hp} {st st' st2 : Sto} {σ : L2.St} {env : En}
theorem StepW.refl : StepW Hb H st Hb H st := ⟨Same.refl _, fun _ _ h n z _ => ⟨h, n, z⟩⟩
theorem StepW.trans (x : StepW Hb H st Hb' H' st') (y : StepW Hb' H' st' Hb2 H2 st2) : StepW Hb H st Hb2 H2 st2 :=
  ⟨x.b.trans y.b, fun p o h n z t => let ⟨h1, n1, z1⟩ := x.f p o h n z t; y.f p o h1 n1 z1 t⟩
theorem CellIs.there {a : Addr} {x : Cell} (h : CellIs K Z Hb H a x) : ∃ o, H a = some o := by
  cases x with
  | lst ds => exact ⟨_, h.choose_spec.1⟩
  | dct ds => exact ⟨_, h.choose_spec.1⟩
  | obj ds => exact ⟨_, h.choose_spec.choose_spec.1⟩
theorem CellIs.kind {a : Addr} {x : Cell} (h : CellIs K Z Hb H a x) : (∀ ps, H a ≠ some (.tbl ps)) ∧ ∀ f, H a ≠ some (.ext f) := by
  cases x with
  | lst ds =>
    obtain ⟨vs, e, _⟩ := h
    refine ⟨fun ps z => ?_, fun ps z => ?_⟩ <;> (rw [e] at z; cases z)
  | dct ds =>
    obtain ⟨vs, e, _⟩ := h
    refine ⟨fun ps z => ?_, fun ps z => ?_⟩ <;> (rw [e] at z; cases z)
  | obj ds =>
    obtain ⟨dx, vs, e, _⟩ := h
    refine ⟨fun ps z => ?_, fun ps z => ?_⟩ <;> (rw [e] at z; cases z)
theorem tabs_write {T : List (Addr × Str)} {a : Addr} {ob : HO} (t : LamX.Tabs T H) (h1 : ∀ ps, H a ≠ some (.tbl ps)) (h2 : ∀ f, H a ≠ some (.ext f)) : LamX.Tabs T (upd H a ob) := fun p hp => by
  obtain ⟨ps, e1, e2, e3⟩ := t p hp
  refine ⟨ps, ?_, e2, fun pos cv hc => ?_⟩
  · rw [upd_ne (fun z => h1 ps (by rw [← z]; exact e1))]
    exact e1
  · obtain ⟨c, c1, c2⟩ := e3 pos cv hc
    refine ⟨c, c1, ?_⟩
    rw [upd_ne (fun z => h2 _ (by rw [← z]; exact c2))]
    exact c2
theorem CellIs.keep {a : Addr} {x : Cell} (h : CellIs K Z Hb H a x) (e : ∀ o, H a = some o → H' a = some o) (s : Same Hb Hb') : CellIs K Z Hb' H' a x := by
  cases x with
  | lst ds =>
    obtain ⟨vs, h1, h2⟩ := h
    exact ⟨vs, e _ h1, h2.mono s⟩
  | dct ds =>
    obtain ⟨vs, h1, h2⟩ := h
    exact ⟨vs, e _ h1, h2.mono s⟩
  | obj ds =>
    obtain ⟨dx, vs, h1, h2⟩ := h
    exact ⟨dx, vs, e _ h1, h2.mono s⟩
/-- a lambda is made: tables may grow -/
theorem RelSt.lam (r : RelSt K Z Hb H st) (e : LamX.ExtN H H') (t : LamX.Tabs Z.T H') : RelSt K Z Hb H' st ∧ StepW Hb H st Hb H' st := by
  have sm : Same Hb H' := fun b o h => e b o (r.c b o h) fun ps z => r.nt b ps (by rw [h, z])
  refine ⟨⟨sm, fun a x h => ?_, t, r.nt⟩, Same.refl _, fun p o h n z q => ⟨e p o h q, n, z⟩⟩
  obtain ⟨h1, h2⟩ := r.cell a x h
  refine ⟨h1, CellIs.keep h2 (fun o ho => e a o ho fun ps z => (CellIs.kind h2).1 ps (by rw [ho, z])) (Same.refl _)⟩
/-- all that there was, and one more thing that plain data lies in -/
theorem RelSt.ext (r : RelSt K Z Hb H st) {p : Addr} {ob : HO} (e : Same H H') (hp : H p = none) (hp' : H' p = some ob) (ht : ∀ ps, ob ≠ .tbl ps) : RelSt K Z (upd Hb p ob) H' st ∧ StepW Hb H st (upd Hb p ob) H' st := by
  have hb : Hb p = none := r.c.free hp
  refine ⟨⟨fun b o h => ?_, fun a x h => ?_, r.tabs.ext e, r.nt.upd ht⟩, same_new hb, fun b o h n z _ => ⟨e b o h, ?_, z⟩⟩
  · by_cases q : b = p
    · subst q
      rw [upd_same] at h
      rw [hp', h]
    · rw [upd_ne q] at h
      exact e b o (r.c b o h)
  · obtain ⟨h1, h2⟩ := r.cell a x h
    obtain ⟨o, ho⟩ := CellIs.there h2
    refine ⟨by rw [upd_ne (ne_of_none ho hp)]; exact h1, CellIs.keep h2 (fun o ho => e a o ho) (same_new hb)⟩
  · rw [upd_ne (ne_of_none h hp)]
    exact n
theorem RelSt.free (r : RelSt K Z Hb H st) {p : Addr} (h : H p = none) : st p = none := by
  cases e : st p with
  | none => rfl
  | some x =>
    obtain ⟨o, ho⟩ := (r.cell p x e).2.there
    rw [h] at ho
    cases ho
/-- a pure step -/
theorem Step.w (s : Step Hb H Hb' H') (r : RelSt K Z Hb H st) : StepW Hb H st Hb' H' st ∧ RelSt K Z Hb' H' st := by
  refine ⟨⟨s.b, fun p o h n z _ => ⟨s.a p o h, s.f p o h n, z⟩⟩, s.c, fun a x e => ?_, r.tabs.ext s.a, s.t r.nt⟩
  obtain ⟨n, c⟩ := r.cell a x e
  obtain ⟨o, ho⟩ := CellIs.there c
  exact ⟨s.f a o ho n, CellIs.keep c (fun o h => s.a a o h) s.b⟩
theorem Rel0.rel (r : Rel0 K Hb σ env) (H0 H : Hp) : Rel K H0 Hb H σ env := by
  have own : ∀ (i : Nat) (d : D), env[i]? = some (some d) → d.isOwn = false := fun i d e => by
    obtain ⟨v, _, h⟩ := r.val i d e
    cases d <;> first | rfl | (simp only [Is] at h)
  refine ⟨r.len, fun i d e => ?_, fun i j d e a _ e1 _ o1 _ _ _ => ?_⟩
  · obtain ⟨v, h1, h2⟩ := r.val i d e
    exact ⟨v, h1, by rw [IsS.plain (own i d e)]; exact h2⟩
  · rw [own i d e1] at o1
    cases o1
theorem Rel0.mono (s : Same Hb Hb') (r : Rel0 K Hb σ env) : Rel0 K Hb' σ env := ⟨r.len, fun i d e => let ⟨v, a, b⟩ := r.val i d e; ⟨v, a, b.mono s⟩⟩
theorem Rel0.set (r : Rel0 K Hb σ env) (i : Nat) {d : D} {v : V} (h : Is K Hb d v) : Rel0 K Hb (σ.set i (some v)) (env.set i (some d)) := by
  refine ⟨by rw [List.length_set, List.length_set, r.len], fun j e q => ?_⟩
  by_cases hj : i = j
  · subst hj
    have hi : i < env.length := by
      have := (List.getElem?_eq_some_iff.mp q).1
      rw [List.length_set] at this
      exact this
    rw [List.getElem?_set_self hi] at q
    cases q
    exact ⟨v, List.getElem?_set_self (by rw [r.len]; exact hi), h⟩
  · rw [List.getElem?_set_ne hj] at q
    obtain ⟨w, a, b⟩ := r.val j e q
    exact ⟨w, by rw [List.getElem?_set_ne hj]; exact a, b⟩
end

/-! ### wishes -/
structure WE where
  run : En → Sto → (D → Sto → Prop) → (Str → Sto → Prop) → Prop
  mono : ∀ {env st} {K K' : D → Sto → Prop} {E E' : Str → Sto → Prop}, (∀ d s, K d s → K' d s) → (∀ c s, E c s → E' c s) → run env st K E → run env st K' E'
structure WT where
  run : En → Sto → (Bool → Sto → Prop) → (Str → Sto → Prop) → Prop
  mono : ∀ {env st} {K K' : Bool → Sto → Prop} {E E' : Str → Sto → Prop}, (∀ d s, K d s → K' d s) → (∀ c s, E c s → E' c s) → run env st K E → run env st K' E'
structure WA where
  run : En → Sto → (List D → Sto → Prop) → (Str → Sto → Prop) → Prop
  mono : ∀ {env st} {K K' : List D → Sto → Prop} {E E' : Str → Sto → Prop}, (∀ d s, K d s → K' d s) → (∀ c s, E c s → E' c s) → run env st K E → run env st K' E'
structure WN where
  nx : En → Sto → Prop
  rt : D → Sto → Prop
  bk : En → Sto → Prop := fun _ _ => False
  ct : En → Sto → Prop := fun _ _ => False
  ex : Str → Sto → Prop := fun _ _ => False
structure WN.le (N N' : WN) : Prop where
  nx : ∀ e s, N.nx e s → N'.nx e s
  rt : ∀ e s, N.rt e s → N'.rt e s
  bk : ∀ e s, N.bk e s → N'.bk e s
  ct : ∀ e s, N.ct e s → N'.ct e s
  ex : ∀ e s, N.ex e s → N'.ex e s
structure WS where
  run : En → Sto → WN → Prop
  mono : ∀ {env st} {N N' : WN}, N.le N' → run env st N → run env st N'
/-- what a def does -/
structure WF where
  run : List D → Sto → (D → Sto → Prop) → (Str → Sto → Prop) → Prop
  mono : ∀ {ds st} {K K' : D → Sto → Prop} {E E' : Str → Sto → Prop}, (∀ d s, K d s → K' d s) → (∀ c s, E c s → E' c s) → run ds st K E → run ds st K' E'

def tWE (K : PySem.W.Frag) (Z : Wd) (W : Dn.WX) (M : WE) : TE := fun σ H Q => ∃ Hb env st, Rel0 K Hb σ env ∧ RelSt K Z Hb H st ∧
  M.run env st (fun d st' => ∀ v Hb' H', StepW Hb H st Hb' H' st' → RelSt K Z Hb' H' st' → Is K Hb' d v → Q v H') (fun c st' => ∀ Hb' H', StepW Hb H st Hb' H' st' → RelSt K Z Hb' H' st' → W (.ref (Z.cl c)) none σ H')
def tWT (K : PySem.W.Frag) (Z : Wd) (W : Dn.WX) (M : WT) : TT := fun σ H Q => ∃ Hb env st, Rel0 K Hb σ env ∧ RelSt K Z Hb H st ∧
  M.run env st (fun k st' => ∀ Hb' H', StepW Hb H st Hb' H' st' → RelSt K Z Hb' H' st' → Q k H') (fun c st' => ∀ Hb' H', StepW Hb H st Hb' H' st' → RelSt K Z Hb' H' st' → W (.ref (Z.cl c)) none σ H')
def tWA (K : PySem.W.Frag) (Z : Wd) (W : Dn.WX) (M : WA) : TA := fun σ H Q => ∃ Hb env st, Rel0 K Hb σ env ∧ RelSt K Z Hb H st ∧
  M.run env st (fun ds st' => ∀ vs Hb' H', StepW Hb H st Hb' H' st' → RelSt K Z Hb' H' st' → IsL K Hb' ds vs → Q vs H') (fun c st' => ∀ Hb' H', StepW Hb H st Hb' H' st' → RelSt K Z Hb' H' st' → W (.ref (Z.cl c)) none σ H')
/-- the wishes behind a statement, seen from where the def began -/
def liftN (K : PySem.W.Frag) (Z : Wd) (W : Dn.WX) (Hb0 H0 : Hp) (st0 : Sto) (N : L2.Ends) : WN where
  nx := fun env st => ∀ σ Hb H, Rel0 K Hb σ env → RelSt K Z Hb H st → StepW Hb0 H0 st0 Hb H st → N.nx σ H
  rt := fun d st => ∀ v Hb H, RelSt K Z Hb H st → StepW Hb0 H0 st0 Hb H st → Is K Hb d v → N.rt v H
  bk := fun env st => ∀ σ Hb H, Rel0 K Hb σ env → RelSt K Z Hb H st → StepW Hb0 H0 st0 Hb H st → N.bk σ H
  ct := fun env st => ∀ σ Hb H, Rel0 K Hb σ env → RelSt K Z Hb H st → StepW Hb0 H0 st0 Hb H st → N.ct σ H
  ex := fun c st => ∀ σ Hb H, RelSt K Z Hb H st → StepW Hb0 H0 st0 Hb H st → W (.ref (Z.cl c)) none σ H
def tWS (K : PySem.W.Frag) (Z : Wd) (W : Dn.WX) (M : WS) : TS := fun N σ H => ∃ Hb0 H0 st0 Hb env st, Rel0 K Hb σ env ∧ RelSt K Z Hb H st ∧ StepW Hb0 H0 st0 Hb H st ∧ M.run env st (liftN K Z W Hb0 H0 st0 N)

/-! ### pure ones lifted -/
def wP (f : En → Option D) : WE := ⟨fun env st K _ => ∃ d, f env = some d ∧ K d st, fun h _ ⟨d, e, k⟩ => ⟨d, e, h _ _ k⟩⟩
def wPT (f : En → Option Bool) : WT := ⟨fun env st K _ => ∃ d, f env = some d ∧ K d st, fun h _ ⟨d, e, k⟩ => ⟨d, e, h _ _ k⟩⟩
def wPA (f : En → Option (List D)) : WA := ⟨fun env st K _ => ∃ d, f env = some d ∧ K d st, fun h _ ⟨d, e, k⟩ => ⟨d, e, h _ _ k⟩⟩
section
variable {X : Cx} {Z : Wd} {W : Dn.WX} {a b e : Expr} {es : List Expr} {pos : Pos} {f : En → Option D} {Ma Mb : WE} {Ms : WA}
theorem wp_pure (h : PE X e (tD X.K f)) : PE X e (tWE X.K Z W (wP f)) := PE_weak h fun σ H Q hh => by
  obtain ⟨Hb, env, st, r, rs, d, ed, k⟩ := hh
  refine ⟨H, env, Hb, d, r.rel H H, rs.c, ed, fun v Hb' H' s iv => ?_⟩
  obtain ⟨s1, s2⟩ := s.w rs
  exact k v Hb' H' s1 s2 iv
theorem wt_pure {f : En → Option Bool} (h : PT X e (tT X.K f)) : PT X e (tWT X.K Z W (wPT f)) := PT_weak h fun σ H Q hh => by
  obtain ⟨Hb, env, st, r, rs, d, ed, k⟩ := hh
  refine ⟨H, env, Hb, d, r.rel H H, rs.c, ed, fun Hb' H' s => ?_⟩
  obtain ⟨s1, s2⟩ := s.w rs
  exact k Hb' H' s1 s2
theorem wa_pure {f : En → Option (List D)} (h : PA X es (tA X.K f)) : PA X es (tWA X.K Z W (wPA f)) := PA_weak h fun σ H Q hh => by
  obtain ⟨Hb, env, st, r, rs, d, ed, k⟩ := hh
  refine ⟨H, env, Hb, d, r.rel H H, rs.c, ed, fun vs Hb' H' s iv => ?_⟩
  obtain ⟨s1, s2⟩ := s.w rs
  exact k vs Hb' H' s1 s2 iv
/-! ### values -/
def w2 (g : D → D → Option D) (A B : WE) : WE := ⟨fun env st K E => A.run env st (fun a st1 => B.run env st1 (fun b st2 => ∃ d, g a b = some d ∧ K d st2) E) E,
  fun h h' x => A.mono (fun a s1 y => B.mono (fun b s2 ⟨d, e, k⟩ => ⟨d, e, h _ _ k⟩) h' y) h' x⟩
theorem wE_2 {K : PySem.W.Frag} {g : D → D → Option D} {σ : L2.St} {H : Hp} {Q : VK} (hh : tWE K Z W (w2 g Ma Mb) σ H Q) : tOp (rD2 K g) (tWE K Z W Ma) (tWE K Z W Mb) σ H Q := by
  obtain ⟨Hb, env, st, r, rs, m⟩ := hh
  refine ⟨Hb, env, st, r, rs, Ma.mono (fun da st1 m1 v Hb1 H1 s1 rs1 iv => ?_) (fun c s h => h) m⟩
  refine ⟨Hb1, env, st1, r.mono s1.b, rs1, Mb.mono (fun db st2 hd u Hb2 H2 s2 rs2 iu => ?_) (fun c s2 h Hb2 H2 x y => h Hb2 H2 (s1.trans x) y) m1⟩
  obtain ⟨d, ed, k⟩ := hd
  refine ⟨Hb2, da, db, d, rs2.c, iv.mono s2.b, iu, ed, fun w Hb3 H3 s3 iw => ?_⟩
  obtain ⟨x1, x2⟩ := s3.w rs2
  exact k w Hb3 H3 (s1.trans (s2.trans x1)) x2 iw
theorem wp_op {op : Operator} {g : D → D → Option D} (ho : OpR X (binaryOp op) (rD2 X.K g)) (ha : PE X a (tWE X.K Z W Ma)) (hb : PE X b (tWE X.K Z W Mb)) : PE X (.BinOp a op b pos) (tWE X.K Z W (w2 g Ma Mb)) :=
  PE_weak (pe_op ho ha hb) fun _ _ _ h => wE_2 h
theorem wp_cmp {op : CmpOp} {g : D → D → Option D} (ho : OpR X (compareOp op) (rD2 X.K g)) (ha : PE X a (tWE X.K Z W Ma)) (hb : PE X b (tWE X.K Z W Mb)) (hm : behindInMarks op b = false := by first | exact nobehind _ (by decide) (by decide) | rfl) :
    PE X (.Compare a [op] [b] pos) (tWE X.K Z W (w2 g Ma Mb)) := PE_weak (pe_cmpR ho ha hb hm) fun _ _ _ h => wE_2 h
def wB (A : WE) : WT := ⟨fun env st K E => A.run env st (fun d st1 => ∃ k, d = .bl k ∧ K k st1) E, fun h h' x => A.mono (fun d s ⟨k, e, q⟩ => ⟨k, e, h _ _ q⟩) h' x⟩
theorem wt_cmp {op : CmpOp} {g : D → D → Option D} (ho : OpR X (compareOp op) (rD2 X.K g)) (ha : PE X a (tWE X.K Z W Ma)) (hb : PE X b (tWE X.K Z W Mb)) (hm : behindInMarks op b = false := by first | exact nobehind _ (by decide) (by decide) | rfl) :
    PT X (.Compare a [op] [b] pos) (tWT X.K Z W (wB (w2 g Ma Mb))) := PT_weak (pt_cmpR ho ha hb hm) fun σ H Q h => by
  obtain ⟨Hb, env, st, r, rs, m⟩ := h
  refine wE_2 ⟨Hb, env, st, r, rs, (w2 g Ma Mb).mono (fun d st1 hd v Hb' H' s rs' iv => ?_) (fun _ _ h => h) m⟩
  obtain ⟨k, rfl, q⟩ := hd
  exact ⟨k, by simpa only [Is] using iv, q Hb' H' s rs'⟩
theorem wt_val (h : PE X e (tWE X.K Z W Ma)) (he : ∀ whole, isTrue e X.env whole = (do let v ← whole; standAt e.pos; holding [v] (truthy v)) := by intro _; rfl) : PT X e (tWT X.K Z W (wB Ma)) :=
  PT_weak (pt_val h he) fun σ H Q hh => by
    obtain ⟨Hb, env, st, r, rs, m⟩ := hh
    refine ⟨Hb, env, st, r, rs, Ma.mono (fun d st1 hd v Hb' H' s rs' iv => ?_) (fun _ _ h => h) m⟩
    obtain ⟨k, rfl, q⟩ := hd
    exact ⟨k, by simpa only [Is] using iv, q Hb' H' s rs'⟩
def wNot (A : WT) : WT := ⟨fun env st K E => A.run env st (fun k s => K (!k) s) E, fun h h' x => A.mono (fun k s q => h _ _ q) h' x⟩
def wAnd (A B : WT) : WT := ⟨fun env st K E => A.run env st (fun k s => if k then B.run env s K E else K false s) E, fun h h' x => A.mono (fun k s q => by
  cases k with
  | true => exact B.mono h h' q
  | false => exact h _ _ q) h' x⟩
def wOr (A B : WT) : WT := ⟨fun env st K E => A.run env st (fun k s => if k then K true s else B.run env s K E) E, fun h h' x => A.mono (fun k s q => by
  cases k with
  | false => exact B.mono h h' q
  | true => exact h _ _ q) h' x⟩
variable {Ta Tb : WT} {rest : List Expr}
theorem wt_not (ha : PT X a (tWT X.K Z W Ta)) : PT X (.UnaryOp .Not a pos) (tWT X.K Z W (wNot Ta)) := PT_weak (pt_not ha) fun σ H Q h => by
  obtain ⟨Hb, env, st, r, rs, m⟩ := h
  exact ⟨Hb, env, st, r, rs, m⟩
theorem wt_and1 (ha : PT X a (tWT X.K Z W Ta)) : PW X (.BoolOp .And [a] pos) (tWT X.K Z W Ta) := pw_and1 ha
theorem wt_or1 (ha : PT X a (tWT X.K Z W Ta)) : PW X (.BoolOp .Or [a] pos) (tWT X.K Z W Ta) := pw_or1 ha
theorem wt_and (ha : PT X a (tWT X.K Z W Ta)) (hb : PW X (.BoolOp .And (b :: rest) pos) (tWT X.K Z W Tb)) : PW X (.BoolOp .And (a :: b :: rest) pos) (tWT X.K Z W (wAnd Ta Tb)) := PW_weak (pw_and ha hb) fun σ H Q h => by
  obtain ⟨Hb, env, st, r, rs, m⟩ := h
  refine ⟨Hb, env, st, r, rs, Ta.mono (fun k st1 q Hb1 H1 s1 rs1 => ?_) (fun _ _ h => h) m⟩
  cases k with
  | false => exact q Hb1 H1 s1 rs1
  | true => exact ⟨Hb1, env, st1, r.mono s1.b, rs1, Tb.mono (fun k2 st2 q2 Hb2 H2 s2 rs2 => q2 Hb2 H2 (s1.trans s2) rs2) (fun c s2 h Hb2 H2 x y => h Hb2 H2 (s1.trans x) y) q⟩
theorem wt_or (ha : PT X a (tWT X.K Z W Ta)) (hb : PW X (.BoolOp .Or (b :: rest) pos) (tWT X.K Z W Tb)) : PW X (.BoolOp .Or (a :: b :: rest) pos) (tWT X.K Z W (wOr Ta Tb)) := PW_weak (pw_or ha hb) fun σ H Q h => by
  obtain ⟨Hb, env, st, r, rs, m⟩ := h
  refine ⟨Hb, env, st, r, rs, Ta.mono (fun k st1 q Hb1 H1 s1 rs1 => ?_) (fun _ _ h => h) m⟩
  cases k with
  | true => exact q Hb1 H1 s1 rs1
  | false => exact ⟨Hb1, env, st1, r.mono s1.b, rs1, Tb.mono (fun k2 st2 q2 Hb2 H2 s2 rs2 => q2 Hb2 H2 (s1.trans s2) rs2) (fun c s2 h Hb2 H2 x y => h Hb2 H2 (s1.trans x) y) q⟩
/-! argument lists, displays -/
def wNil : WA := wPA fNil
def wCons (A : WE) (B : WA) : WA := ⟨fun env st K E => A.run env st (fun a s => B.run env s (fun ds s2 => K (a :: ds) s2) E) E, fun h h' x => A.mono (fun _ _ y => B.mono (fun _ _ k => h _ _ k) h' y) h' x⟩
theorem wa_nil : PA X [] (tWA X.K Z W wNil) := wa_pure a_nil
theorem wa_cons (ha : PE X e (tWE X.K Z W Ma)) (hr : PA X es (tWA X.K Z W Ms)) (hs : starEach (e :: es) X.env = (false, eval e X.env) :: starEach es X.env := by rfl) : PA X (e :: es) (tWA X.K Z W (wCons Ma Ms)) :=
  PA_weak (pa_cons ha hr hs) fun σ H Q h => by
    obtain ⟨Hb, env, st, r, rs, m⟩ := h
    refine ⟨Hb, env, st, r, rs, Ma.mono (fun d st1 q v Hb1 H1 s1 rs1 iv => ?_) (fun _ _ h => h) m⟩
    refine ⟨Hb1, env, st1, r.mono s1.b, rs1, Ms.mono (fun ds st2 q2 vs Hb2 H2 s2 rs2 ivs => ?_) (fun c s2 h Hb2 H2 x y => h Hb2 H2 (s1.trans x) y) q⟩
    exact q2 (v :: vs) Hb2 H2 (s1.trans s2) rs2 (by simp only [IsL]; exact ⟨v, vs, rfl, iv.mono s2.b, ivs⟩)
def wTup (A : WA) : WE := ⟨fun env st K E => A.run env st (fun ds s => ds.length ≤ sizeLine ∧ K (.tup ds) s) E, fun h h' x => A.mono (fun _ _ ⟨a, b⟩ => ⟨a, h _ _ b⟩) h' x⟩
theorem wp_tup {x1} (h : PA X es (tWA X.K Z W Ms)) : PE X (.Tuple es x1 pos) (tWE X.K Z W (wTup Ms)) := PE_weak (pe_tupN h) fun σ H Q hh => by
  obtain ⟨Hb, env, st, r, rs, m⟩ := hh
  refine ⟨Hb, env, st, r, rs, Ms.mono (fun ds st1 q vs Hb1 H1 s1 rs1 iv => ?_) (fun _ _ h => h) m⟩
  refine ⟨by rw [iv.length]; exact q.1, fun p o hp ho => ?_⟩
  obtain ⟨x1, x2⟩ := (Step.new rs1.c hp (o := .frz o (.tup vs))).w rs1
  exact q.2 _ _ _ (s1.trans x1) x2 (is_tup_new ho (rs1.c.free hp) iv)
/-! built-ins and defs of the old layer, of values that change on the way -/
def wBlt (g : List D → Option D) (A : WA) : WE := ⟨fun env st K E => A.run env st (fun ds s => ∃ d, g ds = some d ∧ K d s) E, fun h h' x => A.mono (fun _ _ ⟨d, e, k⟩ => ⟨d, e, h _ _ k⟩) h' x⟩
theorem wp_blt {x : Str} {id : String} {p : Pos} {g : List D → Option D} (hc : CallR X (.builtin id) (rDA X.K g)) (hm : X.mg x = none) (hv : bootBuiltins x = some (.builtin id)) (ha : PA X (e :: es) (tWA X.K Z W Ms)) (hg : Gl X x := by rfl) (hn : x ≠ "__name__" := by decide) (hdb : (x == ("__debug__" : Str)) = false := by decide)
    (he : starEach (e :: es) X.env = (false, eval e X.env) :: starEach es X.env := by rfl) (hpl : (backTo pos (starEach es X.env)).any (·.1) = false := by rfl) : PE X (.Call (.Name x p) (e :: es) [] pos) (tWE X.K Z W (wBlt g Ms)) := PE_weak (pe_callB hc hg hm hv ha hn hdb he hpl) fun σ H Q hh => by
  obtain ⟨Hb, env, st, r, rs, m⟩ := hh
  refine ⟨Hb, env, st, r, rs, Ms.mono (fun ds st1 q vs Hb1 H1 s1 rs1 iv => ?_) (fun _ _ h => h) m⟩
  obtain ⟨d, ed, k⟩ := q
  refine ⟨Hb1, ds, d, rs1.c, iv, ed, fun v Hb2 H2 s2 i2 => ?_⟩
  obtain ⟨x1, x2⟩ := s2.w rs1
  exact k v Hb2 H2 (s1.trans x1) x2 i2
theorem wp_def {x : Str} {ps : List Str} {k j : Nat} {p : Pos} {sem : List D → Option D} (h : Def X.prog X.w X.K X.mg X.base k x ps sem) (hr : Room j X.A) (ha : PA X (e :: es) (tWA X.K Z W Ms)) (hkj : k ≤ j := by decide) (hg : Gl X x := by rfl) (hdb : (x == ("__debug__" : Str)) = false := by decide)
    (he : starEach (e :: es) X.env = (false, eval e X.env) :: starEach es X.env := by rfl) (hpl : (backTo pos (starEach es X.env)).any (·.1) = false := by rfl) :
    PE X (.Call (.Name x p) (e :: es) [] pos) (tWE X.K Z W (wBlt sem Ms)) := by
  obtain ⟨f, fd, Fo, hm, hk, hb⟩ := h
  refine PE_weak (pe_call (E := fun _ _ _ => False) Fo (hr.mono hkj) hg hm hk hb .nil pass0 ha hdb he hpl) fun σ H Q hh => ?_
  obtain ⟨Hb, env, st, r, rs, m⟩ := hh
  refine ⟨Hb, env, st, r, rs, Ms.mono (fun ds st1 q vs Hb1 H1 s1 rs1 iv => ?_) (fun _ _ h => h) m⟩
  obtain ⟨d, ed, k⟩ := q
  show spD X.K sem (vs ++ []) H1 Q _
  rw [List.append_nil]
  refine ⟨Hb1, ds, d, rs1.c, iv, ed, fun v Hb2 H2 s2 i2 => ?_⟩
  obtain ⟨x1, x2⟩ := s2.w rs1
  exact k v Hb2 H2 (s1.trans x1) x2 i2
end
end Dn
set_option Elab.async false
set_option linter.all false
set_option maxRecDepth 100000
/-! Part Q: statements of the store's layer; defs. -/
namespace Dn
open PySem L2 PySem.Spec PyProof.Rows

theorem WS.imp (M : WS) {env : En} {st : Sto} {N N' : WN} (x : M.run env st N) (h : N.le N') : M.run env st N' := M.mono h x
/-- a heap that lacks nothing: no slot owns -/
def full : Hp := fun _ => some (.lst [])
theorem Rel.rel0 {K : PySem.W.Frag} {Hb H : Hp} {σ : L2.St} {env : En} (r : Rel K full Hb H σ env) : Rel0 K Hb σ env := ⟨r.len, fun i d e => by
  obtain ⟨v, h1, h2⟩ := r.val i d e
  refine ⟨v, h1, ?_⟩
  cases d with
  | own ds =>
    obtain ⟨a, vs, _, z, _⟩ := h2
    cases z
  | ownd ds =>
    obtain ⟨a, vs, _, z, _⟩ := h2
    cases z
  | _ => exact h2⟩
section
variable {X : Cx} {Z : Wd} {W : Dn.WX} {a b e : Expr} {es : List Expr} {st' : Stmt} {sts rest : List Stmt} {pos : Pos} {A : WE} {T : WT} {F G : WS}
def wSet (i : Nat) (A : WE) : WS := ⟨fun env st N => A.run env st (fun d s => N.nx (env.set i (some d)) s) N.ex, fun h x => A.mono (fun _ _ k => h.nx _ _ k) (fun _ _ k => h.ex _ _ k) x⟩
def wAsg (A : WE) (g : D → En → Option En) : WS := ⟨fun env st N => A.run env st (fun d s => ∃ e, g d env = some e ∧ N.nx e s) N.ex, fun h x => A.mono (fun _ _ ⟨e, q, k⟩ => ⟨e, q, h.nx _ _ k⟩) (fun _ _ k => h.ex _ _ k) x⟩
def wRet (A : WE) : WS := ⟨fun env st N => A.run env st N.rt N.ex, fun h x => A.mono h.rt h.ex x⟩
def wDrop (A : WE) : WS := ⟨fun env st N => A.run env st (fun _ s => N.nx env s) N.ex, fun h x => A.mono (fun _ _ k => h.nx _ _ k) h.ex x⟩
def wPass : WS := ⟨fun env st N => N.nx env st, fun h x => h.nx _ _ x⟩
def wSeq (F G : WS) : WS := ⟨fun env st N => F.run env st { N with nx := fun e s => G.run e s N }, fun h x => F.imp x ⟨fun _ _ k => G.mono h k, h.rt, h.bk, h.ct, h.ex⟩⟩
def wIf (T : WT) (F G : WS) : WS := ⟨fun env st N => T.run env st (fun k s => if k then F.run env s N else G.run env s N) N.ex, fun h x => T.mono (fun k s q => by
  cases k with
  | true => exact F.mono h q
  | false => exact G.mono h q) h.ex x⟩
theorem ws_set (i : Nat) {x : Str} {pos' : Pos} (hN : X.N.Nodup) (he : PE X e (tWE X.K Z W A)) (hi : X.N[i]? = some x := by rfl) (hx : Loc X.env.scope x := by first | exact Or.inl rfl | exact Or.inr rfl) (hs : swapsWith e (some (.Name x pos')) pos.line X.env = pure false := by rfl)
    (hf : X.fn x = true ∨ X.env.scope.names.lookup x = some .local := by first | exact .inl rfl | exact .inr rfl) : PS X (.Assign [.Name x pos'] e pos) (tWS X.K Z W (wSet i A)) := PS_weak (ps_set hN hi hx he hs hf) fun N σ H h => by
  obtain ⟨Hb0, H0, st0, Hb, env, st, r, rs, sp, m⟩ := h
  exact ⟨Hb, env, st, r, rs, A.mono (fun d s1 k v Hb1 H1 s rs1 iv => k _ Hb1 H1 ((r.mono s.b).set i iv) rs1 (sp.trans s)) (fun c s1 k Hb1 H1 s rs1 => k σ Hb1 H1 rs1 (sp.trans s)) m⟩
theorem ws_asg {tg : Expr} {ts : List Nat} {g : D → En → Option En} (he : PE X e (tWE X.K Z W A)) (hg : PG X tg (tG X.K ts g)) (hs : swapsWithSole [tg] e pos.line X.env = pure false := by rfl) (hw : swappedStores [tg] e X.env = pure none := by rfl)
    (h1 : (assignEach [tg] X.env).map (·.2) = [assign tg X.env] := by rfl) : PS X (.Assign [tg] e pos) (tWS X.K Z W (wAsg A g)) := PS_weak (ps_asg he hg hs hw h1) fun N σ H h => by
  obtain ⟨Hb0, H0, st0, Hb, env, st, r, rs, sp, m⟩ := h
  refine ⟨Hb, env, st, r, rs, A.mono (fun d s1 k v Hb1 H1 s rs1 iv => ?_) (fun c s1 k Hb1 H1 s rs1 => k σ Hb1 H1 rs1 (sp.trans s)) m⟩
  obtain ⟨e2, eg, k⟩ := k
  exact ⟨full, Hb1, env, d, e2, (r.mono s.b).rel full H1, rs1.c, iv, eg, fun σ' r' _ => k σ' Hb1 H1 r'.rel0 rs1 (sp.trans s)⟩
/-- a, b = x, y -/
def wPar (i j : Nat) (A : WA) : WS := ⟨fun env st N => A.run env st (fun ds s => ∃ d d', ds = [d, d'] ∧ N.nx ((env.set i (some d)).set j (some d')) s) N.ex, fun h x => A.mono (fun _ _ ⟨d, d', q, k⟩ => ⟨d, d', q, h.nx _ _ k⟩) (fun _ _ k => h.ex _ _ k) x⟩
theorem ws_par (i j : Nat) {Ms : WA} {x y : Str} {px py pt : Pos} {kt k2 pt2} (hc : X.calm = true) (hN : X.N.Nodup) (ha : PA X [a, b] (tWA X.K Z W Ms)) (hi : X.N[i]? = some x := by rfl) (hj : X.N[j]? = some y := by rfl) (hij : i ≠ j := by decide)
    (hx : X.env.scope.names.lookup x = some .local := by rfl) (hy : X.env.scope.names.lookup y = some .local := by rfl)
    (hw : swappedStores [.Tuple [.Name x px, .Name y py] kt pt] (.Tuple [a, b] k2 pt2) X.env = pure (some [x, y]) := by rfl)
    (hs : swapsWithSole [.Tuple [.Name x px, .Name y py] kt pt] (.Tuple [a, b] k2 pt2) pos.line X.env = pure false := by rfl) :
    PS X (.Assign [.Tuple [.Name x px, .Name y py] kt pt] (.Tuple [a, b] k2 pt2) pos) (tWS X.K Z W (wPar i j Ms)) := PS_weak (ps_par hc hN hi hj hij hx hy ha hw hs) fun N σ H h => by
  obtain ⟨Hb0, H0, st0, Hb, env, st, r, rs, sp, m⟩ := h
  refine ⟨Hb, env, st, r, rs, Ms.mono (fun ds s1 k vs Hb1 H1 s rs1 iv => ?_) (fun c s1 k Hb1 H1 s rs1 => k σ Hb1 H1 rs1 (sp.trans s)) m⟩
  obtain ⟨d, d', rfl, k⟩ := k
  simp only [IsL] at iv
  obtain ⟨v, r1, rfl, i1, v', r2, rfl, i2, rfl⟩ := iv
  exact ⟨v, v', rfl, k _ Hb1 H1 (((r.mono s.b).set i i1).set j i2) rs1 (sp.trans s)⟩
theorem ws_ret (he : PE X e (tWE X.K Z W A)) : PS X (.Return (some e) pos) (tWS X.K Z W (wRet A)) := PS_weak (ps_ret he) fun N σ H h => by
  obtain ⟨Hb0, H0, st0, Hb, env, st, r, rs, sp, m⟩ := h
  exact ⟨Hb, env, st, r, rs, A.mono (fun d s1 k v Hb1 H1 s rs1 iv => k v Hb1 H1 rs1 (sp.trans s) iv) (fun c s1 k Hb1 H1 s rs1 => k σ Hb1 H1 rs1 (sp.trans s)) m⟩
theorem ws_expr (he : PE X e (tWE X.K Z W A)) (hs : swapsWith e none pos.line X.env = pure false := by rfl) : PS X (.Expr e pos) (tWS X.K Z W (wDrop A)) := PS_weak (ps_expr he hs) fun N σ H h => by
  obtain ⟨Hb0, H0, st0, Hb, env, st, r, rs, sp, m⟩ := h
  exact ⟨Hb, env, st, r, rs, A.mono (fun d s1 k v Hb1 H1 s rs1 iv => k σ Hb1 H1 (r.mono s.b) rs1 (sp.trans s)) (fun c s1 k Hb1 H1 s rs1 => k σ Hb1 H1 rs1 (sp.trans s)) m⟩
theorem wss_nil : PSs X [] (tWS X.K Z W wPass) := PSs_weak pss_nil fun N σ H h => by
  obtain ⟨Hb0, H0, st0, Hb, env, st, r, rs, sp, m⟩ := h
  exact m σ Hb H r rs sp
theorem ws_pass : PS X (.Pass pos) (tWS X.K Z W wPass) := PS_weak ps_pass fun N σ H h => by
  obtain ⟨Hb0, H0, st0, Hb, env, st, r, rs, sp, m⟩ := h
  exact m σ Hb H r rs sp
theorem wss_one (h : PS X st' (tWS X.K Z W F)) : PSs X [st'] (tWS X.K Z W F) := pss_one h
theorem wss_cons (h1 : PS X st' (tWS X.K Z W F)) (h2 : PSs X rest (tWS X.K Z W G)) : PSs X (st' :: rest) (tWS X.K Z W (wSeq F G)) := PSs_weak (pss_cons h1 h2) fun N σ H h => by
  obtain ⟨Hb0, H0, st0, Hb, env, st, r, rs, sp, m⟩ := h
  exact ⟨Hb0, H0, st0, Hb, env, st, r, rs, sp, F.imp (show F.run env st { (liftN X.K Z W Hb0 H0 st0 N) with nx := fun e s => G.run e s (liftN X.K Z W Hb0 H0 st0 N) } from m) ⟨fun e2 s2 k σ' Hb' H' r' rs' sp' => ⟨Hb0, H0, st0, Hb', e2, s2, r', rs', sp', k⟩, fun _ _ k => k, fun _ _ k => k, fun _ _ k => k, fun _ _ k => k⟩⟩
theorem ws_if {p q : List Stmt} {c : Expr} (hc : PT X c (tWT X.K Z W T)) (hp : PSs X p (tWS X.K Z W F)) (hq : PSs X q (tWS X.K Z W G)) : PS X (.If c p q pos) (tWS X.K Z W (wIf T F G)) := PS_weak (ps_if hc hp hq) fun N σ H h => by
  obtain ⟨Hb0, H0, st0, Hb, env, st, r, rs, sp, m⟩ := h
  refine ⟨Hb, env, st, r, rs, T.mono (fun k s1 q Hb1 H1 s rs1 => ?_) (fun c s1 k Hb1 H1 s rs1 => k σ Hb1 H1 rs1 (sp.trans s)) m⟩
  cases k with
  | true => exact ⟨Hb0, H0, st0, Hb1, env, s1, r.mono s.b, rs1, sp.trans s, q⟩
  | false => exact ⟨Hb0, H0, st0, Hb1, env, s1, r.mono s.b, rs1, sp.trans s, q⟩
/-! ### loops -/
def forW (g : D → En → Option En) (B : WS) : List D → En → Sto → WN → Prop
  | [], env, st, N => N.nx env st
  | d :: ds, env, st, N => ∃ e1, g d env = some e1 ∧ B.run e1 st { nx := fun e s => forW g B ds e s N, ct := fun e s => forW g B ds e s N, bk := N.nx, rt := N.rt, ex := N.ex }
theorem forW_mono {g : D → En → Option En} {B : WS} {N N' : WN} (h : N.le N') : ∀ {ds : List D} {env : En} {st : Sto}, forW g B ds env st N → forW g B ds env st N'
  | [], _, _, x => h.nx _ _ x
  | d :: ds, env, st, ⟨e1, q, x⟩ => ⟨e1, q, B.imp x ⟨fun _ _ k => forW_mono h k, h.rt, h.nx, fun _ _ k => forW_mono h k, h.ex⟩⟩
def wFor (it : En → Option (List D)) (g : D → En → Option En) (B : WS) : WS := ⟨fun env st N => ∃ ds, it env = some ds ∧ forW g B ds env st N, fun h ⟨ds, q, x⟩ => ⟨ds, q, forW_mono h x⟩⟩
theorem ws_for {tg iter : Expr} {ts : List Nat} {g : D → En → Option En} {body : List Stmt} {it : En → Option (List D)} (hp : PassesOwn (model X.prog X.w) X.A X.env X.xe) (hc : X.calm = true) (hi : PI X tg iter (tI X.K it)) (hg : PG X tg (tG X.K ts g)) (hb : PSs X body (tWS X.K Z W F))
    (hs : ∀ x, foldedSetIterable iter X.env x = pure x := by intro _; rfl) : PS X (.For tg iter body [] pos) (tWS X.K Z W (wFor it g F)) := PS_weak (ps_for hp hc hi hg hb hs) fun N σ H h => by
  obtain ⟨Hb0, H0, st0, Hb, env, st, r, rs, sp, ds, ed, m⟩ := h
  refine ⟨full, env, Hb, ds, r.rel full H, rs.c, ed, fun J Hb1 H1 s1 wk => ?_⟩
  obtain ⟨x1, x2⟩ := s1.w rs
  refine ⟨fun i n σ' H' => ∃ Hb' env' st', Rel0 X.K Hb' σ' env' ∧ RelSt X.K Z Hb' H' st' ∧ StepW Hb0 H0 st0 Hb' H' st' ∧ Same Hb1 Hb' ∧ i + n = ds.length ∧ forW g F (ds.drop i) env' st' (liftN X.K Z W Hb0 H0 st0 N), ⟨ds.length, Hb1, env, st, r.mono s1.b, x2, sp.trans x1, Same.refl _, by omega, m⟩, fun i n σ2 H2 hW => ?_⟩
  obtain ⟨Hb2, e2, st2, r2, rs2, sp2, sm2, im, q2⟩ := hW
  obtain ⟨wi, ws⟩ := wk Hb2 H2 sm2 rs2.c
  by_cases hn : n = 0
  · subst hn
    have hi : i = ds.length := by omega
    subst hi
    rw [List.drop_length] at q2
    exact .inl ⟨ws, q2 σ2 Hb2 H2 r2 rs2 sp2⟩
  · have hi : i < ds.length := by omega
    obtain ⟨go, yld⟩ := wi i ds[i] (List.getElem?_eq_getElem hi)
    rw [List.drop_eq_getElem_cons hi] at q2
    obtain ⟨e3, eg, q2⟩ := q2
    refine .inr ⟨go, fun σ' H' => ∃ Hb' env' st', Rel0 X.K Hb' σ' env' ∧ RelSt X.K Z Hb' H' st' ∧ StepW Hb0 H0 st0 Hb' H' st' ∧ Same Hb1 Hb' ∧ forW g F (ds.drop (i + 1)) env' st' (liftN X.K Z W Hb0 H0 st0 N), fun σ' H' hN => ?_, fun x H' hy => ?_⟩
    · obtain ⟨Hb', e', s', a1, a2, a3, a4, a5⟩ := hN
      exact ⟨n - 1, by omega, Hb', e', s', a1, a2, a3, a4, by omega, a5⟩
    · obtain ⟨Hb3, s3, iv⟩ := yld x H' hy
      obtain ⟨y1, y2⟩ := s3.w rs2
      refine ⟨full, Hb3, e2, ds[i], e3, (r2.mono s3.b).rel full H', s3.c, iv, eg, fun σ' r' _ => ⟨Hb3, H', st2, Hb3, e3, st2, r'.rel0, y2, StepW.refl, F.imp q2 ?_⟩⟩
      have sp3 := sp2.trans y1
      have sm3 := sm2.trans s3.b
      exact ⟨fun e s k σ' Hb' H'' r' rs' sp' => ⟨Hb', e, s, r', rs', sp3.trans sp', sm3.trans sp'.b, k⟩, fun d s k v Hb' H'' rs' sp' iv => k v Hb' H'' rs' (sp3.trans sp') iv, fun e s k σ' Hb' H'' r' rs' sp' => k σ' Hb' H'' r' rs' (sp3.trans sp'),
        fun e s k σ' Hb' H'' r' rs' sp' => ⟨Hb', e, s, r', rs', sp3.trans sp', sm3.trans sp'.b, k⟩, fun c s k σ' Hb' H'' rs' sp' => k σ' Hb' H'' rs' (sp3.trans sp')⟩
def whileW (T : WT) (B : WS) : Nat → En → Sto → WN → Prop
  | 0, _, _, _ => False
  | n + 1, env, st, N => T.run env st (fun k s => if k then B.run env s { nx := fun e s => whileW T B n e s N, ct := fun e s => whileW T B n e s N, bk := N.nx, rt := N.rt, ex := N.ex } else N.nx env s) N.ex
theorem whileW_mono {T : WT} {B : WS} {N N' : WN} (h : N.le N') : ∀ {n : Nat} {env : En} {st : Sto}, whileW T B n env st N → whileW T B n env st N'
  | 0, _, _, x => x
  | n + 1, env, st, x => T.mono (fun k s q => by
    cases k with
    | true => exact B.imp q ⟨fun _ _ k => whileW_mono h k, h.rt, h.nx, fun _ _ k => whileW_mono h k, h.ex⟩
    | false => exact h.nx _ _ q) h.ex x
def wWhile (T : WT) (B : WS) : WS := ⟨fun env st N => ∃ n, whileW T B n env st N, fun h ⟨n, x⟩ => ⟨n, whileW_mono h x⟩⟩
theorem ws_while {c : Expr} {body : List Stmt} (hp : PassesOwn (model X.prog X.w) X.A X.env X.xe) (hc : PT X c (tWT X.K Z W T)) (hb : PSs X body (tWS X.K Z W F)) : PS X (.While c body [] pos) (tWS X.K Z W (wWhile T F)) :=
  PS_weak (ps_while hp hc hb) fun N σ H h => by
    obtain ⟨Hb0, H0, st0, Hb, env, st, r, rs, sp, n, m⟩ := h
    refine ⟨fun n σ' H' => ∃ Hb' env' st', Rel0 X.K Hb' σ' env' ∧ RelSt X.K Z Hb' H' st' ∧ StepW Hb0 H0 st0 Hb' H' st' ∧ whileW T F n env' st' (liftN X.K Z W Hb0 H0 st0 N), ⟨n, Hb, env, st, r, rs, sp, m⟩, fun n σ1 H1 hW => ?_⟩
    obtain ⟨Hb1, e1, st1, r1, rs1, sp1, q1⟩ := hW
    cases n with
    | zero => exact q1.elim
    | succ n =>
      refine ⟨Hb1, e1, st1, r1, rs1, T.mono (fun k s2 q Hb2 H2 s rs2 => ?_) (fun c s2 k Hb2 H2 s rs2 => k σ1 Hb2 H2 rs2 (sp1.trans s)) q1⟩
      cases k with
      | false => exact q σ1 Hb2 H2 (r1.mono s.b) rs2 (sp1.trans s)
      | true =>
        refine ⟨fun σ' H' => ∃ Hb' env' st', Rel0 X.K Hb' σ' env' ∧ RelSt X.K Z Hb' H' st' ∧ StepW Hb0 H0 st0 Hb' H' st' ∧ whileW T F n env' st' (liftN X.K Z W Hb0 H0 st0 N), fun σ' H' hN => ⟨n, Nat.lt_succ_self n, hN⟩, Hb0, H0, st0, Hb2, e1, s2, r1.mono s.b, rs2, sp1.trans s, F.imp q ?_⟩
        exact ⟨fun e s k σ' Hb' H'' r' rs' sp' => ⟨Hb', e, s, r', rs', sp', k⟩, fun d s k => k, fun e s k => k, fun e s k σ' Hb' H'' r' rs' sp' => ⟨Hb', e, s, r', rs', sp', k⟩, fun c s k => k⟩
/-! ### calls of defs that change things -/
def spW (K : PySem.W.Frag) (Z : Wd) (sem : WF) : Sp := fun vs H Q E => ∃ Hb st ds, RelSt K Z Hb H st ∧ IsL K Hb ds vs ∧ sem.run ds st (fun d st' => ∀ v Hb' H', StepW Hb H st Hb' H' st' → RelSt K Z Hb' H' st' → Is K Hb' d v → Q v H') (fun c st' => ∀ Hb' H', StepW Hb H st Hb' H' st' → RelSt K Z Hb' H' st' → E (.ref (Z.cl c)) none H')
def wCall (sem : WF) (Ms : WA) : WE := ⟨fun env st K E => Ms.run env st (fun ds s => sem.run ds s K E) E, fun h h' x => Ms.mono (fun _ _ y => sem.mono h h' y) h' x⟩
theorem wE_call {K : PySem.W.Frag} {Ms : WA} {sem : WF} {σ : L2.St} {H : Hp} {Q : VK} (hh : tWE K Z W (wCall sem Ms) σ H Q) : tCallS (spW K Z sem) (L2.WE W) (tWA K Z W Ms) σ H Q := by
  obtain ⟨Hb, env, st, r, rs, m⟩ := hh
  refine ⟨Hb, env, st, r, rs, Ms.mono (fun ds st1 q vs Hb1 H1 s1 rs1 iv => ?_) (fun _ _ h => h) m⟩
  exact ⟨Hb1, st1, ds, rs1, iv, sem.mono (fun d s2 k v Hb2 H2 x y z => k v Hb2 H2 (s1.trans x) y z) (fun c s2 k Hb2 H2 x y => k Hb2 H2 (s1.trans x) y) q⟩
theorem wp_call {Ms : WA} {x : Str} {f : Addr} {fd : FuncData} {ps : List Str} {k j : Nat} {p : Pos} {sem : WF} (tk : Takes X W) (Fo : FnOk X.prog X.w X.K X.mg X.base (L2.CX X.prog X.w) k f fd ps (spW X.K Z sem)) (hr : Room j X.A) (hm : X.mg x = some (.ref f)) (hk : PySem.W.keepIn X.K (.ref f) = true) (hb : Binds X.K fd ps []) (ha : PA X (e :: es) (tWA X.K Z W Ms)) (hkj : k ≤ j := by decide)
    (hg : Gl X x := by rfl) (hdb : (x == ("__debug__" : Str)) = false := by decide) (he : starEach (e :: es) X.env = (false, eval e X.env) :: starEach es X.env := by rfl) (hpl : (backTo pos (starEach es X.env)).any (·.1) = false := by rfl) :
    PE X (.Call (.Name x p) (e :: es) [] pos) (tWE X.K Z W (wCall sem Ms)) := PE_weak (pe_callS Fo (hr.mono hkj) hg hm hk hb (fun σ => passAt tk σ) ha hdb he hpl) fun _ _ _ h => wE_call h
end
/-- what a def's body does -/
def semW (n m : Nat) (M : WS) : WF := ⟨fun ds st K E => ds.length = m ∧ M.run (startE n ds) st { nx := fun _ s => K .non s, rt := K, ex := E }, fun h h' ⟨a, x⟩ => ⟨a, M.imp x ⟨fun _ _ k => h _ _ k, h, fun _ _ k => k, fun _ _ k => k, h'⟩⟩⟩
theorem rel0_start {K : PySem.W.Frag} {Hb : Hp} {N : List Str} {ds : List D} {vs : List V} (h : IsL K Hb ds vs) : Rel0 K Hb (L2.start N vs) (startE N.length ds) := by
  have r := rel_start (H := full) (N := N) h
  exact Rel.rel0 r
section
variable {P : Program} {w : World} {K : PySem.W.Frag} {mg : Str → Option Value} {base : Heap}
theorem fn_w {Z : Wd} {x qual : Str} {st : Stmt} {f : Addr} {fd : FuncData} {N ps : List Str} {k : Nat} {M : WS} (Fu : Fun K x qual st f fd) (S : FnScope N ps (defScope st))
    (hb : ∀ (cdv : Value) (A : Around) (outer : List Env) (s : Shared) (H : Hp) (E : XK), Room k (A.deeper (envOfC qual (defScope st) s.heap.objs.size f cdv)) → PSs (cxOf (L2.CX P w) P w K mg base N qual (defScope st) f cdv A outer s H E) (defBody st) (tWS K Z (fun c d _ H' => E c d H') M)) :
    FnOk P w K mg base (L2.CX P w) (k + 1) f fd ps (spW K Z (semW N.length ps.length M)) := by
  refine Fu.okX S (fun vs H Q E h => ?_) (fun cdv A outer s H vs Q E hr h => ⟨_, hb cdv A outer s H E hr, ?_⟩)
  · obtain ⟨Hb, st, ds, rs, il, hl, _⟩ := h
    rw [il.length, hl]
  · obtain ⟨Hb, st, ds, rs, il, hl, m⟩ := h
    refine ⟨Hb, H, st, Hb, startE N.length ds, st, rel0_start il, rs, StepW.refl, M.imp m ?_⟩
    exact ⟨fun e s k σ Hb' H' r' rs' sp' => k .non Hb' H' sp' rs' (by simp only [Is]), fun d s k v Hb' H' rs' sp' iv => k v Hb' H' sp' rs' iv, fun _ _ k => k.elim, fun _ _ k => k.elim, fun c s k σ Hb' H' rs' sp' => k Hb' H' sp' rs'⟩
/-- a heap without its tables -/
def noT (H : Hp) : Hp := fun b => match H b with
  | some (.tbl _) => none
  | x => x
theorem noT_nt (H : Hp) : NoT (noT H) := fun b ps z => by
  unfold noT at z
  split at z
  · cases z
  · rename_i h
    exact h ps z
theorem noT_same (H : Hp) : Same (noT H) H := fun b o z => by
  unfold noT at z
  split at z
  · cases z
  · exact z
theorem noT_get {H : Hp} {b : Addr} {o : HO} (h : H b = some o) (n : ∀ ps, o ≠ .tbl ps) : noT H b = some o := by
  unfold noT
  split
  · rename_i ps z
    rw [h] at z
    exact absurd (Option.some.inj z) (n ps)
  · exact h
/-- the law's own promise; T: tables of code objects -/
theorem law_sp {Z : Wd} {sem : WF} (q : ∀ ns : List Int, ns.length ≤ 63 → sem.run [.scr ns] (fun _ => none) (fun d _ => d = .bl true) (fun _ _ => False)) (H : Hp) (a : Addr) (ns : List Int) (hl : ns.length ≤ 63) (hT : ∀ p ∈ Z.T, H p.1 = some (.tbl #[])) (hs : SqL K H a (ns.map V.int)) :
    spW K Z sem [.ref a] H (fun v _ => v = .bl true) fun _ _ _ => False := by
  have hs' : SqL K (noT H) a (ns.map V.int) := by
    rcases hs with (h | ⟨o, h⟩) | h
    · exact .inl (.inl (noT_get h (fun ps z => by cases z)))
    · exact .inl (.inr ⟨o, noT_get h (fun ps z => by cases z)⟩)
    · exact .inr h
  refine ⟨noT H, fun _ => none, [.scr ns], ⟨noT_same H, fun a x z => (by cases z), fun p hp => LamX.TabS.nil (hT p hp), noT_nt H⟩, ?_, sem.mono (fun d s z v Hb' H' _ _ iv => ?_) (fun c s z => z.elim) (q ns hl)⟩
  · simp only [IsL, Is]
    exact ⟨_, _, rfl, ⟨a, rfl, hs'⟩, rfl⟩
  · subst z
    simpa only [Is] using iv
theorem fnw_law {Z : Wd} (hT : Z.T = []) {CX : CXT} {f : Addr} {fd : FuncData} {k : Nat} {sem : WF} (h : FnOk P w K mg base CX k f fd ["script"] (spW K Z sem)) (q : ∀ ns : List Int, ns.length ≤ 63 → sem.run [.scr ns] (fun _ => none) (fun d _ => d = .bl true) (fun _ _ => False)) : FnOk P w K mg base CX k f fd ["script"] (spLaw K) :=
  h.imp fun vs H Q E ⟨a, ns, e, hs, hl, hq⟩ => by
    subst e
    obtain ⟨Hb, st, ds, r, il, m⟩ := law_sp (Z := Z) q H a ns hl (by rw [hT]; intro p hp; cases hp) hs
    exact ⟨Hb, st, ds, r, il, sem.mono (fun d s z v Hb' H' s1 r1 iv => by rw [show v = .bl true from z v Hb' H' s1 r1 iv]; exact hq H') (fun c s z Hb' H' s1 r1 => (z Hb' H' s1 r1).elim) m⟩
end
end Dn
set_option Elab.async false
set_option linter.all false
set_option maxRecDepth 100000
/-! Part R: objects, lists and dicts of the store. -/
namespace Dn
open PySem L2 PySem.Spec PyProof.Rows

def putFD (f : Str) (v : D) : List (Str × D) → List (Str × D)
  | [] => [(f, v)]
  | (g, x) :: r => if g = f then (g, v) :: r else (g, x) :: putFD f v r
theorem isF_put {K : PySem.W.Frag} {H : Hp} {f : Str} {d : D} {v : V} (h : Is K H d v) : ∀ {fs : List (Str × D)} {vs : List (Str × V)}, IsF K H fs vs → IsF K H (putFD f d fs) (putF f v vs)
  | [], _, e => by
    rw [show _ = [] from e]
    exact ⟨v, [], rfl, h, rfl⟩
  | (g, x) :: fs, vs, e => by
    obtain ⟨u, r, rfl, e2, e3⟩ := e
    unfold putFD putF
    by_cases q : g = f
    · rw [if_pos q, if_pos q]
      exact ⟨v, r, rfl, h, e3⟩
    · rw [if_neg q, if_neg q]
      exact ⟨u, _, rfl, e2, isF_put h e3⟩
section
variable {K : PySem.W.Frag} {Z : Wd} {Hb H : Hp} {st : Sto}
theorem CellIs.other {a p : Addr} {x : Cell} {ob : HO} (h : CellIs K Z Hb H a x) (n : a ≠ p) : CellIs K Z Hb (upd H p ob) a x := CellIs.keep h (fun o e => by rw [upd_ne n]; exact e) (Same.refl _)
/-- an object of the store is written -/
theorem RelSt.write (r : RelSt K Z Hb H st) {a : Addr} {x x' : Cell} {ob : HO} (h : st a = some x) (hc : CellIs K Z Hb (upd H a ob) a x') : RelSt K Z Hb (upd H a ob) (st.put a x') ∧ StepW Hb H st Hb (upd H a ob) (st.put a x') := by
  have hn := (r.cell a x h).1
  refine ⟨⟨fun b o e => ?_, fun b y e => ?_, tabs_write r.tabs (CellIs.kind (r.cell a x h).2).1 (CellIs.kind (r.cell a x h).2).2, r.nt⟩, Same.refl _, fun p o e n z _ => ?_⟩
  · rw [upd_ne (ne_of_none e hn)]
    exact r.c b o e
  · by_cases q : b = a
    · subst q
      rw [Sto.put_same] at e
      cases e
      exact ⟨hn, hc⟩
    · rw [Sto.put_ne q] at e
      exact ⟨(r.cell b y e).1, CellIs.other (r.cell b y e).2 q⟩
  · have q : p ≠ a := fun q => by
      rw [q, h] at z
      cases z
    exact ⟨by rw [upd_ne q]; exact e, n, by rw [Sto.put_ne q]; exact z⟩
/-- a new object of the store -/
theorem RelSt.new (r : RelSt K Z Hb H st) {a : Addr} {x : Cell} {ob : HO} (h : H a = none) (hc : CellIs K Z Hb (upd H a ob) a x) : RelSt K Z Hb (upd H a ob) (st.put a x) ∧ StepW Hb H st Hb (upd H a ob) (st.put a x) := by
  have hn := r.c.free h
  refine ⟨⟨fun b o e => ?_, fun b y e => ?_, r.tabs.ext (same_new h), r.nt⟩, Same.refl _, fun p o e n z _ => ?_⟩
  · rw [upd_ne (ne_of_none e hn)]
    exact r.c b o e
  · by_cases q : b = a
    · subst q
      rw [Sto.put_same] at e
      cases e
      exact ⟨hn, hc⟩
    · rw [Sto.put_ne q] at e
      exact ⟨(r.cell b y e).1, CellIs.other (r.cell b y e).2 q⟩
  · have q : p ≠ a := ne_of_none e h
    exact ⟨by rw [upd_ne q]; exact e, n, by rw [Sto.put_ne q]; exact z⟩
/-- something hidden is laid -/
theorem RelSt.hid (r : RelSt K Z Hb H st) {a : Addr} {ob : HO} (h : H a = none) : RelSt K Z Hb (upd H a ob) st ∧ StepW Hb H st Hb (upd H a ob) st := by
  have hn := r.c.free h
  refine ⟨⟨fun b o e => ?_, fun b y e => ?_, r.tabs.ext (same_new h), r.nt⟩, Same.refl _, fun p o e n z _ => ?_⟩
  · rw [upd_ne (ne_of_none e hn)]
    exact r.c b o e
  · have q : b ≠ a := fun q => by
      rw [q, r.free h] at e
      cases e
    exact ⟨(r.cell b y e).1, CellIs.other (r.cell b y e).2 q⟩
  · have q : p ≠ a := ne_of_none e h
    exact ⟨by rw [upd_ne q]; exact e, n, z⟩
end
section
variable {X : Cx} {Z : Wd} {W : Dn.WX} {a b e o value : Expr} {es : List Expr} {pos pos' apos p : Pos} {A B V' : WE} {Ms : WA} {f x m : Str}
theorem adr_is {K : PySem.W.Frag} {H : Hp} {a : Addr} {v : V} (h : Is K H (.adr a) v) : v = .ref a := by simpa only [Is] using h
/-! ### fields -/
def wFld (f : Str) (A : WE) : WE := ⟨fun env st K E => A.run env st (fun d s => ∃ a fs v, d = .adr a ∧ s a = some (.obj fs) ∧ fs.lookup f = some v ∧ K v s) E, fun h h' x => A.mono (fun _ _ ⟨a, fs, v, e1, e2, e3, k⟩ => ⟨a, fs, v, e1, e2, e3, h _ _ k⟩) h' x⟩
theorem wp_fld (c : Cls X.K Z.C) (n : NoAttr X.K Z.C f) (he : PE X e (tWE X.K Z W A)) (hb : attributeBase e f X.env (eval e X.env) = eval e X.env := by rfl) : PE X (.Attribute e f pos) (tWE X.K Z W (wFld f A)) :=
  PE_weak (pe_fld he hb) fun σ H Q h => by
    obtain ⟨Hb, env, st, r, rs, m⟩ := h
    refine ⟨Hb, env, st, r, rs, A.mono (fun d s1 q v Hb1 H1 s rs1 iv => ?_) (fun _ _ h => h) m⟩
    obtain ⟨a, fs, w, rfl, e2, e3, k⟩ := q
    have hv := adr_is iv
    subst hv
    obtain ⟨_, dx, vs, h1, h2⟩ := rs1.cell a _ e2
    obtain ⟨u, h3, h4⟩ := (h2.look (x := f)).1 w e3
    exact ⟨a, Z.C, dx, vs, u, rfl, h1, c, n, h3, k u Hb1 H1 s rs1 h4⟩
def wSFld (f : Str) (A V' : WE) : WS := ⟨fun env st N => V'.run env st (fun y s => A.run env s (fun d s2 => ∃ a fs, d = .adr a ∧ s2 a = some (.obj fs) ∧ fs.length < 1000 ∧ N.nx env (s2.put a (.obj (putFD f y fs)))) N.ex) N.ex,
  fun h x => V'.mono (fun _ _ y => A.mono (fun _ _ ⟨a, fs, e1, e2, e3, k⟩ => ⟨a, fs, e1, e2, e3, h.nx _ _ k⟩) h.ex y) h.ex x⟩
theorem ws_fld (c : Cls X.K Z.C) (n : NoAttr X.K Z.C f) (ha : PE X o (tWE X.K Z W A)) (hv : PE X value (tWE X.K Z W V')) (hs : swapsWith value (some (.Attribute o f pos')) pos.line X.env = pure false := by rfl) : PS X (.Assign [.Attribute o f pos'] value pos) (tWS X.K Z W (wSFld f A V')) :=
  PS_weak (ps_fld ha hv hs) fun N σ H h => by
    obtain ⟨Hb0, H0, st0, Hb, env, st, r, rs, sp, m⟩ := h
    refine ⟨Hb, env, st, r, rs, V'.mono (fun y s1 q v Hb1 H1 s rs1 iv => ?_) (fun c s1 k Hb1 H1 s rs1 => k σ Hb1 H1 rs1 (sp.trans s)) m⟩
    refine ⟨Hb1, env, s1, r.mono s.b, rs1, A.mono (fun d s2 q2 u Hb2 H2 t rs2 iu => ?_) (fun c s2 k Hb2 H2 t rs2 => k σ Hb2 H2 rs2 (sp.trans (s.trans t))) q⟩
    obtain ⟨a, fs, rfl, e2, e3, k⟩ := q2
    have hu := adr_is iu
    subst hu
    obtain ⟨_, dx, vs, h1, h2⟩ := rs2.cell a _ e2
    refine ⟨a, Z.C, dx, vs, rfl, h1, c, n, by rw [h2.length]; exact e3, ?_⟩
    obtain ⟨y1, y2⟩ := rs2.write (ob := .ins Z.C dx (putF f v vs)) (x' := .obj (putFD f y fs)) e2 ⟨dx, putF f v vs, upd_same, isF_put (iv.mono t.b) h2⟩
    exact k σ Hb2 _ (r.mono (s.trans t).b) y1 (sp.trans (s.trans (t.trans y2)))
/-! ### methods, new objects -/
def wMeth (sem : WF) (m : Str) (A : WE) (Ms : WA) : WE := ⟨fun env st K E => A.run env st (fun d s => ∃ a fs, d = .adr a ∧ s a = some (.obj fs) ∧ fs.lookup m = none ∧ Ms.run env s (fun ds s2 => sem.run (.adr a :: ds) s2 K E) E) E,
  fun h h' x => A.mono (fun _ _ ⟨a, fs, e1, e2, e3, y⟩ => ⟨a, fs, e1, e2, e3, Ms.mono (fun _ _ z => sem.mono h h' z) h' y⟩) h' x⟩
theorem wE_meth {K : PySem.W.Frag} {E : XK} {sem : WF} (hE : ∀ c d σ H, W c d σ H → E c d H) {σ : L2.St} {H : Hp} {Q : VK} (hh : tWE K Z W (wMeth sem m A Ms) σ H Q) : tMeth Z.C m (spW K Z sem) [] E (tWE K Z W A) (tWA K Z W Ms) σ H Q := by
  obtain ⟨Hb, env, st, r, rs, q⟩ := hh
  refine ⟨Hb, env, st, r, rs, A.mono (fun d s1 q v Hb1 H1 s rs1 iv => ?_) (fun _ _ h => h) q⟩
  obtain ⟨a, fs, rfl, e2, e3, k⟩ := q
  have hv := adr_is iv
  subst hv
  obtain ⟨_, dx, vs, h1, h2⟩ := rs1.cell a _ e2
  refine ⟨a, dx, vs, rfl, h1, (h2.look (x := m)).2 e3, Hb1, env, s1, r.mono s.b, rs1, Ms.mono (fun ds s2 q2 us Hb2 H2 t rs2 ius => ?_) (fun c s2 k Hb2 H2 t rs2 => k Hb2 H2 (s.trans t) rs2) k⟩
  show spW K Z sem (.ref a :: (us ++ [])) H2 Q E
  rw [List.append_nil]
  refine ⟨Hb2, s2, .adr a :: ds, rs2, ?_, sem.mono (fun d s3 k v Hb3 H3 x y z => k v Hb3 H3 (s.trans (t.trans x)) y z) (fun c s3 k Hb3 H3 x y => hE _ _ σ _ (k Hb3 H3 (s.trans (t.trans x)) y)) q2⟩
  simp only [IsL, Is]
  exact ⟨_, _, rfl, rfl, ius⟩
theorem passE {E : XK} (tk : Takes X (fun c d _ H => E c d H)) : Passes (L2.CX X.prog X.w) X E := fun pins σ H s e s' I c => passAt tk σ pins H s e s' I c
theorem wp_meth {E : XK} {sem : WF} {g : Addr} {fd : FuncData} {ps : List Str} {k j : Nat} {pl : Sem Bool} (tk : Takes X (fun c d _ H => E c d H)) (he : PE X o (tWE X.K Z (fun c d _ H => E c d H) A)) (c : Cls X.K Z.C) (hm : Meth X.K Z.C m g) (Fo : FnOk X.prog X.w X.K X.mg X.base (L2.CX X.prog X.w) k g fd ps (spW X.K Z sem)) (hr : Room j X.A) (hb : Binds X.K fd ps []) (ha : PA X (e :: es) (tWA X.K Z (fun c d _ H => E c d H) Ms)) (hkj : k ≤ j := by decide)
    (hst : starEach (e :: es) X.env = (false, eval e X.env) :: starEach es X.env := by rfl) (hpl : (backTo pos (starEach es X.env)).any (·.1) = false := by rfl)
    (ht : eval (.Call (.Attribute o m apos) (e :: es) [] pos) X.env = (do
      let ov ← eval o X.env
      standAt apos.atName
      let (f, first) ← holding [ov] (getMethod ov m pl)
      callWith pos f first (backTo pos (starEach (e :: es) X.env)) (backToKw pos (keywordEach [] X.env))) := by rfl) :
    PE X (.Call (.Attribute o m apos) (e :: es) [] pos) (tWE X.K Z (fun c d _ H => E c d H) (wMeth sem m A Ms)) :=
  PE_weak (pe_meth he c hm Fo (hr.mono hkj) hb .nil (passE tk) ha hst hpl ht) fun _ _ _ h => wE_meth (W := fun c d _ H => E c d H) (E := E) (fun _ _ _ _ h => h) h
theorem wp_meth0 {E : XK} {sem : WF} {g : Addr} {fd : FuncData} {ps : List Str} {k j : Nat} {pl : Sem Bool} (tk : Takes X (fun c d _ H => E c d H)) (he : PE X o (tWE X.K Z (fun c d _ H => E c d H) A)) (c : Cls X.K Z.C) (hm : Meth X.K Z.C m g) (Fo : FnOk X.prog X.w X.K X.mg X.base (L2.CX X.prog X.w) k g fd ps (spW X.K Z sem)) (hr : Room j X.A) (hb : Binds X.K fd ps []) (hkj : k ≤ j := by decide)
    (ht : eval (.Call (.Attribute o m apos) [] [] pos) X.env = (do
      let ov ← eval o X.env
      standAt apos.atName
      let (f, first) ← holding [ov] (getMethod ov m pl)
      callWith pos f first (backTo pos (starEach [] X.env)) (backToKw pos (keywordEach [] X.env))) := by rfl) :
    PE X (.Call (.Attribute o m apos) [] [] pos) (tWE X.K Z (fun c d _ H => E c d H) (wMeth sem m A wNil)) :=
  PE_weak (pe_meth0 he c hm Fo (hr.mono hkj) hb .nil (passE tk) ht) fun σ H Q hh => by
    obtain ⟨Hb, env, st, r, rs, q⟩ := hh
    refine ⟨Hb, env, st, r, rs, A.mono (fun d s1 q v Hb1 H1 s rs1 iv => ?_) (fun _ _ h => h) q⟩
    obtain ⟨a, fs, rfl, e2, e3, ds, eds, k⟩ := q
    cases eds
    have hv := adr_is iv
    subst hv
    obtain ⟨_, dx, vs, h1, h2⟩ := rs1.cell a _ e2
    refine ⟨a, dx, vs, rfl, h1, (h2.look (x := m)).2 e3, ?_⟩
    show spW X.K Z sem [.ref a] H1 Q E
    refine ⟨Hb1, s1, [.adr a], rs1, ?_, sem.mono (fun d s3 k v Hb3 H3 x y z => k v Hb3 H3 (s.trans x) y z) (fun c s3 k Hb3 H3 x y => k Hb3 H3 (s.trans x) y) k⟩
    simp only [IsL, Is]
    exact ⟨_, _, rfl, rfl, rfl⟩
def wMake (sem : WF) (Ms : WA) : WE := ⟨fun env st K E => Ms.run env st (fun ds s => ∀ a, s a = none → sem.run (.adr a :: ds) (s.put a (.obj [])) (fun d s2 => d = .non ∧ K (.adr a) s2) E) E,
  fun h h' x => Ms.mono (fun _ _ y a n => sem.mono (fun _ _ ⟨e, k⟩ => ⟨e, h _ _ k⟩) h' (y a n)) h' x⟩
theorem wp_make {E : XK} {sem : WF} {g : Addr} {fd : FuncData} {ps : List Str} {k j : Nat} (tk : Takes X (fun c d _ H => E c d H)) (M : Mk X.K Z.C g) (Fo : FnOk X.prog X.w X.K X.mg X.base (L2.CX X.prog X.w) k g fd ps (spW X.K Z sem)) (hr : Room j X.A) (hm : X.mg x = some (.ref Z.C)) (hb : Binds X.K fd ps []) (ha : PA X (e :: es) (tWA X.K Z (fun c d _ H => E c d H) Ms)) (hkj : k + 1 ≤ j := by decide) (hg : Gl X x := by rfl)
    (hdb : (x == ("__debug__" : Str)) = false := by decide) (he : starEach (e :: es) X.env = (false, eval e X.env) :: starEach es X.env := by rfl) (hpl : (backTo pos (starEach es X.env)).any (·.1) = false := by rfl) :
    PE X (.Call (.Name x p) (e :: es) [] pos) (tWE X.K Z (fun c d _ H => E c d H) (wMake sem Ms)) :=
  PE_weak (pe_make M Fo (hr.mono hkj) hg hm hb .nil (passE tk) ha hdb he hpl) fun σ H Q hh => by
    obtain ⟨Hb, env, st, r, rs, q⟩ := hh
    refine ⟨Hb, env, st, r, rs, Ms.mono (fun ds s1 q us Hb1 H1 s rs1 ius a dx ha hdx hne => ?_) (fun _ _ h => h) q⟩
    obtain ⟨y1, y2⟩ := rs1.hid (ob := .own a) hdx
    have ha' : upd H1 dx (.own a) a = none := by rw [upd_ne (Ne.symm hne)]; exact ha
    obtain ⟨z1, z2⟩ := y1.new (ob := .ins Z.C dx []) (x := .obj []) ha' ⟨dx, [], upd_same, rfl⟩
    show spW X.K Z sem (.ref a :: (us ++ [])) _ _ E
    rw [List.append_nil]
    refine ⟨Hb1, s1.put a (.obj []), .adr a :: ds, z1, ?_, sem.mono (fun d s3 k v Hb3 H3 x y z => ?_) (fun c s3 k Hb3 H3 x y => k Hb3 H3 (s.trans (y2.trans (z2.trans x))) y) (q a (rs1.free ha))⟩
    · simp only [IsL, Is]
      exact ⟨_, _, rfl, rfl, ius⟩
    · obtain ⟨rfl, k⟩ := k
      exact ⟨by simpa only [Is] using z, k (.ref a) Hb3 H3 (s.trans (y2.trans (z2.trans x))) y (by simp only [Is])⟩
/-! ### dicts of the store -/
def wNewD : WE := ⟨fun env st K E => ∀ a, st a = none → K (.adr a) (st.put a (.dct [])), fun h _ x a n => h _ _ (x a n)⟩
theorem wp_newD : PE X (.Dict [] [] pos) (tWE X.K Z W wNewD) := PE_weak pe_dnewK fun σ H Q h => by
  obtain ⟨Hb, env, st, r, rs, q⟩ := h
  intro a ha
  obtain ⟨y1, y2⟩ := rs.new (ob := .dK []) (x := .dct []) ha ⟨[], upd_same, by simp only [IsK]⟩
  exact q a (rs.free ha) _ _ _ y2 y1 (by simp only [Is])
def putKD (k : List Nat) (d : D) (kvs : List (List Nat × D)) : List (List Nat × D) := if (kvs.any fun p => decide (p.1 = k)) = true then kvs.map (fun p => if p.1 = k then (p.1, d) else p) else kvs ++ [(k, d)]
theorem isK_app {K : PySem.W.Frag} {H : Hp} : ∀ {ks : List (List Nat × D)} {vs : List (Key × V)} {k : List Nat} {d : D} {v : V}, IsK K H ks vs → Is K H d v → IsK K H (ks ++ [(k, d)]) (vs ++ [(Sum.inr (S k), v)])
  | [], _, _, _, v, h, q => by
    simp only [IsK] at h
    subst h
    simp only [List.nil_append, IsK]
    exact ⟨v, [], rfl, q, rfl⟩
  | (j, x) :: ks, vs, k, d, v, h, q => by
    simp only [IsK] at h
    obtain ⟨u, r, rfl, h2, h3⟩ := h
    simp only [List.cons_append, IsK]
    exact ⟨u, _, rfl, h2, isK_app h3 q⟩
theorem isK_map {K : PySem.W.Frag} {H : Hp} {k : List Nat} {d : D} {v : V} (q : Is K H d v) : ∀ {ks : List (List Nat × D)} {vs : List (Key × V)}, IsK K H ks vs → IsK K H (ks.map fun p => if p.1 = k then (p.1, d) else p) (vs.map fun kv => if kv.1 = Sum.inr (S k) then (kv.1, v) else kv)
  | [], _, h => by
    simp only [IsK] at h
    subst h
    simp only [List.map_nil, IsK]
  | (j, x) :: ks, vs, h => by
    simp only [IsK] at h
    obtain ⟨u, r, rfl, h2, h3⟩ := h
    have ih := isK_map (k := k) q h3
    rw [List.map_cons, List.map_cons]
    by_cases e : j = k
    · subst e
      simp only [if_pos, IsK]
      exact ⟨v, _, rfl, q, ih⟩
    · have e' : ¬ (Sum.inr (S j) : Key) = Sum.inr (S k) := fun z => e (by
        injection z with z
        exact SX.S_inj z)
      simp only [if_neg e, if_neg e', IsK]
      exact ⟨u, _, rfl, h2, ih⟩
theorem isK_put {K : PySem.W.Frag} {H : Hp} {k : List Nat} {d : D} {v : V} {ks : List (List Nat × D)} {vs : List (Key × V)} (h : IsK K H ks vs) (q : Is K H d v) : IsK K H (putKD k d ks) (putK vs (Sum.inr (S k)) v) := by
  unfold putKD putK
  have e : (vs.any fun kv => decide (kv.1 = Sum.inr (S k))) = ks.any fun p => decide (p.1 = k) := by rw [valV_any, (isK_val k h).2]
  rw [e]
  split
  · exact isK_map q h
  · exact isK_app h q
theorem isK_len {K : PySem.W.Frag} {H : Hp} : ∀ {ks : List (List Nat × D)} {vs : List (Key × V)}, IsK K H ks vs → vs.length = ks.length
  | [], _, h => by simp only [IsK] at h; subst h; rfl
  | (j, x) :: ks, vs, h => by
    simp only [IsK] at h
    obtain ⟨u, r, rfl, h2, h3⟩ := h
    rw [List.length_cons, List.length_cons, isK_len h3]
/-- d[k] = v -/
def wDPut (O A V' : WE) : WS := ⟨fun env st N => V'.run env st (fun y s => O.run env s (fun d s2 => A.run env s2 (fun k s3 => ∃ a l kvs, d = .adr a ∧ k = .str l ∧ s3 a = some (.dct kvs) ∧ kvs.length < 1000000 ∧ N.nx env (s3.put a (.dct (putKD l y kvs)))) N.ex) N.ex) N.ex,
  fun h x => V'.mono (fun _ _ y => O.mono (fun _ _ z => A.mono (fun _ _ ⟨a, l, kvs, e1, e2, e3, e4, k⟩ => ⟨a, l, kvs, e1, e2, e3, e4, h.nx _ _ k⟩) h.ex z) h.ex y) h.ex x⟩
theorem ws_dput {i : Expr} (hu : X.A.units + 65 < cLine) (ho : PE X o (tWE X.K Z W A)) (hi : PE X i (tWE X.K Z W B)) (hv : PE X value (tWE X.K Z W V')) (hs : swapsWith value (some (.Subscript o i pos')) pos.line X.env = pure false := by rfl) : PS X (.Assign [.Subscript o i pos'] value pos) (tWS X.K Z W (wDPut A B V')) :=
  PS_weak (ps_dput (by omega) ho hi hv hs) fun N σ H h => by
    obtain ⟨Hb0, H0, st0, Hb, env, st, r, rs, sp, m⟩ := h
    refine ⟨Hb, env, st, r, rs, V'.mono (fun y s1 q v Hb1 H1 s rs1 iv => ?_) (fun c s1 k Hb1 H1 s rs1 => k σ Hb1 H1 rs1 (sp.trans s)) m⟩
    refine ⟨Hb1, env, s1, r.mono s.b, rs1, A.mono (fun d s2 q2 u Hb2 H2 t rs2 iu => ?_) (fun c s2 k Hb2 H2 t rs2 => k σ Hb2 H2 rs2 (sp.trans (s.trans t))) q⟩
    refine ⟨Hb2, env, s2, r.mono (s.trans t).b, rs2, B.mono (fun kk s3 q3 u3 Hb3 H3 t3 rs3 iu3 => ?_) (fun c s3 k Hb3 H3 t3 rs3 => k σ Hb3 H3 rs3 (sp.trans (s.trans (t.trans t3)))) q2⟩
    obtain ⟨a, l, kvs, rfl, rfl, e3, e4, k⟩ := q3
    have hu := adr_is iu
    subst hu
    simp only [Is] at iu3
    subst iu3
    obtain ⟨_, ks, h1, h2⟩ := rs3.cell a _ e3
    obtain ⟨y1, y2⟩ := rs3.write (ob := .dK (putK ks (Sum.inr (S l)) v)) (x' := .dct (putKD l y kvs)) e3 ⟨_, upd_same, isK_put h2 (iv.mono (t.trans t3).b)⟩
    refine ⟨a, _, rfl, DPut.k (k := Sum.inr (S l)) h1 (by rw [isK_len h2]; have := size1000; omega), k σ Hb3 _ (r.mono (s.trans (t.trans t3)).b) y1 (sp.trans (s.trans (t.trans (t3.trans y2))))⟩
/-- d[k] -/
def wDIx (O A : WE) : WE := ⟨fun env st K E => O.run env st (fun d s2 => A.run env s2 (fun k s3 => ∃ a l kvs v, d = .adr a ∧ k = .str l ∧ s3 a = some (.dct kvs) ∧ (kvs.find? fun p => decide (p.1 = l)).map (·.2) = some v ∧ K v s3) E) E,
  fun h h' x => O.mono (fun _ _ z => A.mono (fun _ _ ⟨a, l, kvs, v, e1, e2, e3, e4, k⟩ => ⟨a, l, kvs, v, e1, e2, e3, e4, h _ _ k⟩) h' z) h' x⟩
theorem wp_dix (hu : X.A.units + 65 < cLine) (ha : PE X a (tWE X.K Z W A)) (hb : PE X b (tWE X.K Z W B)) (hs : NoSl b := by exact fun _ _ => rfl) : PE X (.Subscript a b pos) (tWE X.K Z W (wDIx A B)) :=
  PE_weak (pe_dget (by omega) ha hb hs) fun σ H Q h => by
    obtain ⟨Hb, env, st, r, rs, m⟩ := h
    refine ⟨Hb, env, st, r, rs, A.mono (fun d s2 q2 u Hb2 H2 t rs2 iu => ?_) (fun _ _ h => h) m⟩
    refine ⟨Hb2, env, s2, r.mono t.b, rs2, B.mono (fun kk s3 q3 u3 Hb3 H3 t3 rs3 iu3 => ?_) (fun c s3 k Hb3 H3 t3 rs3 => k Hb3 H3 (t.trans t3) rs3) q2⟩
    obtain ⟨a, l, kvs, w, rfl, rfl, e3, e4, k⟩ := q3
    have hu := adr_is iu
    subst hu
    simp only [Is] at iu3
    subst iu3
    obtain ⟨_, ks, h1, h2⟩ := rs3.cell a _ e3
    obtain ⟨v, hv, iv⟩ := (isK_val l h2).1 w e4
    exact ⟨a, v, rfl, .inl ⟨ks, Sum.inr (S l), .inl h1, rfl, hv.symm⟩, k v Hb3 H3 (t.trans t3) rs3 iv⟩
/-- sorted(d): its keys -/
def wSortD (A : WE) : WE := ⟨fun env st K E => A.run env st (fun d s => ∃ a kvs, d = .adr a ∧ s a = some (.dct kvs) ∧ kvs.length < 64 ∧ ∀ ys : List (List Nat), ys.Perm (kvs.map (·.1)) → sortedS (ys.map S) = true → K (.lst (ys.map D.str)) s) E,
  fun h h' x => A.mono (fun _ _ ⟨a, kvs, e1, e2, e3, k⟩ => ⟨a, kvs, e1, e2, e3, fun ys p q => h _ _ (k ys p q)⟩) h' x⟩
theorem wp_sortD (hc : X.calm = true) (hm : X.mg "sorted" = none) (ha : PE X a (tWE X.K Z W A)) (hg : Gl X "sorted" := by rfl) (he : starEach [a] X.env = (false, eval a X.env) :: starEach [] X.env := by rfl) (hpl : (backTo pos (starEach [] X.env)).any (·.1) = false := by rfl) :
    PE X (.Call (.Name "sorted" p) [a] [] pos) (tWE X.K Z W (wSortD A)) := PE_weak (pe_callB (call_sortedD hc) hg hm (by decide +kernel) (wa_cons (Ms := wNil) ha wa_nil he) (by decide) (by decide) he hpl) fun σ H Q h => by
  obtain ⟨Hb, env, st, r, rs, m⟩ := h
  refine ⟨Hb, env, st, r, rs, A.mono (fun d s1 q => ⟨[], rfl, fun vs Hb1 H1 t rs1 iv => ?_⟩) (fun _ _ h => h) m⟩
  obtain ⟨a, kvs, rfl, e2, e3, k⟩ := q
  obtain ⟨v, rfl, iv2⟩ := isl1 iv
  have hv := adr_is iv2
  subst hv
  obtain ⟨_, ks, h1, h2⟩ := rs1.cell a _ e2
  refine ⟨a, ks, (kvs.map (·.1)).map S, rfl, .inl h1, ?_, by simpa using e3, fun ys p hp hs hn => ?_⟩
  · rw [isK_keys h2, List.map_map, List.map_map]
    rfl
  · have hys : ys = (ys.map fun z => z.cps.toList).map S := by
      rw [List.map_map]
      conv => lhs; rw [← List.map_id ys]
      exact List.map_congr_left fun z _ => (S_of z).symm
    have hperm : (ys.map fun z => z.cps.toList).Perm (kvs.map (·.1)) := by
      have := hp.map fun z : Str => z.cps.toList
      rw [List.map_map] at this
      have e : (kvs.map (·.1)).map ((fun z : Str => z.cps.toList) ∘ S) = kvs.map (·.1) := by
        conv => rhs; rw [← List.map_id (kvs.map (·.1))]
        exact List.map_congr_left fun z _ => by simp [S]
      rw [e] at this
      exact this
    generalize hz : ys.map (fun z => z.cps.toList) = zs at *
    obtain ⟨y1, y2⟩ := (Step.new rs1.c hn (o := .lst (ys.map V.str))).w rs1
    refine k zs hperm (by rw [← hys]; exact hs) _ _ _ (t.trans y1) y2 (is_lst_new (rs1.c.free hn) ?_)
    rw [hys]
    exact of_strs zs
/-! ### iterating over what an expression tells -/
def tWI (K : PySem.W.Frag) (Z : Wd) (W : Dn.WX) (M : WA) : TI := fun σ H R => ∃ Hb env st, Rel0 K Hb σ env ∧ RelSt K Z Hb H st ∧
  M.run env st (fun ds st' => ∀ J Hb' H', StepW Hb H st Hb' H' st' → RelSt K Z Hb' H' st' → WalkD K J ds Hb' → R J H') (fun c st' => ∀ Hb' H', StepW Hb H st Hb' H' st' → RelSt K Z Hb' H' st' → W (.ref (Z.cl c)) none σ H')
def wIt (A : WE) : WA := ⟨fun env st K E => A.run env st (fun d s => ∃ ds, itemsD d = some ds ∧ K ds s) E, fun h h' x => A.mono (fun _ _ ⟨ds, e, k⟩ => ⟨ds, e, h _ _ k⟩) h' x⟩
end
end Dn
set_option Elab.async false
set_option linter.all false
set_option maxRecDepth 100000
/-! Part S: exceptions of own classes, a deed handed in as a lambda, lists of the store. -/
namespace Dn
open PySem L2 PySem.Spec PyProof.Rows

/-! ### xs.count(y), flat items -/
def rCountF (K : PySem.W.Frag) : V → List V → Hp → VK → Prop := fun x xs H Q => ∃ (a : Addr) (ys : List V) (y : V), x = V.ref a ∧ xs = [y] ∧ SqL K H a ys ∧ flatV y = true ∧ ys.all flatV = true ∧ Q (.int (ys.countP (fun z => eqV z y) : Nat)) H
theorem count_eqU {y : V} : ∀ {ys : List V} {us : List Value}, Vals ys us → ys.all flatV = true → us.countP (eqU y) = ys.countP fun z => eqV z y := by
  intro ys us h
  induction h with
  | nil => intro _; rfl
  | cons r _ ih =>
    intro f
    rw [List.all_cons, Bool.and_eq_true] at f
    rw [List.countP_cons, List.countP_cons, ih f.2, eqU_of r f.1]
theorem mt_countF {X : Cx} : MtR X "list.count" (rCountF X.K) := by
  intro pins s σ H x xs v us Q I rx rxs h
  obtain ⟨p, ys, y, rfl, rfl, hs, fy, fys, q⟩ := h
  cases rx
  cases rxs with
  | cons ry rt =>
    rename_i uy ut
    cases rt
    obtain ⟨its, rv, ⟨⟨cls, dd, data, sl⟩, n, ho, hc, hdn, hd⟩, hlen⟩ := I.list hs
    simp only at hc hd
    subst hc hd
    refine call_meets PySem.F.slot_list_count ⟨_, ho, rfl⟩ PySem.F.entry_list_count (PySem.F.args_list_count_2 _ _)
      (SeqAt.list_countAt p its.toArray n dd sl uy (eqU y)) ⟨ho, fun u' hu' => mem_eqAt ry fy rv fys u' (by simpa using hu'), ?_⟩
    have ec : its.toArray.toList.countP (eqU y) = ys.countP fun z => eqV z y := count_eqU rv fys
    refine ⟨.int (ys.countP (fun z => eqV z y) : Nat), H, I.tok _, ⟨s.toks, ?_⟩, q⟩
    show Value.int ((its.toArray.toList.countP (eqU y) : Nat) : Int) s.toks = _
    rw [ec]
section
variable {X : Cx} {Z : Wd} {W : Dn.WX} {a b e o value : Expr} {es : List Expr} {pos pos' apos p : Pos} {A B V' : WE} {Ms : WA} {f x m : Str}
/-! ### raise -/
def wRaise (c : Str) : WS := ⟨fun env st N => N.ex c st, fun h x => h.ex _ _ x⟩
/-- what is known of a class of exceptions -/
structure ExcK (K : PySem.W.Frag) (mg : Str → Option Value) (Z : Wd) (c : Str) : Prop where
  g : mg c = some (.ref (Z.cl c))
  x : PySem.W.excIn K (Z.cl c) [.type "ValueError", .type "Exception", .type "BaseException", .type "object"] "ValueError.__new__" = true
  k : PySem.W.keepIn K (.ref (Z.cl c)) = true
  b : PySem.W.subIn K (.ref (Z.cl c)) (.type "BaseException") = some true
  t : PySem.W.typeIn K (.ref (Z.cl c)) = some (.type "type")
theorem ws_raise {c : Str} {m : Str} {j : Nat} {p1 p2 p3 pos : Pos} (hc : X.calm = true) (tk : Takes X W) (k : ExcK X.K X.mg Z c) (hg : Gl X c := by rfl) (hdb : (c == ("__debug__" : Str)) = false := by decide) :
    PS X (.Raise (some (.Call (.Name c p1) [.Constant (.str m) j p2] [] p3)) none pos) (tWS X.K Z W (wRaise c)) := PS_weak (ps_raise hc tk (pmk_own PySem.F.excBase_ValueError k.x k.g k.k (raises_own k.b k.t) hg hdb)) fun N σ H h => by
  obtain ⟨Hb0, H0, st0, Hb, env, st, r, rs, sp, m⟩ := h
  exact m σ Hb H rs sp
end
/-! ### told: a deed that may be refused -/
/-- what is known of a class that is caught; i: which of two it is -/
structure ToldK (K : PySem.W.Frag) (cB cN cT D : Addr) (i : Nat) : Prop where
  e : ExcC K D
  m : PySem.W.exmOne K (.ref D) (.ref cB) = some true
  n : PySem.W.kitOne K (.ref D) (.ref cN) = some (decide (i = 0))
  t : PySem.W.kitOne K (.ref D) (.ref cT) = some (decide (i = 1))
  v : PySem.W.kitOne K (.ref D) (.type "ValueError") = some true
  i : i < 2
/-- all that there was, and a new tuple -/
def NewTup (H : Hp) (vs : List V) (p : Addr) (o : Obj) (H' : Hp) : Prop := Same H H' ∧ H p = none ∧ H' p = some (.frz o (.tup vs)) ∧ o.dict = none
def TTold2 (K : PySem.W.Frag) (cB cN cT : Addr) : (XK → Hp → VK → Prop) → Hp → VK → Prop := fun tl H Q =>
  ∃ (E : XK) (Q' : VK), tl E H Q' ∧ (∀ v H', Q' v H' → ∀ p o H2, NewTup H' [.str "told", v] p o H2 → Q (.ref p) H2) ∧
    ∀ cls d H', E cls d H' → ∃ D i, cls = .ref D ∧ d = none ∧ ToldK K cB cN cT D i ∧ ∀ p o H2, NewTup H' [.str "refused", .int (i : Nat)] p o H2 → Q (.ref p) H2
theorem PE_mono {X : Cx} {e : Expr} {t : TE} (h : PE X e t) : PE X e (fun σ H Q => ∃ Q', t σ H Q' ∧ ∀ v H', Q' v H' → Q v H') := ⟨fun pins s σ H Q I ⟨Q', h1, h2⟩ => wpAny_mono (h.run pins s σ H Q' I h1) (fun u s' ⟨v, H', a, b, c⟩ => ⟨v, H', a, b, h2 v H' c⟩) fun _ _ z => z⟩
theorem eqV_bl (b : Bool) : eqV (.bl b) (.bl true) = b := by cases b <;> decide
section
variable {X : Cx}
theorem suite_told {Y : Cx} {cB cN cT D a : Addr} {i : Nat} {oe : Obj} {pn : List (Addr × Obj)} {p1 p2 p3 p4 p5 p6 p7 p8 p9 p10 p11 p12 p13 p14 p15 p16 p17 p18 p19 p20 p21 p22 p23 p24 p25 p26 p27 p28 p29 p30 p31 p32 p33 p34 p35 p36 p37 : Pos} {j1 j2 j3 j4 j5 j6 j7 j8 : Nat}
    (k : ToldK Y.K cB cN cT D i) (hz : Zc (.ref D) none oe) (hf : ∃ vs, oe.data = .fields vs) (hN : Y.N = [("deed" : Str), "found", "e", "kinds"])
    (le : Y.env.scope.names.lookup ("e" : Str) = some .local) (lf : Y.env.scope.names.lookup ("found" : Str) = some .local) (lk : Y.env.scope.names.lookup ("kinds" : Str) = some .local)
    (gi : Y.env.scope.names.lookup ("isinstance" : Str) = some .globalImplicit) (gn : Y.env.scope.names.lookup ("NoName" : Str) = some .globalImplicit) (gt : Y.env.scope.names.lookup ("NoText" : Str) = some .globalImplicit) (gv : Y.env.scope.names.lookup ("ValueError" : Str) = some .globalImplicit)
    (mi : Y.mg "isinstance" = none) (mn : Y.mg "NoName" = some (.ref cN)) (mt : Y.mg "NoText" = some (.ref cT)) (mv : Y.mg "ValueError" = none)
    (l1 : (p21.endLine == p23.line) = true) (l2 : (p29.endLine == p31.line) = true) :
    PSs (Y.suite a ((a, oe) :: pn)) [
      .Assign [.Name "kinds" p1] (.List [.Call (.Name "isinstance" p2) [.Name "e" p3, .Name "NoName" p4] [] p5, .Call (.Name "isinstance" p6) [.Name "e" p7, .Name "NoText" p8] [] p9] p10) p11,
      .Assign [.Name "found" p12] (.Tuple [.Constant (.str "refused") j1 p13, .UnaryOp .USub (.Constant (.int 1) j2 p14) p15] j3 p16) p17,
      .If (.BoolOp .And [.Call (.Name "isinstance" p18) [.Name "e" p19, .Name "ValueError" p20] [] p32, .Compare (.Call (.Attribute (.Name "kinds" p22) "count" p21) [.Constant (.bool true) j4 p24] [] p23) [.Eq] [.Constant (.int 1) j5 p25] p26] p33)
        [.Assign [.Name "found" p27] (.Tuple [.Constant (.str "refused") j6 p28, .Call (.Attribute (.Name "kinds" p30) "index" p29) [.Constant (.bool true) j7 p34] [] p31] j8 p35) p36] [] p37]
      (fun E σ H => σ.length = 4 ∧ σ[2]? = some (some (.ref a)) ∧ ∀ p o H2 x, NewTup H [.str "refused", .int (i : Nat)] p o H2 → E.nx ((σ.set 3 (some x)).set 1 (some (.ref p))) H2) := by
  have nd : (Y.suite a ((a, oe) :: pn)).N.Nodup := by show Y.N.Nodup; rw [hN]; decide
  have n1 : (Y.suite a ((a, oe) :: pn)).N[1]? = some (("found" : Str)) := by show Y.N[1]? = _; rw [hN]; rfl
  have n2 : (Y.suite a ((a, oe) :: pn)).N[2]? = some (("e" : Str)) := by show Y.N[2]? = _; rw [hN]; rfl
  have n3 : (Y.suite a ((a, oe) :: pn)).N[3]? = some (("kinds" : Str)) := by show Y.N[3]? = _; rw [hN]; rfl
  have ci := call_isE (X := Y) (a := a) (pn := pn) k.e hz hf
  have ve : ∀ {p : Pos}, PE (Y.suite a ((a, oe) :: pn)) (.Name "e" p) (tVar 2) := fun {p} => pe_var n2 (.inl le)
  have vk : ∀ {p : Pos}, PE (Y.suite a ((a, oe) :: pn)) (.Name "kinds" p) (tVar 3) := fun {p} => pe_var n3 (.inl lk)
  have s1 := ps_set (X := Y.suite a ((a, oe) :: pn)) (pos := p11) (pos' := p1) nd n3 (.inl lk) (pe_lst (pos := p10) (pa_cons (pe_callB (p := p2) (pos := p5) ci gi mi (by decide +kernel) (pa_cons (ve (p := p3)) (pa_cons (pe_glob (pos := p4) gn mn (v := .ref cN) rfl) pa_nil))) (pa_cons (pe_callB (p := p6) (pos := p9) ci gi mi (by decide +kernel) (pa_cons (ve (p := p7)) (pa_cons (pe_glob (pos := p8) gt mt (v := .ref cT) rfl) pa_nil))) pa_nil))) (by rfl) (.inr lk)
  have s2 := ps_set (X := Y.suite a ((a, oe) :: pn)) (pos := p17) (pos' := p12) nd n1 (.inl lf) (pe_tupN (x1 := j3) (pos := p16) (pa_cons (pe_str (x := "refused") (j := j1) (pos := p13)) (pa_cons (pe_un (pos := p15) un_neg (pe_int (i := 1) (j := j2) (pos := p14))) pa_nil))) (by rfl) (.inr lf)
  have t1 := pw_and (pos := p33) (pt_val (pe_callB (p := p18) (pos := p32) ci gi mi (by decide +kernel) (pa_cons (ve (p := p19)) (pa_cons (pe_bltn (pos := p20) (v := .ty "ValueError") gv mv (by decide +kernel) rfl) pa_nil))))
    (pw_and1 (pos := p33) (pt_cmpR (pos := p26) op_eq (pe_bm (apos := p21) (cpos := p23) PySem.F.plainAttrs_list PySem.F.slot_list_count PySem.F.type_list_count mt_countF (vk (p := p22)) (pa_cons (pe_bl (b := true) (j := j4) (pos := p24)) pa_nil) (hline := l1)) (pe_int (i := 1) (j := j5) (pos := p25)) (by first | exact nobehind _ (by decide) (by decide) | rfl)))
  have s3 := ps_if (pos := p37) (PW.pt t1) (pss_one (ps_set (X := Y.suite a ((a, oe) :: pn)) (pos := p36) (pos' := p27) nd n1 (.inl lf) (pe_tupN (x1 := j8) (pos := p35) (pa_cons (pe_str (x := "refused") (j := j6) (pos := p28))
    (pa_cons (pe_bm (apos := p29) (cpos := p31) PySem.F.plainAttrs_list PySem.F.slot_list_index PySem.F.type_list_index mt_index (vk (p := p30)) (pa_cons (pe_bl (b := true) (j := j7) (pos := p34)) pa_nil) (hline := l2)) pa_nil))) (by rfl) (.inr lf))) pss_nil
  refine PSs_weak (pss_cons s1 (pss_cons s2 (pss_one s3))) fun E σ H h => ?_
  obtain ⟨hl, h2, q⟩ := h
  have hi := k.i
  refine ⟨.ref a, h2, .ref cN, .ref cN, _, rfl, (fun u hu => hu), k.n, .ref a, h2, .ref cT, .ref cT, _, rfl, (fun u hu => hu), k.t, by show 2 ≤ sizeLine; decide, fun l hl' => ?_⟩
  refine ⟨1, rfl, by show 2 ≤ sizeLine; decide, fun p o hp ho => ?_⟩
  have g1 : ((σ.set 3 (some (.ref l))).set 1 (some (.ref p)))[2]? = some (some (.ref a)) := by
    rw [List.getElem?_set_ne (by decide), List.getElem?_set_ne (by decide)]; exact h2
  have g3 : ((σ.set 3 (some (.ref l))).set 1 (some (.ref p)))[3]? = some (some (.ref l)) := by
    rw [List.getElem?_set_ne (by decide), List.getElem?_set_self (by omega)]
  have hlp : l ≠ p := ne_of_none (upd_same (H := H) (a := l)) hp
  have ll : upd (upd H l (.lst [.bl (decide (i = 0)), .bl (decide (i = 1))])) p (.frz o (.tup [.str "refused", .int (-1)])) l = some (.lst [.bl (decide (i = 0)), .bl (decide (i = 1))]) := by rw [upd_ne hlp, upd_same]
  refine ⟨.ref a, g1, .ty "ValueError", .type "ValueError", _, rfl, (fun u hu => hu), k.v, true, rfl, ?_⟩
  refine ⟨.ref l, g3, .inl ⟨rfl, _, SqL.of ll⟩, l, _, .bl true, rfl, rfl, SqL.of ll, rfl, rfl, ?_⟩
  have hc : List.countP (fun z => eqV z (V.bl true)) [V.bl (decide (i = 0)), V.bl (decide (i = 1))] = 1 := by
    have : i = 0 ∨ i = 1 := by omega
    rcases this with rfl | rfl <;> decide
  have hx : ([V.bl (decide (i = 0)), V.bl (decide (i = 1))] : List V)[i]? = some (.bl true) := by
    have : i = 0 ∨ i = 1 := by omega
    rcases this with rfl | rfl <;> rfl
  have hno : ∀ (m : Nat) (z' : V), m < i → ([V.bl (decide (i = 0)), V.bl (decide (i = 1))] : List V)[m]? = some z' → eqV z' (.bl true) = false := fun m z' hm e => by
    have : i = 1 ∧ m = 0 := by omega
    obtain ⟨rfl, rfl⟩ := this
    cases e
    decide
  rw [hc]
  refine ⟨rfl, true, congrArg V.bl (decide_eq_true rfl), ?_⟩
  refine (show ∀ {P Q : Prop}, P → (if true = true then P else Q) from fun h => by rw [if_pos rfl]; exact h) ?_
  refine ⟨.ref l, g3, .inl ⟨rfl, _, SqL.of ll⟩, l, _, .bl true, i, .bl true, rfl, rfl, SqL.of ll, rfl, rfl, hx, by decide, hno, by show 2 ≤ sizeLine; decide, fun p' o' hp' ho' => ?_⟩
  have e : (((σ.set 3 (some (V.ref l))).set 1 (some (V.ref p))).set 1 (some (V.ref p'))) = ((σ.set 3 (some (V.ref l))).set 1 (some (V.ref p'))) := by rw [List.set_set]
  show E.nx (((σ.set 3 (some (V.ref l))).set 1 (some (V.ref p))).set 1 (some (V.ref p'))) _
  rw [e]
  refine q p' o' _ (.ref l) ⟨fun b x hb => ?_, ?_, upd_same, ho'⟩
  · have z1 : upd H l (.lst [.bl (decide (i = 0)), .bl (decide (i = 1))]) b = some x := by rw [upd_ne (ne_of_none hb hl')]; exact hb
    have z2 : upd (upd H l (.lst [.bl (decide (i = 0)), .bl (decide (i = 1))])) p (.frz o (.tup [.str "refused", .int (-1)])) b = some x := by rw [upd_ne (ne_of_none z1 hp)]; exact z1
    rw [upd_ne (ne_of_none z2 hp')]
    exact z2
  · cases z : H p' with
    | none => rfl
    | some x =>
      have z1 : upd H l (.lst [.bl (decide (i = 0)), .bl (decide (i = 1))]) p' = some x := by rw [upd_ne (ne_of_none z hl')]; exact z
      have z2 : upd (upd H l (.lst [.bl (decide (i = 0)), .bl (decide (i = 1))])) p (.frz o (.tup [.str "refused", .int (-1)])) p' = some x := by rw [upd_ne (ne_of_none z1 hp)]; exact z1
      exact absurd (hp'.symm.trans z2) (by simp)
theorem PSs_len {Y : Cx} {ss : List Stmt} {t t' : TS} (h : PSs Y ss t) (w : ∀ E σ H, σ.length = Y.N.length → t' E σ H → t E σ H) : PSs Y ss t' := ⟨fun pins s σ H E I q => h.run pins s σ H E I (w E σ H I.len q)⟩
theorem told_gives2 {Ng : List Str} {x q : Str} {sg : Scope} {g cB cN cT : Addr} {cdg : Value} {p1 p2 p3 p4 p5 p6 p7 p8 p9 p10 p11 p12 p13 p14 p15 p16 p17 p18 p19 p20 p21 p22 p23 p24 p25 p26 p27 p28 p29 p30 p31 p32 p33 p34 p35 p36 p37 q1 q2 q3 q4 q5 q6 q7 q8 q9 q10 q11 : Pos} {j1 j2 j3 j4 j5 j6 j7 j8 j9 j10 : Nat}
    (hN : Ng = [("deed" : Str), "found", "e", "kinds"])
    (le : sg.names.lookup ("e" : Str) = some .local) (lf : sg.names.lookup ("found" : Str) = some .local) (lk : sg.names.lookup ("kinds" : Str) = some .local)
    (gb : sg.names.lookup ("BeatError" : Str) = some .globalImplicit) (gi : sg.names.lookup ("isinstance" : Str) = some .globalImplicit) (gn : sg.names.lookup ("NoName" : Str) = some .globalImplicit) (gt : sg.names.lookup ("NoText" : Str) = some .globalImplicit) (gv : sg.names.lookup ("ValueError" : Str) = some .globalImplicit)
    (mb : X.mg "BeatError" = some (.ref cB)) (mi : X.mg "isinstance" = none) (mn : X.mg "NoName" = some (.ref cN)) (mt : X.mg "NoText" = some (.ref cT)) (mv : X.mg "ValueError" = none)
    (l1 : (p21.endLine == p23.line) = true) (l2 : (p29.endLine == p31.line) = true) :
    LamX.GivesTo X Ng x sg g cdg [
      .Try [.Assign [.Name "found" q1] (.Tuple [.Constant (.str "told") j9 q2, .Call (.Name "deed" q3) [] [] q4] j10 q5) q6]
       [.ExceptHandler (some (.Name "BeatError" q7)) (some "e") [
      .Assign [.Name "kinds" p1] (.List [.Call (.Name "isinstance" p2) [.Name "e" p3, .Name "NoName" p4] [] p5, .Call (.Name "isinstance" p6) [.Name "e" p7, .Name "NoText" p8] [] p9] p10) p11,
      .Assign [.Name "found" p12] (.Tuple [.Constant (.str "refused") j1 p13, .UnaryOp .USub (.Constant (.int 1) j2 p14) p15] j3 p16) p17,
      .If (.BoolOp .And [.Call (.Name "isinstance" p18) [.Name "e" p19, .Name "ValueError" p20] [] p32, .Compare (.Call (.Attribute (.Name "kinds" p22) "count" p21) [.Constant (.bool true) j4 p24] [] p23) [.Eq] [.Constant (.int 1) j5 p25] p26] p33)
        [.Assign [.Name "found" p27] (.Tuple [.Constant (.str "refused") j6 p28, .Call (.Attribute (.Name "kinds" p30) "index" p29) [.Constant (.bool true) j7 p34] [] p31] j8 p35) p36] [] p37] q8] [] [] q9,
      .Return (some (.Name "found" q10)) q11] "deed" q (TTold2 X.K cB cN cT) := by
  intro f c' s H Q tl act hc h
  have nd : (cxOf C8.CX0 X.prog X.w X.K X.mg X.base Ng x sg g cdg X.A X.stack s H C8.E0).nox.N.Nodup := by show Ng.Nodup; rw [hN]; decide
  have n1 : (cxOf C8.CX0 X.prog X.w X.K X.mg X.base Ng x sg g cdg X.A X.stack s H C8.E0).nox.N[1]? = some (("found" : Str)) := by show Ng[1]? = _; rw [hN]; rfl
  have n2 : (cxOf C8.CX0 X.prog X.w X.K X.mg X.base Ng x sg g cdg X.A X.stack s H C8.E0).nox.N[2]? = some (("e" : Str)) := by show Ng[2]? = _; rw [hN]; rfl
  have hgl : Gl (cxOf C8.CX0 X.prog X.w X.K X.mg X.base Ng x sg g cdg X.A X.stack s H C8.E0).nox "BeatError" := gb
  have lenN : (cxOf C8.CX0 X.prog X.w X.K X.mg X.base Ng x sg g cdg X.A X.stack s H C8.E0).nox.N.length = 4 := by show Ng.length = 4; rw [hN]; rfl
  have ret : PSs (cxOf C8.CX0 X.prog X.w X.K X.mg X.base Ng x sg g cdg X.A X.stack s H C8.E0).nox [.Return (some (.Name "found" q10)) q11] (fun E σ H => ∃ v, (4 ≤ σ.length → σ[1]? = some (some v)) ∧ E.rt v H) :=
    PSs_len (pss_one (ps_ret (pe_var n1 (.inl lf)))) fun E σ H hl h => by
      obtain ⟨v, h1, h2⟩ := h
      exact ⟨v, h1 (by rw [hl, lenN]; exact Nat.le_refl 4), h2⟩
  refine ⟨_, pss_cons (ps_try_as (X := (cxOf C8.CX0 X.prog X.w X.K X.mg X.base Ng x sg g cdg X.A X.stack s H C8.E0).nox) (x := "BeatError") (n := "e") (np := q7) (pos := q9) (pos' := q8) (c := .ref cB) (i := 2) (Wout := fun _ _ _ _ => False)
      (body := [.Assign [.Name "found" q1] (.Tuple [.Constant (.str "told") j9 q2, .Call (.Name "deed" q3) [] [] q4] j10 q5) q6])
      (tb := fun W D σ H => ∃ (Ech : XK) (Q' : VK), (∀ (cls : Value) (d : Option Addr) (σ' : L2.St) (H' : Hp), Ech cls d H' → W cls d σ' H') ∧ σ[0]? = some (some (.ref f)) ∧ H c' = some (LamX.CodeO c' q) ∧ tl Ech H Q' ∧ ∀ v H', Q' v H' → ∀ p o H2, NewTup H' [.str "told", v] p o H2 → D.nx (σ.set 1 (some (.ref p))) H2)
      (ts := fun a cls d E σ H => ∃ D i, cls = .ref D ∧ d = none ∧ ToldK X.K cB cN cT D i ∧ (4 ≤ σ.length → σ[2]? = some (some (.ref a))) ∧ ∀ p o H2 x, NewTup H [.str "refused", .int (i : Nat)] p o H2 → E.nx ((σ.set 3 (some x)).set 1 (some (.ref p))) H2)
      rfl rfl nd n2 le ⟨hgl, by decide, .inl mb⟩ LamX.takes0 (fun W pn xe tk _ => ?_) (fun a oe cls d pn hz hf => ?_)) ret, ?_⟩
  · have n1' : ((cxOf C8.CX0 X.prog X.w X.K X.mg X.base Ng x sg g cdg X.A X.stack s H C8.E0).nox.tr pn xe).N[1]? = some (("found" : Str)) := n1
    refine ⟨fun pins s' σ H' D I h' => ?_⟩
    obtain ⟨Ech, Q', hW, h1, h2, h3, h4⟩ := h'
    have hp := PE_mono (act W pn xe Ech q3 q4 tk hW)
    have hq := pss_one (ps_set (X := (cxOf C8.CX0 X.prog X.w X.K X.mg X.base Ng x sg g cdg X.A X.stack s H C8.E0).tr pn xe) (pos := q6) (pos' := q1) nd n1 (.inl lf) (pe_tupN (x1 := j10) (pos := q5) (pa_cons (pe_str (x := "told") (j := j9) (pos := q2)) (pa_cons hp pa_nil))) (by rfl) (.inr lf))
    refine hq.run pins s' σ H' D I ⟨Q', ⟨h1, h2, h3⟩, fun v H1 hv => ⟨by show 2 ≤ sizeLine; decide, fun p o hn ho => ?_⟩⟩
    exact h4 v H1 hv p o _ ⟨same_new hn, hn, upd_same, ho⟩
  · by_cases hk : ∃ D i, cls = .ref D ∧ d = none ∧ ToldK X.K cB cN cT D i
    · obtain ⟨D, i, rfl, rfl, k⟩ := hk
      refine PSs_len (suite_told (Y := (cxOf C8.CX0 X.prog X.w X.K X.mg X.base Ng x sg g cdg X.A X.stack s H C8.E0).nox) k hz hf hN le lf lk gi gn gt gv mi mn mt mv l1 l2) fun E σ H' hl h' => ?_
      obtain ⟨D', i', e1, _, k', h2, h3⟩ := h'
      cases e1
      have hii : i' = i := by
        have a1 := k.n.symm.trans k'.n
        have a2 := k.i
        have a3 := k'.i
        simp only [Option.some.injEq, decide_eq_decide] at a1
        omega
      subst hii
      have hl4 : σ.length = 4 := hl.trans lenN
      exact ⟨hl4, h2 (by omega), h3⟩
    · exact PSs_len (t := fun _ _ _ => False) ⟨fun _ _ _ _ _ _ z => z.elim⟩ fun E σ H' _ ⟨D, i, e1, e2, k, _⟩ => hk ⟨D, i, e1, e2, k⟩
  · obtain ⟨E, Q', h1, h2, h3⟩ := h
    have h0 : (L2.start Ng [V.ref f])[0]? = some (some (V.ref f)) := by rw [hN]; rfl
    refine ⟨E, Q', fun cls d σ' H' he => ?_, h0, hc, h1, fun v H' hv p o H2 hn => ⟨.ref p, fun hl => ?_, h2 v H' hv p o H2 hn⟩⟩
    · obtain ⟨D, i, rfl, rfl, k, hq⟩ := h3 cls d H' he
      refine ⟨true, k.m, fun _ a ha => ⟨D, i, rfl, rfl, k, fun hl => ?_, fun p o H2 x hn => ⟨.ref p, fun hl => ?_, hq p o H2 hn⟩⟩, fun z => by cases z⟩
      · exact List.getElem?_set_self (by rw [List.length_set] at hl; omega)
      · rw [List.getElem?_set_ne (by decide)]
        exact List.getElem?_set_self (by simp only [List.length_set] at hl ⊢; omega)
    · exact List.getElem?_set_self (by rw [List.length_set] at hl; omega)
/-- _law_told(lambda: body) -/
def wTold (kd : Str → Option Nat) (M : WE) : WE := ⟨fun env st K E => M.run env st (fun d s => K (.tup [.str [116, 111, 108, 100], d]) s) (fun c s => ∃ i, kd c = some i ∧ K (.tup [.str [114, 101, 102, 117, 115, 101, 100], .int (i : Nat)]) s),
  fun h h' x => M.mono (fun _ _ k => h _ _ k) (fun _ _ ⟨i, e, k⟩ => ⟨i, e, h _ _ k⟩) x⟩
theorem told_new {K : PySem.W.Frag} {Z : Wd} {Hb H H2 : Hp} {st : Sto} {p : Addr} {o : Obj} {vs : List V} {ds : List D} (r : RelSt K Z Hb H st) (n : NewTup H vs p o H2) (il : IsL K Hb ds vs) : ∃ Hb2, StepW Hb H st Hb2 H2 st ∧ RelSt K Z Hb2 H2 st ∧ Is K Hb2 (.tup ds) (.ref p) := by
  obtain ⟨n1, n2, n3, n4⟩ := n
  obtain ⟨a, b⟩ := r.ext n1 n2 n3 (fun ps z => by cases z)
  exact ⟨_, b, a, is_tup_new n4 (r.c.free n2) il⟩
theorem wp_told {Z : Wd} {W : Dn.WX} {M : WE} {kd : Str → Option Nat} {x : Str} {g c P cB cN cT : Addr} {k j : Nat} {pg : Arguments} {bg : List Stmt} {sg : Scope} {dV kV doc pm cdv ct oc : Value} {an od : Option Addr} {osl : Array (Option Value)} {Ng : List Str}
    {params : Arguments} {body : Expr} {scope : Scope} {p lpos pos : Pos} (hm : X.mg x = some (.ref g)) (hk : PySem.W.keepIn X.K (.ref g) = true)
    (lk : X.K.lookup g = some ⟨oc, od, .func (PySem.W.fnOf x x pg bg sg dV kV doc pm an cdv ct), osl⟩) (hcg : PySem.W.codeIn X.K cdv x = true) (hb : L2.Binds X.K (PySem.W.fnOf x x pg bg sg dV kV doc pm an cdv ct) ["deed"] []) (Sg : FnScope Ng ["deed"] sg) (hNg : Ng[0]? = some (("deed" : Str))) (hva : Vis sg "deed")
    (hG : LamX.GivesTo X Ng x sg g cdv bg "deed" (X.env.qual ++ "<lambda>") (TTold2 X.K cB cN cT)) (hkd : ∀ c i, kd c = some i → ToldK X.K cB cN cT (Z.cl c) i)
    (TB : LamX.TabB X.base X.mg c P) (hcode : X.env.code = .ref c) (hmT : (P, X.env.qual ++ "<lambda>") ∈ Z.T) (hu : ∀ p ∈ Z.T, p.1 = P → p.2 = X.env.qual ++ "<lambda>") (hr : Room j X.A) (L : LamX.LamS X.env.scope scope) (hdef : defaultsOf params X.env = ([], []))
    (hbind : ∀ (q : Str) (cl : List (Str × Addr)) (pm cv ctv : Value), bindArgs (PySem.W.kla_fn "<lambda>" q params body scope cl pm cv ctv) ⟨[], []⟩ = pure [])
    (hbody : ∀ (A : Around) (outer : List Env) (s : Shared) (H : Hp) (E : XK) (f c' : Addr), Room k (A.deeper (LamX.lamEnv X scope s.heap.objs.size f c')) → PE (LamX.lamCx X A outer s H E scope f c') body (tWE X.K Z (fun c d _ H => E c d H) M))
    (hkj : k + 2 ≤ j := by decide) (hg : Gl X x := by rfl) (hdb : (x == ("__debug__" : Str)) = false := by decide) :
    PE X (.Call (.Name x p) [.Lambda params body scope lpos] [] pos) (tWE X.K Z W (wTold kd M)) := by
  refine PE_weak (LamX.pe_lamcall (T := Z.T) (t := fun E => tWE X.K Z (fun c d _ H => E c d H) M) hg hm hk lk hcg hb Sg hNg hva hG TB hcode hmT hu (hr.mono hkj) L hdef hbind hbody hdb (by decide) (by decide)) fun σ H Q h => ?_
  obtain ⟨Hb, env, st, r, rs, m⟩ := h
  refine ⟨rs.tabs, fun H1 eN T1 => ?_⟩
  obtain ⟨rs1, sp1⟩ := rs.lam eN T1
  refine ⟨fun cls d H' => ∃ D i, cls = .ref D ∧ d = none ∧ ToldK X.K cB cN cT D i ∧ ∀ p o H2, NewTup H' [.str "refused", .int (i : Nat)] p o H2 → Q (.ref p) H2, fun v H' => ∀ p o H2, NewTup H' [.str "told", v] p o H2 → Q (.ref p) H2, ?_, fun v H' h => h, fun cls d H' h => h⟩
  refine ⟨Hb, env, st, r, rs1, M.mono (fun d s1 q v Hb2 H2 s rs2 iv p o H3 hn => ?_) (fun c s1 q Hb2 H2 s rs2 => ?_) m⟩
  · obtain ⟨Hb3, a1, a2, a3⟩ := told_new (ds := [.str [116, 111, 108, 100], d]) rs2 hn (by
      simp only [IsL, Is]
      exact ⟨_, _, rfl, rfl, v, [], rfl, iv, rfl⟩)
    exact q _ Hb3 H3 (sp1.trans (s.trans a1)) a2 a3
  · obtain ⟨i, e, q⟩ := q
    refine ⟨Z.cl c, i, rfl, rfl, hkd c i e, fun p o H3 hn => ?_⟩
    obtain ⟨Hb3, a1, a2, a3⟩ := told_new (ds := [.str [114, 101, 102, 117, 115, 101, 100], .int (i : Nat)]) rs2 hn (by
      simp only [IsL, Is]
      exact ⟨_, _, rfl, rfl, _, [], rfl, rfl, rfl⟩)
    exact q _ Hb3 H3 (sp1.trans (s.trans a1)) a2 a3
end
end Dn
set_option Elab.async false
set_option linter.all false
set_option maxRecDepth 100000
/-! Part T: statements of the old layer lifted into the store's layer. -/
namespace Dn
open PySem L2 PySem.Spec PyProof.Rows

def NoOwn (env : En) : Prop := ∀ d, some d ∈ env → d.isOwn = false
/-- what a plain statement does -/
def wPS (F : En → Option Fl) : WS := ⟨fun env st N => ∃ fl, F env = some fl ∧ match fl with
    | .nx e => NoOwn e ∧ N.nx e st
    | .rt d => N.rt d st
    | .bk e => NoOwn e ∧ N.bk e st
    | .ct e => NoOwn e ∧ N.ct e st, fun h x => by
  obtain ⟨fl, e, k⟩ := x
  refine ⟨fl, e, ?_⟩
  cases fl with
  | nx e => exact ⟨k.1, h.nx _ _ k.2⟩
  | rt d => exact h.rt _ _ k
  | bk e => exact ⟨k.1, h.bk _ _ k.2⟩
  | ct e => exact ⟨k.1, h.ct _ _ k.2⟩⟩
theorem Rel.plain {K : PySem.W.Frag} {H0 Hb H : Hp} {σ : L2.St} {env : En} (r : Rel K H0 Hb H σ env) (n : NoOwn env) : Rel0 K Hb σ env := ⟨r.len, fun i d e => by
  obtain ⟨v, h1, h2⟩ := r.val i d e
  rw [IsS.plain (n d (List.mem_of_getElem? e))] at h2
  exact ⟨v, h1, h2⟩⟩
section
variable {X : Cx} {Z : Wd} {W : Dn.WX} {st' : Stmt} {sts : List Stmt} {F : En → Option Fl}
theorem wS_pure {K : PySem.W.Frag} {N : L2.Ends} {σ : L2.St} {H : Hp} (h : tWS K Z W (wPS F) N σ H) : tS K F N σ H := by
  obtain ⟨Hb0, H0, st0, Hb, env, st, r, rs, sp, fl, ef, k⟩ := h
  refine ⟨H, Hb, env, Hb, fl, r.rel H H, Step.refl rs.c, ef, ?_⟩
  cases fl with
  | nx e =>
    intro σ' Hb' H' r' s'
    obtain ⟨x1, x2⟩ := s'.w rs
    exact k.2 σ' Hb' H' (r'.plain k.1) x2 (sp.trans x1)
  | rt d =>
    intro v Hb' H' s' iv
    obtain ⟨x1, x2⟩ := s'.w rs
    exact k v Hb' H' x2 (sp.trans x1) iv
  | bk e =>
    intro σ' Hb' H' r' s'
    obtain ⟨x1, x2⟩ := s'.w rs
    exact k.2 σ' Hb' H' (r'.plain k.1) x2 (sp.trans x1)
  | ct e =>
    intro σ' Hb' H' r' s'
    obtain ⟨x1, x2⟩ := s'.w rs
    exact k.2 σ' Hb' H' (r'.plain k.1) x2 (sp.trans x1)
theorem ws_pure (h : PS X st' (tS X.K F)) : PS X st' (tWS X.K Z W (wPS F)) := PS_weak h fun _ _ _ q => wS_pure q
theorem wss_pure (h : PSs X sts (tS X.K F)) : PSs X sts (tWS X.K Z W (wPS F)) := PSs_weak h fun _ _ _ q => wS_pure q
end
/-! ### steps of the plain part -/
section
variable {env e' : En} {st : Sto} {N : WN} {F : En → Option Fl} {G : WS}
theorem u_nx (h : F env = some (.nx e')) (n : NoOwn e') (k : G.run e' st N) : (wSeq (wPS F) G).run env st N := ⟨_, h, n, k⟩
theorem u_rt {d : D} (h : F env = some (.rt d)) (k : N.rt d st) : (wPS F).run env st N := ⟨_, h, k⟩
theorem u_rtS {d : D} (h : F env = some (.rt d)) (k : N.rt d st) : (wSeq (wPS F) G).run env st N := ⟨_, h, k⟩
end
/-! ### x[k] of values that change -/
section
variable {X : Cx} {Z : Wd} {W : Dn.WX} {a b : Expr} {pos : Pos} {A B : WE}
theorem wp_ix (ha : PE X a (tWE X.K Z W A)) (hb : PE X b (tWE X.K Z W B)) (hs : PlainIx b := by exact fun _ _ => rfl) : PE X (.Subscript a b pos) (tWE X.K Z W (w2 ixD A B)) :=
  PE_weak (pe_ix x_seq ha hb hs) fun _ _ _ h => wE_2 h
end
/-! ### a def whose code object is known -/
section
variable {P : Program} {w : World} {K : PySem.W.Frag} {mg : Str → Option Value} {base : Heap}
theorem fnc_w {Z : Wd} {x qual : Str} {st : Stmt} {f : Addr} {oc : Value} {od an : Option Addr} {osl : Array (Option Value)} {kV doc pm cdv ct : Value} {N ps : List Str} {k : Nat} {M : WS}
    (lk : K.lookup f = some ⟨oc, od, .func (PySem.W.fnOf x qual (defArgs st) (defBody st) (defScope st) .none kV doc pm an cdv ct), osl⟩) (hcd : PySem.W.codeIn K cdv qual = true) (S : FnScope N ps (defScope st))
    (hb : ∀ (A : Around) (outer : List Env) (s : Shared) (H : Hp) (E : XK), Room k (A.deeper (envOfC qual (defScope st) s.heap.objs.size f cdv)) → PSs (cxOf (L2.CX P w) P w K mg base N qual (defScope st) f cdv A outer s H E) (defBody st) (tWS K Z (fun c d _ H' => E c d H') M)) :
    FnOk P w K mg base (L2.CX P w) (k + 1) f (PySem.W.fnOf x qual (defArgs st) (defBody st) (defScope st) .none kV doc pm an cdv ct) ps (spW K Z (semW N.length ps.length M)) := by
  refine fn_of lk hcd S (fun vs H Q E h => ?_) (fun A outer s H vs Q E hr h => ⟨_, hb A outer s H E hr, ?_⟩)
  · obtain ⟨Hb, st, ds, rs, il, hl, _⟩ := h
    rw [il.length, hl]
  · obtain ⟨Hb, st, ds, rs, il, hl, m⟩ := h
    refine ⟨Hb, H, st, Hb, startE N.length ds, st, rel0_start il, rs, StepW.refl, M.imp m ?_⟩
    exact ⟨fun e s k σ Hb' H' r' rs' sp' => k .non Hb' H' sp' rs' (by simp only [Is]), fun d s k v Hb' H' rs' sp' iv => k v Hb' H' sp' rs' iv, fun _ _ k => k.elim, fun _ _ k => k.elim, fun c s k σ Hb' H' rs' sp' => k Hb' H' sp' rs'⟩
end
/-! ### the law's own teller of refusals -/
/-- which refusal it is -/
def kd (c : Str) : Option Nat := if c = "NoName" then some 0 else if c = "NoText" then some 1 else none
structure ToldD (K : PySem.W.Frag) (mg : Str → Option Value) (Z : Wd) (stT : Stmt) (cB cN cT : Addr) : Prop where
  f : ∃ (g : Addr) (oc kV doc pm cdv ct : Value) (od an : Option Addr) (osl : Array (Option Value)), mg "_law_told" = some (.ref g) ∧ PySem.W.keepIn K (.ref g) = true ∧ K.lookup g = some ⟨oc, od, .func (PySem.W.fnOf "_law_told" "_law_told" (defArgs stT) (defBody stT) (defScope stT) .none kV doc pm an cdv ct), osl⟩ ∧
    PySem.W.codeIn K cdv "_law_told" = true ∧ L2.Binds K (PySem.W.fnOf "_law_told" "_law_told" (defArgs stT) (defBody stT) (defScope stT) .none kV doc pm an cdv ct) ["deed"] []
  s : FnScope ["deed", "found", "e", "kinds"] ["deed"] (defScope stT)
  v : Vis (defScope stT) "deed"
  b : mg "BeatError" = some (.ref cB)
  i : mg "isinstance" = none
  n : mg "NoName" = some (.ref cN)
  t : mg "NoText" = some (.ref cT)
  u : mg "ValueError" = none
  k : ∀ c i, kd c = some i → ToldK K cB cN cT (Z.cl c) i
/-- the def's text, once for each law: by told_gives2 -/
def ToldG (stT : Stmt) : Prop := ∀ {X : Cx} {q : Str} {g cB cN cT : Addr} {cdg : Value}, X.mg "BeatError" = some (.ref cB) → X.mg "isinstance" = none → X.mg "NoName" = some (.ref cN) → X.mg "NoText" = some (.ref cT) → X.mg "ValueError" = none →
  LamX.GivesTo X ["deed", "found", "e", "kinds"] "_law_told" (defScope stT) g cdg (defBody stT) "deed" q (TTold2 X.K cB cN cT)
theorem e_told {X : Cx} {Z : Wd} {W : Dn.WX} {M : WE} {stT : Stmt} {c P cB cN cT : Addr} {k j : Nat} {params : Arguments} {body : Expr} {scope : Scope} {p lpos pos : Pos} (TD : ToldD X.K X.mg Z stT cB cN cT) (TG : ToldG stT)
    (TB : LamX.TabB X.base X.mg c P) (hcode : X.env.code = .ref c) (hmT : (P, X.env.qual ++ "<lambda>") ∈ Z.T) (hu : ∀ p ∈ Z.T, p.1 = P → p.2 = X.env.qual ++ "<lambda>") (hr : Room j X.A)
    (hbody : ∀ (A : Around) (outer : List Env) (s : Shared) (H : Hp) (E : XK) (f c' : Addr), Room k (A.deeper (LamX.lamEnv X scope s.heap.objs.size f c')) → PE (LamX.lamCx X A outer s H E scope f c') body (tWE X.K Z (fun c d _ H => E c d H) M))
    (L : LamX.lamSB X.env.scope scope = true := by rfl) (hdef : defaultsOf params X.env = ([], []) := by rfl)
    (hbind : ∀ (q : Str) (cl : List (Str × Addr)) (pm cv ctv : Value), bindArgs (PySem.W.kla_fn "<lambda>" q params body scope cl pm cv ctv) ⟨[], []⟩ = pure [] := by intros; rfl)
    (hkj : k + 2 ≤ j := by decide) (hg : Gl X "_law_told" := by rfl) :
    PE X (.Call (.Name "_law_told" p) [.Lambda params body scope lpos] [] pos) (tWE X.K Z W (wTold kd M)) := by
  obtain ⟨g, oc, kV, doc, pm, cdv, ct, od, an, osl, f1, f2, f3, f4, f5⟩ := TD.f
  exact wp_told (k := k) (j := j) f1 f2 f3 f4 f5 TD.s rfl TD.v (TG TD.b TD.i TD.n TD.t TD.u) TD.k TB hcode hmT hu hr (LamX.lamS_by L) hdef hbind hbody hkj hg
/-! ### defs of the store's layer -/
def DefW (P : Program) (w : World) (K : PySem.W.Frag) (mg : Str → Option Value) (base : Heap) (Z : Wd) (k : Nat) (x : Str) (ps : List Str) (sem : WF) : Prop :=
  ∃ f fd, FnOk P w K mg base (L2.CX P w) k f fd ps (spW K Z sem) ∧ mg x = some (.ref f) ∧ PySem.W.keepIn K (.ref f) = true ∧ Binds K fd ps []
section
variable {P : Program} {w : World} {K : PySem.W.Frag} {mg : Str → Option Value} {base : Heap}
theorem dw_of {Z : Wd} {x : Str} {st : Stmt} {N ps : List Str} {k : Nat} {M : WS} (h : Has K mg x st ps) (S : FnScope N ps (defScope st))
    (hb : ∀ (f : Addr) (cdv : Value) (A : Around) (outer : List Env) (s : Shared) (H : Hp) (E : XK), Room k (A.deeper (envOfC x (defScope st) s.heap.objs.size f cdv)) → PSs (cxOf (L2.CX P w) P w K mg base N x (defScope st) f cdv A outer s H E) (defBody st) (tWS K Z (fun c d _ H' => E c d H') M)) :
    DefW P w K mg base Z (k + 1) x ps (semW N.length ps.length M) := by
  obtain ⟨f, fd, Fu, hm, hb'⟩ := h
  exact ⟨f, fd, fn_w Fu S (hb f), hm, Fu.kp, hb'⟩
end
theorem e_defw {X : Cx} {Z : Wd} {W : Dn.WX} {e : Expr} {es : List Expr} {pos p : Pos} {Ms : WA} {x : Str} {ps : List Str} {k j : Nat} {sem : WF} (tk : Takes X W) (h : DefW X.prog X.w X.K X.mg X.base Z k x ps sem) (hr : Room j X.A) (ha : PA X (e :: es) (tWA X.K Z W Ms)) (hkj : k ≤ j := by decide)
    (hg : Gl X x := by rfl) (hdb : (x == ("__debug__" : Str)) = false := by decide) (he : starEach (e :: es) X.env = (false, eval e X.env) :: starEach es X.env := by rfl) (hpl : (backTo pos (starEach es X.env)).any (·.1) = false := by rfl) :
    PE X (.Call (.Name x p) (e :: es) [] pos) (tWE X.K Z W (wCall sem Ms)) := by
  obtain ⟨f, fd, Fo, hm, hk, hb⟩ := h
  exact wp_call tk Fo hr hm hk hb ha hkj hg hdb he hpl
end Dn
set_option Elab.async false
set_option linter.all false
set_option maxRecDepth 100000
/-! Part U: methods, loops over what an expression of the store's layer tells, replace of what does not occur. -/
namespace Dn
open PySem L2 PySem.Spec PyProof.Rows
section
variable {X : Cx} {Z : Wd} {W : Dn.WX} {st' : Stmt} {a b e o : Expr} {es rest : List Expr} {pos apos p : Pos} {A B : WE} {Ms : WA} {F : WS}
/-! ### what is never reached -/
def wStuck : WS := ⟨fun _ _ _ => False, fun _ x => x⟩
theorem ws_stuck : PS X st' (tWS X.K Z W wStuck) := ⟨fun pins s σ H N I h => by
  obtain ⟨_, _, _, _, _, _, _, _, _, m⟩ := h
  exact m.elim⟩
/-! ### a and b, as values -/
def wAndV (A B : WE) : WE := ⟨fun env st K E => A.run env st (fun d s => ∃ k, d = .bl k ∧ if k then B.run env s K E else K (.bl false) s) E, fun h h' x => A.mono (fun d s ⟨k, e, q⟩ => ⟨k, e, by
  cases k with
  | true => exact B.mono h h' q
  | false => exact h _ _ q⟩) h' x⟩
theorem wp_and (ha : PE X a (tWE X.K Z W A)) (hb : PE X (.BoolOp .And (b :: rest) pos) (tWE X.K Z W B)) : PE X (.BoolOp .And (a :: b :: rest) pos) (tWE X.K Z W (wAndV A B)) := PE_weak (pe_and ha hb) fun σ H Q h => by
  obtain ⟨Hb, env, st, r, rs, q⟩ := h
  refine ⟨Hb, env, st, r, rs, A.mono (fun d s1 q v Hb1 H1 s rs1 iv => ?_) (fun _ _ h => h) q⟩
  obtain ⟨k, rfl, q⟩ := q
  simp only [Is] at iv
  subst iv
  refine ⟨k, rfl, ?_⟩
  cases k with
  | true => exact ⟨Hb1, env, s1, r.mono s.b, rs1, B.mono (fun d s2 k v Hb2 H2 t rs2 iv => k v Hb2 H2 (s.trans t) rs2 iv) (fun c s2 k Hb2 H2 t rs2 => k Hb2 H2 (s.trans t) rs2) q⟩
  | false => exact q (.bl false) Hb1 H1 s rs1 (by simp only [Is])
theorem wp_one (ha : PE X a (tWE X.K Z W A)) : PE X (.BoolOp .And [a] pos) (tWE X.K Z W A) := pe_one ha
/-! ### replace of what does not occur -/
def noOcc (a b : List Nat) : Bool := (Builtin.Str.occurrences (S a) (S b) 0 (S a).length ((S a).length + 1)).isEmpty
theorem mt_repl0 : MtR X "str.replace" (fun x xs H Q => ∃ a b c, x = .str a ∧ xs = [.str b, .str c] ∧ (Builtin.Str.occurrences a b 0 a.length (a.length + 1)).isEmpty = true ∧ Q (.str a) H) := by
  intro pins s σ H x xs v us Q I rx rs h
  obtain ⟨a, b, c, e1, e2, ho, q⟩ := h
  subst e1
  subst e2
  obtain ⟨t, e⟩ := rx
  subst e
  cases rs with
  | cons r1 rs =>
    cases rs with
    | cons r2 rs =>
      cases rs
      obtain ⟨t1, e⟩ := r1
      subst e
      obtain ⟨t2, e⟩ := r2
      subst e
      refine call_gives F.slot_str_replace (typeIs_str _ _ _) F.entry_str_replace (F.args_str_replace_3 _ _ _) (gives_str_replace a b c t t1 t2 fun h => by rw [ho] at h; cases h) ?_
      rw [ho]
      exact ⟨.str a, H, I, ⟨t, rfl⟩, q⟩
def wRep (A : WE) (Ms : WA) : WE := ⟨fun env st K E => A.run env st (fun d s => ∃ a, d = .str a ∧ Ms.run env s (fun ds s2 => ∃ b c, ds = [.str b, .str c] ∧ noOcc a b = true ∧ K (.str a) s2) E) E,
  fun h h' x => A.mono (fun _ _ ⟨a, e, y⟩ => ⟨a, e, Ms.mono (fun _ _ ⟨b, c, e1, e2, k⟩ => ⟨b, c, e1, e2, h _ _ k⟩) h' y⟩) h' x⟩
theorem wp_rep (ha : PE X o (tWE X.K Z W A)) (hm : PA X (e :: es) (tWA X.K Z W Ms)) (hbase : attributeBase o "replace" X.env (eval o X.env) = eval o X.env := by rfl)
    (hfew : ((backTo pos (starEach (e :: es) X.env)).all (fun x => !x.1) && (backToKw pos (keywordEach [] X.env)).all (fun x => x.1.isSome)
      && decide ((e :: es).length + ([] : List Keyword).length + (if ([] : List Keyword).isEmpty then 0 else 1) < 30)) = true := by rfl)
    (hline : (apos.endLine == pos.line) = true := by rfl) (hs : starEach (e :: es) X.env = (false, eval e X.env) :: starEach es X.env := by rfl) (hplain : (backTo pos (starEach es X.env)).any (·.1) = false := by rfl) :
    PE X (.Call (.Attribute o "replace" apos) (e :: es) [] pos) (tWE X.K Z W (wRep A Ms)) := PE_weak (pe_bm PySem.F.plainAttrs_str PySem.F.slot_str_replace PySem.F.type_str_replace mt_repl0 ha hm hbase hfew hline hs hplain) fun σ H Q hh => by
  obtain ⟨Hb, env, st, r, rs, q⟩ := hh
  refine ⟨Hb, env, st, r, rs, A.mono (fun d s1 q v Hb1 H1 s rs1 iv => ?_) (fun _ _ h => h) q⟩
  obtain ⟨x, rfl, k⟩ := q
  simp only [Is] at iv
  subst iv
  refine ⟨rfl, Hb1, env, s1, r.mono s.b, rs1, Ms.mono (fun ds s2 q2 us Hb2 H2 t rs2 ius => ?_) (fun c s2 k Hb2 H2 t rs2 => k Hb2 H2 (s.trans t) rs2) k⟩
  obtain ⟨y, z, rfl, ho, k⟩ := q2
  simp only [IsL, Is] at ius
  obtain ⟨_, _, rfl, rfl, _, _, rfl, rfl, rfl⟩ := ius
  exact ⟨S x, S y, S z, rfl, rfl, ho, k _ Hb2 H2 (s.trans t) rs2 (by simp only [Is])⟩
/-! ### a loop over a list that an expression tells -/
def wForL (A : WE) (g : D → En → Option En) (B : WS) : WS := ⟨fun env st N => A.run env st (fun d s => ∃ ds, d = .lst ds ∧ forW g B ds env s N) N.ex, fun h x => A.mono (fun _ _ ⟨ds, e, q⟩ => ⟨ds, e, forW_mono h q⟩) h.ex x⟩
theorem ws_forL {tg iter : Expr} {ts : List Nat} {g : D → En → Option En} {body : List Stmt} (hp : PassesOwn (model X.prog X.w) X.A X.env X.xe) (hc : X.calm = true) (hi : PE X iter (tWE X.K Z W A)) (hg : PG X tg (tG X.K ts g)) (hb : PSs X body (tWS X.K Z W F))
    (hs : ∀ x, foldedSetIterable iter X.env x = pure x := by intro _; rfl) : PS X (.For tg iter body [] pos) (tWS X.K Z W (wForL A g F)) := PS_weak (ps_for hp hc (pi_list hi) hg hb hs) fun N σ H h => by
  obtain ⟨Hb0, H0, st0, Hb, env, st, r, rs, sp, m⟩ := h
  refine ⟨Hb, env, st, r, rs, A.mono (fun d s1 q v Hb1 H1 x1 x2 iv => ?_) (fun c s1 k Hb1 H1 s rs1 => k σ Hb1 H1 rs1 (sp.trans s)) m⟩
  obtain ⟨ds, rfl, m⟩ := q
  simp only [Is] at iv
  obtain ⟨pl, vs, rfl, hx, lx⟩ := iv
  refine ⟨pl, rfl, ⟨vs, .inl (.inl (x2.c _ _ hx))⟩, ?_⟩
  have wk := walk_l hx lx
  refine ⟨fun i n σ' H' => ∃ Hb' env' st', Rel0 X.K Hb' σ' env' ∧ RelSt X.K Z Hb' H' st' ∧ StepW Hb0 H0 st0 Hb' H' st' ∧ Same Hb1 Hb' ∧ i + n = ds.length ∧ forW g F (ds.drop i) env' st' (liftN X.K Z W Hb0 H0 st0 N), ⟨ds.length, Hb1, env, s1, r.mono x1.b, x2, sp.trans x1, Same.refl _, by omega, m⟩, fun i n σ2 H2 hW => ?_⟩
  obtain ⟨Hb2, e2, st2, r2, rs2, sp2, sm2, im, q2⟩ := hW
  obtain ⟨wi, ws⟩ := wk Hb2 H2 sm2 rs2.c
  by_cases hn : n = 0
  · subst hn
    have hi : i = ds.length := by omega
    subst hi
    rw [List.drop_length] at q2
    exact .inl ⟨ws, q2 σ2 Hb2 H2 r2 rs2 sp2⟩
  · have hi : i < ds.length := by omega
    obtain ⟨go, yld⟩ := wi i ds[i] (List.getElem?_eq_getElem hi)
    rw [List.drop_eq_getElem_cons hi] at q2
    obtain ⟨e3, eg, q2⟩ := q2
    refine .inr ⟨go, fun σ' H' => ∃ Hb' env' st', Rel0 X.K Hb' σ' env' ∧ RelSt X.K Z Hb' H' st' ∧ StepW Hb0 H0 st0 Hb' H' st' ∧ Same Hb1 Hb' ∧ forW g F (ds.drop (i + 1)) env' st' (liftN X.K Z W Hb0 H0 st0 N), fun σ' H' hN => ?_, fun x H' hy => ?_⟩
    · obtain ⟨Hb', e', s', a1, a2, a3, a4, a5⟩ := hN
      exact ⟨n - 1, by omega, Hb', e', s', a1, a2, a3, a4, by omega, a5⟩
    · obtain ⟨Hb3, s3, iv⟩ := yld x H' hy
      obtain ⟨y1, y2⟩ := s3.w rs2
      refine ⟨full, Hb3, e2, ds[i], e3, (r2.mono s3.b).rel full H', s3.c, iv, eg, fun σ' r' _ => ⟨Hb3, H', st2, Hb3, e3, st2, r'.rel0, y2, StepW.refl, F.imp q2 ?_⟩⟩
      have sp3 := sp2.trans y1
      have sm3 := sm2.trans s3.b
      exact ⟨fun e s k σ' Hb' H'' r' rs' sp' => ⟨Hb', e, s, r', rs', sp3.trans sp', sm3.trans sp'.b, k⟩, fun d s k v Hb' H'' rs' sp' iv => k v Hb' H'' rs' (sp3.trans sp') iv, fun e s k σ' Hb' H'' r' rs' sp' => k σ' Hb' H'' r' rs' (sp3.trans sp'),
        fun e s k σ' Hb' H'' r' rs' sp' => ⟨Hb', e, s, r', rs', sp3.trans sp', sm3.trans sp'.b, k⟩, fun c s k σ' Hb' H'' rs' sp' => k σ' Hb' H'' rs' (sp3.trans sp')⟩
end
/-! ### methods -/
def HasM (K : PySem.W.Frag) (C : Addr) (m qual : Str) (st : Stmt) (ps : List Str) : Prop := ∃ f fd, Fun K m qual st f fd ∧ Meth K C m f ∧ Binds K fd ps []
def HasI (K : PySem.W.Frag) (C : Addr) (qual : Str) (st : Stmt) (ps : List Str) : Prop := ∃ f fd, Fun K "__init__" qual st f fd ∧ Mk K C f ∧ Binds K fd ps []
def DefM (P : Program) (w : World) (K : PySem.W.Frag) (mg : Str → Option Value) (base : Heap) (Z : Wd) (k : Nat) (m : Str) (ps : List Str) (sem : WF) : Prop :=
  ∃ f fd, FnOk P w K mg base (L2.CX P w) k f fd ps (spW K Z sem) ∧ Meth K Z.C m f ∧ Binds K fd ps []
def DefI (P : Program) (w : World) (K : PySem.W.Frag) (mg : Str → Option Value) (base : Heap) (Z : Wd) (k : Nat) (ps : List Str) (sem : WF) : Prop :=
  ∃ f fd, FnOk P w K mg base (L2.CX P w) k f fd ps (spW K Z sem) ∧ Mk K Z.C f ∧ Binds K fd ps []
section
variable {P : Program} {w : World} {K : PySem.W.Frag} {mg : Str → Option Value} {base : Heap} {Z : Wd} {m qual : Str} {st : Stmt} {N ps : List Str} {k : Nat} {M : WS}
theorem dm_of (h : HasM K Z.C m qual st ps) (S : FnScope N ps (defScope st))
    (hb : ∀ (f : Addr) (cdv : Value) (A : Around) (outer : List Env) (s : Shared) (H : Hp) (E : XK), Room k (A.deeper (envOfC qual (defScope st) s.heap.objs.size f cdv)) → PSs (cxOf (L2.CX P w) P w K mg base N qual (defScope st) f cdv A outer s H E) (defBody st) (tWS K Z (fun c d _ H' => E c d H') M)) :
    DefM P w K mg base Z (k + 1) m ps (semW N.length ps.length M) := by
  obtain ⟨f, fd, Fu, hm, hb'⟩ := h
  exact ⟨f, fd, fn_w Fu S (hb f), hm, hb'⟩
theorem di_of (h : HasI K Z.C qual st ps) (S : FnScope N ps (defScope st))
    (hb : ∀ (f : Addr) (cdv : Value) (A : Around) (outer : List Env) (s : Shared) (H : Hp) (E : XK), Room k (A.deeper (envOfC qual (defScope st) s.heap.objs.size f cdv)) → PSs (cxOf (L2.CX P w) P w K mg base N qual (defScope st) f cdv A outer s H E) (defBody st) (tWS K Z (fun c d _ H' => E c d H') M)) :
    DefI P w K mg base Z (k + 1) ps (semW N.length ps.length M) := by
  obtain ⟨f, fd, Fu, hm, hb'⟩ := h
  exact ⟨f, fd, fn_w Fu S (hb f), hm, hb'⟩
end
section
variable {X : Cx} {Z : Wd} {e o : Expr} {es : List Expr} {pos apos p : Pos} {A : WE} {Ms : WA} {m x : Str} {E : XK} {sem : WF} {ps : List Str} {k j : Nat} {pl : Sem Bool}
theorem e_meth (tk : Takes X (fun c d _ H => E c d H)) (h : DefM X.prog X.w X.K X.mg X.base Z k m ps sem) (c : Cls X.K Z.C) (hr : Room j X.A) (he : PE X o (tWE X.K Z (fun c d _ H => E c d H) A)) (ha : PA X (e :: es) (tWA X.K Z (fun c d _ H => E c d H) Ms)) (hkj : k ≤ j := by decide)
    (hst : starEach (e :: es) X.env = (false, eval e X.env) :: starEach es X.env := by rfl) (hpl : (backTo pos (starEach es X.env)).any (·.1) = false := by rfl)
    (ht : eval (.Call (.Attribute o m apos) (e :: es) [] pos) X.env = (do
      let ov ← eval o X.env
      standAt apos.atName
      let (f, first) ← holding [ov] (getMethod ov m pl)
      callWith pos f first (backTo pos (starEach (e :: es) X.env)) (backToKw pos (keywordEach [] X.env))) := by rfl) :
    PE X (.Call (.Attribute o m apos) (e :: es) [] pos) (tWE X.K Z (fun c d _ H => E c d H) (wMeth sem m A Ms)) := by
  obtain ⟨f, fd, Fo, hm, hb⟩ := h
  exact wp_meth tk he c hm Fo hr hb ha hkj hst hpl ht
theorem e_meth0 (tk : Takes X (fun c d _ H => E c d H)) (h : DefM X.prog X.w X.K X.mg X.base Z k m ps sem) (c : Cls X.K Z.C) (hr : Room j X.A) (he : PE X o (tWE X.K Z (fun c d _ H => E c d H) A)) (hkj : k ≤ j := by decide)
    (ht : eval (.Call (.Attribute o m apos) [] [] pos) X.env = (do
      let ov ← eval o X.env
      standAt apos.atName
      let (f, first) ← holding [ov] (getMethod ov m pl)
      callWith pos f first (backTo pos (starEach [] X.env)) (backToKw pos (keywordEach [] X.env))) := by rfl) :
    PE X (.Call (.Attribute o m apos) [] [] pos) (tWE X.K Z (fun c d _ H => E c d H) (wMeth sem m A wNil)) := by
  obtain ⟨f, fd, Fo, hm, hb⟩ := h
  exact wp_meth0 tk he c hm Fo hr hb hkj ht
theorem e_make (tk : Takes X (fun c d _ H => E c d H)) (h : DefI X.prog X.w X.K X.mg X.base Z k ps sem) (hm : X.mg x = some (.ref Z.C)) (hr : Room j X.A) (ha : PA X (e :: es) (tWA X.K Z (fun c d _ H => E c d H) Ms)) (hkj : k + 1 ≤ j := by decide) (hg : Gl X x := by rfl)
    (hdb : (x == ("__debug__" : Str)) = false := by decide) (he : starEach (e :: es) X.env = (false, eval e X.env) :: starEach es X.env := by rfl) (hpl : (backTo pos (starEach es X.env)).any (·.1) = false := by rfl) :
    PE X (.Call (.Name x p) (e :: es) [] pos) (tWE X.K Z (fun c d _ H => E c d H) (wMake sem Ms)) := by
  obtain ⟨f, fd, Fo, hM, hb⟩ := h
  exact wp_make tk hM Fo hr hm hb ha hkj hg hdb he hpl
/-- a global that is a pair of whole numbers -/
def GPair (K : PySem.W.Frag) (v : Option Value) (a b : Int) : Prop := ∃ (q : Addr) (o : Obj) (t t' : Tok) (n : Nat), v = some (.ref q) ∧ K.lookup q = some o ∧ o.dict = none ∧ o.cls = .type "tuple" ∧ o.data = .seq #[.int a t, .int b t'] n
theorem e_gpair (a b : Int) (h : GPair X.K (X.mg x) a b) (hg : Gl X x := by rfl) (hd : (x == ("__debug__" : Str)) = false := by decide) : PE X (.Name x pos) (tD X.K (fC (.tup [.int a, .int b]))) := by
  obtain ⟨q, o, t, t', n, hm, h1, h2, h3, h4⟩ := h
  refine e_c (v := .ref q) (pe_glob hg hm rfl hd) fun H => ?_
  simp only [Is, IsL]
  exact ⟨q, [.int a, .int b], rfl, .inr ⟨o, _, n, h1, h2, h3, h4, (show 2 ≤ sizeLine by decide), .cons ⟨_, rfl⟩ (.cons ⟨_, rfl⟩ .nil)⟩, _, _, rfl, rfl, _, _, rfl, rfl, rfl⟩
end
end Dn
set_option Elab.async false
set_option linter.all false
set_option maxRecDepth 100000
/-! Part V: lists of the store within dicts of the store; both told as plain ones; sorted keys. -/
namespace Dn
open PySem L2 PySem.Spec PyProof.Rows
section
variable {X : Cx} {Z : Wd} {W : Dn.WX} {st' : Stmt} {a b e f o i value : Expr} {es : List Expr} {pos apos pos' p tpos : Pos} {A B V' O : WE} {Ms : WA} {F : WS} {sts : List Stmt}
/-! ### a new list -/
def wNewL (fn : En → Option (List D)) : WE := ⟨fun env st K _ => ∃ ds, fn env = some ds ∧ ∀ a, st a = none → K (.adr a) (st.put a (.lst ds)), fun h _ ⟨ds, e, k⟩ => ⟨ds, e, fun a n => h _ _ (k a n)⟩⟩
theorem wp_newL {fn : En → Option (List D)} (h : PE X e (tN X.K fn)) : PE X e (tWE X.K Z W (wNewL fn)) := PE_weak h fun σ H Q hh => by
  obtain ⟨Hb, env, st, r, rs, ds, ed, k⟩ := hh
  refine ⟨H, env, Hb, ds, r.rel H H, rs.c, ed, fun q vs Hb' H' s hq hb h' il => ?_⟩
  obtain ⟨x1, x2⟩ := s.w rs
  have hst : st q = none := rs.free hq
  have hcell : RelSt X.K Z Hb' H' (st.put q (.lst ds)) := ⟨x2.c, fun z c hz => by
    by_cases hzq : z = q
    · subst hzq
      rw [Sto.put_same] at hz
      cases hz
      exact ⟨hb, vs, h', il⟩
    · rw [Sto.put_ne hzq] at hz
      exact x2.cell z c hz, x2.tabs, x2.nt⟩
  refine k q hst (.ref q) Hb' H' ⟨x1.b, fun z ob hz nb ns nt => ?_⟩ hcell (by simp only [Is])
  obtain ⟨y1, y2, y3⟩ := x1.f z ob hz nb ns nt
  refine ⟨y1, y2, ?_⟩
  rw [Sto.put_ne]
  · exact y3
  · intro e
    rw [e, hq] at hz
    cases hz
/-! ### x[k] of a list of the store -/
def wLIx (O A : WE) : WE := ⟨fun env st K E => O.run env st (fun d s2 => A.run env s2 (fun k s3 => ∃ a n ds v, d = .adr a ∧ k = .int n ∧ s3 a = some (.lst ds) ∧ atI ds n = some v ∧ K v s3) E) E,
  fun h h' x => O.mono (fun _ _ z => A.mono (fun _ _ ⟨a, l, kvs, v, e1, e2, e3, e4, k⟩ => ⟨a, l, kvs, v, e1, e2, e3, e4, h _ _ k⟩) h' z) h' x⟩
theorem wp_lix (ha : PE X a (tWE X.K Z W O)) (hb : PE X b (tWE X.K Z W A)) (hs : PlainIx b := by exact fun _ _ => rfl) : PE X (.Subscript a b pos) (tWE X.K Z W (wLIx O A)) :=
  PE_weak (pe_ix ix_list ha hb hs) fun σ H Q h => by
    obtain ⟨Hb, env, st, r, rs, m⟩ := h
    refine ⟨Hb, env, st, r, rs, O.mono (fun d s2 q2 u Hb2 H2 t rs2 iu => ?_) (fun _ _ h => h) m⟩
    refine ⟨Hb2, env, s2, r.mono t.b, rs2, A.mono (fun kk s3 q3 u3 Hb3 H3 t3 rs3 iu3 => ?_) (fun c s3 k Hb3 H3 t3 rs3 => k Hb3 H3 (t.trans t3) rs3) q2⟩
    obtain ⟨q, n, ds, w, rfl, rfl, e3, e4, k⟩ := q3
    have hu := adr_is iu
    subst hu
    simp only [Is] at iu3
    subst iu3
    obtain ⟨_, vs, h1, h2⟩ := rs3.cell q _ e3
    obtain ⟨v, e5, e6⟩ := atI_is h2 e4
    exact ⟨q, vs, n, v, rfl, rfl, SqL.of h1, e5, k v Hb3 H3 (t.trans t3) rs3 e6⟩
/-! ### x[k] = v of a list of the store -/
def wLPut (O A V' : WE) : WS := ⟨fun env st N => V'.run env st (fun y s => O.run env s (fun d s2 => A.run env s2 (fun k s3 => ∃ a n ds j, d = .adr a ∧ k = .int n ∧ s3 a = some (.lst ds) ∧ ixN ds.length n = some j ∧ N.nx env (s3.put a (.lst (ds.set j y)))) N.ex) N.ex) N.ex,
  fun h x => V'.mono (fun _ _ y => O.mono (fun _ _ z => A.mono (fun _ _ ⟨a, l, kvs, j, e1, e2, e3, e4, k⟩ => ⟨a, l, kvs, j, e1, e2, e3, e4, h.nx _ _ k⟩) h.ex z) h.ex y) h.ex x⟩
theorem ws_lput (ho : PE X o (tWE X.K Z W O)) (hi : PE X i (tWE X.K Z W B)) (hv : PE X value (tWE X.K Z W V'))
    (ha : ∀ v, assign (.Subscript o i tpos) X.env v = (do
      let ov ← holding [v] (eval o X.env)
      let iv ← holding [v, ov] (eval i X.env)
      standAt tpos
      holding [v, ov, iv] (setItem ov iv v)
      release [v, ov, iv] []) := by intro _; rfl)
    (hs : swapsWithSole [.Subscript o i tpos] value pos.line X.env = pure false := by rfl) (hw : swappedStores [.Subscript o i tpos] value X.env = pure none := by rfl)
    (h1 : (assignEach [.Subscript o i tpos] X.env).map (·.2) = [assign (.Subscript o i tpos) X.env] := by rfl) :
    PS X (.Assign [.Subscript o i tpos] value pos) (tWS X.K Z W (wLPut O B V')) := PS_weak (ps_asg hv (pg_sub ho hi set_list ha) hs hw h1) fun N σ H h => by
  obtain ⟨Hb0, H0, st0, Hb, env, st, r, rs, sp, m⟩ := h
  refine ⟨Hb, env, st, r, rs, V'.mono (fun y s1 q v Hb1 H1 s rs1 iv => ?_) (fun c s1 k Hb1 H1 s rs1 => k σ Hb1 H1 rs1 (sp.trans s)) m⟩
  refine ⟨Hb1, env, s1, r.mono s.b, rs1, O.mono (fun d s2 q2 u Hb2 H2 t rs2 iu => ?_) (fun c s2 k Hb2 H2 t rs2 => k σ Hb2 H2 rs2 (sp.trans (s.trans t))) q⟩
  refine ⟨Hb2, env, s2, r.mono (s.b.trans t.b), rs2, B.mono (fun kk s3 q3 u3 Hb3 H3 t3 rs3 iu3 => ?_) (fun c s3 k Hb3 H3 t3 rs3 => k σ Hb3 H3 rs3 (sp.trans (s.trans (t.trans t3)))) q2⟩
  obtain ⟨q, n, ds, j, rfl, rfl, e3, e4, k⟩ := q3
  have hu := adr_is iu
  subst hu
  simp only [Is] at iu3
  subst iu3
  obtain ⟨_, vs, h1, h2⟩ := rs3.cell q _ e3
  have iv3 : Is X.K Hb3 y v := iv.mono (t.b.trans t3.b)
  obtain ⟨y1, y2⟩ := rs3.write (ob := .lst (vs.set j v)) (x' := .lst (ds.set j y)) e3 ⟨_, upd_same, IsL.set j h2 iv3⟩
  refine ⟨q, vs, n, j, rfl, rfl, h1, by rw [h2.length]; exact e4, ?_⟩
  exact k σ Hb3 _ ((r.mono (s.b.trans (t.b.trans t3.b)))) y1 (sp.trans (s.trans (t.trans (t3.trans y2))))
/-! ### d.get(k, x) and d.setdefault(k, x) -/
def findK (l : List Nat) (kvs : List (List Nat × D)) : Option D := (kvs.find? fun p => decide (p.1 = l)).map (·.2)
theorem isK_none {K : PySem.W.Frag} {H : Hp} {l : List Nat} {kvs : List (List Nat × D)} {ks : List (Key × V)} (h : IsK K H kvs ks) (hn : findK l kvs = none) : valV ks (Sum.inr (S l)) = none := by
  have := (isK_val l h).2
  have ha : (kvs.any fun p => decide (p.1 = l)) = false := by
    unfold findK at hn
    rw [Option.map_eq_none_iff, List.find?_eq_none] at hn
    rw [List.any_eq_false]
    exact hn
  rw [ha] at this
  cases hv : valV ks (Sum.inr (S l)) with
  | none => rfl
  | some v => rw [hv] at this; cases this
def wGet2 (O A V' : WE) : WE := ⟨fun env st K E => O.run env st (fun d s => ∃ a, d = .adr a ∧ (∃ kvs, s a = some (.dct kvs)) ∧ A.run env s (fun k s2 => V'.run env s2 (fun z s3 => ∃ l kvs, k = .str l ∧ s3 a = some (.dct kvs) ∧ K ((findK l kvs).getD z) s3) E) E) E,
  fun h h' x => O.mono (fun _ _ ⟨a, e, w, y⟩ => ⟨a, e, w, A.mono (fun _ _ z => V'.mono (fun _ _ ⟨l, kvs, e1, e2, k⟩ => ⟨l, kvs, e1, e2, h _ _ k⟩) h' z) h' y⟩) h' x⟩
theorem wp_get2 (hu : X.A.units + 65 < cLine) (ho : PE X o (tWE X.K Z W O)) (he : PE X e (tWE X.K Z W A)) (hf : PE X f (tWE X.K Z W V')) (m : M2 X o "get" apos e f pos) : PE X (.Call (.Attribute o "get" apos) [e, f] [] pos) (tWE X.K Z W (wGet2 O A V')) := PE_weak (pe_dget2 (by omega) ho he hf m) fun σ H Q hh => by
  obtain ⟨Hb, env, st, r, rs, q⟩ := hh
  refine ⟨Hb, env, st, r, rs, O.mono (fun d s1 q v Hb1 H1 s rs1 iv => ?_) (fun _ _ h => h) q⟩
  obtain ⟨q, rfl, ⟨kvs0, hk0⟩, k⟩ := q
  have hv := adr_is iv
  subst hv
  obtain ⟨_, ks0, g1, _⟩ := rs1.cell q _ hk0
  refine ⟨q, rfl, .inl ⟨ks0, .inl g1⟩, Hb1, env, s1, r.mono s.b, rs1, A.mono (fun kk s2 q2 u Hb2 H2 t rs2 iu => ?_) (fun c s2 k Hb2 H2 t rs2 => k Hb2 H2 (s.trans t) rs2) k⟩
  refine ⟨Hb2, env, s2, r.mono (s.b.trans t.b), rs2, V'.mono (fun z s3 q3 w Hb3 H3 t3 rs3 iw => ?_) (fun c s3 k Hb3 H3 t3 rs3 => k Hb3 H3 (s.trans (t.trans t3)) rs3) q2⟩
  obtain ⟨l, kvs, rfl, e3, k⟩ := q3
  simp only [Is] at iu
  subst iu
  obtain ⟨_, ks, h1, h2⟩ := rs3.cell q _ e3
  refine ⟨_, .inl ⟨ks, Sum.inr (S l), .inl h1, rfl, rfl⟩, ?_⟩
  cases hfk : findK l kvs with
  | some d =>
    obtain ⟨v, hv, iv⟩ := (isK_val l h2).1 d hfk
    rw [hfk] at k
    rw [hv]
    exact k v Hb3 H3 (s.trans (t.trans t3)) rs3 iv
  | none =>
    rw [hfk] at k
    rw [isK_none h2 hfk]
    exact k w Hb3 H3 (s.trans (t.trans t3)) rs3 iw
def wSetd (O A V' : WE) : WE := ⟨fun env st K E => O.run env st (fun d s => ∃ a, d = .adr a ∧ (∃ kvs, s a = some (.dct kvs)) ∧ A.run env s (fun k s2 => V'.run env s2 (fun z s3 => ∃ l kvs, k = .str l ∧ s3 a = some (.dct kvs) ∧ kvs.length < 1000000 ∧ (∀ v, findK l kvs = some v → K v s3) ∧ (findK l kvs = none → K z (s3.put a (.dct (putKD l z kvs))))) E) E) E,
  fun h h' x => O.mono (fun _ _ ⟨a, e, w, y⟩ => ⟨a, e, w, A.mono (fun _ _ z => V'.mono (fun _ _ ⟨l, kvs, e1, e2, e3, k1, k2⟩ => ⟨l, kvs, e1, e2, e3, fun v hv => h _ _ (k1 v hv), fun hv => h _ _ (k2 hv)⟩) h' z) h' y⟩) h' x⟩
theorem wp_setd (ho : PE X o (tWE X.K Z W O)) (he : PE X e (tWE X.K Z W A)) (hf : PE X f (tWE X.K Z W V')) (m : M2 X o "setdefault" apos e f pos) : PE X (.Call (.Attribute o "setdefault" apos) [e, f] [] pos) (tWE X.K Z W (wSetd O A V')) := PE_weak (pe_dsetd ho he hf m) fun σ H Q hh => by
  obtain ⟨Hb, env, st, r, rs, q⟩ := hh
  refine ⟨Hb, env, st, r, rs, O.mono (fun d s1 q v Hb1 H1 s rs1 iv => ?_) (fun _ _ h => h) q⟩
  obtain ⟨q, rfl, ⟨kvs0, hk0⟩, k⟩ := q
  have hv := adr_is iv
  subst hv
  obtain ⟨_, ks0, g1, _⟩ := rs1.cell q _ hk0
  refine ⟨q, rfl, .inl ⟨ks0, .inl g1⟩, Hb1, env, s1, r.mono s.b, rs1, A.mono (fun kk s2 q2 u Hb2 H2 t rs2 iu => ?_) (fun c s2 k Hb2 H2 t rs2 => k Hb2 H2 (s.trans t) rs2) k⟩
  refine ⟨Hb2, env, s2, r.mono (s.b.trans t.b), rs2, V'.mono (fun z s3 q3 w Hb3 H3 t3 rs3 iw => ?_) (fun c s3 k Hb3 H3 t3 rs3 => k Hb3 H3 (s.trans (t.trans t3)) rs3) q2⟩
  obtain ⟨l, kvs, rfl, e3, hlen, k1, k2⟩ := q3
  simp only [Is] at iu
  subst iu
  obtain ⟨_, ks, h1, h2⟩ := rs3.cell q _ e3
  have s123 := s.trans (t.trans t3)
  refine ⟨ks, Sum.inr (S l), h1, rfl, by rw [isK_len h2]; exact Nat.lt_of_lt_of_le hlen size1000, fun v' hv' => ?_, fun hn => ?_⟩
  · cases hfk : findK l kvs with
    | none =>
      rw [isK_none h2 hfk] at hv'
      cases hv'
    | some d =>
      obtain ⟨v2, hv2, iv2⟩ := (isK_val l h2).1 d hfk
      rw [hv2] at hv'
      cases hv'
      exact k1 d hfk _ Hb3 H3 s123 rs3 iv2
  · cases hfk : findK l kvs with
    | some d =>
      obtain ⟨v2, hv2, iv2⟩ := (isK_val l h2).1 d hfk
      rw [hv2] at hn
      cases hn
    | none =>
      obtain ⟨y1, y2⟩ := rs3.write (ob := .dK (putK ks (Sum.inr (S l)) w)) (x' := .dct (putKD l z kvs)) e3 ⟨_, upd_same, isK_put h2 iw⟩
      exact k2 hfk w Hb3 _ (s123.trans y2) y1 iw
/-! ### told as plain ones from here on -/
def Sto.del (st : Sto) (a : Addr) : Sto := fun x => if x = a then none else st x
theorem Sto.del_same (st : Sto) (a : Addr) : st.del a a = none := if_pos rfl
theorem Sto.del_ne {st : Sto} {a x : Addr} (h : x ≠ a) : st.del a x = st x := if_neg h
theorem RelSt.frzL {K : PySem.W.Frag} {Hb H : Hp} {st : Sto} (r : RelSt K Z Hb H st) {l : Addr} {ds : List D} (h : st l = some (.lst ds)) :
    ∃ Hb', RelSt K Z Hb' H (st.del l) ∧ StepW Hb H st Hb' H (st.del l) ∧ Is K Hb' (.lst ds) (.ref l) := by
  obtain ⟨hb, vs, h1, h2⟩ := r.cell l _ h
  have sm : Same Hb (upd Hb l (.lst vs)) := same_new hb
  refine ⟨upd Hb l (.lst vs), ⟨fun z x e => ?_, fun z c hz => ?_, r.tabs, r.nt.upd (by intro _ e; cases e)⟩, ⟨sm, fun z o hz nb ns nt => ?_⟩, is_lst_new hb h2⟩
  · by_cases hzl : z = l
    · subst hzl
      rw [upd_same] at e
      rw [h1, e]
    · rw [upd_ne hzl] at e
      exact r.c z x e
  · by_cases hzl : z = l
    · rw [hzl, Sto.del_same] at hz
      cases hz
    · rw [Sto.del_ne hzl] at hz
      obtain ⟨g1, g2⟩ := r.cell z c hz
      exact ⟨by rw [upd_ne hzl]; exact g1, g2.keep (fun o e => e) sm⟩
  · have hzl : z ≠ l := fun e => by
      rw [e, h] at ns
      cases ns
    exact ⟨hz, by rw [upd_ne hzl]; exact nb, by rw [Sto.del_ne hzl]; exact ns⟩
/-- the values of a dict: lists of the store are told as plain ones -/
def FK : Sto → List (List Nat × D) → List (List Nat × D) → Sto → Prop
  | st, [], r, s2 => r = [] ∧ s2 = st
  | st, (k, d) :: t, r, s2 => (∃ l ds r', d = .adr l ∧ st l = some (.lst ds) ∧ r = (k, .lst ds) :: r' ∧ FK (st.del l) t r' s2) ∨ ∃ r', r = (k, d) :: r' ∧ FK st t r' s2
theorem FK.step {K : PySem.W.Frag} : ∀ {kvs kvs' : List (List Nat × D)} {Hb H : Hp} {st s2 : Sto} {ks : List (Key × V)}, FK st kvs kvs' s2 → RelSt K Z Hb H st → IsK K Hb kvs ks → ∃ Hb', RelSt K Z Hb' H s2 ∧ StepW Hb H st Hb' H s2 ∧ IsK K Hb' kvs' ks ∧ ∀ x c, s2 x = some c → st x = some c
  | [], kvs', Hb, H, st, s2, ks, f, r, h => by
    obtain ⟨rfl, rfl⟩ := f
    exact ⟨Hb, r, StepW.refl, h, fun _ _ e => e⟩
  | (k, d) :: t, kvs', Hb, H, st, s2, ks, f, r, h => by
    simp only [IsK] at h
    obtain ⟨v, rest, rfl, iv, hr⟩ := h
    rcases f with ⟨l, ds, r', rfl, hl, rfl, f⟩ | ⟨r', rfl, f⟩
    · have hv := adr_is iv
      subst hv
      obtain ⟨Hb1, r1, s1, i1⟩ := r.frzL hl
      obtain ⟨Hb2, r2, s2', i2, k2⟩ := FK.step f r1 (hr.mono s1.b)
      refine ⟨Hb2, r2, s1.trans s2', ?_, fun x c e => ?_⟩
      · simp only [IsK]
        exact ⟨_, _, rfl, i1.mono s2'.b, i2⟩
      · have := k2 x c e
        by_cases hx : x = l
        · rw [hx, Sto.del_same] at this
          cases this
        · rwa [Sto.del_ne hx] at this
    · obtain ⟨Hb2, r2, s2', i2, k2⟩ := FK.step f r hr
      refine ⟨Hb2, r2, s2', ?_, k2⟩
      simp only [IsK]
      exact ⟨_, _, rfl, iv.mono s2'.b, i2⟩
def wFrzD (i : Nat) : WS := ⟨fun env st N => ∃ a kvs kvs' s2, env[i]? = some (some (.adr a)) ∧ st a = some (.dct kvs) ∧ FK st kvs kvs' s2 ∧ s2 a = some (.dct kvs) ∧ N.nx (env.set i (some (.dct kvs'))) (s2.del a), fun h ⟨a, kvs, kvs', s2, e1, e2, e3, e4, k⟩ => ⟨a, kvs, kvs', s2, e1, e2, e3, e4, h.nx _ _ k⟩⟩
theorem wss_frzD (i : Nat) (h : PSs X sts (tWS X.K Z W F)) : PSs X sts (tWS X.K Z W (wSeq (wFrzD i) F)) := ⟨fun pins s σ H N I h' => by
  obtain ⟨Hb0, H0, st0, Hb, env, st, r, rs, sp, a, kvs, kvs', s2, e1, e2, f, e4, k⟩ := h'
  obtain ⟨_, ks, h1, h2⟩ := rs.cell a _ e2
  obtain ⟨Hb1, r1, s1, i1, _⟩ := f.step rs h2
  obtain ⟨hb1, ks1, g1, _⟩ := r1.cell a _ e4
  obtain ⟨o, I2⟩ := I.lock h1 (by trivial)
  have sm : Same Hb1 (upd Hb1 a (.frz o (.dK ks))) := same_new hb1
  have hka := (r1.cell a _ e4).2.kind
  have r2 : RelSt X.K Z (upd Hb1 a (.frz o (.dK ks))) (upd H a (.frz o (.dK ks))) (s2.del a) := by
    refine ⟨same_upd2 r1.c, fun z c hz => ?_, tabs_write r1.tabs hka.1 hka.2, r1.nt.upd (by intro _ e; cases e)⟩
    by_cases hza : z = a
    · rw [hza, Sto.del_same] at hz
      cases hz
    · rw [Sto.del_ne hza] at hz
      obtain ⟨g1, g2⟩ := r1.cell z c hz
      exact ⟨by rw [upd_ne hza]; exact g1, g2.keep (fun o e => by rw [upd_ne hza]; exact e) sm⟩
  have st2 : StepW Hb1 H s2 (upd Hb1 a (.frz o (.dK ks))) (upd H a (.frz o (.dK ks))) (s2.del a) := by
    refine ⟨sm, fun z ob hz nb ns nt => ?_⟩
    have hza : z ≠ a := fun e => by
      rw [e, e4] at ns
      cases ns
    exact ⟨by rw [upd_ne hza]; exact hz, by rw [upd_ne hza]; exact nb, by rw [Sto.del_ne hza]; exact ns⟩
  have all := s1.trans st2
  have hlt := (List.getElem?_eq_some_iff.mp e1).1
  obtain ⟨w, hσ, hw⟩ := r.val i _ e1
  have hw := adr_is hw
  subst hw
  refine h.run pins s σ _ N I2 ⟨Hb0, H0, st0, _, _, _, ⟨by rw [List.length_set]; exact r.len, fun j d q => ?_⟩, r2, sp.trans all, k⟩
  by_cases hj : i = j
  · subst hj
    rw [List.getElem?_set_self hlt] at q
    cases q
    refine ⟨_, hσ, ?_⟩
    simp only [Is]
    exact ⟨a, ks, rfl, ⟨o, upd_same⟩, i1.mono sm⟩
  · rw [List.getElem?_set_ne hj] at q
    obtain ⟨v, b1, b2⟩ := r.val j d q
    exact ⟨v, b1, b2.mono all.b⟩⟩
/-! ### sorted keys of a plain dict -/
def keyLe (a b : List Nat) : Bool := decide (a ≤ b)
def sortKeys (ks : List (List Nat)) : List (List Nat) := ks.mergeSort keyLe
theorem keyLe_trans (a b c : List Nat) (h : keyLe a b = true) (h' : keyLe b c = true) : keyLe a c = true := by
  unfold keyLe at *
  simp at *
  exact List.le_trans h h'
theorem keyLe_total (a b : List Nat) : (keyLe a b || keyLe b a) = true := by
  unfold keyLe
  simp
  exact List.le_total a b
theorem sortKeys_perm (ks : List (List Nat)) : (sortKeys ks).Perm ks := List.mergeSort_perm _ _
theorem sortKeys_up (ks : List (List Nat)) : (sortKeys ks).Pairwise (· ≤ ·) := by
  have h1 : (sortKeys ks).Pairwise fun a b => keyLe a b = true := List.pairwise_mergeSort keyLe_trans keyLe_total _
  exact h1.imp fun h => by simpa [keyLe] using h
theorem sortKeys_of {ks ms : List (List Nat)} (h : ms.Perm ks) (hr : ms.Pairwise (· ≤ ·)) : sortKeys ks = ms :=
  List.Perm.eq_of_pairwise (le := fun a b : List Nat => a ≤ b) (fun a b _ _ h h' => List.le_antisymm h h') (sortKeys_up ks) hr ((sortKeys_perm ks).trans h.symm)
theorem rising_up : ∀ (ys : List (List Nat)) (p : List Nat), risingS (S p) (ys.map S) = true → (p :: ys).Pairwise (· ≤ ·)
  | [], p, _ => by simp
  | y :: ys, p, h => by
    rw [List.map_cons, risingS, Bool.and_eq_true] at h
    have ih := rising_up ys y h.2
    have hpy : p ≤ y := by
      have := h.1
      have e : ltCps (S y).cps.toList (S p).cps.toList = decide (y < p) := by
        simp only [S]
        exact ltCps_eq y p
      rw [e] at this
      simp at this
      exact this
    rw [List.pairwise_cons]
    refine ⟨fun z hz => ?_, ih⟩
    rcases List.mem_cons.mp hz with rfl | hz
    · exact hpy
    · exact List.le_trans hpy ((List.pairwise_cons.mp ih).1 z hz)
theorem sorted_up {ys : List (List Nat)} (h : sortedS (ys.map S) = true) : ys.Pairwise (· ≤ ·) := by
  cases ys with
  | nil => exact .nil
  | cons y ys => exact rising_up ys y h
def sortKD : D → Option D
  | .dct kvs => if kvs.length < 64 then some (.lst ((sortKeys (kvs.map (·.1))).map D.str)) else none
  | _ => none
def sortKG : List D → Option D
  | [d] => sortKD d
  | _ => none
theorem c_sortD (hc : X.calm = true) : CallR X (.builtin "sorted") (rDA X.K sortKG) := fun pins s σ H xs us Q I r h => call_sortedD hc pins s σ H xs us Q I r (by
  obtain ⟨Hb, ds, d, sm, il, eg, k⟩ := h
  unfold sortKG at eg
  split at eg
  · rename_i d0
    unfold sortKD at eg
    split at eg
    · rename_i kvs
      obtain ⟨hl, rfl⟩ := iteS eg
      obtain ⟨v, rfl, iv⟩ := isl1 il
      simp only [Is] at iv
      obtain ⟨a, ks, rfl, ⟨o, ho⟩, hk⟩ := iv
      refine ⟨a, ks, (kvs.map (·.1)).map S, rfl, .inr ⟨o, sm _ _ ho⟩, ?_, by simpa using hl, fun ys p hp hs hn => ?_⟩
      · rw [isK_keys hk, List.map_map, List.map_map]
        rfl
      · have hys : ys = (ys.map fun z => z.cps.toList).map S := by
          rw [List.map_map]
          conv => lhs; rw [← List.map_id ys]
          exact List.map_congr_left fun z _ => (S_of z).symm
        have hperm : (ys.map fun z => z.cps.toList).Perm (kvs.map (·.1)) := by
          have := hp.map fun z : Str => z.cps.toList
          rw [List.map_map] at this
          have e : (kvs.map (·.1)).map ((fun z : Str => z.cps.toList) ∘ S) = kvs.map (·.1) := by
            conv => rhs; rw [← List.map_id (kvs.map (·.1))]
            exact List.map_congr_left fun z _ => by simp [S]
          rw [e] at this
          exact this
        generalize hz : ys.map (fun z => z.cps.toList) = zs at *
        have hup : zs.Pairwise (· ≤ ·) := sorted_up (by rw [← hys]; exact hs)
        rw [sortKeys_of hperm hup] at k
        refine k _ _ _ (Step.new sm hn (o := .lst (ys.map V.str))) (is_lst_new (sm.free hn) ?_)
        rw [hys]
        exact of_strs zs
    · cases eg
  · cases eg)
/-! ### x.append(v) of a list of the store; the list told as a plain one -/
def wLApp (O V' : WE) : WE := ⟨fun env st K E => O.run env st (fun d s => ∃ a, d = .adr a ∧ (∃ ds, s a = some (.lst ds)) ∧ V'.run env s (fun y s2 => ∃ ds, s2 a = some (.lst ds) ∧ ds.length < 1000000 ∧ K .non (s2.put a (.lst (ds ++ [y])))) E) E,
  fun h h' x => O.mono (fun _ _ ⟨a, e, w, y⟩ => ⟨a, e, w, V'.mono (fun _ _ ⟨ds, e1, e2, k⟩ => ⟨ds, e1, e2, h _ _ k⟩) h' y⟩) h' x⟩
theorem wp_lapp (ho : PE X o (tWE X.K Z W O)) (he : PE X e (tWE X.K Z W V')) (hbase : attributeBase o "append" X.env (eval o X.env) = eval o X.env := by rfl)
    (hfew : ((backTo pos (starEach [e] X.env)).all (fun x => !x.1) && (backToKw pos (keywordEach [] X.env)).all (fun x => x.1.isSome)
      && decide (([e] : List Expr).length + ([] : List Keyword).length + (if ([] : List Keyword).isEmpty then 0 else 1) < 30)) = true := by rfl)
    (hline : (apos.endLine == pos.line) = true := by rfl) (hs : starEach [e] X.env = (false, eval e X.env) :: starEach [] X.env := by rfl) (hplain : (backTo pos (starEach [] X.env)).any (·.1) = false := by rfl) :
    PE X (.Call (.Attribute o "append" apos) [e] [] pos) (tWE X.K Z W (wLApp O V')) := PE_weak (pe_bm PySem.F.plainAttrs_list PySem.F.slot_list_append PySem.F.type_list_append mt_append ho (wa_cons (Ms := wNil) he wa_nil hs) hbase hfew hline hs hplain) fun σ H Q hh => by
  obtain ⟨Hb, env, st, r, rs, q⟩ := hh
  refine ⟨Hb, env, st, r, rs, O.mono (fun d s1 q v Hb1 H1 s rs1 iv => ?_) (fun _ _ h => h) q⟩
  obtain ⟨q, rfl, ⟨ds0, hk0⟩, k⟩ := q
  have hv := adr_is iv
  subst hv
  obtain ⟨_, vs0, g1, _⟩ := rs1.cell q _ hk0
  refine ⟨.inl ⟨rfl, vs0, SqL.of g1⟩, Hb1, env, s1, r.mono s.b, rs1, V'.mono (fun y s2 q2 => ⟨[], rfl, fun us Hb2 H2 t rs2 iu => ?_⟩) (fun c s2 k Hb2 H2 t rs2 => k Hb2 H2 (s.trans t) rs2) k⟩
  obtain ⟨ds, e3, hlen, k⟩ := q2
  obtain ⟨u, rfl, iu2⟩ := isl1 iu
  obtain ⟨_, vs, h1, h2⟩ := rs2.cell q _ e3
  obtain ⟨y1, y2⟩ := rs2.write (ob := .lst (vs ++ [u])) (x' := .lst (ds ++ [y])) e3 ⟨_, upd_same, h2.append (by simp only [IsL]; exact ⟨_, _, rfl, iu2, rfl⟩)⟩
  exact ⟨q, vs, u, rfl, rfl, h1, by rw [h2.length]; exact Nat.lt_of_lt_of_le hlen size1000, k .non Hb2 _ (s.trans (t.trans y2)) y1 (by simp only [Is])⟩
def wFrzL (i : Nat) : WS := ⟨fun env st N => ∃ a ds, env[i]? = some (some (.adr a)) ∧ st a = some (.lst ds) ∧ N.nx (env.set i (some (.lst ds))) (st.del a), fun h ⟨a, ds, e1, e2, k⟩ => ⟨a, ds, e1, e2, h.nx _ _ k⟩⟩
theorem wss_frzL (i : Nat) (h : PSs X sts (tWS X.K Z W F)) : PSs X sts (tWS X.K Z W (wSeq (wFrzL i) F)) := ⟨fun pins s σ H N I h' => by
  obtain ⟨Hb0, H0, st0, Hb, env, st, r, rs, sp, a, ds, e1, e2, k⟩ := h'
  obtain ⟨Hb1, r1, s1, i1⟩ := rs.frzL e2
  have hlt := (List.getElem?_eq_some_iff.mp e1).1
  obtain ⟨w, hσ, hw⟩ := r.val i _ e1
  have hw := adr_is hw
  subst hw
  refine h.run pins s σ H N I ⟨Hb0, H0, st0, Hb1, _, _, ⟨by rw [List.length_set]; exact r.len, fun j d q => ?_⟩, r1, sp.trans s1, k⟩
  by_cases hj : i = j
  · subst hj
    rw [List.getElem?_set_self hlt] at q
    cases q
    exact ⟨_, hσ, i1⟩
  · rw [List.getElem?_set_ne hj] at q
    obtain ⟨v, b1, b2⟩ := r.val j d q
    exact ⟨v, b1, b2.mono s1.b⟩⟩
end
end Dn
set_option Elab.async false
set_option linter.all false
set_option maxRecDepth 100000
/-! Part W: dict(pairs) as a dict of the store; it told as a plain one; loops over items; sorted items. -/
namespace Dn
open PySem L2 PySem.Spec PyProof.Rows
section
variable {X : Cx} {Z : Wd} {W : Dn.WX} {a b e f o i value : Expr} {es : List Expr} {pos apos cpos pos' p tpos : Pos} {A B V' O : WE} {Ms : WA} {F : WS} {sts : List Stmt}
/-! ### dict([..]) -/
def keysNd (kvs : List (List Nat × D)) : Prop := (kvs.map Prod.fst).Nodup
def wDictE (f : En → Option D) : WE := ⟨fun env st K _ => ∃ (ds : List D) (kvs : List (List Nat × D)), f env = some (.lst ds) ∧ pairsOf ds = some kvs ∧ keysNd kvs ∧ ∀ a, st a = none → K (.adr a) (st.put a (.dct kvs)), fun h _ ⟨ds, kvs, e1, e2, e3, k⟩ => ⟨ds, kvs, e1, e2, e3, fun a n => h _ _ (k a n)⟩⟩
theorem wp_dictE {f : En → Option D} (hc : X.calm = true) (hm : X.mg "dict" = none) (ha : PE X e (tD X.K f)) (hg : Gl X "dict" := by rfl) (na : starEach [e] X.env = (false, eval e X.env) :: starEach [] X.env := by rfl) :
    PE X (.Call (.Name "dict" p) [e] [] pos) (tWE X.K Z W (wDictE f)) := PE_weak (pe_callTy (call_dictP hc) hg hm (by decide +kernel) (pa_cons ha pa_nil na) (he := na)) fun σ H Q hh => by
  obtain ⟨Hb, env, st, r, rs, ds, kvs, ef, ek, hn, k⟩ := hh
  refine ⟨H, env, Hb, .lst ds, r.rel H H, rs.c, ef, fun v Hb1 H1 s1 iv => ?_⟩
  obtain ⟨x1, x2⟩ := s1.w rs
  simp only [Is] at iv
  obtain ⟨p, vs, rfl, hx, lx⟩ := iv
  obtain ⟨ts, ks, rfl, hp, ik⟩ := pairs_is ek lx
  have hm : mergeK [] ks = ks := by
    have := merge_nodup ks [] (by simpa using isK_nodup ik hn)
    simpa using this
  refine ⟨p, ts, ks, rfl, .inl (.inl (s1.c _ _ hx)), Paired.mapP hp fun _ _ z => sq_mono s1.c z, fun c hcn => ?_⟩
  rw [hm]
  obtain ⟨y1, y2⟩ := x2.new (ob := .dK ks) (x := .dct kvs) hcn ⟨ks, upd_same, ik⟩
  exact k c (x2.free hcn) _ _ _ (x1.trans y2) y1 (by simp only [Is])
/-! ### a dict of the store told as a plain one -/
theorem RelSt.frzD {K : PySem.W.Frag} {Hb H : Hp} {st : Sto} (r : RelSt K Z Hb H st) {a : Addr} {kvs : List (List Nat × D)} (h : st a = some (.dct kvs)) :
    ∃ ks, H a = some (.dK ks) ∧ ∀ o, RelSt K Z (upd Hb a (.frz o (.dK ks))) (upd H a (.frz o (.dK ks))) (st.del a) ∧ StepW Hb H st (upd Hb a (.frz o (.dK ks))) (upd H a (.frz o (.dK ks))) (st.del a) ∧ Is K (upd Hb a (.frz o (.dK ks))) (.dct kvs) (.ref a) := by
  obtain ⟨hb, ks, h1, h2⟩ := r.cell a _ h
  refine ⟨ks, h1, fun o => ?_⟩
  have sm : Same Hb (upd Hb a (.frz o (.dK ks))) := same_new hb
  have hka := (r.cell a _ h).2.kind
  refine ⟨⟨same_upd2 r.c, fun z c hz => ?_, tabs_write r.tabs hka.1 hka.2, r.nt.upd (by intro _ e; cases e)⟩, ⟨sm, fun z ob hz nb ns nt => ?_⟩, ?_⟩
  · by_cases hza : z = a
    · rw [hza, Sto.del_same] at hz
      cases hz
    · rw [Sto.del_ne hza] at hz
      obtain ⟨g1, g2⟩ := r.cell z c hz
      exact ⟨by rw [upd_ne hza]; exact g1, g2.keep (fun o e => by rw [upd_ne hza]; exact e) sm⟩
  · have hza : z ≠ a := fun e => by
      rw [e, h] at ns
      cases ns
    exact ⟨by rw [upd_ne hza]; exact hz, by rw [upd_ne hza]; exact nb, by rw [Sto.del_ne hza]; exact ns⟩
  · simp only [Is]
    exact ⟨a, ks, rfl, ⟨o, upd_same⟩, h2.mono sm⟩
def wFrzE (A : WE) : WE := ⟨fun env st K E => A.run env st (fun d s => ∃ a kvs, d = .adr a ∧ s a = some (.dct kvs) ∧ K (.dct kvs) (s.del a)) E, fun h h' x => A.mono (fun _ _ ⟨a, kvs, e1, e2, k⟩ => ⟨a, kvs, e1, e2, h _ _ k⟩) h' x⟩
theorem wp_frzE (h : PE X e (tWE X.K Z W A)) : PE X e (tWE X.K Z W (wFrzE A)) := ⟨fun pins s σ H Q I hh => by
  obtain ⟨Hb, env, st, r, rs, m⟩ := hh
  refine thn (h.run pins s σ H (fun v H1 => ∃ Hb1 st1 a kvs, v = .ref a ∧ RelSt X.K Z Hb1 H1 st1 ∧ StepW Hb H st Hb1 H1 st1 ∧ st1 a = some (.dct kvs) ∧ (∀ v Hb' H', StepW Hb H st Hb' H' (st1.del a) → RelSt X.K Z Hb' H' (st1.del a) → Is X.K Hb' (.dct kvs) v → Q v H')) I ⟨Hb, env, st, r, rs, A.mono (fun d s1 q v Hb1 H1 s rs1 iv => ?_) (fun _ _ h => h) m⟩) fun u s1 hz => ?_
  · obtain ⟨a, kvs, rfl, e2, k⟩ := q
    exact ⟨Hb1, s1, a, kvs, adr_is iv, rs1, s, e2, k⟩
  · obtain ⟨x, H1, I1, rx, Hb1, st1, a, kvs, rfl, rs1, sp1, e2, k⟩ := hz
    obtain ⟨ks, h1, z⟩ := rs1.frzD e2
    obtain ⟨od, I2⟩ := I1.lock h1 (by trivial)
    obtain ⟨z1, z2, z3⟩ := z od
    exact ⟨.ref a, _, I2, rx, k _ _ _ (sp1.trans z2) z1 z3⟩⟩
/-! ### for .. in d.items() -/
def itmsD (kvs : List (List Nat × D)) : List D := kvs.map fun q => .wk [.str q.1, q.2]
theorem isK_get {K : PySem.W.Frag} {H : Hp} : ∀ {kvs : List (List Nat × D)} {ks : List (Key × V)}, IsK K H kvs ks → ∀ {i : Nat} {q : List Nat × D}, kvs[i]? = some q → ∃ v, ks[i]? = some (Sum.inr (S q.1), v) ∧ Is K H q.2 v
  | [], _, h, i, q, e => by simp at e
  | (k, d) :: kvs, ks, h, i, q, e => by
    simp only [IsK] at h
    obtain ⟨v, r, rfl, h1, h2⟩ := h
    cases i with
    | zero =>
      have : (k, d) = q := by simpa using e
      subst this
      exact ⟨v, rfl, h1⟩
    | succ i => exact isK_get h2 (by simpa using e)
theorem walk_i {K : PySem.W.Frag} {a : Addr} {ob : Obj} {kvs : List (List Nat × D)} {ks : List (Key × V)} {Hb : Hp} (h : Hb a = some (.frz ob (.dK ks))) (hk : IsK K Hb kvs ks) : WalkD K (Iti a ob ks) (itmsD kvs) Hb := fun Hb1 H1 s1 s2 => by
  have hl := isK_len hk
  refine ⟨fun i d e => ?_, ⟨s2 _ _ (s1 _ _ h), by rw [hl]; unfold itmsD; rw [List.length_map]; exact Nat.le_refl _⟩⟩
  unfold itmsD at e
  rw [List.getElem?_map, Option.map_eq_some_iff] at e
  obtain ⟨q, e1, rfl⟩ := e
  obtain ⟨v, e2, iv⟩ := isK_get hk e1
  refine ⟨⟨s2 _ _ (s1 _ _ h), (List.getElem?_eq_some_iff.mp e2).1⟩, fun x H' hy => ?_⟩
  obtain ⟨T, k, v', e3, rfl, hT, rfl⟩ := hy
  rw [e2] at e3
  cases e3
  refine ⟨_, Step.new s2 hT, is_wk_new (s2.free hT) ?_⟩
  simp only [IsL, Is]
  exact ⟨_, _, rfl, rfl, _, _, rfl, iv.mono s1, rfl⟩
def wForI (A : WE) (g : D → En → Option En) (B : WS) : WS := ⟨fun env st N => A.run env st (fun d s => ∃ kvs, d = .dct kvs ∧ forW g B (itmsD kvs) env s N) N.ex, fun h x => A.mono (fun _ _ ⟨ds, e, q⟩ => ⟨ds, e, forW_mono h q⟩) h.ex x⟩
theorem ws_forI {elts : List Expr} {kk : Nat} {ts : List Nat} {g : D → En → Option En} {body : List Stmt} (hp : PassesOwn (model X.prog X.w) X.A X.env X.xe) (hc : X.calm = true) (hi : PE X e (tWE X.K Z W A)) (hg : PG X (.Tuple elts kk tpos) (tG X.K ts g)) (hb : PSs X body (tWS X.K Z W F))
    (hbase : attributeBase e "items" X.env (eval e X.env) = eval e X.env := by rfl) (hline : (apos.endLine == cpos.line) = true := by rfl)
    (hs : ∀ x, foldedSetIterable (.Call (.Attribute e "items" apos) [] [] cpos) X.env x = pure x := by intro _; rfl) : PS X (.For (.Tuple elts kk tpos) (.Call (.Attribute e "items" apos) [] [] cpos) body [] pos) (tWS X.K Z W (wForI A g F)) := PS_weak (ps_for hp hc (pi_items hi hbase hline) hg hb hs) fun N σ H h => by
  obtain ⟨Hb0, H0, st0, Hb, env, st, r, rs, sp, m⟩ := h
  refine ⟨Hb, env, st, r, rs, A.mono (fun d s1 q v Hb1 H1 x1 x2 iv => ?_) (fun c s1 k Hb1 H1 s rs1 => k σ Hb1 H1 rs1 (sp.trans s)) m⟩
  obtain ⟨kvs, rfl, m⟩ := q
  simp only [Is] at iv
  obtain ⟨pl, ks, rfl, ⟨ob, hx⟩, lx⟩ := iv
  refine ⟨pl, ob, ks, rfl, x2.c _ _ hx, ?_⟩
  have wk := walk_i hx lx
  generalize itmsD kvs = ds at *
  refine ⟨fun i n σ' H' => ∃ Hb' env' st', Rel0 X.K Hb' σ' env' ∧ RelSt X.K Z Hb' H' st' ∧ StepW Hb0 H0 st0 Hb' H' st' ∧ Same Hb1 Hb' ∧ i + n = ds.length ∧ forW g F (ds.drop i) env' st' (liftN X.K Z W Hb0 H0 st0 N), ⟨ds.length, Hb1, env, s1, r.mono x1.b, x2, sp.trans x1, Same.refl _, by omega, m⟩, fun i n σ2 H2 hW => ?_⟩
  obtain ⟨Hb2, e2, st2, r2, rs2, sp2, sm2, im, q2⟩ := hW
  obtain ⟨wi, ws⟩ := wk Hb2 H2 sm2 rs2.c
  by_cases hn : n = 0
  · subst hn
    have hi : i = ds.length := by omega
    subst hi
    rw [List.drop_length] at q2
    exact .inl ⟨ws, q2 σ2 Hb2 H2 r2 rs2 sp2⟩
  · have hi : i < ds.length := by omega
    obtain ⟨go, yld⟩ := wi i ds[i] (List.getElem?_eq_getElem hi)
    rw [List.drop_eq_getElem_cons hi] at q2
    obtain ⟨e3, eg, q2⟩ := q2
    refine .inr ⟨go, fun σ' H' => ∃ Hb' env' st', Rel0 X.K Hb' σ' env' ∧ RelSt X.K Z Hb' H' st' ∧ StepW Hb0 H0 st0 Hb' H' st' ∧ Same Hb1 Hb' ∧ forW g F (ds.drop (i + 1)) env' st' (liftN X.K Z W Hb0 H0 st0 N), fun σ' H' hN => ?_, fun x H' hy => ?_⟩
    · obtain ⟨Hb', e', s', a1, a2, a3, a4, a5⟩ := hN
      exact ⟨n - 1, by omega, Hb', e', s', a1, a2, a3, a4, by omega, a5⟩
    · obtain ⟨Hb3, s3, iv⟩ := yld x H' hy
      obtain ⟨y1, y2⟩ := s3.w rs2
      refine ⟨full, Hb3, e2, ds[i], e3, (r2.mono s3.b).rel full H', s3.c, iv, eg, fun σ' r' _ => ⟨Hb3, H', st2, Hb3, e3, st2, r'.rel0, y2, StepW.refl, F.imp q2 ?_⟩⟩
      have sp3 := sp2.trans y1
      have sm3 := sm2.trans s3.b
      exact ⟨fun e s k σ' Hb' H'' r' rs' sp' => ⟨Hb', e, s, r', rs', sp3.trans sp', sm3.trans sp'.b, k⟩, fun d s k v Hb' H'' rs' sp' iv => k v Hb' H'' rs' (sp3.trans sp') iv, fun e s k σ' Hb' H'' r' rs' sp' => k σ' Hb' H'' r' rs' (sp3.trans sp'),
        fun e s k σ' Hb' H'' r' rs' sp' => ⟨Hb', e, s, r', rs', sp3.trans sp', sm3.trans sp'.b, k⟩, fun c s k σ' Hb' H'' rs' sp' => k σ' Hb' H'' rs' (sp3.trans sp')⟩
end
/-! ### sorted(d.items()) -/
section
variable {prog : Program} {w : World} {A : Around} {E : Value → Shared → Prop} {s : Shared}
open PySem.W in
theorem sorted_items {K' : Type} [DecidableEq K'] {knd : KeyKind prog w K'} {β : Type} {enc : β → PyData} {r d : Addr} {kvs : List (K' × Value)} {ep : Nat} {Q : Value → Shared → Prop} (hh : A.handled = none) (hv : s.heap.IsItemsView r d) (hm : s.heap.DictAt knd d kvs ep) (hn : kvs.length ≤ sizeLine)
    (h : ∀ (h' : Heap) (tk : Nat) (as : List Addr), (∀ b o, s.heap.get? b = some o → h'.get? b = some o) → as.length = kvs.length → KdxG knd kvs s.heap.objs.size h' as →
      ∃ (R : Value → β → Prop) (bs : List β), EachIs R (as.map Value.ref) bs ∧ EachIs (fun v b => ∃ x, Reads h' v (enc b) x) (as.map Value.ref) bs ∧ AllAlike (bs.map enc) ∧ Sortable (bs.map enc) ∧ (∀ b ∈ bs, A.units + 2 + (enc b).depth < cLine) ∧
        ∀ out : List Value, out.length = bs.length → EachIs R out (bs.mergeSort (dataLe false enc)) → ∀ (h2 : Heap) (p : Addr) (e : Nat), (∀ b o, h'.get? b = some o → h2.get? b = some o) → h'.objs.size ≤ p → h2.get? p = some (seqObj "list" out.toArray e) → Q (.ref p) { s with heap := h2, toks := tk }) :
    wpAny (model prog w) A (call (.builtin "sorted") [.ref r]) Q E s := by
  refine Calls.call_function_entry kind_sorted plain_sorted entry_sorted (args_sorted1 _) ?_
  unfold Builtin.«sorted»
  refine wpAny_bind (m := checkCount "sorted" 1 1 _) (wpAny_pure ?_)
  refine wpAny_bind (kdx_collect (A := A.in1) (knd := knd) (kvs := kvs) (ep := ep) hh hv hm hn fun h' tk as hk hl hG => ?_)
  obtain ⟨R, bs, e1, e2, e3, e4, e5, k⟩ := h h' tk as hk hl hG
  have hL : (as.map Value.ref).length ≤ sizeLine := by rw [List.length_map, hl]; exact hn
  refine wpAny_bind (wpAny_newList ?_ hL)
  show wpAny _ _ _ _ _ { s with heap := h'.push (seqObj "list" (as.map Value.ref).toArray 0), toks := tk }
  generalize as.map Value.ref = vs at *
  have hat : (h'.push (seqObj "list" vs.toArray 0)).get? h'.objs.size = some (seqObj "list" vs.toArray 0) := Heap.get?_push_size _ rfl
  refine wpAny_bind (wpAny_holding (wpAny_call_entry slot_list_sort ⟨_, hat, rfl⟩ entry_list_sort ?body (args_list_sort _)))
  case body =>
    show wpAny (model prog w) A.in1.in1 (Builtin.«list.sort» ⟨[.ref h'.objs.size], []⟩) _ _ _
    have er' : EachIs (fun v b => ∃ x, Reads (sortingHeap (h'.push (seqObj "list" vs.toArray 0)) h'.objs.size vs) v (enc b) x) vs bs := e2.mono fun _ _ ⟨x, r⟩ => ⟨x, PyProof.Rows.Reads.keeps (fun b o e => sortingHeap_old (Nat.ne_of_lt (Heap.lt_size e)) (Heap.get?_push_of_some _ e)) r⟩
    have S := SortsAt.data (prog := prog) (w := w) (A := A.in1.in1) (s := { s with heap := sortingHeap (h'.push (seqObj "list" vs.toArray 0)) h'.objs.size vs, toks := tk }) (each_map (R := fun v d => ∃ x, Reads (sortingHeap (h'.push (seqObj "list" vs.toArray 0)) h'.objs.size vs) v d x) enc er') e3 e4 (bound_map e5)
    refine list_sort_vals (s := { s with heap := h'.push (seqObj "list" vs.toArray 0), toks := tk }) hat S hL ?_
    exact ⟨_, rfl, wpAny_pure ⟨_, rfl, k _ (by rw [sortVals_length false rfl]; exact e1.length) (sortVals_data false e1 er' e3) _ _ _ (fun b o q => by
      rw [PyProof.Rows.sortedHeap_old (Nat.ne_of_lt (Heap.lt_size q)) (Heap.lt_size (Heap.get?_push_of_some _ q))]
      exact Heap.get?_push_of_some _ q) (Nat.le_refl _) (PyProof.Rows.sortedHeap_at hat).choose_spec⟩⟩
end
/-- new tuples, laid at once -/
def putF (g : Addr → Obj) : Hp → List Addr → List (Key × V) → Hp
  | H, a :: as, p :: kvs => putF g (upd H a (.frz (g a) (.tup [kV p.1, p.2]))) as kvs
  | H, _, _ => H
theorem putF_off {g : Addr → Obj} {b : Addr} : ∀ (as : List Addr) (kvs : List (Key × V)) (H : Hp), b ∉ as → putF g H as kvs b = H b
  | [], _, _, _ => rfl
  | _ :: _, [], _, _ => rfl
  | a :: as, p :: kvs, H, h => by
    show putF g (upd H a (.frz (g a) (.tup [kV p.1, p.2]))) as kvs b = H b
    rw [putF_off as kvs _ (fun z => h (List.mem_cons_of_mem _ z)), upd_ne (fun z => h (by rw [z]; exact List.mem_cons_self))]
theorem putF_at {g : Addr → Obj} : ∀ (as : List Addr) (kvs : List (Key × V)) (H : Hp), as.length = kvs.length → as.Nodup → Paired (fun (t : Addr) (p : Key × V) => putF g H as kvs t = some (.frz (g t) (.tup [kV p.1, p.2]))) as kvs
  | [], [], _, _, _ => .nil
  | [], _ :: _, _, h, _ => by cases h
  | _ :: _, [], _, h, _ => by cases h
  | a :: as, p :: kvs, H, h, hn => by
    have hn' := List.nodup_cons.mp hn
    have ih := putF_at (g := g) as kvs (upd H a (.frz (g a) (.tup [kV p.1, p.2]))) (Nat.succ.inj h) hn'.2
    refine .cons ?_ ih
    show putF g (upd H a (.frz (g a) (.tup [kV p.1, p.2]))) as kvs a = some (.frz (g a) (.tup [kV p.1, p.2]))
    rw [putF_off as kvs _ hn'.1, upd_same]
theorem putF_step {g : Addr → Obj} : ∀ (as : List Addr) (kvs : List (Key × V)) {Hb H : Hp}, Same Hb H → (∀ a ∈ as, H a = none) → as.Nodup → Step Hb H (putF g Hb as kvs) (putF g H as kvs)
  | [], _, _, _, h, _, _ => Step.refl h
  | _ :: _, [], _, _, h, _, _ => Step.refl h
  | a :: as, p :: kvs, Hb, H, h, hf, hn => by
    have hn' := List.nodup_cons.mp hn
    have s1 : Step Hb H (upd Hb a (.frz (g a) (.tup [kV p.1, p.2]))) (upd H a (.frz (g a) (.tup [kV p.1, p.2]))) := Step.new h (hf a List.mem_cons_self)
    refine s1.trans (putF_step as kvs s1.c (fun b hb => ?_) hn'.2)
    rw [upd_ne (fun e => hn'.1 (by rw [← e]; exact hb))]
    exact hf b (List.mem_cons_of_mem _ hb)
def pairD (q : List Nat × D) : D := .tup [.str q.1, q.2]
theorem putF_is {K : PySem.W.Frag} {H : Hp} {g : Addr → Obj} : ∀ {as : List Addr} {kvs : List (List Nat × D)} {ks : List (Key × V)}, (∀ a ∈ as, (g a).dict = none) → Paired (fun (t : Addr) (p : Key × V) => H t = some (.frz (g t) (.tup [kV p.1, p.2]))) as ks → IsK K H kvs ks → IsL K H (kvs.map pairD) (as.map V.ref)
  | _, [], _, hg, hp, h => by
    simp only [IsK] at h
    subst h
    cases hp
    simp only [List.map_nil, IsL]
  | _, (k, d) :: kvs, _, hg, hp, h => by
    simp only [IsK] at h
    obtain ⟨v, r, rfl, h1, h2⟩ := h
    cases hp with
    | cons e t =>
      simp only [List.map_cons, IsL]
      refine ⟨_, _, rfl, ?_, putF_is (fun a ha => hg a (List.mem_cons_of_mem _ ha)) t h2⟩
      unfold pairD
      simp only [Is, IsL]
      exact ⟨_, _, rfl, .inl ⟨_, hg _ List.mem_cons_self, e⟩, _, _, rfl, rfl, _, _, rfl, h1, rfl⟩
section
variable {X : Cx} {e : Expr} {pos apos cpos p : Pos} {f : En → Option D}
theorem items_laidF {pins : List (Addr × Obj)} {σ : L2.St} {H : Hp} {s : Shared} {h' : Heap} {tk : Nat} {kvs : List (Key × V)} {vs : List (Key × Value)} {lo : Nat} {as : List Addr} (I : Inv X pins σ H s) (kv : KV kvs vs)
    (hlo : s.heap.objs.size ≤ lo) (hk : ∀ b o, s.heap.get? b = some o → h'.get? b = some o) (hl : as.length = vs.length) (hG : PySem.W.KdxG (mixKind X.prog X.w) vs lo h' as) :
    ∃ g : Addr → Obj, (∀ a ∈ as, (g a).dict = none) ∧ (∀ t ∈ as, H t = none) ∧ as.Nodup ∧ as.length = kvs.length ∧ Inv X pins σ (putF g H as kvs) { s with heap := h', toks := tk } := by
  have lk : kvs.length = vs.length := Paired.length kv
  have nd : as.Nodup := List.Pairwise.imp (fun {a b} (h : a < b) => Nat.ne_of_lt h) hG.rise
  have new : ∀ t ∈ as, H t = none := fun t ht => I.hok.fresh (Nat.le_trans hlo (Nat.le_of_lt (hG.above t ht)))
  refine ⟨fun a => (h'.get? a).getD { cls := .none, data := .seq #[] }, fun a ha => ?_, new, nd, by omega, ?_⟩
  · obtain ⟨j, hj⟩ := List.mem_iff_getElem?.mp ha
    obtain ⟨key, k, x, f1, f2, f3⟩ := hG.pairs j a hj
    show ((h'.get? a).getD _).dict = none
    rw [f3]
    rfl
  generalize hg : (fun a => (h'.get? a).getD { cls := .none, data := .seq #[] }) = g
  have atP := putF_at (g := g) as kvs H (by omega) nd
  have off : ∀ b, b ∉ as → putF g H as kvs b = H b := fun b h1 => putF_off as kvs _ h1
  have low : ∀ b o, s.heap.get? b = some o → b ∉ as := fun b o e z => absurd (Heap.lt_size e) (Nat.not_lt.mpr (Nat.le_trans hlo (Nat.le_of_lt (hG.above b z))))
  have kp : ∀ b u, H b = some u → (putF g H as kvs) b = some u := fun b u e => by
    rw [off b (fun z => by rw [new b z] at e; cases e)]
    exact e
  refine I.call' (ch := []) rfl ⟨fun b o q _ _ _ => hk b o q, fun b o q _ _ _ => ⟨o.slots, hk b o q⟩, fun b o q n _ => ?_, fun b o q _ => ⟨o, hk b o q⟩, fun b xs q => kp b _ q, fun b o u q => kp b _ q, fun b ps q => ⟨#[], by rw [kp b _ q]; simp⟩⟩ (fun b u q => ?_) I.bare fun b z => by simp at z
  · rw [off b (low b o q)]
    exact n
  · by_cases hb : b ∈ as
    · obtain ⟨j, pk, e1, e2, e3⟩ := LiI.paired_ix atP hb
      rw [e3] at q
      cases q
      obtain ⟨key, k, x, f1, f2, f3⟩ := hG.pairs j b e1
      obtain ⟨qv, g1, g2, g3⟩ := LiI.paired_get kv e2
      rw [f1] at g1
      cases g1
      have rk : RelV (kV pk.1) key := by
        rw [g2]
        exact relV_key (show keyIs k key = true from f2)
      have hgb : g b = { cls := .type "tuple", data := .seq #[key, x] } := by
        rw [← hg]
        show (h'.get? b).getD _ = _
        rw [f3]
        rfl
      exact ⟨by rw [hgb]; exact f3, by show 2 ≤ sizeLine; decide, [key, x], .cons rk (.cons g3 .nil), ⟨_, f3, rfl, _, rfl⟩⟩
    · rw [off b hb] at q
      exact (I.hok b u q).stay (fun d v _ y => hk d v y) (fun d y => kp d _ y) fun d xs y => kp d _ y
def sortItD : D → Option D
  | .dct kvs => if srtOk (kvs.map pairD) = true then some (.lst ((kvs.map pairD).mergeSort leP)) else none
  | _ => none
open PySem.W (EachIs AllAlike Sortable) in
theorem e_sitems (hu : X.A.units + 64 < cLine) (hc : X.calm = true) (hm : X.mg "sorted" = none) (he : PE X e (tD X.K f)) (hg : Gl X "sorted" := by rfl) (hbase : attributeBase e "items" X.env (eval e X.env) = eval e X.env := by rfl) (hline : (apos.endLine == cpos.line) = true := by rfl)
    (hs : starEach [.Call (.Attribute e "items" apos) [] [] cpos] X.env = (false, eval (.Call (.Attribute e "items" apos) [] [] cpos) X.env) :: starEach [] X.env := by rfl) :
    PE X (.Call (.Name "sorted" p) [.Call (.Attribute e "items" apos) [] [] cpos] [] pos) (tD X.K (f1 sortItD f)) := by
  refine ⟨fun pins s σ H Q I hq => ?_⟩
  obtain ⟨H0, env, Hb, d, r, sm, ef, q⟩ := hq
  obtain ⟨da, ea, eg⟩ := bind1 ef
  refine wpAny_Call_Name_kw (ld_blt I hg hm (show bootBuiltins "sorted" = some (.builtin "sorted") by decide +kernel) ?_)
  refine PyProof.Rows.callWith_builtin1 ?_ hs rfl
  rw [hs]
  show wpAny _ _ (spliced ((false, eval (.Call (.Attribute e "items" apos) [] [] cpos) X.env) :: backTo pos (starEach [] X.env))) _ _ s
  refine Calls.spliced_cons ?_
  refine wpAny_Call_method (T := "dict") (id := "dict.items") hbase rfl hline F.plainAttrs_dict F.slot_dict_items F.type_dict_items (thn (he.run pins s σ H (fun v H1 => ∃ Hb1, Step Hb H Hb1 H1 ∧ Is X.K Hb1 da v) I ⟨H0, env, Hb, da, r, sm, ea, fun v Hb1 H1 s1 iv => ⟨Hb1, s1, iv⟩⟩) fun u s1 ⟨x, H1, I1, rx, Hb1, st1, iv⟩ => ?_)
  unfold sortItD at eg
  split at eg
  · rename_i kvs _
    obtain ⟨ok, rfl⟩ := iteS eg
    simp only [Is] at iv
    obtain ⟨dd, ks, rfl, ⟨ob, hd⟩, hk⟩ := iv
    obtain rfl : u = Value.ref dd := rx
    have hd1 := st1.c _ _ hd
    have hlen : ks.length ≤ sizeLine := (I1.hok dd _ hd1).2.1
    obtain ⟨hs', hgd, hx, es, ep, vs, hdt, hsz, kv, hm'⟩ := I1.frzK hd1
    have lk : ks.length = vs.length := Paired.length kv
    have I2 : Inv X pins σ H1 { s1 with heap := s1.heap.push { cls := .type "dict_items", data := .fields #[.ref dd] } } := I1.kept (t' := s1.toks) fun b ob q => Heap.get?_push_of_some _ q
    refine ⟨hm'.dictOf.typeIs, hm'.dictOf.mapOf.noDict, ?_⟩
    show wpAny _ _ (callWith cpos (.builtin "dict.items") [.ref dd] [] []) _ X.xe s1
    refine method_meetsIn F.slot_dict_items F.entry_dict_items rfl (PySem.evalArgs_none ⟨rfl, hm'.dictOf.typeIs, F.args_dict_items_1 _, _, meets_dict_items (mixKind X.prog X.w) dd hs', ⟨vs, hm'.dictOf⟩, ?_⟩)
    refine Calls.spliced_nil ?_
    refine sorted_items (knd := mixKind X.prog X.w) (kvs := vs) (ep := ep) (enc := fun b : V × D => toP b.2) (I1.ok.hd hc) ⟨_, Heap.get?_push_size _ rfl, rfl, rfl⟩ (hm'.push _) (by omega) fun h' tk as hk2 hl hG => ?_
    obtain ⟨g, g1, g2, g3, g4, I3⟩ := items_laidF (tk := tk) I2 kv (Nat.le_refl _) hk2 hl hG
    have sp : Step Hb1 H1 (putF g Hb1 as ks) (putF g H1 as ks) := putF_step as ks st1.c g2 g3
    have lx : IsL X.K (putF g Hb1 as ks) (kvs.map pairD) (as.map V.ref) := putF_is g1 (putF_at as ks Hb1 g4 g3) (hk.mono sp.b)
    have rv : Vals (as.map V.ref) (as.map Value.ref) := LiI.vals_refs as
    generalize putF g Hb1 as ks = Hb2 at *
    generalize putF g H1 as ks = H2 at *
    generalize kvs.map pairD = ds at *
    obtain ⟨o1, o2, o3⟩ := srt_ok ok
    obtain ⟨e1, e2⟩ := each_zip lx rv
    have mem : ∀ b ∈ (as.map V.ref).zip ds, b.2 ∈ ds := fun b hb => by rw [← e2]; exact List.mem_map_of_mem hb
    have em : (((as.map V.ref).zip ds).map fun b => toP b.2) = ds.map toP := by
      conv => rhs; rw [← e2]
      rw [List.map_map] <;> rfl
    have e1' : EachIs (fun (v : Value) (b : V × D) => RelV b.1 v ∧ Is X.K H2 b.2 b.1) (as.map Value.ref) ((as.map V.ref).zip ds) := e1.mono fun _ _ x => ⟨x.1, x.2.mono sp.c⟩
    refine ⟨fun v b => RelV b.1 v ∧ Is X.K Hb2 b.2 b.1, (as.map V.ref).zip ds, e1, each_reads I3 (fun b hb => o1 _ (mem b hb)) e1', by rw [em]; exact o2, by rw [em]; exact o3, fun b hb => ?_, fun out ho eo h2 pp ee hk3 hpp hat => ?_⟩
    · have := each_depth (fun b hb => o1 _ (mem b hb)) e1 b hb
      omega
    · obtain ⟨z1, z2⟩ := zip_each eo
      have ez : ((((as.map V.ref).zip ds).mergeSort (PySem.W.dataLe false fun b => toP b.2)).map Prod.snd) = ds.mergeSort leP := by
        rw [List.map_mergeSort (r := PySem.W.dataLe false fun b : V × D => toP b.2) (s := leP) (f := Prod.snd) fun a _ b _ => rfl, e2]
      rw [ez] at z2
      have hlen2 : ((((as.map V.ref).zip ds).mergeSort (PySem.W.dataLe false fun b => toP b.2)).map Prod.fst).length ≤ sizeLine := by
        rw [List.length_map, List.length_mergeSort, List.length_zip, List.length_map]
        exact Nat.le_trans (Nat.min_le_left _ _) (by omega)
      have hf : H2 pp = none := I3.hok.fresh hpp
      refine ⟨.ref pp, upd H2 pp (.lst _), I3.laid (t' := tk) hk3 hpp ⟨hlen2, out, ee, z1, hat⟩, rfl, q _ _ _ ((st1.trans sp).trans (Step.new sp.c hf)) ?_⟩
      exact is_lst_new (sp.c.free hf) z2
  · cases eg
end
end Dn
set_option Elab.async false
set_option linter.all false
set_option maxRecDepth 100000
/-! Loops of the store's layer. -/
namespace Dn
open PySem L2
def noOwnB (env : En) : Bool := env.all fun x => match x with
  | some d => !d.isOwn
  | none => true
theorem no_own {env : En} (h : noOwnB env = true) : NoOwn env := fun d hd => by
  have := List.all_eq_true.mp h _ hd
  simpa using this
theorem forW_of {α : Type} {g : D → En → Option En} {B : WS} {N : WN} {st : Sto} (c : α → D) (I : Nat → En → Prop) : ∀ (xs : List α) (i : Nat) (env : En), I i env → (∀ j x e, xs[j]? = some x → I (i + j) e → ∃ e1, g (c x) e = some e1 ∧ B.run e1 st { nx := fun e2 s2 => s2 = st ∧ I (i + j + 1) e2, ct := fun _ _ => False, bk := fun _ _ => False, rt := N.rt, ex := N.ex }) → (∀ e, I (i + xs.length) e → N.nx e st) → forW g B (xs.map c) env st N
  | [], i, env, h0, _, h2 => h2 env h0
  | x :: xs, i, env, h0, h1, h2 => by
    obtain ⟨e1, q, r⟩ := h1 0 x env rfl h0
    refine ⟨e1, q, B.imp r ⟨fun e s ⟨es, hi⟩ => ?_, fun _ _ k => k, fun _ _ k => k.elim, fun _ _ k => k.elim, fun _ _ k => k⟩⟩
    subst es
    refine forW_of c I xs (i + 1) e hi (fun j y e' hy he => ?_) fun e' he => h2 e' ?_
    · have := h1 (j + 1) y e' hy (by rw [show i + (j + 1) = i + 1 + j by omega]; exact he)
      rw [show i + (j + 1) + 1 = i + 1 + j + 1 by omega] at this
      exact this
    · rw [List.length_cons, show i + (xs.length + 1) = i + 1 + xs.length by omega]
      exact he
theorem no_own_app {a b : En} (h1 : NoOwn a) (h2 : NoOwn b) : NoOwn (a ++ b) := fun d hd => by
  rcases List.mem_append.mp hd with h | h
  · exact h1 d h
  · exact h2 d h
theorem w_asg2 {f : En → Option D} {g : D → En → Option En} {env e : En} {d : D} (h1 : f env = some d) (h2 : g d env = some e) : fAsg f g env = some (.nx e) := by
  unfold fAsg
  rw [h1]
  simp only [Option.bind_some, h2]
theorem forW_stS {α : Type} {g : D → En → Option En} {B : WS} {N : WN} (c : α → D) (I : Nat → En → Sto → Prop) : ∀ (xs : List α) (i : Nat) (env : En) (st : Sto), I i env st → (∀ j x e s, xs[j]? = some x → I (i + j) e s → ∃ e1, g (c x) e = some e1 ∧ B.run e1 s { nx := fun e2 s2 => I (i + j + 1) e2 s2, ct := fun _ _ => False, bk := fun _ _ => False, rt := N.rt, ex := N.ex }) → (∀ e s, I (i + xs.length) e s → N.nx e s) → forW g B (xs.map c) env st N
  | [], i, env, st, h0, _, h2 => h2 env st h0
  | x :: xs, i, env, st, h0, h1, h2 => by
    obtain ⟨e1, q, r⟩ := h1 0 x env st rfl h0
    refine ⟨e1, q, B.imp r ⟨fun e s hi => ?_, fun _ _ k => k, fun _ _ k => k.elim, fun _ _ k => k.elim, fun _ _ k => k⟩⟩
    refine forW_stS c I xs (i + 1) e s hi (fun j y e' s' hy he => ?_) fun e' s' he => h2 e' s' ?_
    · have := h1 (j + 1) y e' s' hy (by rw [show i + (j + 1) = i + 1 + j by omega]; exact he)
      rw [show i + (j + 1) + 1 = i + 1 + j + 1 by omega] at this
      exact this
    · rw [List.length_cons, show i + (xs.length + 1) = i + 1 + xs.length by omega]
      exact he
theorem take_snoc {α : Type} {xs : List α} {j : Nat} {x : α} (h : xs[j]? = some x) : xs.take (j + 1) = xs.take j ++ [x] := by
  obtain ⟨hl, hx⟩ := List.getElem?_eq_some_iff.mp h
  rw [List.take_succ_eq_append_getElem hl, hx]
theorem no_tail {x : Option D} {r : En} (h : NoOwn (x :: r)) : NoOwn r := fun d hd => h d (List.mem_cons_of_mem _ hd)
theorem no_snoc {y : D} {r : En} (h : y.isOwn = false) (h' : NoOwn r) : NoOwn (some y :: r) := no_own_app (a := [some y]) (b := r) (fun d hd => by
  have : d = y := by simpa using hd
  rw [this]
  exact h) h'
theorem put_del {st : Sto} {a : Addr} {c : Cell} (h : st a = none) : (st.put a c).del a = st := by
  funext x
  unfold Sto.del Sto.put
  by_cases e : x = a
  · rw [if_pos e, e, h]
  · rw [if_neg e, if_neg e]
theorem put_put {st : Sto} {a : Addr} {c d : Cell} : (st.put a c).put a d = st.put a d := by
  funext x
  unfold Sto.put
  by_cases e : x = a
  · rw [if_pos e, if_pos e]
  · rw [if_neg e, if_neg e, if_neg e]
theorem pairs_map {α : Type} (k : α → List Nat) (v : α → D) : ∀ xs : List α, pairsOf (xs.map fun x => D.tup [.str (k x), v x]) = some (xs.map fun x => (k x, v x))
  | [] => rfl
  | x :: xs => by
    rw [List.map_cons, pairsOf, pairs_map k v xs]
    rfl
end Dn
set_option Elab.async false
set_option linter.all false
set_option maxRecDepth 100000
/-! Two patterns together: fitted and together as they are told. -/
namespace Dn
open PySem L2
local macro_rules | `(tactic| walk_at "dg") => `(tactic| first
  | with_reducible exact add_i _ _ | with_reducible exact sub_i _ _ | ((with_reducible refine mul_i ?_); omega) | ((with_reducible refine fdiv_i ?_); omega) | ((with_reducible refine mod_i ?_); omega) | with_reducible exact neg_i _
  | with_reducible exact lt_i _ _ | with_reducible exact le_i _ _ | with_reducible exact gt_i _ _ | with_reducible exact ge_i _ _ | with_reducible exact eq_i _ _ | with_reducible exact ne_i _ _ | with_reducible exact eq_s _ _ | with_reducible exact ne_s _ _
  | ((with_reducible refine add_s ?_); omega) | ((with_reducible refine add_t ?_); omega) | ((with_reducible refine add_l ?_); omega) | ((with_reducible refine mul_s ?_); omega) | ((with_reducible refine mul_l ?_); omega)
  | ((with_reducible refine len_s ?_); omega) | with_reducible exact len_t _ | with_reducible exact len_l _ | with_reducible exact len_c _ | with_reducible exact int_b _ | with_reducible exact int_i _ | with_reducible exact abs_i _
  | ((with_reducible refine sl_s ?_); omega) | with_reducible exact sl_t _ _ _ | with_reducible exact sl_l _ _ _ | ((with_reducible apply ix_t); (· omega); (· rfl)) | ((with_reducible apply ix_l); (· omega); (· rfl)) | with_reducible assumption)
local macro_rules | `(tactic| walk_at "dc") => `(tactic| with_reducible assumption)
local macro_rules | `(tactic| walk_at "dn") => `(tactic| first
  | with_reducible exact v_c | with_reducible exact v_nil | with_reducible exact v_no
  | ((with_reducible apply v_var); (· rfl); (· rfl))
  | ((with_reducible apply v_2); (· walk_at "dn"); (· walk_at "dn"); (· walk_at "dg"))
  | ((with_reducible apply v_1); (· walk_at "dn"); (· walk_at "dg"))
  | ((with_reducible apply v_cons); (· walk_at "dn"); (· walk_at "dn"))
  | ((with_reducible apply v_blt); (· walk_at "dn"); (· walk_at "dg"))
  | ((with_reducible apply v_call); (· walk_at "dn"); (· walk_at "dc"))
  | ((with_reducible apply v_tup); (· walk_at "dn"); (· first | decide | (simp only [List.length_cons, List.length_nil]; decide)))
  | ((with_reducible apply v_lst); (· walk_at "dn"); (· first | decide | (simp only [List.length_cons, List.length_nil]; decide)))
  | ((with_reducible apply v_po); (· walk_at "dn"))
  | ((with_reducible apply v_sl); (· walk_at "dn"); (· walk_at "dn"); (· walk_at "dn"); (· walk_at "dg"))
  | ((with_reducible apply v_m1); (· walk_at "dn"); (· walk_at "dn"); (· walk_at "dg"))
  | ((with_reducible apply v_b); (· walk_at "dn"))
  | ((with_reducible apply v_not); (· walk_at "dn"))
  | ((with_reducible apply v_notV); (· walk_at "dn"))
  | ((with_reducible apply v_rng1); (· walk_at "dn"); (· omega))
  | ((with_reducible apply v_rng2); (· walk_at "dn"); (· omega))
  | ((with_reducible apply v_it); (· walk_at "dn"))
  | ((with_reducible apply v_itl); (· walk_at "dn"))
  | ((with_reducible apply v_its); (· walk_at "dn"))
  | with_reducible assumption)
local macro_rules | `(tactic| walk_at "dt") => `(tactic| first
  | with_reducible exact v_c | with_reducible exact v_nil | with_reducible exact v_no
  | ((with_reducible apply v_var); (· rfl); (· rfl))
  | ((with_reducible apply v_2) <;> walk_at "dt")
  | ((with_reducible apply v_1) <;> walk_at "dt")
  | ((with_reducible apply v_cons) <;> walk_at "dt")
  | ((with_reducible apply v_blt) <;> walk_at "dt")
  | ((with_reducible apply v_call) <;> walk_at "dt")
  | ((with_reducible apply v_tup) <;> walk_at "dt")
  | ((with_reducible apply v_lst) <;> walk_at "dt")
  | ((with_reducible apply v_po) <;> walk_at "dt")
  | ((with_reducible apply v_sl) <;> walk_at "dt")
  | ((with_reducible apply v_m1) <;> walk_at "dt")
  | ((with_reducible apply v_b) <;> walk_at "dt")
  | ((with_reducible apply v_notV) <;> walk_at "dt")
  | ((with_reducible apply v_not) <;> walk_at "dt")
  | ((with_reducible apply v_rng1) <;> first | omega | walk_at "dt")
  | ((with_reducible apply v_rng2) <;> first | omega | walk_at "dt")
  | walk_at "dg"
  | (show List.length _ ≤ sizeLine; first | decide | (simp only [List.length_cons, List.length_nil]; decide))
  | skip)
local macro_rules | `(tactic| walk_at "ds") => `(tactic| first
  | ((with_reducible apply w_ss) <;> first | walk_at "d1" | skip)
  | ((with_reducible apply w_r) <;> first | walk_at "d1" | skip)
  | ((with_reducible apply w_sp) <;> first | walk_at "d1" | skip)
  | ((with_reducible apply w_so) <;> first | walk_at "d1" | skip)
  | (with_reducible apply w_sv)
  | (with_reducible apply w_sq))
local macro_rules | `(tactic| walk_at "dx") => `(tactic| simp only [put, jn, List.set_cons_zero, List.set_cons_succ])
noncomputable def m_shared_multiple : En → Option Fl :=
  (fRet (f2 fdivD (f2 mulD (fV 0) (fV 1)) (fCall n_divisor (fCons (fV 0) (fCons (fV 1) fNil)))))
noncomputable def n_shared_multiple : List D → Option D := semOf 2 2 m_shared_multiple
noncomputable def w_fitted : WS :=
  (wSeq (wPS (fSet 3 (fCall n_finer (fCons (fV 0) (fCons (f2 fdivD (fV 1) (f2 ixD (fV 0) (fC (.int 1)))) fNil)))))
    (wSeq (wPS (fSet 4 (f2 fdivD (fV 2) (f2 ixD (fV 3) (fC (.int 0))))))
    (wRet (wDictE (fLc (fIt (f2 ixD (fV 3) (fC (.int 2)))) (gT (gCons' (gN 5) (gCons' (gN 6) gNil'))) fYes (fTup (fCons (fV 5) (fCons (f2 mulD (fV 6) (fV 4)) fNil))) [5, 6])))))
noncomputable def wn_fitted : WF := semW 7 3 w_fitted
noncomputable def w_together : WS :=
  (wSeq (wPS (fSet 2 (fCall n_shared_multiple (fCons (f2 ixD (fV 0) (fC (.int 1))) (fCons (f2 ixD (fV 1) (fC (.int 1))) fNil)))))
    (wSeq (wPS (fSet 3 (fCall n_shared_multiple (fCons (f2 mulD (f2 ixD (fV 0) (fC (.int 0))) (f2 fdivD (fV 2) (f2 ixD (fV 0) (fC (.int 1))))) (fCons (f2 mulD (f2 ixD (fV 1) (fC (.int 0))) (f2 fdivD (fV 2) (f2 ixD (fV 1) (fC (.int 1))))) fNil)))))
    (wSeq (wSet 4 (wCall wn_fitted (wPA (fCons (fV 0) (fCons (fV 2) (fCons (fV 3) fNil))))))
    (wSeq (wForI (wFrzE (wCall wn_fitted (wPA (fCons (fV 1) (fCons (fV 2) (fCons (fV 3) fNil)))))) (gT (gCons' (gN 5) (gCons' (gN 6) gNil')))
      (wDPut (wP (fV 4)) (wP (fV 5)) (wBlt n_laid (wCons (wGet2 (wP (fV 4)) (wP (fV 5)) (wP (f2 mulD (fC (.str [46])) (fV 3)))) (wCons (wP (fV 6)) wNil)))))
    (wSeq (wFrzD 4) (wPS (fRet (fTup (fCons (fV 3) (fCons (fV 2) (fCons (f1 tupD (f1 sortItD (fV 4))) fNil)))))))))))
noncomputable def wn_together : WF := semW 7 2 w_together
/-! sorted pads -/
theorem le_pads {c d : Nat} (x y : List Nat) (h : c < d) : leP (padD (c, x)) (padD (d, y)) = true ∧ leP (padD (d, y)) (padD (c, x)) = false := by
  have hk : ∀ (a : Nat) (l : List Nat), PySem.W.keyToks (toP (padD (a, l))) = [.inl 1, .inr [a], .inl 1, .inr l, .inl 0] := fun a l => by
    unfold padD
    simp only [toP, toPs, PySem.W.keyToks, PySem.W.keyToksAll]
    rfl
  have ne : (Sum.inr [c] : Int ⊕ List Nat) ≠ Sum.inr [d] := fun e => by
    have := List.cons.inj (Sum.inr.inj e)
    omega
  unfold leP PySem.W.dataLe PySem.W.sortLe
  simp only [hk, cond_false]
  refine ⟨?_, ?_⟩
  · show (!PyProof.Rows.lexLt PyProof.Rows.itemOrd _ _) = true
    rw [PyProof.Rows.lex_self, PyProof.Rows.lex_diff (O := PyProof.Rows.itemOrd) ne.symm]
    show (!PyProof.Rows.strKind.blt [d] [c]) = true
    show (!decide ([d] < [c])) = true
    rw [decide_eq_false]
    · rfl
    · rw [List.cons_lt_cons_iff]
      simp
      omega
  · show (!PyProof.Rows.lexLt PyProof.Rows.itemOrd _ _) = false
    rw [PyProof.Rows.lex_self, PyProof.Rows.lex_diff (O := PyProof.Rows.itemOrd) ne]
    show (!PyProof.Rows.strKind.blt [c] [d]) = false
    show (!decide ([c] < [d])) = false
    rw [decide_eq_true]
    · rfl
    · rw [List.cons_lt_cons_iff]
      exact .inl h
theorem srt_pads (l : List (Nat × List Nat)) : srtOk (l.map padD) = true := by
  unfold srtOk
  rw [Bool.and_eq_true, Bool.or_eq_true]
  refine ⟨?_, .inl ?_⟩
  · rw [List.all_eq_true]
    intro x hx
    obtain ⟨i, _, rfl⟩ := List.mem_map.mp hx
    rw [Bool.and_eq_true]
    refine ⟨rfl, ?_⟩
    rw [List.all_eq_true]
    intro y hy
    obtain ⟨j, _, rfl⟩ := List.mem_map.mp hy
    unfold padD
    simp only [toP, toPs, PySem.W.alike, PySem.W.alikeAll]
    rfl
  · rw [List.all_eq_true]
    intro x hx
    obtain ⟨i, _, rfl⟩ := List.mem_map.mp hx
    rfl
theorem sort_pads (r : Nat → List Nat) {L M : List Nat} (hp : L.Perm M) (hM : M.Pairwise (· < ·)) : (L.map fun c => padD (c, r c)).mergeSort leP = M.map fun c => padD (c, r c) := by
  have tot : PySem.W.TotalLe leP := by unfold leP PySem.W.dataLe; exact PySem.W.sortLe_total _ _ _
  refine List.Perm.eq_of_pairwise (le := fun a b : D => leP a b = true) (fun a b ha hb h h' => ?_) (List.pairwise_mergeSort (fun a b c => tot.trans a b c) (fun a b => by have := tot.total a b; simpa using this) _) ?_ ((List.mergeSort_perm _ _).trans (hp.map _))
  · have ha := (List.mergeSort_perm _ _).mem_iff.mp ha
    obtain ⟨c, hc, rfl⟩ := List.mem_map.mp ha
    obtain ⟨d, hd, rfl⟩ := List.mem_map.mp hb
    rcases Nat.lt_trichotomy c d with q | q | q
    · have := (le_pads (r c) (r d) q).2
      rw [h'] at this
      cases this
    · rw [q]
    · have := (le_pads (r d) (r c) q).2
      rw [h] at this
      cases this
  · rw [List.pairwise_map]
    exact hM.imp fun h => (le_pads _ _ h).1
/-! the dict, pad by pad -/
def mrgD (a b : Pt) (pre : List Nat) : List (List Nat × D) :=
  ((padsP a).map fun c => ([c], D.str (if c ∈ pre then rwP a b c else raP a (gG a b / a.g) (sS a b) c))) ++ (pre.filter fun c => decide (c ∉ padsP a)).map fun c => ([c], D.str (rwP a b c))
theorem mrg_any (a b : Pt) {pre : List Nat} {c : Nat} (h : c ∉ pre) : ((mrgD a b pre).any fun p => decide (p.1 = [c])) = decide (c ∈ padsP a) := by
  rw [Bool.eq_iff_iff, List.any_eq_true, decide_eq_true_eq]
  constructor
  · rintro ⟨p, hp, e⟩
    have e : p.1 = [c] := by simpa using e
    rcases List.mem_append.mp hp with hp | hp
    · obtain ⟨d, hd, rfl⟩ := List.mem_map.mp hp
      have : d = c := (List.cons.inj e).1
      rw [← this]
      exact hd
    · obtain ⟨d, hd, rfl⟩ := List.mem_map.mp hp
      have : d = c := (List.cons.inj e).1
      rw [this] at hd
      exact absurd (List.mem_filter.mp hd).1 h
  · intro hc
    exact ⟨_, List.mem_append_left _ (List.mem_map.mpr ⟨c, hc, rfl⟩), by simp⟩
theorem mrg_put (a b : Pt) {pre : List Nat} {c : Nat} (h : c ∉ pre) : putKD [c] (.str (rwP a b c)) (mrgD a b pre) = mrgD a b (pre ++ [c]) := by
  unfold putKD
  rw [mrg_any a b h]
  by_cases hc : c ∈ padsP a
  · rw [if_pos (decide_eq_true hc)]
    unfold mrgD
    rw [List.map_append, List.map_map, List.map_map, List.filter_append, List.filter_cons_of_neg (by simpa using hc), List.filter_nil, List.append_nil]
    congr 1
    · refine List.map_congr_left fun d hd => ?_
      show (if [d] = [c] then ([d], _) else ([d], _)) = _
      by_cases e : d = c
      · subst e
        rw [if_pos rfl, if_pos (by simp)]
      · rw [if_neg (fun q => e (List.cons.inj q).1)]
        have : d ∈ pre ++ [c] ↔ d ∈ pre := by simp [e]
        by_cases hd : d ∈ pre
        · rw [if_pos hd, if_pos (this.mpr hd)]
        · rw [if_neg hd, if_neg (fun q => hd (this.mp q))]
    · refine List.map_congr_left fun d hd => ?_
      show (if [d] = [c] then ([d], _) else ([d], _)) = _
      rw [if_neg]
      intro q
      rw [(List.cons.inj q).1] at hd
      exact h (List.mem_filter.mp hd).1
  · rw [if_neg (by simpa using hc)]
    unfold mrgD
    rw [List.filter_append, List.filter_cons_of_pos (by simpa using hc), List.filter_nil, List.map_append, List.append_assoc]
    congr 1
    refine List.map_congr_left fun d hd => ?_
    have e : d ≠ c := fun e => hc (e ▸ hd)
    have : d ∈ pre ++ [c] ↔ d ∈ pre := by simp [e]
    by_cases hd : d ∈ pre
    · rw [if_pos hd, if_pos (this.mpr hd)]
    · rw [if_neg hd, if_neg (fun q => hd (this.mp q))]
theorem mrg_find (a b : Pt) {pre : List Nat} {c : Nat} (h : c ∉ pre) : (findK [c] (mrgD a b pre)).getD (.str (List.replicate (sS a b) 46)) = .str (raP a (gG a b / a.g) (sS a b) c) := by
  unfold findK
  by_cases hc : c ∈ padsP a
  · have : (mrgD a b pre).find? (fun p => decide (p.1 = [c])) = some ([c], .str (raP a (gG a b / a.g) (sS a b) c)) := by
      unfold mrgD
      rw [List.find?_append]
      have : ((padsP a).map fun c => (([c], D.str (if c ∈ pre then rwP a b c else raP a (gG a b / a.g) (sS a b) c)) : List Nat × D)).find? (fun p => decide (p.1 = [c])) = some ([c], .str (raP a (gG a b / a.g) (sS a b) c)) := by
        generalize padsP a = l at *
        induction l with
        | nil => cases hc
        | cons d l ih =>
          rw [List.map_cons]
          by_cases e : d = c
          · subst e
            rw [List.find?_cons_of_pos (by simp), if_neg h]
          · rw [List.find?_cons_of_neg (by simpa using e)]
            exact ih (by simpa [Ne.symm e] using hc)
      rw [this]
      rfl
    rw [this]
    rfl
  · have : (mrgD a b pre).find? (fun p => decide (p.1 = [c])) = none := by
      rw [List.find?_eq_none]
      intro p hp e
      have h1 := mrg_any a b h
      rw [decide_eq_false hc, List.any_eq_false] at h1
      exact h1 p hp e
    rw [this, ra_not hc]
    rfl
theorem mrg_len (a b : Pt) (pre : List Nat) : (mrgD a b pre).length ≤ (padsP a).length + pre.length := by
  unfold mrgD
  rw [List.length_append, List.length_map, List.length_map]
  have := List.length_filter_le (fun c => decide (c ∉ padsP a)) pre
  omega
theorem mrg_pairs {a b : Pt} (ha : a.Fit) : (mrgD a b (padsP b)).map pairD = (padsP a ++ (padsP b).filter fun c => decide (c ∉ padsP a)).map fun c => padD (c, rwP a b c) := by
  unfold mrgD
  rw [List.map_append, List.map_append, List.map_map, List.map_map]
  congr 1
  refine List.map_congr_left fun c hc => ?_
  show D.tup [.str [c], .str _] = D.tup [.str [c], .str _]
  by_cases h : c ∈ padsP b
  · rw [if_pos h]
  · rw [if_neg h, rw_a ha h]
theorem letters_up : letters.Pairwise (· < ·) := by decide
theorem mrg_sort {a b : Pt} (ha : a.Fit) (hb : b.Fit) : sortItD (.dct (mrgD a b (padsP b))) = some (.lst ((togP a b).ps.map padD)) := by
  have e1 := mrg_pairs (b := b) ha
  have e2 : (padsP a ++ (padsP b).filter fun c => decide (c ∉ padsP a)).map (fun c => padD (c, rwP a b c)) = ((padsP a ++ (padsP b).filter fun c => decide (c ∉ padsP a)).map fun c => (c, rwP a b c)).map padD := by rw [List.map_map]; rfl
  have ok : srtOk ((mrgD a b (padsP b)).map pairD) = true := by rw [e1, e2]; exact srt_pads _
  show (if _ then _ else _) = _
  rw [if_pos ok, e1]
  refine congrArg (fun l => some (D.lst l)) ?_
  have hu : (letters.filter fun c => decide (c ∈ padsP a ∨ c ∈ padsP b)).Pairwise (· < ·) := letters_up.filter _
  rw [sort_pads (rwP a b) (M := letters.filter fun c => decide (c ∈ padsP a ∨ c ∈ padsP b)) ?_ hu]
  · unfold togP
    rw [List.map_map]
    rfl
  · rw [List.perm_ext_iff_of_nodup]
    · intro c
      rw [List.mem_append, List.mem_filter, List.mem_filter, decide_eq_true_eq, decide_eq_true_eq]
      constructor
      · rintro (h | ⟨h, _⟩)
        · exact ⟨ha.sub.subset h, .inl h⟩
        · exact ⟨hb.sub.subset h, .inr h⟩
      · rintro ⟨_, h | h⟩
        · exact .inl h
        · by_cases q : c ∈ padsP a
          · exact .inl q
          · exact .inr ⟨h, q⟩
    · rw [List.nodup_append]
      refine ⟨ha.nodup, hb.nodup.filter _, fun x hx y hy e => ?_⟩
      subst e
      have := (List.mem_filter.mp hy).2
      simp at this
      exact this hx
    · exact letters_nodup.filter _
end Dn
set_option Elab.async false
set_option linter.all false
set_option maxRecDepth 100000
/-! Two patterns together: the walk's wishes. -/
namespace Dn
open PySem L2
local macro_rules | `(tactic| walk_at "dg") => `(tactic| first
  | with_reducible exact add_i _ _ | with_reducible exact sub_i _ _ | ((with_reducible refine mul_i ?_); omega) | ((with_reducible refine fdiv_i ?_); omega) | ((with_reducible refine mod_i ?_); omega) | with_reducible exact neg_i _
  | with_reducible exact lt_i _ _ | with_reducible exact le_i _ _ | with_reducible exact gt_i _ _ | with_reducible exact ge_i _ _ | with_reducible exact eq_i _ _ | with_reducible exact ne_i _ _ | with_reducible exact eq_s _ _ | with_reducible exact ne_s _ _
  | ((with_reducible refine add_s ?_); omega) | ((with_reducible refine add_t ?_); omega) | ((with_reducible refine add_l ?_); omega) | ((with_reducible refine mul_s ?_); omega) | ((with_reducible refine mul_l ?_); omega)
  | ((with_reducible refine len_s ?_); omega) | with_reducible exact len_t _ | with_reducible exact len_l _ | with_reducible exact len_c _ | with_reducible exact int_b _ | with_reducible exact int_i _ | with_reducible exact abs_i _
  | ((with_reducible refine sl_s ?_); omega) | with_reducible exact sl_t _ _ _ | with_reducible exact sl_l _ _ _ | ((with_reducible apply ix_t); (· omega); (· rfl)) | ((with_reducible apply ix_l); (· omega); (· rfl)) | with_reducible assumption)
local macro_rules | `(tactic| walk_at "dc") => `(tactic| with_reducible assumption)
local macro_rules | `(tactic| walk_at "dn") => `(tactic| first
  | with_reducible exact v_c | with_reducible exact v_nil | with_reducible exact v_no
  | ((with_reducible apply v_var); (· rfl); (· rfl))
  | ((with_reducible apply v_2); (· walk_at "dn"); (· walk_at "dn"); (· walk_at "dg"))
  | ((with_reducible apply v_1); (· walk_at "dn"); (· walk_at "dg"))
  | ((with_reducible apply v_cons); (· walk_at "dn"); (· walk_at "dn"))
  | ((with_reducible apply v_blt); (· walk_at "dn"); (· walk_at "dg"))
  | ((with_reducible apply v_call); (· walk_at "dn"); (· walk_at "dc"))
  | ((with_reducible apply v_tup); (· walk_at "dn"); (· first | decide | (simp only [List.length_cons, List.length_nil]; decide)))
  | ((with_reducible apply v_lst); (· walk_at "dn"); (· first | decide | (simp only [List.length_cons, List.length_nil]; decide)))
  | ((with_reducible apply v_po); (· walk_at "dn"))
  | ((with_reducible apply v_sl); (· walk_at "dn"); (· walk_at "dn"); (· walk_at "dn"); (· walk_at "dg"))
  | ((with_reducible apply v_m1); (· walk_at "dn"); (· walk_at "dn"); (· walk_at "dg"))
  | ((with_reducible apply v_b); (· walk_at "dn"))
  | ((with_reducible apply v_not); (· walk_at "dn"))
  | ((with_reducible apply v_notV); (· walk_at "dn"))
  | ((with_reducible apply v_rng1); (· walk_at "dn"); (· omega))
  | ((with_reducible apply v_rng2); (· walk_at "dn"); (· omega))
  | ((with_reducible apply v_it); (· walk_at "dn"))
  | ((with_reducible apply v_itl); (· walk_at "dn"))
  | ((with_reducible apply v_its); (· walk_at "dn"))
  | with_reducible assumption)
local macro_rules | `(tactic| walk_at "dt") => `(tactic| first
  | with_reducible exact v_c | with_reducible exact v_nil | with_reducible exact v_no
  | ((with_reducible apply v_var); (· rfl); (· rfl))
  | ((with_reducible apply v_2) <;> walk_at "dt")
  | ((with_reducible apply v_1) <;> walk_at "dt")
  | ((with_reducible apply v_cons) <;> walk_at "dt")
  | ((with_reducible apply v_blt) <;> walk_at "dt")
  | ((with_reducible apply v_call) <;> walk_at "dt")
  | ((with_reducible apply v_tup) <;> walk_at "dt")
  | ((with_reducible apply v_lst) <;> walk_at "dt")
  | ((with_reducible apply v_po) <;> walk_at "dt")
  | ((with_reducible apply v_sl) <;> walk_at "dt")
  | ((with_reducible apply v_m1) <;> walk_at "dt")
  | ((with_reducible apply v_b) <;> walk_at "dt")
  | ((with_reducible apply v_notV) <;> walk_at "dt")
  | ((with_reducible apply v_not) <;> walk_at "dt")
  | ((with_reducible apply v_rng1) <;> first | omega | walk_at "dt")
  | ((with_reducible apply v_rng2) <;> first | omega | walk_at "dt")
  | walk_at "dg"
  | (show List.length _ ≤ sizeLine; first | decide | (simp only [List.length_cons, List.length_nil]; decide))
  | skip)
local macro_rules | `(tactic| walk_at "ds") => `(tactic| first
  | ((with_reducible apply w_ss) <;> first | walk_at "d1" | skip)
  | ((with_reducible apply w_r) <;> first | walk_at "d1" | skip)
  | ((with_reducible apply w_sp) <;> first | walk_at "d1" | skip)
  | ((with_reducible apply w_so) <;> first | walk_at "d1" | skip)
  | (with_reducible apply w_sv)
  | (with_reducible apply w_sq))
local macro_rules | `(tactic| walk_at "dx") => `(tactic| simp only [put, jn, List.set_cons_zero, List.set_cons_succ])
theorem e_shared {x y : Nat} (hx : 0 < x) (hy : 0 < y) (hy2 : y < 1073741824) (hx2 : x < 1073741824) : n_shared_multiple [.int (x : Nat), .int (y : Nat)] = some (.int ((Nat.lcm x y : Nat) : Int)) := by
  refine sem_rt rfl ?_
  show m_shared_multiple [some (.int (x : Nat)), some (.int (y : Nat))] = _
  unfold m_shared_multiple
  have hg : 0 < Nat.gcd x y := Nat.gcd_pos_of_pos_right _ hy
  have hg2 : Nat.gcd x y ≤ y := Nat.le_of_dvd hy (Nat.gcd_dvd_right _ _)
  refine ret_of (v_2 (v_2 (v_var rfl rfl) (v_var rfl rfl) (mul_i (by omega))) (v_call (v_cons (v_var rfl rfl) (v_cons (v_var rfl rfl) v_nil)) (e_divisor hy2)) ?_)
  rw [fdiv_i (by omega)]
  unfold Nat.lcm
  rw [Int.natCast_ediv, Int.natCast_mul]
theorem wr_fitted {p : Pt} (f : p.Fit) {G S : Nat} (hG : p.g ∣ G) (hG0 : 0 < G) (hG9 : G ≤ 900) (hd : p.s * (G / p.g) ∣ S) (hS0 : 0 < S) (hS1 : S ≤ 100000) {st : Sto} {K : D → Sto → Prop} {E : Str → Sto → Prop}
    (k : ∀ a, st a = none → K (.adr a) (st.put a (.dct ((padsP p).map fun c => ([c], .str (raP p (G / p.g) S c)))))) : wn_fitted.run [ptD p, .int (G : Nat), .int (S : Nat)] st K E := by
  have g1 : p.g ≤ G := Nat.le_of_dvd hG0 hG
  have g0 := f.g0
  have m0 : 0 < G / p.g := m_pos hG0 g0 hG
  have m1 : G / p.g ≤ G := Nat.div_le_self _ _
  have sm0 : 0 < p.s * (G / p.g) := Nat.mul_pos f.s0 m0
  have sm : p.s * (G / p.g) ≤ S := Nat.le_of_dvd hS0 hd
  have s1 : p.s ≤ p.s * (G / p.g) := Nat.le_mul_of_pos_right _ m0
  have big : p.Big := ⟨f.s0, by omega, f.g0, by omega, f.few, f.row⟩
  refine ⟨rfl, ?_⟩
  show w_fitted.run [some (ptD p), some (.int (G : Nat)), some (.int (S : Nat)), none, none, none, none] _ _
  unfold w_fitted
  have d1 : fdivD (.int (G : Nat)) (.int (p.g : Nat)) = some (.int ((G / p.g : Nat) : Int)) := by
    rw [fdiv_i (by omega)]
    simp
  refine u_nx (w_set (v_call (v_cons (v_var rfl rfl) (v_cons (v_2 (v_var rfl rfl) (v_2 (v_var rfl rfl) v_c (show ixD (ptD p) (.int 1) = some (.int (p.g : Nat)) from rfl)) d1) v_nil)) (e_finerB big m0 (by omega) (by omega))) rfl) (no_own rfl) ?_
  have d2 : fdivD (.int (S : Nat)) (.int ((p.s * (G / p.g) : Nat) : Int)) = some (.int ((S / (p.s * (G / p.g)) : Nat) : Int)) := by
    rw [fdiv_i (by omega)]
    simp
  refine u_nx (w_set (v_2 (v_var rfl rfl) (v_2 (v_var rfl rfl) v_c (show ixD (ptD (finerP p (G / p.g))) (.int 0) = some (.int ((p.s * (G / p.g) : Nat) : Int)) from rfl)) d2) rfl) (no_own rfl) ?_
  walk_at "dx"
  refine ⟨(padsP p).map fun c => D.tup [.str [c], .str (raP p (G / p.g) S c)], (padsP p).map fun c => ([c], D.str (raP p (G / p.g) S c)), ?_, pairs_map (fun c => [c]) (fun c => D.str (raP p (G / p.g) S c)) _, ?_, k⟩
  · refine lcw (v_it (v_2 (v_var rfl rfl) v_c (show ixD (ptD (finerP p (G / p.g))) (.int 2) = some (.tup ((finerP p (G / p.g)).ps.map padD)) from rfl))) (by unfold finerP; rw [List.length_map, List.length_map]; have := f.few; omega) ?_
    unfold finerP padsP
    rw [List.map_map, List.map_map]
    refine lc_map (padD ∘ fun q : Nat × List Nat => (q.1, fineL q.2 (G / p.g))) _ _ fun q hq => ⟨_, rfl, ?_⟩
    have hl := (f.row q hq).1
    have hr := fit_row f hq m0 hd
    have hlen : (fineL q.2 (G / p.g)).length = p.s * (G / p.g) := by rw [fineL_len _ m0, hl]
    have hn : p.s * (G / p.g) * (S / (p.s * (G / p.g))) = S := Nat.mul_div_cancel' hd
    have hq2 : S / (p.s * (G / p.g)) ≤ S := Nat.div_le_self _ _
    refine v_tup (ds := [.str [q.1], .str (raP p (G / p.g) S q.1)]) (v_cons (v_var rfl rfl) (v_cons (v_2 (v_var rfl rfl) (v_var rfl rfl) ?_) v_nil)) (show 2 ≤ sizeLine by decide)
    rw [← hr]
    exact mul_sB (x := fineL q.2 (G / p.g)) (by omega) (by omega) (by rw [hlen, hn]; omega)
  · unfold keysNd
    rw [List.map_map]
    exact List.Pairwise.map _ (fun a b (h : a ≠ b) (e : [a] = [b]) => h (List.cons.inj e).1) f.nodup
theorem wr_together {a b : Pt} (ha : a.Fit) (hb : b.Fit) (hg : gG a b ≤ 900) (hs : sS a b ≤ 100000) {st : Sto} {K : D → Sto → Prop} {E : Str → Sto → Prop} (k : K (ptD (togP a b)) st) : wn_together.run [ptD a, ptD b] st K E := by
  have G0 := gG_pos ha hb
  have S0 := sS_pos ha hb
  have ga0 := ha.g0
  have gb0 := hb.g0
  have ga := Nat.le_of_dvd G0 (gG_a a b)
  have gb := Nat.le_of_dvd G0 (gG_b a b)
  have ma0 : 0 < gG a b / a.g := m_pos G0 ga0 (gG_a a b)
  have mb0 : 0 < gG a b / b.g := m_pos G0 gb0 (gG_b a b)
  have ma1 : gG a b / a.g ≤ gG a b := Nat.div_le_self _ _
  have mb1 : gG a b / b.g ≤ gG a b := Nat.div_le_self _ _
  have sa := Nat.le_of_dvd S0 (dS_a a b)
  have sb := Nat.le_of_dvd S0 (dS_b a b)
  have sa0 : 0 < a.s * (gG a b / a.g) := Nat.mul_pos ha.s0 ma0
  have sb0 : 0 < b.s * (gG a b / b.g) := Nat.mul_pos hb.s0 mb0
  have sa1 : a.s ≤ a.s * (gG a b / a.g) := Nat.le_mul_of_pos_right _ ma0
  have sb1 : b.s ≤ b.s * (gG a b / b.g) := Nat.le_mul_of_pos_right _ mb0
  refine ⟨rfl, ?_⟩
  show w_together.run [some (ptD a), some (ptD b), none, none, none, none, none] _ _
  unfold w_together
  have e1 : n_shared_multiple [.int (a.g : Nat), .int (b.g : Nat)] = some (.int ((gG a b : Nat) : Int)) := e_shared ga0 gb0 (by omega) (by omega)
  refine u_nx (w_set (v_call (v_cons (v_2 (v_var rfl rfl) v_c (show ixD (ptD a) (.int 1) = some (.int (a.g : Nat)) from rfl)) (v_cons (v_2 (v_var rfl rfl) v_c (show ixD (ptD b) (.int 1) = some (.int (b.g : Nat)) from rfl)) v_nil)) e1) rfl) (no_own rfl) ?_
  have da : fdivD (.int (gG a b : Nat)) (.int (a.g : Nat)) = some (.int ((gG a b / a.g : Nat) : Int)) := by
    rw [fdiv_i (by omega)]
    simp
  have db : fdivD (.int (gG a b : Nat)) (.int (b.g : Nat)) = some (.int ((gG a b / b.g : Nat) : Int)) := by
    rw [fdiv_i (by omega)]
    simp
  have mma : mulD (.int (a.s : Nat)) (.int ((gG a b / a.g : Nat) : Int)) = some (.int ((a.s * (gG a b / a.g) : Nat) : Int)) := by
    rw [mul_i (by omega), Int.natCast_mul]
  have mmb : mulD (.int (b.s : Nat)) (.int ((gG a b / b.g : Nat) : Int)) = some (.int ((b.s * (gG a b / b.g) : Nat) : Int)) := by
    rw [mul_i (by omega), Int.natCast_mul]
  have e2 : n_shared_multiple [.int ((a.s * (gG a b / a.g) : Nat) : Int), .int ((b.s * (gG a b / b.g) : Nat) : Int)] = some (.int ((sS a b : Nat) : Int)) := e_shared sa0 sb0 (by omega) (by omega)
  refine u_nx (w_set (v_call (v_cons (v_2 (v_2 (v_var rfl rfl) v_c (show ixD (ptD a) (.int 0) = some (.int (a.s : Nat)) from rfl)) (v_2 (v_var rfl rfl) (v_2 (v_var rfl rfl) v_c (show ixD (ptD a) (.int 1) = some (.int (a.g : Nat)) from rfl)) da) mma)
    (v_cons (v_2 (v_2 (v_var rfl rfl) v_c (show ixD (ptD b) (.int 0) = some (.int (b.s : Nat)) from rfl)) (v_2 (v_var rfl rfl) (v_2 (v_var rfl rfl) v_c (show ixD (ptD b) (.int 1) = some (.int (b.g : Nat)) from rfl)) db) mmb) v_nil)) e2) rfl) (no_own rfl) ?_
  walk_at "dx"
  refine ⟨_, v_cons (v_var rfl rfl) (v_cons (v_var rfl rfl) (v_cons (v_var rfl rfl) v_nil)), wr_fitted ha (gG_a a b) G0 hg (dS_a a b) S0 hs fun x hx => ?_⟩
  walk_at "dx"
  refine ⟨_, v_cons (v_var rfl rfl) (v_cons (v_var rfl rfl) (v_cons (v_var rfl rfl) v_nil)), wr_fitted hb (gG_b a b) G0 hg (dS_b a b) S0 hs fun y hy => ⟨y, _, rfl, Sto.put_same _ _ _, _, rfl, ?_⟩⟩
  have hne : y ≠ x := fun e => by
    rw [e, Sto.put_same] at hy
    cases hy
  rw [put_del hy]
  have h0 : (padsP a).map (fun c => (([c], D.str (raP a (gG a b / a.g) (sS a b) c)) : List Nat × D)) = mrgD a b [] := by
    unfold mrgD
    simp
  rw [h0]
  have hit : itmsD ((padsP b).map fun c => (([c], D.str (raP b (gG a b / b.g) (sS a b) c)) : List Nat × D)) = (padsP b).map fun c => D.wk [.str [c], .str (raP b (gG a b / b.g) (sS a b) c)] := by
    unfold itmsD
    rw [List.map_map]
    rfl
  rw [hit]
  refine forW_stS (fun c => D.wk [.str [c], .str (raP b (gG a b / b.g) (sS a b) c)]) (fun j e s' => ∃ (x5 x6 : Option D), NoOwn [x5, x6] ∧ s' = st.put x (.dct (mrgD a b ((padsP b).take j))) ∧ e = [some (ptD a), some (ptD b), some (.int (gG a b : Nat)), some (.int (sS a b : Nat)), some (.adr x), x5, x6]) (padsP b) 0 _ _ ⟨none, none, no_own rfl, rfl, rfl⟩ ?_ ?_
  · rintro j c e s' hj ⟨x5, x6, o, rfl, rfl⟩
    rw [Nat.zero_add] at *
    have hjl := (List.getElem?_eq_some_iff.mp hj).1
    have hc : c ∉ (padsP b).take j := fun hm => by
      have nd := hb.nodup
      rw [← List.take_append_drop j (padsP b)] at nd
      refine (List.nodup_append.mp nd).2.2 c hm c ?_ rfl
      rw [List.drop_eq_getElem_cons hjl]
      rw [(List.getElem?_eq_some_iff.mp hj).2]
      exact List.mem_cons_self
    refine ⟨_, rfl, ?_⟩
    walk_at "dx"
    have hrest : mulD (.str [46]) (.int (sS a b : Nat)) = some (.str (List.replicate (sS a b) 46)) := by
      rw [mul_sB (by decide) (by omega) (by show 1 * _ ≤ _; omega), reps_one]
    have hlaid : n_laid [.str (raP a (gG a b / a.g) (sS a b) c), .str (raP b (gG a b / b.g) (sS a b) c)] = some (.str (rwP a b c)) := by
      rw [e_laid (ra_row ha _ _ _) (ra_row hb _ _ _) (by rw [ra_len, ra_len]) (by rw [ra_len]; exact hs), lay_ra]
    have hfew := hb.few
    have hfa := ha.few
    have hml := mrg_len a b ((padsP b).take j)
    have hpa : (padsP a).length = a.ps.length := List.length_map _
    have hpb : (padsP b).length = b.ps.length := List.length_map _
    refine ⟨_, v_var rfl rfl, x, rfl, ⟨_, Sto.put_same _ _ _⟩, _, v_var rfl rfl, _, v_2 v_c (v_var rfl rfl) hrest, [c], _, rfl, Sto.put_same _ _ _, _, v_var rfl rfl, [], rfl, .str (rwP a b c), ?_, _, v_var rfl rfl, _, v_var rfl rfl, x, [c], _, rfl, rfl, Sto.put_same _ _ _, ?_, ?_⟩
    · rw [mrg_find a b hc]
      exact hlaid
    · rw [List.length_take] at hml
      omega
    · refine ⟨some (.str [c]), some (.str (raP b (gG a b / b.g) (sS a b) c)), no_own rfl, ?_, rfl⟩
      rw [put_put, mrg_put a b hc, take_snoc hj]
  · rintro e s' ⟨x5, x6, o, rfl, rfl⟩
    rw [Nat.zero_add, List.take_length]
    have fk : ∀ (l : List (List Nat × D)) (s : Sto), FK s l l s := fun l => by
      induction l with
      | nil => intro s; exact ⟨rfl, rfl⟩
      | cons q l ih => intro s; exact .inr ⟨l, rfl, ih s⟩
    refine ⟨x, _, _, _, rfl, Sto.put_same _ _ _, fk _ _, Sto.put_same _ _ _, ?_⟩
    rw [put_del hx]
    walk_at "dx"
    refine u_rt (ret_of (v_tup (ds := [.int (sS a b : Nat), .int (gG a b : Nat), .tup ((togP a b).ps.map padD)]) (v_cons (v_var rfl rfl) (v_cons (v_var rfl rfl) (v_cons (v_1 (v_1 (v_var rfl rfl) (mrg_sort ha hb)) rfl) v_nil))) (show 3 ≤ sizeLine by decide))) k
end Dn
set_option Elab.async false
set_option linter.all false
set_option maxRecDepth 100000
/-! Fractions by their values; times of steps. -/
namespace Dn
open PySem L2
local macro_rules | `(tactic| walk_at "dg") => `(tactic| first
  | with_reducible exact add_i _ _ | with_reducible exact sub_i _ _ | ((with_reducible refine mul_i ?_); omega) | ((with_reducible refine fdiv_i ?_); omega) | ((with_reducible refine mod_i ?_); omega) | with_reducible exact neg_i _
  | with_reducible exact lt_i _ _ | with_reducible exact le_i _ _ | with_reducible exact gt_i _ _ | with_reducible exact ge_i _ _ | with_reducible exact eq_i _ _ | with_reducible exact ne_i _ _ | with_reducible exact eq_s _ _ | with_reducible exact ne_s _ _
  | ((with_reducible refine add_s ?_); omega) | ((with_reducible refine add_t ?_); omega) | ((with_reducible refine add_l ?_); omega) | ((with_reducible refine mul_s ?_); omega) | ((with_reducible refine mul_l ?_); omega)
  | ((with_reducible refine len_s ?_); omega) | with_reducible exact len_t _ | with_reducible exact len_l _ | with_reducible exact len_c _ | with_reducible exact int_b _ | with_reducible exact int_i _ | with_reducible exact abs_i _
  | ((with_reducible refine sl_s ?_); omega) | with_reducible exact sl_t _ _ _ | with_reducible exact sl_l _ _ _ | ((with_reducible apply ix_t); (· omega); (· rfl)) | ((with_reducible apply ix_l); (· omega); (· rfl)) | with_reducible assumption)
local macro_rules | `(tactic| walk_at "dc") => `(tactic| with_reducible assumption)
local macro_rules | `(tactic| walk_at "dn") => `(tactic| first
  | with_reducible exact v_c | with_reducible exact v_nil | with_reducible exact v_no
  | ((with_reducible apply v_var); (· rfl); (· rfl))
  | ((with_reducible apply v_2); (· walk_at "dn"); (· walk_at "dn"); (· walk_at "dg"))
  | ((with_reducible apply v_1); (· walk_at "dn"); (· walk_at "dg"))
  | ((with_reducible apply v_cons); (· walk_at "dn"); (· walk_at "dn"))
  | ((with_reducible apply v_blt); (· walk_at "dn"); (· walk_at "dg"))
  | ((with_reducible apply v_call); (· walk_at "dn"); (· walk_at "dc"))
  | ((with_reducible apply v_tup); (· walk_at "dn"); (· first | decide | (simp only [List.length_cons, List.length_nil]; decide)))
  | ((with_reducible apply v_lst); (· walk_at "dn"); (· first | decide | (simp only [List.length_cons, List.length_nil]; decide)))
  | ((with_reducible apply v_po); (· walk_at "dn"))
  | ((with_reducible apply v_sl); (· walk_at "dn"); (· walk_at "dn"); (· walk_at "dn"); (· walk_at "dg"))
  | ((with_reducible apply v_m1); (· walk_at "dn"); (· walk_at "dn"); (· walk_at "dg"))
  | ((with_reducible apply v_b); (· walk_at "dn"))
  | ((with_reducible apply v_not); (· walk_at "dn"))
  | ((with_reducible apply v_notV); (· walk_at "dn"))
  | ((with_reducible apply v_rng1); (· walk_at "dn"); (· omega))
  | ((with_reducible apply v_rng2); (· walk_at "dn"); (· omega))
  | ((with_reducible apply v_it); (· walk_at "dn"))
  | ((with_reducible apply v_itl); (· walk_at "dn"))
  | ((with_reducible apply v_its); (· walk_at "dn"))
  | with_reducible assumption)
local macro_rules | `(tactic| walk_at "dt") => `(tactic| first
  | with_reducible exact v_c | with_reducible exact v_nil | with_reducible exact v_no
  | ((with_reducible apply v_var); (· rfl); (· rfl))
  | ((with_reducible apply v_2) <;> walk_at "dt")
  | ((with_reducible apply v_1) <;> walk_at "dt")
  | ((with_reducible apply v_cons) <;> walk_at "dt")
  | ((with_reducible apply v_blt) <;> walk_at "dt")
  | ((with_reducible apply v_call) <;> walk_at "dt")
  | ((with_reducible apply v_tup) <;> walk_at "dt")
  | ((with_reducible apply v_lst) <;> walk_at "dt")
  | ((with_reducible apply v_po) <;> walk_at "dt")
  | ((with_reducible apply v_sl) <;> walk_at "dt")
  | ((with_reducible apply v_m1) <;> walk_at "dt")
  | ((with_reducible apply v_b) <;> walk_at "dt")
  | ((with_reducible apply v_notV) <;> walk_at "dt")
  | ((with_reducible apply v_not) <;> walk_at "dt")
  | ((with_reducible apply v_rng1) <;> first | omega | walk_at "dt")
  | ((with_reducible apply v_rng2) <;> first | omega | walk_at "dt")
  | walk_at "dg"
  | (show List.length _ ≤ sizeLine; first | decide | (simp only [List.length_cons, List.length_nil]; decide))
  | skip)
local macro_rules | `(tactic| walk_at "ds") => `(tactic| first
  | ((with_reducible apply w_ss) <;> first | walk_at "d1" | skip)
  | ((with_reducible apply w_r) <;> first | walk_at "d1" | skip)
  | ((with_reducible apply w_sp) <;> first | walk_at "d1" | skip)
  | ((with_reducible apply w_so) <;> first | walk_at "d1" | skip)
  | (with_reducible apply w_sv)
  | (with_reducible apply w_sq))
local macro_rules | `(tactic| walk_at "dx") => `(tactic| simp only [put, jn, List.set_cons_zero, List.set_cons_succ])
noncomputable def m_added : En → Option Fl :=
  (fRet (fCall n_fraction (fCons (f2 addD (f2 mulD (f2 ixD (fV 0) (fC (.int 0))) (f2 ixD (fV 1) (fC (.int 1)))) (f2 mulD (f2 ixD (fV 1) (fC (.int 0))) (f2 ixD (fV 0) (fC (.int 1))))) (fCons (f2 mulD (f2 ixD (fV 0) (fC (.int 1))) (f2 ixD (fV 1) (fC (.int 1)))) fNil))))
noncomputable def n_added : List D → Option D := semOf 2 2 m_added
noncomputable def m_less : En → Option Fl :=
  (fRet (fCall n_added (fCons (fV 0) (fCons (fTup (fCons (f2 subD (fC (.int 0)) (f2 ixD (fV 1) (fC (.int 0)))) (fCons (f2 ixD (fV 1) (fC (.int 1))) fNil))) fNil))))
noncomputable def n_less : List D → Option D := semOf 2 2 m_less
noncomputable def m_times : En → Option Fl :=
  (fRet (fCall n_fraction (fCons (f2 mulD (fV 0) (f2 ixD (fV 1) (fC (.int 0)))) (fCons (f2 ixD (fV 1) (fC (.int 1))) fNil))))
noncomputable def n_times : List D → Option D := semOf 2 2 m_times
noncomputable def m_is_less : En → Option Fl :=
  (fRet (f2 ltD (f2 mulD (f2 ixD (fV 0) (fC (.int 0))) (f2 ixD (fV 1) (fC (.int 1)))) (f2 mulD (f2 ixD (fV 1) (fC (.int 0))) (f2 ixD (fV 0) (fC (.int 1))))))
noncomputable def n_is_less : List D → Option D := semOf 2 2 m_is_less
noncomputable def m_size : En → Option Fl :=
  (fRet (fTup (fCons (fBlt absG (fCons (f2 ixD (fV 0) (fC (.int 0))) fNil)) (fCons (f2 ixD (fV 0) (fC (.int 1))) fNil))))
noncomputable def n_size : List D → Option D := semOf 1 1 m_size
noncomputable def m_whole_part : En → Option Fl :=
  (fRet (f2 fdivD (f2 ixD (fV 0) (fC (.int 0))) (f2 ixD (fV 0) (fC (.int 1)))))
noncomputable def n_whole_part : List D → Option D := semOf 1 1 m_whole_part
noncomputable def m_step_time : En → Option Fl :=
  (fSeq (fAsg (fSl (fV 1) fNo (fPo (fC (.int 2)))) (gT (gCons' (gN 4) (gCons' (gN 5) gNil'))))
  (fSeq (fSet 3 (fCall n_times (fCons (f2 fdivD (fV 2) (fV 4)) (fCons (fCall n_beats (fCons (fV 1) fNil)) fNil))))
  (fSeq (fSet 2 (f2 modD (fV 2) (fV 4)))
  (fSeq (fSet 3 (fCall n_added (fCons (fV 3) (fCons (fCall n_fraction (fCons (f2 subD (fV 2) (f2 modD (fV 2) (fC (.int 2)))) (fCons (fV 5) fNil))) fNil))))
  (fSeq (fIfS (fB (f2 eqD (f2 modD (fV 2) (fC (.int 2))) (fC (.int 1))))
    (fSet 3 (fCall n_added (fCons (fV 3) (fCons (fCall n_fraction (fCons (f2 mulD (fC (.int 2)) (f2 ixD (fV 0) (fC (.int 0)))) (fCons (f2 mulD (f2 ixD (fV 0) (fC (.int 1))) (fV 5)) fNil))) fNil))))
    fPass)
  (fRet (fV 3)))))))
noncomputable def n_step_time : List D → Option D := semOf 6 3 m_step_time
noncomputable def m__law_frac : En → Option Fl :=
  (fSeq (fPar 2 3 (fCons (fBlt absG (fCons (fV 0) fNil)) (fCons (fV 1) fNil)))
  (fSeq (fWhile fuelN (fB (f2 neD (fV 3) (fC (.int 0))))
    (fPar 2 3 (fCons (fV 3) (fCons (f2 modD (fV 2) (fV 3)) fNil))))
  (fRet (fTup (fCons (f2 fdivD (fV 0) (fV 2)) (fCons (f2 fdivD (fV 1) (fV 2)) fNil))))))
noncomputable def n__law_frac : List D → Option D := semOf 4 2 m__law_frac
noncomputable def m__law_add : En → Option Fl :=
  (fRet (fCall n__law_frac (fCons (f2 addD (f2 mulD (f2 ixD (fV 0) (fC (.int 0))) (f2 ixD (fV 1) (fC (.int 1)))) (f2 mulD (f2 ixD (fV 1) (fC (.int 0))) (f2 ixD (fV 0) (fC (.int 1))))) (fCons (f2 mulD (f2 ixD (fV 0) (fC (.int 1))) (f2 ixD (fV 1) (fC (.int 1)))) fNil))))
noncomputable def n__law_add : List D → Option D := semOf 2 2 m__law_add
noncomputable def m__law_under : En → Option Fl :=
  (fRet (f2 ltD (f2 mulD (f2 ixD (fV 0) (fC (.int 0))) (f2 ixD (fV 1) (fC (.int 1)))) (f2 mulD (f2 ixD (fV 1) (fC (.int 0))) (f2 ixD (fV 0) (fC (.int 1))))))
noncomputable def n__law_under : List D → Option D := semOf 2 2 m__law_under
noncomputable def m__law_step : En → Option Fl :=
  (fSeq (fAsg (fSl (fV 1) fNo (fPo (fC (.int 2)))) (gT (gCons' (gN 6) (gCons' (gN 7) gNil'))))
  (fSeq (fSet 3 (f2 fdivD (fV 2) (fV 6)))
  (fSeq (fSet 4 (f2 modD (fV 2) (fV 6)))
  (fSeq (fSet 5 (fCall n__law_frac (fCons (f2 subD (f2 addD (f2 mulD (fV 3) (fV 6)) (fV 4)) (f2 modD (fV 4) (fC (.int 2)))) (fCons (fV 7) fNil))))
  (fSeq (fIfS (fB (f2 eqD (f2 modD (fV 4) (fC (.int 2))) (fC (.int 1))))
    (fSet 5 (fCall n__law_add (fCons (fV 5) (fCons (fCall n__law_frac (fCons (f2 mulD (fC (.int 2)) (f2 ixD (fV 0) (fC (.int 0)))) (fCons (f2 mulD (f2 ixD (fV 0) (fC (.int 1))) (fV 7)) fNil))) fNil))))
    fPass)
  (fRet (fV 5)))))))
noncomputable def n__law_step : List D → Option D := semOf 8 3 m__law_step
theorem frD_parts (u : Int) {l : Nat} (hl : 0 < l) : ∃ (a : Int) (b : Nat), frD u l = .tup [.int a, .int (b : Nat)] ∧ 0 < b ∧ b ≤ l ∧ a * l = u * b ∧ Nat.gcd a.natAbs b = 1 ∧ b ∣ l := by
  have hg : 0 < Nat.gcd u.natAbs l := Nat.gcd_pos_of_pos_right _ hl
  refine ⟨_, _, rfl, Nat.div_pos (Nat.le_of_dvd hl (Nat.gcd_dvd_right _ _)) hg, Nat.div_le_self _ _, ?_, ?_, Nat.div_dvd_of_dvd (Nat.gcd_dvd_right _ _)⟩
  · obtain ⟨b, hb⟩ := Nat.gcd_dvd_right u.natAbs l
    obtain ⟨a, ha⟩ := Int.natAbs_dvd_natAbs.mp (show ((Nat.gcd u.natAbs l : Nat) : Int).natAbs ∣ u.natAbs by rw [Int.natAbs_natCast]; exact Nat.gcd_dvd_left _ _)
    generalize Nat.gcd u.natAbs l = g at *
    subst hb ha
    rw [Int.mul_ediv_cancel_left _ (by omega), Nat.mul_div_cancel_left _ hg, Int.natCast_mul]
    rw [← Int.mul_assoc, Int.mul_comm a]
  · have h1 : (u / ((Nat.gcd u.natAbs l : Nat) : Int)).natAbs = u.natAbs / Nat.gcd u.natAbs l := by
      rw [Int.natAbs_ediv_of_dvd]
      · simp
      · exact Int.natAbs_dvd_natAbs.mp (by rw [Int.natAbs_natCast]; exact Nat.gcd_dvd_left _ _)
    rw [h1]
    exact Nat.coprime_div_gcd_div_gcd hg
theorem frD_of {u v : Int} {l m : Nat} (hl : 0 < l) (hm : 0 < m) (h : u * m = v * l) : frD u l = frD v m := by
  obtain ⟨a, b, e1, b0, b1, e2, e3, _⟩ := frD_parts u hl
  obtain ⟨c, d, e4, d0, d1, e5, e6, _⟩ := frD_parts v hm
  have key : a * d = c * b := by
    have : (a * d) * ((l : Int) * m) = (c * b) * ((l : Int) * m) := by
      have x1 : (a * d) * ((l : Int) * m) = (a * l) * (d * m) := by simp only [Int.mul_assoc, Int.mul_left_comm, Int.mul_comm]
      have x2 : (c * b) * ((l : Int) * m) = (c * m) * (b * l) := by simp only [Int.mul_assoc, Int.mul_left_comm, Int.mul_comm]
      have x3 : (u * b) * ((d : Int) * m) = (u * m) * (b * d) := by simp only [Int.mul_assoc, Int.mul_left_comm, Int.mul_comm]
      have x4 : (v * d) * ((b : Int) * l) = (v * l) * (b * d) := by simp only [Int.mul_assoc, Int.mul_left_comm, Int.mul_comm]
      rw [x1, x2, e2, e5, x3, x4, h]
    exact Int.eq_of_mul_eq_mul_right (Int.ne_of_gt (Int.mul_pos (by omega) (by omega))) this
  have k1 : a.natAbs * d = c.natAbs * b := by
    have := congrArg Int.natAbs key
    rwa [Int.natAbs_mul, Int.natAbs_mul, Int.natAbs_natCast, Int.natAbs_natCast] at this
  have q1 : b ∣ d := (Nat.Coprime.dvd_of_dvd_mul_left (Nat.Coprime.symm e3) (show b ∣ a.natAbs * d from ⟨c.natAbs, by rw [k1, Nat.mul_comm]⟩))
  have q2 : d ∣ b := (Nat.Coprime.dvd_of_dvd_mul_left (Nat.Coprime.symm e6) (show d ∣ c.natAbs * b from ⟨a.natAbs, by rw [← k1, Nat.mul_comm]⟩))
  have q3 : b = d := Nat.dvd_antisymm q1 q2
  subst q3
  have q4 : a = c := Int.eq_of_mul_eq_mul_right (by omega) key
  rw [e1, e4, q4]
theorem frD_inj {u v : Int} {l m : Nat} (hl : 0 < l) (hm : 0 < m) (h : frD u l = frD v m) : u * m = v * l := by
  obtain ⟨a, b, e1, b0, b1, e2, e3, _⟩ := frD_parts u hl
  obtain ⟨c, d, e4, d0, d1, e5, e6, _⟩ := frD_parts v hm
  rw [e1, e4] at h
  simp only [D.tup.injEq, List.cons.injEq, D.int.injEq, and_true] at h
  obtain ⟨rfl, h2⟩ := h
  have h2 : b = d := by omega
  subst h2
  have x1 : (u * m) * (b : Int) = (v * l) * b := by
    have x1 : (u * m) * (b : Int) = (u * b) * m := by simp only [Int.mul_assoc, Int.mul_left_comm, Int.mul_comm]
    have x2 : (v * l) * (b : Int) = (v * b) * l := by simp only [Int.mul_assoc, Int.mul_left_comm, Int.mul_comm]
    rw [x1, x2, ← e2, ← e5]
    simp only [Int.mul_assoc, Int.mul_left_comm, Int.mul_comm]
  exact Int.eq_of_mul_eq_mul_right (by omega) x1
theorem ok_frD (u : Int) (l n : Nat) : okN (n + 1) (frD u l) = true := by cases n <;> rfl
theorem eqv_pr (a b c d : Int) : eqv (.tup [.int a, .int b]) (.tup [.int c, .int d]) = decide (a = c ∧ b = d) := by
  unfold eqv
  simp only [toP, toPs, PyData.eqv, PyData.eqvAll]
  by_cases h : a = c
  · by_cases h' : b = d
    · simp [h, h']
    · simp [h, h']
  · simp [h]
theorem frD_pair {u v : Int} {l m : Nat} : (u / (Nat.gcd u.natAbs l : Nat) = v / (Nat.gcd v.natAbs m : Nat) ∧ ((l / Nat.gcd u.natAbs l : Nat) : Int) = ((m / Nat.gcd v.natAbs m : Nat) : Int)) ↔ frD u l = frD v m := by
  unfold frD
  simp only [D.tup.injEq, List.cons.injEq, D.int.injEq, and_true]
theorem eqv_fr (u v : Int) {l m : Nat} (hl : 0 < l) (hm : 0 < m) : eqv (frD u l) (frD v m) = decide (u * m = v * l) := by
  refine (eqv_pr _ _ _ _).trans (decide_eq_decide.mpr (frD_pair.trans ⟨frD_inj hl hm, frD_of hl hm⟩))
theorem eq_fr (u v : Int) {l m : Nat} (hl : 0 < l) (hm : 0 < m) : eqD (frD u l) (frD v m) = some (.bl (decide (u * m = v * l))) := by
  unfold eqD
  rw [if_pos ⟨ok_frD u l 59, ok_frD v m 59⟩, eqv_fr u v hl hm]
theorem ne_fr (u v : Int) {l m : Nat} (hl : 0 < l) (hm : 0 < m) : neD (frD u l) (frD v m) = some (.bl (!decide (u * m = v * l))) := by
  unfold neD
  rw [if_pos ⟨ok_frD u l 59, ok_frD v m 59⟩, eqv_fr u v hl hm]
/-! the program's own -/
abbrev pr (a : Int) (b : Nat) : D := .tup [.int a, .int (b : Nat)]
theorem e_added_raw {a c : Int} {b d : Nat} (hb : 0 < b) (hd : 0 < d) (h : b * d < 1073741824) : n_added [pr a b, pr c d] = some (frD (a * d + c * b) (b * d)) := by
  have hb' : b ≤ b * d := Nat.le_mul_of_pos_right _ hd
  have hd' : d ≤ b * d := Nat.le_mul_of_pos_left _ hb
  refine sem_rt rfl ?_
  show m_added [some (pr a b), some (pr c d)] = _
  unfold m_added
  walk_at "ds" <;> walk_at "dt"
  rw [← Int.natCast_mul]
  exact e_fraction (Nat.mul_pos hb hd) h
theorem e_added {u v : Int} {l m : Nat} (hl : 0 < l) (hm : 0 < m) (h : l * m < 1073741824) : n_added [frD u l, frD v m] = some (frD (u * m + v * l) (l * m)) := by
  obtain ⟨a, b, e1, b0, b1, e2, e3, _⟩ := frD_parts u hl
  obtain ⟨c, d, e4, d0, d1, e5, e6, _⟩ := frD_parts v hm
  have hbd : b * d ≤ l * m := Nat.mul_le_mul b1 d1
  rw [e1, e4, e_added_raw b0 d0 (by omega)]
  congr 1
  refine frD_of (Nat.mul_pos b0 d0) (Nat.mul_pos hl hm) ?_
  rw [Int.natCast_mul, Int.natCast_mul]
  grind
theorem e_add1 {u v : Int} {l : Nat} (hl : 0 < l) (h : l * l < 1073741824) : n_added [frD u l, frD v l] = some (frD (u + v) l) := by
  rw [e_added hl hl h]
  congr 1
  refine frD_of (Nat.mul_pos hl hl) hl ?_
  rw [Int.natCast_mul]
  grind
theorem e_less_raw {a c : Int} {b d : Nat} (hb : 0 < b) (hd : 0 < d) (h : b * d < 1073741824) : n_less [pr a b, pr c d] = some (frD (a * d - c * b) (b * d)) := by
  refine sem_rt rfl ?_
  show m_less [some (pr a b), some (pr c d)] = _
  unfold m_less
  walk_at "ds" <;> walk_at "dt"
  rw [e_added_raw (a := a) (c := 0 - c) hb hd h]
  congr 2
  grind
theorem e_less {u v : Int} {l m : Nat} (hl : 0 < l) (hm : 0 < m) (h : l * m < 1073741824) : n_less [frD u l, frD v m] = some (frD (u * m - v * l) (l * m)) := by
  obtain ⟨a, b, e1, b0, b1, e2, e3, _⟩ := frD_parts u hl
  obtain ⟨c, d, e4, d0, d1, e5, e6, _⟩ := frD_parts v hm
  have hbd : b * d ≤ l * m := Nat.mul_le_mul b1 d1
  rw [e1, e4, e_less_raw b0 d0 (by omega)]
  congr 1
  refine frD_of (Nat.mul_pos b0 d0) (Nat.mul_pos hl hm) ?_
  rw [Int.natCast_mul, Int.natCast_mul]
  grind
theorem e_less1 {u v : Int} {l : Nat} (hl : 0 < l) (h : l * l < 1073741824) : n_less [frD u l, frD v l] = some (frD (u - v) l) := by
  rw [e_less hl hl h]
  congr 1
  refine frD_of (Nat.mul_pos hl hl) hl ?_
  rw [Int.natCast_mul]
  grind
theorem e_times {k u : Int} {l : Nat} (hl : 0 < l) (h : l < 1073741824) (hk : -1000000 < k ∧ k < 1000000) : n_times [.int k, frD u l] = some (frD (k * u) l) := by
  obtain ⟨a, b, e1, b0, b1, e2, e3, _⟩ := frD_parts u hl
  rw [e1]
  refine sem_rt rfl ?_
  show m_times [some (.int k), some (pr a b)] = _
  unfold m_times
  walk_at "ds" <;> walk_at "dt"
  rw [e_fraction b0 (by omega)]
  congr 1
  exact frD_of b0 hl (by grind)
theorem e_isless {u v : Int} {l m : Nat} (hl : 0 < l) (hm : 0 < m) (hl2 : l < 1073741824) (hm2 : m < 1073741824) : n_is_less [frD u l, frD v m] = some (.bl (decide (u * m < v * l))) := by
  obtain ⟨a, b, e1, b0, b1, e2, e3, _⟩ := frD_parts u hl
  obtain ⟨c, d, e4, d0, d1, e5, e6, _⟩ := frD_parts v hm
  rw [e1, e4]
  refine sem_rt rfl ?_
  show m_is_less [some (pr a b), some (pr c d)] = _
  unfold m_is_less
  walk_at "ds" <;> walk_at "dt"
  rw [lt_i]
  congr 2
  refine decide_eq_decide.mpr ?_
  have p1 : (0 : Int) < (l : Int) * m := Int.mul_pos (by omega) (by omega)
  have p2 : (0 : Int) < (b : Int) * d := Int.mul_pos (by omega) (by omega)
  have x1 : (a * d) * ((l : Int) * m) = (u * m) * (b * d) := by grind
  have x2 : (c * b) * ((l : Int) * m) = (v * l) * (b * d) := by grind
  rw [← Int.mul_lt_mul_right p1, x1, x2, Int.mul_lt_mul_right p2]
theorem e_isless1 {u v : Int} {l : Nat} (hl : 0 < l) (hl2 : l < 1073741824) : n_is_less [frD u l, frD v l] = some (.bl (decide (u < v))) := by
  rw [e_isless hl hl hl2 hl2]
  congr 2
  refine decide_eq_decide.mpr ?_
  exact Int.mul_lt_mul_right (by omega)
theorem e_size {u : Int} {l : Nat} (hl : 0 < l) : n_size [frD u l] = some (frD (u.natAbs : Nat) l) := by
  obtain ⟨a, b, e1, b0, b1, e2, e3, _⟩ := frD_parts u hl
  rw [e1]
  refine sem_rt rfl ?_
  show m_size [some (pr a b)] = _
  unfold m_size
  have ha : absG [.int a] = some (.int ((a.natAbs : Nat) : Int)) := by
    rw [abs_i]
    congr 2
    by_cases q : a < 0
    · rw [if_pos q]; omega
    · rw [if_neg q]; omega
  refine (ret_of (v_tup (v_cons (v_blt (v_cons (v_2 (by walk_at "dn") v_c rfl) v_nil) ha) (v_cons (v_2 (by walk_at "dn") v_c rfl) v_nil)) (show 2 ≤ sizeLine by decide))).trans ?_
  obtain ⟨a', b', f1, f0, f2, f3, f4, _⟩ := frD_parts ((u.natAbs : Nat) : Int) hl
  have : frD ((a.natAbs : Nat) : Int) b = pr (a.natAbs : Nat) b := by
    unfold frD
    rw [Int.natAbs_natCast, e3]
    simp
  congr 2
  rw [show D.tup [.int ((a.natAbs : Nat) : Int), .int (b : Nat)] = pr (a.natAbs : Nat) b from rfl, ← this]
  refine frD_of b0 hl ?_
  have := congrArg Int.natAbs e2
  rw [Int.natAbs_mul, Int.natAbs_mul, Int.natAbs_natCast, Int.natAbs_natCast] at this
  rw [← Int.natCast_mul, ← Int.natCast_mul, this]
theorem frD_scale (u : Int) {l m : Nat} (hl : 0 < l) (hm : 0 < m) : frD (u * m) (l * m) = frD u l := frD_of (Nat.mul_pos hl hm) hl (by rw [Int.natCast_mul]; grind)
end Dn
set_option Elab.async false
set_option linter.all false
set_option maxRecDepth 100000
/-! Times of steps; the law's own fractions. -/
namespace Dn
open PySem L2
local macro_rules | `(tactic| walk_at "dg") => `(tactic| first
  | with_reducible exact add_i _ _ | with_reducible exact sub_i _ _ | ((with_reducible refine mul_i ?_); omega) | ((with_reducible refine fdiv_i ?_); omega) | ((with_reducible refine mod_i ?_); omega) | with_reducible exact neg_i _
  | with_reducible exact lt_i _ _ | with_reducible exact le_i _ _ | with_reducible exact gt_i _ _ | with_reducible exact ge_i _ _ | with_reducible exact eq_i _ _ | with_reducible exact ne_i _ _ | with_reducible exact eq_s _ _ | with_reducible exact ne_s _ _
  | ((with_reducible refine add_s ?_); omega) | ((with_reducible refine add_t ?_); omega) | ((with_reducible refine add_l ?_); omega) | ((with_reducible refine mul_s ?_); omega) | ((with_reducible refine mul_l ?_); omega)
  | ((with_reducible refine len_s ?_); omega) | with_reducible exact len_t _ | with_reducible exact len_l _ | with_reducible exact len_c _ | with_reducible exact int_b _ | with_reducible exact int_i _ | with_reducible exact abs_i _
  | ((with_reducible refine sl_s ?_); omega) | with_reducible exact sl_t _ _ _ | with_reducible exact sl_l _ _ _ | ((with_reducible apply ix_t); (· omega); (· rfl)) | ((with_reducible apply ix_l); (· omega); (· rfl)) | with_reducible assumption)
local macro_rules | `(tactic| walk_at "dc") => `(tactic| with_reducible assumption)
local macro_rules | `(tactic| walk_at "dn") => `(tactic| first
  | with_reducible exact v_c | with_reducible exact v_nil | with_reducible exact v_no
  | ((with_reducible apply v_var); (· rfl); (· rfl))
  | ((with_reducible apply v_2); (· walk_at "dn"); (· walk_at "dn"); (· walk_at "dg"))
  | ((with_reducible apply v_1); (· walk_at "dn"); (· walk_at "dg"))
  | ((with_reducible apply v_cons); (· walk_at "dn"); (· walk_at "dn"))
  | ((with_reducible apply v_blt); (· walk_at "dn"); (· walk_at "dg"))
  | ((with_reducible apply v_call); (· walk_at "dn"); (· walk_at "dc"))
  | ((with_reducible apply v_tup); (· walk_at "dn"); (· first | decide | (simp only [List.length_cons, List.length_nil]; decide)))
  | ((with_reducible apply v_lst); (· walk_at "dn"); (· first | decide | (simp only [List.length_cons, List.length_nil]; decide)))
  | ((with_reducible apply v_po); (· walk_at "dn"))
  | ((with_reducible apply v_sl); (· walk_at "dn"); (· walk_at "dn"); (· walk_at "dn"); (· walk_at "dg"))
  | ((with_reducible apply v_m1); (· walk_at "dn"); (· walk_at "dn"); (· walk_at "dg"))
  | ((with_reducible apply v_b); (· walk_at "dn"))
  | ((with_reducible apply v_not); (· walk_at "dn"))
  | ((with_reducible apply v_notV); (· walk_at "dn"))
  | ((with_reducible apply v_rng1); (· walk_at "dn"); (· omega))
  | ((with_reducible apply v_rng2); (· walk_at "dn"); (· omega))
  | ((with_reducible apply v_it); (· walk_at "dn"))
  | ((with_reducible apply v_itl); (· walk_at "dn"))
  | ((with_reducible apply v_its); (· walk_at "dn"))
  | with_reducible assumption)
local macro_rules | `(tactic| walk_at "dt") => `(tactic| first
  | with_reducible exact v_c | with_reducible exact v_nil | with_reducible exact v_no
  | ((with_reducible apply v_var); (· rfl); (· rfl))
  | ((with_reducible apply v_2) <;> walk_at "dt")
  | ((with_reducible apply v_1) <;> walk_at "dt")
  | ((with_reducible apply v_cons) <;> walk_at "dt")
  | ((with_reducible apply v_blt) <;> walk_at "dt")
  | ((with_reducible apply v_call) <;> walk_at "dt")
  | ((with_reducible apply v_tup) <;> walk_at "dt")
  | ((with_reducible apply v_lst) <;> walk_at "dt")
  | ((with_reducible apply v_po) <;> walk_at "dt")
  | ((with_reducible apply v_sl) <;> walk_at "dt")
  | ((with_reducible apply v_m1) <;> walk_at "dt")
  | ((with_reducible apply v_b) <;> walk_at "dt")
  | ((with_reducible apply v_notV) <;> walk_at "dt")
  | ((with_reducible apply v_not) <;> walk_at "dt")
  | ((with_reducible apply v_rng1) <;> first | omega | walk_at "dt")
  | ((with_reducible apply v_rng2) <;> first | omega | walk_at "dt")
  | walk_at "dg"
  | (show List.length _ ≤ sizeLine; first | decide | (simp only [List.length_cons, List.length_nil]; decide))
  | skip)
local macro_rules | `(tactic| walk_at "ds") => `(tactic| first
  | ((with_reducible apply w_ss) <;> first | walk_at "d1" | skip)
  | ((with_reducible apply w_r) <;> first | walk_at "d1" | skip)
  | ((with_reducible apply w_sp) <;> first | walk_at "d1" | skip)
  | ((with_reducible apply w_so) <;> first | walk_at "d1" | skip)
  | (with_reducible apply w_sv)
  | (with_reducible apply w_sq))
local macro_rules | `(tactic| walk_at "dx") => `(tactic| simp only [put, jn, List.set_cons_zero, List.set_cons_succ])
theorem div_loop4 (x y : Option D) : ∀ (f a b : Nat) (c : Nat), whileF (fB (f2 neD (fV 1) (fC (.int 0)))) (fPar 0 1 (fCons (fV 1) (fCons (f2 modD (fV 0) (fV 1)) fNil))) f [some (.int (a : Nat)), some (.int (b : Nat))] = some (.nx [some (.int (c : Nat)), some (.int 0)]) →
    whileF (fB (f2 neD (fV 3) (fC (.int 0)))) (fPar 2 3 (fCons (fV 3) (fCons (f2 modD (fV 2) (fV 3)) fNil))) f [x, y, some (.int (a : Nat)), some (.int (b : Nat))] = some (.nx [x, y, some (.int (c : Nat)), some (.int 0)])
  | 0, a, b, c, h => by cases h
  | f + 1, a, b, c, h => by
    rw [whileF] at h ⊢
    by_cases hb : b = 0
    · subst hb
      have c1 : fB (f2 neD (fV 1) (fC (.int 0))) [some (.int (a : Nat)), some (.int ((0 : Nat) : Int))] = some false := v_b (v_2 (by walk_at "dn") v_c rfl)
      have c2 : fB (f2 neD (fV 3) (fC (.int 0))) [x, y, some (.int (a : Nat)), some (.int ((0 : Nat) : Int))] = some false := v_b (v_2 (by walk_at "dn") v_c rfl)
      rw [c1] at h
      rw [c2]
      simp only [Option.bind_some, Bool.false_eq_true, if_false, Option.some.injEq, Fl.nx.injEq, List.cons.injEq] at h ⊢
      simp [h.1]
    · have c1 : fB (f2 neD (fV 1) (fC (.int 0))) [some (.int (a : Nat)), some (.int (b : Nat))] = some true := by
        refine v_b (v_2 (by walk_at "dn") v_c ?_)
        rw [ne_i, decide_eq_false (by omega)]
        rfl
      have c2 : fB (f2 neD (fV 3) (fC (.int 0))) [x, y, some (.int (a : Nat)), some (.int (b : Nat))] = some true := by
        refine v_b (v_2 (by walk_at "dn") v_c ?_)
        rw [ne_i, decide_eq_false (by omega)]
        rfl
      have hm : modD (.int (a : Nat)) (.int (b : Nat)) = some (.int ((a % b : Nat) : Int)) := by
        rw [mod_i (by omega)]
        simp
      have s1 : fPar 0 1 (fCons (fV 1) (fCons (f2 modD (fV 0) (fV 1)) fNil)) [some (.int (a : Nat)), some (.int (b : Nat))] = some (.nx [some (.int (b : Nat)), some (.int ((a % b : Nat) : Int))]) :=
        w_par (v_cons (by walk_at "dn") (v_cons (v_2 (by walk_at "dn") (by walk_at "dn") hm) v_nil)) rfl
      have s2 : fPar 2 3 (fCons (fV 3) (fCons (f2 modD (fV 2) (fV 3)) fNil)) [x, y, some (.int (a : Nat)), some (.int (b : Nat))] = some (.nx [x, y, some (.int (b : Nat)), some (.int ((a % b : Nat) : Int))]) :=
        w_par (v_cons (by walk_at "dn") (v_cons (v_2 (by walk_at "dn") (by walk_at "dn") hm) v_nil)) rfl
      rw [c1] at h
      rw [c2]
      simp only [Option.bind_some, if_true, s1, s2] at h ⊢
      exact div_loop4 x y f b (a % b) c h
theorem e_lfrac {u : Int} {l : Nat} (h0 : 0 < l) (h : l < 1073741824) : n__law_frac [.int u, .int (l : Nat)] = some (frD u l) := by
  refine sem_rt rfl ?_
  show m__law_frac [some (.int u), some (.int (l : Nat)), none, none] = _
  unfold m__law_frac
  have ha : absG [.int u] = some (.int ((u.natAbs : Nat) : Int)) := by
    rw [abs_i]
    congr 2
    by_cases q : u < 0
    · rw [if_pos q]; omega
    · rw [if_neg q]; omega
  have hg : 0 < Nat.gcd u.natAbs l := Nat.gcd_pos_of_pos_right _ h0
  have hg2 : Nat.gcd u.natAbs l ≤ l := Nat.le_of_dvd h0 (Nat.gcd_dvd_right _ _)
  refine w_sp (v_cons (v_blt (by walk_at "dn") ha) (by walk_at "dn")) ?_
  refine w_seq (e := [some (.int u), some (.int (l : Nat)), some (.int ((Nat.gcd u.natAbs l : Nat) : Int)), some (.int 0)]) ?_ ?_
  · unfold fWhile
    refine div_loop4 _ _ _ u.natAbs l _ ?_
    rw [div_fuel 30 l _ _ h (Nat.le_trans (by decide) (fuelN_ge _)), div_loop l _ _ (by omega)]
  refine ret_of ?_
  unfold frD
  generalize Nat.gcd u.natAbs l = g at *
  rw [show ((l / g : Nat) : Int) = (l : Int) / (g : Int) by simp]
  refine v_tup (by walk_at "dn") (by show 2 ≤ sizeLine; decide)
theorem e_ladd_raw {a c : Int} {b d : Nat} (hb : 0 < b) (hd : 0 < d) (h : b * d < 1073741824) : n__law_add [pr a b, pr c d] = some (frD (a * d + c * b) (b * d)) := by
  have hb' : b ≤ b * d := Nat.le_mul_of_pos_right _ hd
  have hd' : d ≤ b * d := Nat.le_mul_of_pos_left _ hb
  refine sem_rt rfl ?_
  show m__law_add [some (pr a b), some (pr c d)] = _
  unfold m__law_add
  walk_at "ds" <;> walk_at "dt"
  rw [← Int.natCast_mul]
  exact e_lfrac (Nat.mul_pos hb hd) h
theorem e_ladd {u v : Int} {l m : Nat} (hl : 0 < l) (hm : 0 < m) (h : l * m < 1073741824) : n__law_add [frD u l, frD v m] = some (frD (u * m + v * l) (l * m)) := by
  obtain ⟨a, b, e1, b0, b1, e2, e3, _⟩ := frD_parts u hl
  obtain ⟨c, d, e4, d0, d1, e5, e6, _⟩ := frD_parts v hm
  have hbd : b * d ≤ l * m := Nat.mul_le_mul b1 d1
  rw [e1, e4, e_ladd_raw b0 d0 (by omega)]
  congr 1
  refine frD_of (Nat.mul_pos b0 d0) (Nat.mul_pos hl hm) ?_
  rw [Int.natCast_mul, Int.natCast_mul]
  grind
theorem e_ladd1 {u v : Int} {l : Nat} (hl : 0 < l) (h : l * l < 1073741824) : n__law_add [frD u l, frD v l] = some (frD (u + v) l) := by
  rw [e_ladd hl hl h]
  congr 1
  refine frD_of (Nat.mul_pos hl hl) hl ?_
  rw [Int.natCast_mul]
  grind
theorem e_lunder {u v : Int} {l m : Nat} (hl : 0 < l) (hm : 0 < m) (hl2 : l < 1073741824) (hm2 : m < 1073741824) : n__law_under [frD u l, frD v m] = some (.bl (decide (u * m < v * l))) := by
  obtain ⟨a, b, e1, b0, b1, e2, e3, _⟩ := frD_parts u hl
  obtain ⟨c, d, e4, d0, d1, e5, e6, _⟩ := frD_parts v hm
  rw [e1, e4]
  refine sem_rt rfl ?_
  show m__law_under [some (pr a b), some (pr c d)] = _
  unfold m__law_under
  walk_at "ds" <;> walk_at "dt"
  rw [lt_i]
  congr 2
  refine decide_eq_decide.mpr ?_
  have p1 : (0 : Int) < (l : Int) * m := Int.mul_pos (by omega) (by omega)
  have p2 : (0 : Int) < (b : Int) * d := Int.mul_pos (by omega) (by omega)
  have x1 : (a * d) * ((l : Int) * m) = (u * m) * (b * d) := by grind
  have x2 : (c * b) * ((l : Int) * m) = (v * l) * (b * d) := by grind
  rw [← Int.mul_lt_mul_right p1, x1, x2, Int.mul_lt_mul_right p2]
theorem e_lunder1 {u v : Int} {l : Nat} (hl : 0 < l) (hl2 : l < 1073741824) : n__law_under [frD u l, frD v l] = some (.bl (decide (u < v))) := by
  rw [e_lunder hl hl hl2 hl2]
  congr 2
  refine decide_eq_decide.mpr ?_
  exact Int.mul_lt_mul_right (by omega)
/-- a pair without a common divisor is the fraction of its parts -/
theorem pr_fr {a b : Nat} (h : Nat.gcd a b = 1) : pr (a : Nat) b = frD (a : Nat) b := by
  unfold frD
  rw [Int.natAbs_natCast, h]
  simp
/-! the time of a step, in parts of 1 / (sb * grid) -/
def stT (sa sb s k : Nat) : Nat := (k / s * s + (k % s - k % s % 2)) * sb + (if k % s % 2 = 1 then 2 * sa else 0)
theorem fdiv_n {a b : Nat} (h : 0 < b) (h2 : b < 1073741824) : fdivD (.int (a : Nat)) (.int (b : Nat)) = some (.int ((a / b : Nat) : Int)) := by
  rw [fdiv_i (by omega)]
  simp
theorem mod_n {a b : Nat} (h : 0 < b) : modD (.int (a : Nat)) (.int (b : Nat)) = some (.int ((a % b : Nat) : Int)) := by
  rw [mod_i (by omega)]
  simp
theorem mod_2 {a : Nat} : modD (.int (a : Nat)) (.int 2) = some (.int ((a % 2 : Nat) : Int)) := mod_n (b := 2) (by decide)
theorem sub_n {a b : Nat} (h : b ≤ a) : subD (.int (a : Nat)) (.int (b : Nat)) = some (.int ((a - b : Nat) : Int)) := by
  rw [sub_i]
  congr 2
  omega
theorem add_n {a b : Nat} : addD (.int (a : Nat)) (.int (b : Nat)) = some (.int ((a + b : Nat) : Int)) := by
  rw [add_i]
  congr 2
theorem mul_n {a b : Nat} (h : a < 2 ^ 64 ∨ b < 2 ^ 64) : mulD (.int (a : Nat)) (.int (b : Nat)) = some (.int ((a * b : Nat) : Int)) := by
  rw [mul_i (by omega)]
  simp
theorem e_step_time {sa sb k : Nat} {p : Pt} (hb : 0 < sb) (hs : 0 < p.s) (hs2 : p.s ≤ 1000) (hg : 0 < p.g) (h : sb * p.g * (sb * p.g) < 1073741824) (hk : k < 1000000) : n_step_time [pr (sa : Nat) sb, ptD p, .int (k : Nat)] = some (frD (stT sa sb p.s k : Nat) (sb * p.g)) := by
  have g0 : p.g * (sb * p.g) ≤ sb * p.g * (sb * p.g) := Nat.mul_le_mul_right _ (Nat.le_mul_of_pos_left _ hb)
  have g1 : p.g * p.g ≤ p.g * (sb * p.g) := Nat.mul_le_mul_left _ (Nat.le_mul_of_pos_left _ hb)
  have g2 : sb * p.g ≤ p.g * (sb * p.g) := Nat.le_mul_of_pos_left _ hg
  have g3 : p.g ≤ p.g * p.g := Nat.le_mul_of_pos_left _ hg
  have g4 : sb ≤ sb * p.g := Nat.le_mul_of_pos_right _ hg
  have hbg : 0 < sb * p.g := Nat.mul_pos hb hg
  have hq2 : k / p.s ≤ k := Nat.div_le_self _ _
  have hrl : k % p.s % 2 ≤ k % p.s := Nat.mod_le _ _
  refine sem_rt rfl ?_
  show m_step_time [some (pr (sa : Nat) sb), some (ptD p), some (.int (k : Nat)), none, none, none] = _
  unfold m_step_time
  refine w_sg (v_sl (by walk_at "dn") v_no (v_po v_c) (cut2 p)) rfl ?_
  refine w_ss (v_call (v_cons (v_2 (by walk_at "dn") (by walk_at "dn") (fdiv_n hs (by omega))) (v_cons (v_call (by walk_at "dn") (e_beats (s := p.s) (g := p.g) hg (by omega))) v_nil)) (e_times hg (by omega) ⟨Int.lt_of_lt_of_le (by decide) (Int.natCast_nonneg _), by omega⟩)) ?_
  refine w_ss (v_2 (by walk_at "dn") (by walk_at "dn") (mod_n hs)) ?_
  refine w_ss (v_call (v_cons (by walk_at "dn") (v_cons (v_call (v_cons (v_2 (by walk_at "dn") (v_2 (by walk_at "dn") v_c mod_2) (sub_n hrl)) (by walk_at "dn")) (e_fraction hg (by omega))) v_nil)) (e_add1 hg (by omega))) ?_
  have eT : frD (((k / p.s : Nat) : Int) * (p.s : Nat) + ((k % p.s - k % p.s % 2 : Nat) : Int)) p.g = frD (((k / p.s * p.s + (k % p.s - k % p.s % 2)) * sb : Nat) : Int) (sb * p.g) := by
    refine frD_of hg hbg ?_
    simp only [Int.natCast_mul, Int.natCast_add]
    grind
  rw [eT]
  by_cases ho : k % p.s % 2 = 1
  · refine w_st (v_b (v_2 (v_2 (by walk_at "dn") v_c mod_2) v_c (by rw [ho]; rfl))) ?_
    refine w_ss (v_call (v_cons (by walk_at "dn") (v_cons (v_call (v_cons (v_2 v_c (v_2 (by walk_at "dn") v_c rfl) (mul_n (a := 2) (.inl (by decide)))) (v_cons (v_2 (v_2 (by walk_at "dn") v_c rfl) (by walk_at "dn") (mul_n (.inl (by omega)))) v_nil)) (e_fraction hbg (by omega))) v_nil)) (e_add1 hbg ?_)) ?_
    · exact h
    refine ret_of ?_
    unfold stT
    rw [if_pos ho]
    walk_at "dn"
  · refine w_sf (v_b (v_2 (v_2 (by walk_at "dn") v_c mod_2) v_c ?_)) ?_
    · rw [show (1 : Int) = ((1 : Nat) : Int) from rfl, eq_i, decide_eq_false (by omega)]
    refine ret_of ?_
    unfold stT
    rw [if_neg ho, Nat.add_zero]
    walk_at "dn"
end Dn
set_option Elab.async false
set_option linter.all false
set_option maxRecDepth 100000
/-! Two patterns together: limits, rounds. -/
namespace Dn
open PySem L2
/-- as long as a part of n parts of 1/12 -/
structure Lk (p : Pt) (n : Nat) : Prop where
  g : p.g ∣ 12
  s : p.s * (12 / p.g) ∣ n
theorem Pt.Drawn.lk {p : Pt} (h : p.Drawn) : Lk p (12 * p.s) := by
  have hg : p.g ∣ 12 := by
    have h0 := h.g0
    have h1 := h.g1
    have : p.g = 1 ∨ p.g = 2 ∨ p.g = 3 ∨ p.g = 4 := by omega
    rcases this with e | e | e | e <;> rw [e] <;> decide
  exact ⟨hg, by rw [Nat.mul_comm 12]; exact Nat.mul_dvd_mul_left _ (Nat.div_dvd_of_dvd hg)⟩
theorem Lk.mono {p : Pt} {n m : Nat} (h : Lk p n) (d : n ∣ m) : Lk p m := ⟨h.g, Nat.dvd_trans h.s d⟩
theorem Lk.tog {a b : Pt} {n : Nat} (ha : a.Fit) (hb : b.Fit) (h : Lk a n) (h' : Lk b n) : Lk (togP a b) n := by
  have hg : gG a b ∣ 12 := Nat.lcm_dvd h.g h'.g
  refine ⟨hg, ?_⟩
  show sS a b * (12 / gG a b) ∣ n
  rw [sS_tog ha hb 12 hg]
  exact Nat.lcm_dvd h.s h'.s
theorem Lk.le {p : Pt} {n : Nat} (f : p.Fit) (h : Lk p n) (hn : 0 < n) : p.s ≤ n ∧ p.g ≤ 12 := by
  have h0 : 0 < 12 / p.g := m_pos (by decide) f.g0 h.g
  have h1 : p.s ≤ p.s * (12 / p.g) := Nat.le_mul_of_pos_right _ h0
  have h2 := Nat.le_of_dvd hn h.s
  have h3 := Nat.le_of_dvd (by decide) h.g
  omega
theorem wr_togL {a b : Pt} {n : Nat} (ha : a.Fit) (hb : b.Fit) (la : Lk a n) (lb : Lk b n) (h0 : 0 < n) (h1 : n ≤ 100000) {st : Sto} {K : D → Sto → Prop} {E : Str → Sto → Prop} (k : K (ptD (togP a b)) st) : wn_together.run [ptD a, ptD b] st K E := by
  have h := (Lk.tog ha hb la lb).le (fit_tog ha hb) h0
  have h2 : sS a b ≤ n := h.1
  have h3 : gG a b ≤ 12 := h.2
  exact wr_together ha hb (by omega) (by omega) k
theorem Lk.big {p : Pt} {n : Nat} (f : p.Fit) (h : Lk p n) (h0 : 0 < n) (h1 : n ≤ 100000) : p.Big := by
  have := h.le f h0
  exact ⟨f.s0, by omega, f.g0, by omega, f.few, f.row⟩
theorem fit_only {p : Pt} (f : p.Fit) (l : List Nat) : (onlyP p l).Fit := ⟨f.s0, f.g0, (List.filter_sublist.map _).trans f.sub, fun q hq => f.row q (List.mem_filter.mp hq).1⟩
theorem pads_only (p : Pt) (l : List Nat) : padsP (onlyP p l) = (padsP p).filter fun c => decide (c ∈ l) := by
  unfold padsP onlyP
  rw [List.filter_map]
  rfl
theorem pads_sub {p : Pt} (f : p.Fit) {l : List Nat} (h : l.Sublist letters) : (padsP (onlyP p l)).Sublist l := by
  rw [pads_only]
  have := f.sub.filter fun c => decide (c ∈ l)
  rw [sub_filter h letters_nodup] at this
  exact this
theorem frD_one (u : Int) : frD u 1 = .tup [.int u, .int 1] := by
  unfold frD
  rw [Nat.gcd_one_right]
  simp
end Dn
set_option Elab.async false
set_option linter.all false
set_option maxRecDepth 100000
namespace K24
open PySem L2 Dn
local macro_rules | `(tactic| walk_at "dg") => `(tactic| first
  | with_reducible exact add_i _ _ | with_reducible exact sub_i _ _ | ((with_reducible refine mul_i ?_); omega) | ((with_reducible refine fdiv_i ?_); omega) | ((with_reducible refine mod_i ?_); omega) | with_reducible exact neg_i _
  | with_reducible exact lt_i _ _ | with_reducible exact le_i _ _ | with_reducible exact gt_i _ _ | with_reducible exact ge_i _ _ | with_reducible exact eq_i _ _ | with_reducible exact ne_i _ _ | with_reducible exact eq_s _ _ | with_reducible exact ne_s _ _
  | ((with_reducible refine add_s ?_); omega) | ((with_reducible refine add_t ?_); omega) | ((with_reducible refine add_l ?_); omega) | ((with_reducible refine mul_s ?_); omega) | ((with_reducible refine mul_l ?_); omega)
  | ((with_reducible refine len_s ?_); omega) | with_reducible exact len_t _ | with_reducible exact len_l _ | with_reducible exact len_c _ | with_reducible exact int_b _ | with_reducible exact int_i _ | with_reducible exact abs_i _
  | ((with_reducible refine sl_s ?_); omega) | with_reducible exact sl_t _ _ _ | with_reducible exact sl_l _ _ _ | ((with_reducible apply ix_t); (· omega); (· rfl)) | ((with_reducible apply ix_l); (· omega); (· rfl)) | with_reducible assumption)
local macro_rules | `(tactic| walk_at "dc") => `(tactic| with_reducible assumption)
local macro_rules | `(tactic| walk_at "dn") => `(tactic| first
  | with_reducible exact v_c | with_reducible exact v_nil | with_reducible exact v_no
  | ((with_reducible apply v_var); (· rfl); (· rfl))
  | ((with_reducible apply v_2); (· walk_at "dn"); (· walk_at "dn"); (· walk_at "dg"))
  | ((with_reducible apply v_1); (· walk_at "dn"); (· walk_at "dg"))
  | ((with_reducible apply v_cons); (· walk_at "dn"); (· walk_at "dn"))
  | ((with_reducible apply v_blt); (· walk_at "dn"); (· walk_at "dg"))
  | ((with_reducible apply v_call); (· walk_at "dn"); (· walk_at "dc"))
  | ((with_reducible apply v_tup); (· walk_at "dn"); (· first | decide | (simp only [List.length_cons, List.length_nil]; decide)))
  | ((with_reducible apply v_lst); (· walk_at "dn"); (· first | decide | (simp only [List.length_cons, List.length_nil]; decide)))
  | ((with_reducible apply v_po); (· walk_at "dn"))
  | ((with_reducible apply v_sl); (· walk_at "dn"); (· walk_at "dn"); (· walk_at "dn"); (· walk_at "dg"))
  | ((with_reducible apply v_m1); (· walk_at "dn"); (· walk_at "dn"); (· walk_at "dg"))
  | ((with_reducible apply v_b); (· walk_at "dn"))
  | ((with_reducible apply v_not); (· walk_at "dn"))
  | ((with_reducible apply v_notV); (· walk_at "dn"))
  | ((with_reducible apply v_rng1); (· walk_at "dn"); (· omega))
  | ((with_reducible apply v_rng2); (· walk_at "dn"); (· omega))
  | ((with_reducible apply v_it); (· walk_at "dn"))
  | ((with_reducible apply v_itl); (· walk_at "dn"))
  | ((with_reducible apply v_its); (· walk_at "dn"))
  | with_reducible assumption)
local macro_rules | `(tactic| walk_at "dt") => `(tactic| first
  | with_reducible exact v_c | with_reducible exact v_nil | with_reducible exact v_no
  | ((with_reducible apply v_var); (· rfl); (· rfl))
  | ((with_reducible apply v_2) <;> walk_at "dt")
  | ((with_reducible apply v_1) <;> walk_at "dt")
  | ((with_reducible apply v_cons) <;> walk_at "dt")
  | ((with_reducible apply v_blt) <;> walk_at "dt")
  | ((with_reducible apply v_call) <;> walk_at "dt")
  | ((with_reducible apply v_tup) <;> walk_at "dt")
  | ((with_reducible apply v_lst) <;> walk_at "dt")
  | ((with_reducible apply v_po) <;> walk_at "dt")
  | ((with_reducible apply v_sl) <;> walk_at "dt")
  | ((with_reducible apply v_m1) <;> walk_at "dt")
  | ((with_reducible apply v_b) <;> walk_at "dt")
  | ((with_reducible apply v_notV) <;> walk_at "dt")
  | ((with_reducible apply v_not) <;> walk_at "dt")
  | ((with_reducible apply v_rng1) <;> first | omega | walk_at "dt")
  | ((with_reducible apply v_rng2) <;> first | omega | walk_at "dt")
  | walk_at "dg"
  | (show List.length _ ≤ sizeLine; first | decide | (simp only [List.length_cons, List.length_nil]; decide))
  | skip)
local macro_rules | `(tactic| walk_at "ds") => `(tactic| first
  | ((with_reducible apply w_ss) <;> first | walk_at "d1" | skip)
  | ((with_reducible apply w_r) <;> first | walk_at "d1" | skip)
  | ((with_reducible apply w_sp) <;> first | walk_at "d1" | skip)
  | ((with_reducible apply w_so) <;> first | walk_at "d1" | skip)
  | (with_reducible apply w_sv)
  | (with_reducible apply w_sq))
local macro_rules | `(tactic| walk_at "dx") => `(tactic| simp only [put, jn, List.set_cons_zero, List.set_cons_succ])
noncomputable def m__law_rounds : En → Option Fl :=
  (fSeq (fPar 2 3 (fCons (fCall n_beats (fCons (fV 0) fNil)) (fCons (fCall n_beats (fCons (fV 1) fNil)) fNil)))
  (fRet (fCall n__law_frac (fCons (f2 mulD (f2 ixD (fV 2) (fC (.int 0))) (f2 ixD (fV 3) (fC (.int 1)))) (fCons (f2 mulD (f2 ixD (fV 2) (fC (.int 1))) (f2 ixD (fV 3) (fC (.int 0)))) fNil)))))
noncomputable def n__law_rounds : List D → Option D := semOf 4 2 m__law_rounds
noncomputable def w_law : WS :=
  (wSeq (wPS (fSet 1 (fCall n_only (fCons (fCall n__law_pattern (fCons (fCall n__law_mixed (fCons (fV 0) (fCons (fC (.int 0)) fNil))) fNil)) (fCons (fC (.str [97, 104, 107])) fNil)))))
    (wSeq (wPS (fSet 2 (fCall n_only (fCons (fCall n__law_pattern (fCons (fCall n__law_mixed (fCons (fV 0) (fCons (fC (.int 1)) fNil))) fNil)) (fCons (fC (.str [115, 122])) fNil)))))
    (wSeq (wSet 3 (wCall wn_together (wPA (fCons (fV 1) (fCons (fV 2) fNil)))))
    (wSeq (wPS (fPar 9 10 (fCons (fCall n__law_rounds (fCons (fV 3) (fCons (fV 1) fNil))) (fCons (fCall n__law_rounds (fCons (fV 3) (fCons (fV 2) fNil))) fNil))))
    (wSeq (wPS (fIfS (fOr (fB (f2 neD (f2 ixD (fV 9) (fC (.int 1))) (fC (.int 1)))) (fOr (fB (f2 neD (f2 ixD (fV 10) (fC (.int 1))) (fC (.int 1)))) (fOr (fB (f2 neD (f2 modD (f2 ixD (fV 3) (fC (.int 1))) (f2 ixD (fV 1) (fC (.int 1)))) (fC (.int 0)))) (fB (f2 neD (f2 modD (f2 ixD (fV 3) (fC (.int 1))) (f2 ixD (fV 2) (fC (.int 1)))) (fC (.int 0)))))))
      (fRet (fC (.bl false)))
      fPass))
    (wSeq (wSet 4 (wNewL (fNL fNil)))
    (wSeq (wFor (fRng1 (fCons (fC (.int 2)) fNil)) (gN 5)
      (wDrop (wLApp (wP (fV 4)) (wP (f2 addD (f2 mulD (f2 ixD (fCall n_loudness (fCons (fV 1) fNil)) (fV 5)) (f2 ixD (fV 9) (fC (.int 0)))) (f2 mulD (f2 ixD (fCall n_loudness (fCons (fV 2) fNil)) (fV 5)) (f2 ixD (fV 10) (fC (.int 0)))))))))
    (wSeq (wFrzL 4) (wSeq (wIf (wOr (wPT (fB (f2 neD (fCall n_loudness (fCons (fV 3) fNil)) (f1 tupD (fV 4))))) (wB (w2 neD (wCall wn_together (wPA (fCons (fV 2) (fCons (fV 1) fNil)))) (wP (fV 3)))))
      (wPS (fRet (fC (.bl false))))
      wPass)
    (wSeq (wPS (fIfS (fB (f2 neD (fLc (fIt (f2 ixD (fV 3) (fC (.int 2)))) (gT (gCons' (gN 11) (gCons' (gN 12) gNil'))) fYes (fV 11) [11, 12]) (fLc (fIt (f2 addD (f2 ixD (fV 1) (fC (.int 2))) (f2 ixD (fV 2) (fC (.int 2))))) (gT (gCons' (gN 11) (gCons' (gN 12) gNil'))) fYes (fV 11) [11, 12])))
      (fRet (fC (.bl false)))
      fPass))
    (wSeq (wPS (fIfS (fB (f2 gtD (f2 ixD (fV 3) (fC (.int 0))) (fC (.int 400))))
      (fRet (fC (.bl true)))
      fPass))
    (wSeq (wPS (fSet 6 (fCall n__law_pattern (fCons (fCall n__law_mixed (fCons (fV 0) (fCons (fC (.int 2)) fNil))) fNil))))
    (wSeq (wSet 7 (wCall wn_together (wPA (fCons (fV 3) (fCons (fTup (fCons (f2 ixD (fV 6) (fC (.int 0))) (fCons (f2 ixD (fV 6) (fC (.int 1))) (fCons (fSl (f2 ixD (fV 6) (fC (.int 2))) fNo (fPo (fC (.int 2)))) fNil)))) fNil)))))
    (wSeq (wSet 8 (wCall wn_together (wCons (wP (fV 1)) (wCons (wCall wn_together (wPA (fCons (fV 2) (fCons (fTup (fCons (f2 ixD (fV 6) (fC (.int 0))) (fCons (f2 ixD (fV 6) (fC (.int 1))) (fCons (fSl (f2 ixD (fV 6) (fC (.int 2))) fNo (fPo (fC (.int 2)))) fNil)))) fNil)))) wNil))))
    (wPS (fRet (f2 eqD (fCall n_coarser (fCons (fV 7) fNil)) (fCall n_coarser (fCons (fV 8) fNil)))))))))))))))))))
noncomputable def wn_law : WF := semW 13 1 w_law
theorem e_rounds {w p : Pt} {k : Nat} (hw : 0 < w.g) (hp : 0 < p.g) (hps : 0 < p.s) (h1 : w.g ≤ 900) (h2 : p.s ≤ 100000) (h3 : p.g ≤ 900) (h : w.s * p.g = k * (w.g * p.s)) : n__law_rounds [ptD w, ptD p] = some (.tup [.int (k : Nat), .int 1]) := by
  obtain ⟨A, B, e1, B0, B1, eq1, _, _⟩ := frD_parts ((w.s : Nat) : Int) hw
  obtain ⟨C, D', e2, D0, D1, eq2, _, _⟩ := frD_parts ((p.s : Nat) : Int) hp
  have C0 : 0 < C := by
    rcases Int.lt_or_le 0 C with h | h
    · exact h
    · have h4 := Int.mul_le_mul_of_nonneg_right h (show (0 : Int) ≤ (p.g : Int) by omega)
      rw [eq2, Int.zero_mul] at h4
      have h5 : (0 : Int) < ((p.s : Nat) : Int) * (D' : Int) := Int.mul_pos (by omega) (by omega)
      omega
  obtain ⟨c, rfl⟩ : ∃ c : Nat, C = (c : Int) := ⟨C.toNat, by omega⟩
  have eq2' : c * p.g = p.s * D' := by
    rw [← Int.natCast_mul, ← Int.natCast_mul] at eq2
    exact Int.ofNat.inj eq2
  have c1 : c ≤ p.s := by
    have : c * p.g ≤ p.s * p.g := by rw [eq2']; exact Nat.mul_le_mul_left _ D1
    exact Nat.le_of_mul_le_mul_right this hp
  have Bc : B * c ≤ 900 * 100000 := Nat.mul_le_mul (by omega) (by omega)
  have Bc0 : 0 < B * c := Nat.mul_pos B0 (by omega)
  refine sem_rt rfl ?_
  show m__law_rounds [some (ptD w), some (ptD p), none, none] = _
  unfold m__law_rounds
  have b1 : n_beats [ptD w] = some (.tup [.int A, .int (B : Nat)]) := by rw [← e1]; exact e_beats hw (by omega)
  have b2 : n_beats [ptD p] = some (.tup [.int (c : Nat), .int (D' : Nat)]) := by rw [← e2]; exact e_beats hp (by omega)
  refine w_sp (v_cons (v_call (v_cons (v_var rfl rfl) v_nil) b1) (v_cons (v_call (v_cons (v_var rfl rfl) v_nil) b2) v_nil)) ?_
  walk_at "dx"
  have m1 : mulD (.int A) (.int (D' : Nat)) = some (.int (A * (D' : Nat))) := mul_i (by omega)
  have m2 : mulD (.int (B : Nat)) (.int (c : Nat)) = some (.int ((B * c : Nat) : Int)) := by rw [mul_i (by omega), Int.natCast_mul]
  have hf : frD (A * (D' : Nat)) (B * c) = .tup [.int (k : Nat), .int 1] := by
    rw [← frD_one]
    refine frD_of Bc0 (by decide) ?_
    have hwp : (0 : Int) < (w.g : Int) * (p.s : Int) := Int.mul_pos (by omega) (by omega)
    have h' : (w.s : Int) * (p.g : Int) = (k : Int) * ((w.g : Int) * (p.s : Int)) := by
      rw [← Int.natCast_mul, ← Int.natCast_mul, ← Int.natCast_mul, h]
    refine Int.eq_of_mul_eq_mul_right (show (w.g : Int) * (p.s : Int) ≠ 0 by omega) ?_
    rw [Int.natCast_mul]
    have : A * (D' : Int) * ((1 : Nat) : Int) * ((w.g : Int) * (p.s : Int)) = (A * (w.g : Int)) * ((p.s : Int) * (D' : Int)) := by grind
    rw [this, eq1, ← eq2]
    grind
  refine ret_of (v_call (v_cons (v_2 (v_2 (v_var rfl rfl) v_c (show ixD (.tup [.int A, .int (B : Nat)]) (.int 0) = some (.int A) from rfl)) (v_2 (v_var rfl rfl) v_c (show ixD (.tup [.int (c : Nat), .int (D' : Nat)]) (.int 1) = some (.int (D' : Nat)) from rfl)) m1) (v_cons (v_2 (v_2 (v_var rfl rfl) v_c (show ixD (.tup [.int A, .int (B : Nat)]) (.int 1) = some (.int (B : Nat)) from rfl)) (v_2 (v_var rfl rfl) v_c (show ixD (.tup [.int (c : Nat), .int (D' : Nat)]) (.int 0) = some (.int (c : Nat)) from rfl)) m2) v_nil)) ?_)
  rw [e_lfrac Bc0 (by omega), hf]
theorem q_law : ∀ ns : List Int, ns.length ≤ 63 → (semW 13 1 w_law).run [.scr ns] (fun _ => none) (fun d _ => d = .bl true) (fun _ _ => False) := by
  intro ns hns
  obtain ⟨m0, m00, _, e0⟩ := mixed_ok ns 0 (by omega) (by omega)
  obtain ⟨m1, m10, _, e1⟩ := mixed_ok ns 1 (by omega) (by omega)
  obtain ⟨m2, m20, _, e2⟩ := mixed_ok ns 2 (by omega) (by omega)
  obtain ⟨p, dp, ep⟩ := e_lawpat m00
  obtain ⟨q, dq, eq⟩ := e_lawpat m10
  obtain ⟨r, dr, er⟩ := e_lawpat m20
  have fa := fit_only dp.fit [97, 104, 107]
  have fb := fit_only dq.fit [115, 122]
  have sa := pads_sub dp.fit (l := [97, 104, 107]) (by decide)
  have sb := pads_sub dq.fit (l := [115, 122]) (by decide)
  have la : Lk (onlyP p [97, 104, 107]) (12 * p.s) := ⟨dp.lk.g, dp.lk.s⟩
  have lb : Lk (onlyP q [115, 122]) (12 * q.s) := ⟨dq.lk.g, dq.lk.s⟩
  have as0 : (onlyP p [97, 104, 107]).s = p.s := rfl
  have bs0 : (onlyP q [115, 122]).s = q.s := rfl
  have ag0 : (onlyP p [97, 104, 107]).g = p.g := rfl
  have bg0 : (onlyP q [115, 122]).g = q.g := rfl
  have ea := e_only dp.ok [97, 104, 107]
  have eb := e_only dq.ok [115, 122]
  generalize onlyP p [97, 104, 107] = a at *
  generalize onlyP q [115, 122] = b at *
  have N0 : 0 < 12 * (p.s * q.s * r.s) := Nat.mul_pos (by decide) (Nat.mul_pos (Nat.mul_pos dp.s0 dq.s0) dr.s0)
  have N1 : 12 * (p.s * q.s * r.s) ≤ 12 * (16 * 16 * 16) := Nat.mul_le_mul_left _ (Nat.mul_le_mul (Nat.mul_le_mul dp.s1 dq.s1) dr.s1)
  have la := la.mono (m := 12 * (p.s * q.s * r.s)) (Nat.mul_dvd_mul_left _ ⟨q.s * r.s, by rw [Nat.mul_assoc]⟩)
  have lb := lb.mono (m := 12 * (p.s * q.s * r.s)) (Nat.mul_dvd_mul_left _ ⟨p.s * r.s, by grind⟩)
  have lr := dr.lk.mono (m := 12 * (p.s * q.s * r.s)) (Nat.mul_dvd_mul_left _ ⟨p.s * q.s, by grind⟩)
  generalize 12 * (p.s * q.s * r.s) = n at *
  have hpads := pads_ahk sa sb
  have fab := fit_tog fa fb
  have lab := Lk.tog fa fb la lb
  have ba := la.big fa N0 (by omega)
  have bb := lb.big fb N0 (by omega)
  have bab := lab.big fab N0 (by omega)
  have G0 := gG_pos fa fb
  have ma0 : 0 < gG a b / a.g := m_pos G0 fa.g0 (gG_a a b)
  have mb0 : 0 < gG a b / b.g := m_pos G0 fb.g0 (gG_b a b)
  have g12 : gG a b ≤ 12 := (lab.le fab N0).2
  have ga : a.g ≤ 12 := (la.le fa N0).2
  have gb : b.g ≤ 12 := (lb.le fb N0).2
  have ssa := (la.le fa N0).1
  have ssb := (lb.le fb N0).1
  generalize hka : sS a b / (a.s * (gG a b / a.g)) = ka
  generalize hkb : sS a b / (b.s * (gG a b / b.g)) = kb
  have ra : n__law_rounds [ptD (togP a b), ptD a] = some (.tup [.int (ka : Nat), .int 1]) := by
    refine e_rounds G0 fa.g0 fa.s0 (by show gG a b ≤ 900; omega) (by omega) (by omega) ?_
    show sS a b * a.g = ka * (gG a b * a.s)
    have h1 : ka * (a.s * (gG a b / a.g)) = sS a b := by rw [← hka]; exact Nat.div_mul_cancel (dS_a a b)
    have h2 : gG a b / a.g * a.g = gG a b := Nat.div_mul_cancel (gG_a a b)
    rw [← h1]
    conv => rhs; rw [← h2]
    grind
  have rb : n__law_rounds [ptD (togP a b), ptD b] = some (.tup [.int (kb : Nat), .int 1]) := by
    refine e_rounds G0 fb.g0 fb.s0 (by show gG a b ≤ 900; omega) (by omega) (by omega) ?_
    show sS a b * b.g = kb * (gG a b * b.s)
    have h1 : kb * (b.s * (gG a b / b.g)) = sS a b := by rw [← hkb]; exact Nat.div_mul_cancel (dS_b a b)
    have h2 : gG a b / b.g * b.g = gG a b := Nat.div_mul_cancel (gG_b a b)
    rw [← h1]
    conv => rhs; rw [← h2]
    grind
  have oa := e_loudB ba
  have ob := e_loudB bb
  have oab := e_loudB bab
  rw [loud_eq fun q hq => (fa.row q hq).2] at oa
  rw [loud_eq fun q hq => (fb.row q hq).2] at ob
  rw [loud_eq fun q hq => (fab.row q hq).2] at oab
  have c1 := cnt_tog fa fb hpads (c := 120) (by decide)
  have c2 := cnt_tog fa fb hpads (c := 88) (by decide)
  rw [hka, hkb] at c1 c2
  refine ⟨rfl, ?_⟩
  show w_law.run [some (.scr ns), none, none, none, none, none, none, none, none, none, none, none, none] _ _
  unfold w_law
  refine u_nx (w_set (v_call (v_cons (v_call (v_cons (v_call (v_cons (v_var rfl rfl) (v_cons v_c v_nil)) e0) v_nil) ep) (v_cons v_c v_nil)) ea) rfl) (no_own rfl) ?_
  refine u_nx (w_set (v_call (v_cons (v_call (v_cons (v_call (v_cons (v_var rfl rfl) (v_cons v_c v_nil)) e1) v_nil) eq) (v_cons v_c v_nil)) eb) rfl) (no_own rfl) ?_
  refine ⟨_, v_cons (v_var rfl rfl) (v_cons (v_var rfl rfl) v_nil), wr_togL fa fb la lb N0 (by omega) ?_⟩
  walk_at "dx"
  refine u_nx (w_par (v_cons (v_call (v_cons (v_var rfl rfl) (v_cons (v_var rfl rfl) v_nil)) ra) (v_cons (v_call (v_cons (v_var rfl rfl) (v_cons (v_var rfl rfl) v_nil)) rb) v_nil)) rfl) (no_own rfl) ?_
  walk_at "dx"
  have mda : modD (.int ((togP a b).g : Nat)) (.int (a.g : Nat)) = some (.int 0) := by
    have := fa.g0
    rw [mod_i (by omega), ← Int.natCast_emod, show (togP a b).g % a.g = 0 from Nat.mod_eq_zero_of_dvd (gG_a a b)]
    rfl
  have mdb : modD (.int ((togP a b).g : Nat)) (.int (b.g : Nat)) = some (.int 0) := by
    have := fb.g0
    rw [mod_i (by omega), ← Int.natCast_emod, show (togP a b).g % b.g = 0 from Nat.mod_eq_zero_of_dvd (gG_b a b)]
    rfl
  refine u_nx (w_iff (v_orf (v_b (v_2 (v_2 (v_var rfl rfl) v_c (show ixD (.tup [.int (ka : Nat), .int 1]) (.int 1) = some (.int 1) from rfl)) v_c rfl)) (v_orf (v_b (v_2 (v_2 (v_var rfl rfl) v_c (show ixD (.tup [.int (kb : Nat), .int 1]) (.int 1) = some (.int 1) from rfl)) v_c rfl)) (v_orf (v_b (v_2 (v_2 (v_2 (v_var rfl rfl) v_c (show ixD (ptD (togP a b)) (.int 1) = some (.int ((togP a b).g : Nat)) from rfl)) (v_2 (v_var rfl rfl) v_c (show ixD (ptD a) (.int 1) = some (.int (a.g : Nat)) from rfl)) mda) v_c rfl)) (v_b (v_2 (v_2 (v_2 (v_var rfl rfl) v_c (show ixD (ptD (togP a b)) (.int 1) = some (.int ((togP a b).g : Nat)) from rfl)) (v_2 (v_var rfl rfl) v_c (show ixD (ptD b) (.int 1) = some (.int (b.g : Nat)) from rfl)) mdb) v_c rfl))))) w_pass) (no_own rfl) ?_
  refine ⟨[], rfl, fun x hx => ?_⟩
  walk_at "dx"
  refine ⟨_, v_rng1 (v_cons v_c v_nil) (by omega), ?_⟩
  have kab : (ka : Int) < 2 ^ 64 ∧ (kb : Int) < 2 ^ 64 := by
    have h1 : ka ≤ sS a b := by rw [← hka]; exact Nat.div_le_self _ _
    have h2 : kb ≤ sS a b := by rw [← hkb]; exact Nat.div_le_self _ _
    have h3 : sS a b ≤ n := (lab.le fab N0).1
    omega
  have lapp : ∀ (c : Nat) (j : Int) (la' lb' : D) (u v : Nat), la' = .int (u : Nat) → lb' = .int (v : Nat) → addD (.int ((u : Nat) * (ka : Nat) : Int)) (.int ((v : Nat) * (kb : Nat) : Int)) = some (.int ((ka * u + kb * v : Nat) : Int)) := fun _ _ _ _ u v _ _ => by
    rw [add_i, Int.natCast_add, Int.natCast_mul, Int.natCast_mul, Int.mul_comm (u : Int), Int.mul_comm (v : Int)]
  have mk : ∀ (u k : Nat), (k : Int) < 2 ^ 64 → mulD (.int (u : Nat)) (.int (k : Nat)) = some (.int ((u : Nat) * (k : Nat) : Int)) := fun u k h => mul_i (by omega)
  refine ⟨_, rfl, _, v_var rfl rfl, x, rfl, ⟨_, Sto.put_same _ _ _⟩, .int ((ka * cnt a 120 + kb * cnt b 120 : Nat) : Int), ?_, _, Sto.put_same _ _ _, by decide, _, rfl, _, v_var rfl rfl, x, rfl, ⟨_, Sto.put_same _ _ _⟩, .int ((ka * cnt a 88 + kb * cnt b 88 : Nat) : Int), ?_, _, Sto.put_same _ _ _, (show 1 < 1000000 by decide), ?_⟩
  · refine v_2 (v_2 (v_2 (v_call (v_cons (v_var rfl rfl) v_nil) oa) (v_var rfl rfl) rfl) (v_2 (v_var rfl rfl) v_c (show ixD (.tup [.int (ka : Nat), .int 1]) (.int 0) = some (.int (ka : Nat)) from rfl)) (mk _ _ kab.1)) (v_2 (v_2 (v_call (v_cons (v_var rfl rfl) v_nil) ob) (v_var rfl rfl) rfl) (v_2 (v_var rfl rfl) v_c (show ixD (.tup [.int (kb : Nat), .int 1]) (.int 0) = some (.int (kb : Nat)) from rfl)) (mk _ _ kab.2)) (lapp 0 0 _ _ _ _ rfl rfl)
  · refine v_2 (v_2 (v_2 (v_call (v_cons (v_var rfl rfl) v_nil) oa) (v_var rfl rfl) rfl) (v_2 (v_var rfl rfl) v_c (show ixD (.tup [.int (ka : Nat), .int 1]) (.int 0) = some (.int (ka : Nat)) from rfl)) (mk _ _ kab.1)) (v_2 (v_2 (v_call (v_cons (v_var rfl rfl) v_nil) ob) (v_var rfl rfl) rfl) (v_2 (v_var rfl rfl) v_c (show ixD (.tup [.int (kb : Nat), .int 1]) (.int 0) = some (.int (kb : Nat)) from rfl)) (mk _ _ kab.2)) (lapp 0 0 _ _ _ _ rfl rfl)
  walk_at "dx"
  rw [← c1, ← c2] 
  refine ⟨x, _, rfl, Sto.put_same _ _ _, ?_⟩
  walk_at "dx"
  refine ⟨false, v_b (v_2 (v_call (v_cons (v_var rfl rfl) v_nil) oab) (v_1 (v_var rfl rfl) rfl) (ne_same rfl)), ?_⟩
  refine ⟨_, v_cons (v_var rfl rfl) (v_cons (v_var rfl rfl) v_nil), wr_togL fb fa lb la N0 (by omega) ?_⟩
  rw [tog_comm b a]
  refine ⟨_, v_var rfl rfl, .bl false, ne_same (ok_pt _), false, rfl, ?_⟩
  have lcp : ∀ (env : En) (f : En → Option (List D)) (ps : List (Nat × List Nat)), env.length = 13 → f env = some (ps.map padD) → ps.length ≤ 10 → fLc f (gT (gCons' (gN 11) (gCons' (gN 12) gNil'))) fYes (fV 11) [11, 12] env = some (.lst ((ps.map Prod.fst).map fun c => D.str [c])) := fun env f ps hl hf h => by
    refine lcw hf (by rw [List.length_map]; omega) ?_
    rw [List.map_map]
    match env, hl with
    | [a0, a1, a2, a3, a4, a5, a6, a7, a8, a9, a10, a11, a12], _ => exact lc_map padD _ _ fun q hq => ⟨_, rfl, v_var rfl rfl⟩
  have hfew1 := fab.few
  have hfew2 := fa.few
  have hfew3 := fb.few
  refine u_nx (w_iff (v_b (v_2 (lcp _ _ (togP a b).ps rfl (v_it (v_2 (v_var rfl rfl) v_c rfl)) (by omega)) (lcp _ _ (a.ps ++ b.ps) rfl (v_it (v_2 (v_2 (v_var rfl rfl) v_c (show ixD (ptD a) (.int 2) = some (.tup (a.ps.map padD)) from rfl)) (v_2 (v_var rfl rfl) v_c (show ixD (ptD b) (.int 2) = some (.tup (b.ps.map padD)) from rfl)) (by rw [add_t (by simp; omega), ← List.map_append]))) (by simp; omega)) ?_)) w_pass) (no_own rfl) ?_
  · have hpl : (togP a b).ps.map Prod.fst = (a.ps ++ b.ps).map Prod.fst := by
      rw [List.map_append]
      exact hpads
    rw [hpl]
    refine ne_same ?_
    show ((((a.ps ++ b.ps).map Prod.fst).map fun c => D.str [c]).all fun x => okN 59 x) = true
    rw [List.all_eq_true]
    intro z hz
    obtain ⟨c, _, rfl⟩ := List.mem_map.mp hz
    rfl
  have gt : f2 gtD (f2 ixD (fV 3) (fC (.int 0))) (fC (.int 400)) [some (.scr ns), some (ptD a), some (ptD b), some (ptD (togP a b)), some (.lst [.int (cnt (togP a b) 120 : Nat), .int (cnt (togP a b) 88 : Nat)]), some (.int ((1 : Nat) : Int)), none, none, none, some (.tup [.int (ka : Nat), .int 1]), some (.tup [.int (kb : Nat), .int 1]), none, none] = some (.bl (decide ((400 : Int) < ((togP a b).s : Nat)))) := v_2 (v_2 (v_var rfl rfl) v_c (show ixD (ptD (togP a b)) (.int 0) = some (.int ((togP a b).s : Nat)) from rfl)) v_c (gt_i _ _)
  by_cases h4 : (400 : Int) < ((togP a b).s : Nat)
  · rw [decide_eq_true h4] at gt
    exact u_rtS (w_ift (v_b gt) (ret_of v_c)) rfl
  rw [decide_eq_false h4] at gt
  refine u_nx (w_iff (v_b gt) w_pass) (no_own rfl) ?_
  refine u_nx (w_set (v_call (v_cons (v_call (v_cons (v_var rfl rfl) (v_cons v_c v_nil)) e2) v_nil) er) rfl) (no_own rfl) ?_
  walk_at "dx"
  have fr2 : (⟨r.s, r.g, r.ps.take 2⟩ : Pt).Fit := ⟨dr.s0, dr.g0, ((List.take_sublist 2 r.ps).map _).trans dr.sub, fun q hq => dr.row q (List.mem_of_mem_take hq)⟩
  have lr2 : Lk ⟨r.s, r.g, r.ps.take 2⟩ n := ⟨lr.g, lr.s⟩
  have er2 : ∀ env : En, fV 6 env = some (ptD r) → fTup (fCons (f2 ixD (fV 6) (fC (.int 0))) (fCons (f2 ixD (fV 6) (fC (.int 1))) (fCons (fSl (f2 ixD (fV 6) (fC (.int 2))) fNo (fPo (fC (.int 2)))) fNil))) env = some (ptD ⟨r.s, r.g, r.ps.take 2⟩) := fun env h => by
    refine v_tup (ds := [.int (r.s : Nat), .int (r.g : Nat), .tup ((r.ps.take 2).map padD)]) (v_cons (v_2 h v_c rfl) (v_cons (v_2 h v_c rfl) (v_cons (v_sl (v_2 h v_c (show ixD (ptD r) (.int 2) = some (.tup (r.ps.map padD)) from rfl)) v_no (v_po v_c) ?_) v_nil))) (show 3 ≤ sizeLine by decide)
    rw [sl_t, List.map_take]
    exact congrArg (fun l => some (D.tup l)) (cut_to _ 2)
  generalize (⟨r.s, r.g, r.ps.take 2⟩ : Pt) = t at *
  refine ⟨_, v_cons (v_var rfl rfl) (v_cons (er2 _ (v_var rfl rfl)) v_nil), wr_togL fab fr2 lab lr2 N0 (by omega) ?_⟩
  walk_at "dx"
  refine ⟨_, v_var rfl rfl, _, v_cons (v_var rfl rfl) (v_cons (er2 _ (v_var rfl rfl)) v_nil), wr_togL fb fr2 lb lr2 N0 (by omega) ⟨[], rfl, wr_togL fa (fit_tog fb fr2) la (Lk.tog fb fr2 lb lr2) N0 (by omega) ?_⟩⟩
  walk_at "dx"
  rw [← tog_assoc fa fb fr2]
  obtain ⟨K, _, eK⟩ := e_coarserB ((Lk.tog fab fr2 lab lr2).big (fit_tog fab fr2) N0 (by omega))
  exact u_rt (ret_of (v_2 (v_call (v_cons (v_var rfl rfl) v_nil) eK) (v_call (v_cons (v_var rfl rfl) v_nil) eK) (eq_same (ok_pt _)))) rfl
end K24
set_option Elab.async false
set_option linter.all false
set_option maxRecDepth 100000
namespace K24
open PySem L2 PySem.Spec PyProof.Rows Dn
def topS (i : Nat) : Stmt := PySem.Challenge.pw_padrows_k24_whole_together_by_rounds.main.body.getD i (.Pass ⟨0, 0, 0, 0⟩)
def clsS (i j : Nat) : Stmt := match topS i with
  | .ClassDef _ _ _ b _ _ _ _ _ _ _ => b.getD j (.Pass ⟨0, 0, 0, 0⟩)
  | s => s
abbrev st_divisor : Stmt := topS 1
theorem sc_divisor : FnScope ["one", "other"] ["one", "other"] (defScope st_divisor) := ⟨rfl, rfl, rfl, by decide +kernel, rfl, by decide +kernel, by decide +kernel⟩
abbrev st_fraction : Stmt := topS 2
theorem sc_fraction : FnScope ["upper", "lower", "shared"] ["upper", "lower"] (defScope st_fraction) := ⟨rfl, rfl, rfl, by decide +kernel, rfl, by decide +kernel, by decide +kernel⟩
abbrev st_beats : Stmt := topS 5
theorem sc_beats : FnScope ["pattern"] ["pattern"] (defScope st_beats) := ⟨rfl, rfl, rfl, by decide +kernel, rfl, by decide +kernel, by decide +kernel⟩
abbrev st_laid : Stmt := topS 9
theorem sc_laid : FnScope ["one", "other", "here", "there"] ["one", "other"] (defScope st_laid) := ⟨rfl, rfl, rfl, by decide +kernel, rfl, by decide +kernel, by decide +kernel⟩
abbrev st_finer : Stmt := topS 11
theorem sc_finer : FnScope ["pattern", "many", "rest", "rows", "steps", "grid", "pads", "pad", "row", "mark"] ["pattern", "many"] (defScope st_finer) := ⟨rfl, rfl, rfl, by decide +kernel, rfl, by decide +kernel, by decide +kernel⟩
abbrev st_is_finer : Stmt := topS 12
theorem sc_is_finer : FnScope ["pattern", "many", "steps", "grid", "pads", "pad", "row", "at", "mark"] ["pattern", "many"] (defScope st_is_finer) := ⟨rfl, rfl, rfl, by decide +kernel, rfl, by decide +kernel, by decide +kernel⟩
abbrev st_coarser : Stmt := topS 13
theorem sc_coarser : FnScope ["pattern", "many", "steps", "grid", "pads", "pad", "row"] ["pattern"] (defScope st_coarser) := ⟨rfl, rfl, rfl, by decide +kernel, rfl, by decide +kernel, by decide +kernel⟩
abbrev st_shared_multiple : Stmt := topS 14
theorem sc_shared_multiple : FnScope ["one", "other"] ["one", "other"] (defScope st_shared_multiple) := ⟨rfl, rfl, rfl, by decide +kernel, rfl, by decide +kernel, by decide +kernel⟩
abbrev st_fitted : Stmt := topS 15
theorem sc_fitted : FnScope ["pattern", "grid", "steps", "some", "many", "pad", "row"] ["pattern", "grid", "steps"] (defScope st_fitted) := ⟨rfl, rfl, rfl, by decide +kernel, rfl, by decide +kernel, by decide +kernel⟩
abbrev st_together : Stmt := topS 16
theorem sc_together : FnScope ["one", "other", "grid", "steps", "found", "pad", "row"] ["one", "other"] (defScope st_together) := ⟨rfl, rfl, rfl, by decide +kernel, rfl, by decide +kernel, by decide +kernel⟩
abbrev st_only : Stmt := topS 17
theorem sc_only : FnScope ["pattern", "pads", "part"] ["pattern", "pads"] (defScope st_only) := ⟨rfl, rfl, rfl, by decide +kernel, rfl, by decide +kernel, by decide +kernel⟩
abbrev st_loudness : Stmt := topS 18
theorem sc_loudness : FnScope ["pattern", "marks", "plain", "pad", "row"] ["pattern"] (defScope st_loudness) := ⟨rfl, rfl, rfl, by decide +kernel, rfl, by decide +kernel, by decide +kernel⟩
abbrev st__law_cell_at : Stmt := topS 20
theorem sc__law_cell_at : FnScope ["script", "k"] ["script", "k"] (defScope st__law_cell_at) := ⟨rfl, rfl, rfl, by decide +kernel, rfl, by decide +kernel, by decide +kernel⟩
abbrev st__law_mixed : Stmt := topS 21
theorem sc__law_mixed : FnScope ["script", "k", "drawn"] ["script", "k"] (defScope st__law_mixed) := ⟨rfl, rfl, rfl, by decide +kernel, rfl, by decide +kernel, by decide +kernel⟩
abbrev st__law_drawn : Stmt := topS 22
theorem sc__law_drawn : FnScope ["number", "k", "drawn"] ["number", "k"] (defScope st__law_drawn) := ⟨rfl, rfl, rfl, by decide +kernel, rfl, by decide +kernel, by decide +kernel⟩
abbrev st__law_frac : Stmt := topS 23
theorem sc__law_frac : FnScope ["upper", "lower", "one", "other"] ["upper", "lower"] (defScope st__law_frac) := ⟨rfl, rfl, rfl, by decide +kernel, rfl, by decide +kernel, by decide +kernel⟩
abbrev st__law_marks : Stmt := topS 24
theorem sc__law_marks : FnScope ["number", "steps", "found", "k", "drawn"] ["number", "steps"] (defScope st__law_marks) := ⟨rfl, rfl, rfl, by decide +kernel, rfl, by decide +kernel, by decide +kernel⟩
abbrev st__law_pattern : Stmt := topS 25
theorem sc__law_pattern : FnScope ["number", "steps", "grid", "pads", "k", "pad", "drawn"] ["number"] (defScope st__law_pattern) := ⟨rfl, rfl, rfl, by decide +kernel, rfl, by decide +kernel, by decide +kernel⟩
abbrev st__law_rounds : Stmt := topS 26
theorem sc__law_rounds : FnScope ["whole", "part", "one", "other"] ["whole", "part"] (defScope st__law_rounds) := ⟨rfl, rfl, rfl, by decide +kernel, rfl, by decide +kernel, by decide +kernel⟩
abbrev st_law : Stmt := topS 27
theorem sc_law : FnScope ["script", "ones", "others", "both", "due", "k", "last", "first", "again", "here", "there", "pad", "row"] ["script"] (defScope st_law) := ⟨rfl, rfl, rfl, by decide +kernel, rfl, by decide +kernel, by decide +kernel⟩
structure Txt (K : PySem.W.Frag) (mg : Str → Option Value) : Prop where
  b_abs : mg "abs" = none
  b_all : mg "all" = none
  b_dict : mg "dict" = none
  b_enumerate : mg "enumerate" = none
  b_len : mg "len" = none
  b_max : mg "max" = none
  b_range : mg "range" = none
  b_sorted : mg "sorted" = none
  b_tuple : mg "tuple" = none
  b_zip : mg "zip" = none
  c_MARKS : ∃ tk, mg "MARKS" = some (.str (Str.ofString ".xX") tk)
  c_PLAIN : ∃ tk, mg "PLAIN" = some (.str (Str.ofString "x") tk)
  c_REST : ∃ tk, mg "REST" = some (.str (Str.ofString ".") tk)
  h_divisor : Has K mg "divisor" st_divisor ["one", "other"]
  h_fraction : Has K mg "fraction" st_fraction ["upper", "lower"]
  h_beats : Has K mg "beats" st_beats ["pattern"]
  h_laid : Has K mg "laid" st_laid ["one", "other"]
  h_finer : Has K mg "finer" st_finer ["pattern", "many"]
  h_is_finer : Has K mg "is_finer" st_is_finer ["pattern", "many"]
  h_coarser : Has K mg "coarser" st_coarser ["pattern"]
  h_shared_multiple : Has K mg "shared_multiple" st_shared_multiple ["one", "other"]
  h_fitted : Has K mg "fitted" st_fitted ["pattern", "grid", "steps"]
  h_together : Has K mg "together" st_together ["one", "other"]
  h_only : Has K mg "only" st_only ["pattern", "pads"]
  h_loudness : Has K mg "loudness" st_loudness ["pattern"]
  h__law_cell_at : Has K mg "_law_cell_at" st__law_cell_at ["script", "k"]
  h__law_mixed : Has K mg "_law_mixed" st__law_mixed ["script", "k"]
  h__law_drawn : Has K mg "_law_drawn" st__law_drawn ["number", "k"]
  h__law_frac : Has K mg "_law_frac" st__law_frac ["upper", "lower"]
  h__law_marks : Has K mg "_law_marks" st__law_marks ["number", "steps"]
  h__law_pattern : Has K mg "_law_pattern" st__law_pattern ["number"]
  h__law_rounds : Has K mg "_law_rounds" st__law_rounds ["whole", "part"]
section
variable {P : Program} {w : World} {K : PySem.W.Frag} {mg : Str → Option Value} {base : Heap}
--@ divisor
theorem d_divisor (T : Txt K mg) : Def P w K mg base 1 "divisor" ["one", "other"] n_divisor := by
  refine d_of (k := 0) (F := m_divisor) T.h_divisor sc_divisor (fun f cdv A outer s H E hr => ?_) ?_
  ·
    have hu : (A.deeper (envOfC "divisor" (defScope st_divisor) s.heap.objs.size f cdv)).units + 64 < cLine := hr.units
    have hv : (A.deeper (envOfC "divisor" (defScope st_divisor) s.heap.objs.size f cdv)).units + 65 < cLine := room65 hr
    have nd := sc_divisor.nd
    exact (ss_cons (s_while fuelN PassesOwn.never (t_cmp (o_ne hu) (e_var 1) e_int)
      (ss_one (s_par 0 1 rfl nd (a_cons (e_var 1) (a_cons (e_op o_mod (e_var 0) (e_var 1)) a_nil)))))
    (ss_one (s_ret (e_var 0))))
  · exact fun _ _ h => h
--@ fraction
theorem d_fraction (T : Txt K mg) (d_divisor : Def P w K mg base 1 "divisor" ["one", "other"] n_divisor) : Def P w K mg base 2 "fraction" ["upper", "lower"] n_fraction := by
  refine d_of (k := 1) (F := m_fraction) T.h_fraction sc_fraction (fun f cdv A outer s H E hr => ?_) ?_
  ·
    have hu : (A.deeper (envOfC "fraction" (defScope st_fraction) s.heap.objs.size f cdv)).units + 64 < cLine := hr.units
    have hv : (A.deeper (envOfC "fraction" (defScope st_fraction) s.heap.objs.size f cdv)).units + 65 < cLine := room65 hr
    have nd := sc_fraction.nd
    exact (ss_cons (s_set 2 nd (e_def d_divisor hr (a_cons (e_blt c_abs T.b_abs (by decide +kernel) (a_cons (e_var 0) a_nil)) (a_cons (e_var 1) a_nil))))
    (ss_one (s_ret (e_tup (a_cons (e_op o_fdiv (e_var 0) (e_var 2)) (a_cons (e_op o_fdiv (e_var 1) (e_var 2)) a_nil))))))
  · exact fun _ _ h => h
--@ beats
theorem d_beats (T : Txt K mg) (d_fraction : Def P w K mg base 2 "fraction" ["upper", "lower"] n_fraction) : Def P w K mg base 3 "beats" ["pattern"] n_beats := by
  refine d_of (k := 2) (F := m_beats) T.h_beats sc_beats (fun f cdv A outer s H E hr => ?_) ?_
  ·
    have hu : (A.deeper (envOfC "beats" (defScope st_beats) s.heap.objs.size f cdv)).units + 64 < cLine := hr.units
    have hv : (A.deeper (envOfC "beats" (defScope st_beats) s.heap.objs.size f cdv)).units + 65 < cLine := room65 hr
    have nd := sc_beats.nd
    exact (ss_one (s_ret (e_def d_fraction hr (a_cons (e_ix (e_var 0) e_int) (a_cons (e_ix (e_var 0) e_int) a_nil)))))
  · exact fun _ _ h => h
--@ laid
theorem d_laid (T : Txt K mg) : Def P w K mg base 1 "laid" ["one", "other"] n_laid := by
  refine d_of (k := 0) (F := m_laid) T.h_laid sc_laid (fun f cdv A outer s H E hr => ?_) ?_
  ·
    have hu : (A.deeper (envOfC "laid" (defScope st_laid) s.heap.objs.size f cdv)).units + 64 < cLine := hr.units
    have hv : (A.deeper (envOfC "laid" (defScope st_laid) s.heap.objs.size f cdv)).units + 65 < cLine := room65 hr
    have nd := sc_laid.nd
    exact (ss_one (s_ret (e_join (e_str []) (e_lc (own := [("here", 2), ("there", 3)]) rfl nd (i_zip2 T.b_zip (e_var 0) (e_var 1)) (blkOk_by (by kernel_rfl)) (fun _ _ _ _ _ => (g_tup rfl (g_cons (g_name 2 nd) (g_cons (g_name 3 nd) g_nil)) (gl_cons (gl_cons gl_nil)))) (fun _ _ _ _ _ => ts_nil) (fun _ _ _ _ _ => (e_ix (e_gs [46, 120, 88] T.c_MARKS) (e_blt (c_max rfl hu) T.b_max (by decide +kernel) (a_cons (e_index (e_gs [46, 120, 88] T.c_MARKS) (e_var 2)) (a_cons (e_index (e_gs [46, 120, 88] T.c_MARKS) (e_var 3)) a_nil)))))))))
  · exact fun _ _ h => h
--@ finer
theorem d_finer (T : Txt K mg) : Def P w K mg base 1 "finer" ["pattern", "many"] n_finer := by
  refine d_of (k := 0) (F := m_finer) T.h_finer sc_finer (fun f cdv A outer s H E hr => ?_) ?_
  ·
    have hu : (A.deeper (envOfC "finer" (defScope st_finer) s.heap.objs.size f cdv)).units + 64 < cLine := hr.units
    have hv : (A.deeper (envOfC "finer" (defScope st_finer) s.heap.objs.size f cdv)).units + 65 < cLine := room65 hr
    have nd := sc_finer.nd
    exact (ss_cons (s_asg (e_var 0) (g_tup rfl (g_cons (g_name 4 nd) (g_cons (g_name 5 nd) (g_cons (g_name 6 nd) g_nil))) (gl_cons (gl_cons (gl_cons gl_nil)))))
    (ss_cons (s_set 2 nd (e_op o_mul (e_gs [46] T.c_REST) (e_op o_sub (e_var 1) e_int)))
    (ss_cons (s_set 3 nd (e_tuple T.b_tuple (e_lc (own := [("pad", 7), ("row", 8)]) rfl nd (i_seq (e_var 6)) (blkOk_by (by kernel_rfl)) (fun _ _ _ _ _ => (g_tup rfl (g_cons (g_name 7 nd) (g_cons (g_name 8 nd) g_nil)) (gl_cons (gl_cons gl_nil)))) (fun _ _ _ _ _ => ts_nil) (fun _ _ _ _ _ => (e_tup (a_cons (e_var 7) (a_cons (e_join (e_str []) (e_lc (own := [("mark", 9)]) rfl nd (i_seq (e_var 8)) (blkOk_by (by kernel_rfl)) (fun _ _ _ _ _ => (g_name 9 nd)) (fun _ _ _ _ _ => ts_nil) (fun _ _ _ _ _ => (e_op o_add (e_var 9) (e_var 2))))) a_nil)))))))
    (ss_one (s_ret (e_tup (a_cons (e_op o_mul (e_var 4) (e_var 1)) (a_cons (e_op o_mul (e_var 5) (e_var 1)) (a_cons (e_var 3) a_nil)))))))))
  · exact fun _ _ h => h
--@ is_finer
theorem d_is_finer (T : Txt K mg) : Def P w K mg base 1 "is_finer" ["pattern", "many"] n_is_finer := by
  refine d_of (k := 0) (F := m_is_finer) T.h_is_finer sc_is_finer (fun f cdv A outer s H E hr => ?_) ?_
  ·
    have hu : (A.deeper (envOfC "is_finer" (defScope st_is_finer) s.heap.objs.size f cdv)).units + 64 < cLine := hr.units
    have hv : (A.deeper (envOfC "is_finer" (defScope st_is_finer) s.heap.objs.size f cdv)).units + 65 < cLine := room65 hr
    have nd := sc_is_finer.nd
    exact (ss_cons (s_asg (e_var 0) (g_tup rfl (g_cons (g_name 2 nd) (g_cons (g_name 3 nd) (g_cons (g_name 4 nd) g_nil))) (gl_cons (gl_cons (gl_cons gl_nil)))))
    (ss_cons (s_if (PW.pt (t_or (t_cmp (o_ne hu) (e_op o_mod (e_var 2) (e_var 1)) e_int) (t_or1 (t_cmp (o_ne hu) (e_op o_mod (e_var 3) (e_var 1)) e_int))))
      (ss_one (s_ret e_bl))
      ss_nil)
    (ss_one (s_ret (e_blt (c_all rfl) T.b_all (by decide +kernel) (a_cons (e_lc (own := [("pad", 5), ("row", 6)]) rfl nd (i_seq (e_var 4)) (blkOk_by (by kernel_rfl)) (fun _ _ _ _ _ => (g_tup rfl (g_cons (g_name 5 nd) (g_cons (g_name 6 nd) g_nil)) (gl_cons (gl_cons gl_nil)))) (fun _ _ _ _ _ => ts_nil) (fun _ _ _ _ _ => (e_blt (c_all rfl) T.b_all (by decide +kernel) (a_cons (e_lc (own := [("at", 7), ("mark", 8)]) rfl nd (i_enum T.b_enumerate (e_var 6)) (blkOk_by (by kernel_rfl)) (fun _ _ _ _ _ => (g_tup rfl (g_cons (g_name 7 nd) (g_cons (g_name 8 nd) g_nil)) (gl_cons (gl_cons gl_nil)))) (fun _ _ _ _ _ => (ts_one (t_cmp (o_ne hu) (e_op o_mod (e_var 7) (e_var 1)) e_int))) (fun _ _ _ _ _ => (e_cmp (o_eq hu) (e_var 8) (e_gs [46] T.c_REST)))) a_nil)))) a_nil))))))
  · exact fun _ _ h => h
--@ coarser
theorem d_coarser (T : Txt K mg) (d_is_finer : Def P w K mg base 1 "is_finer" ["pattern", "many"] n_is_finer) : Def P w K mg base 2 "coarser" ["pattern"] n_coarser := by
  refine d_of (k := 1) (F := m_coarser) T.h_coarser sc_coarser (fun f cdv A outer s H E hr => ?_) ?_
  ·
    have hu : (A.deeper (envOfC "coarser" (defScope st_coarser) s.heap.objs.size f cdv)).units + 64 < cLine := hr.units
    have hv : (A.deeper (envOfC "coarser" (defScope st_coarser) s.heap.objs.size f cdv)).units + 65 < cLine := room65 hr
    have nd := sc_coarser.nd
    exact (ss_cons (s_asg (e_var 0) (g_tup rfl (g_cons (g_name 2 nd) (g_cons (g_name 3 nd) (g_cons (g_name 4 nd) g_nil))) (gl_cons (gl_cons (gl_cons gl_nil)))))
    (ss_cons (s_set 1 nd (e_blt (c_max rfl hu) T.b_max (by decide +kernel) (a_cons (e_lc (own := [("many", 1)]) rfl nd (i_range2 T.b_range (a_cons e_int (a_cons (e_op o_add (e_var 2) e_int) a_nil))) (blkOk_by (by kernel_rfl)) (fun _ _ _ _ _ => (g_name 1 nd)) (fun _ _ _ _ _ => (ts_one (t_val (e_def d_is_finer hr (a_cons (e_var 0) (a_cons (e_var 1) a_nil)))))) (fun _ _ _ _ _ => (e_var 1))) a_nil)))
    (ss_one (s_ret (e_tup (a_cons (e_op o_fdiv (e_var 2) (e_var 1)) (a_cons (e_op o_fdiv (e_var 3) (e_var 1)) (a_cons (e_tuple T.b_tuple (e_lc (own := [("pad", 5), ("row", 6)]) rfl nd (i_seq (e_var 4)) (blkOk_by (by kernel_rfl)) (fun _ _ _ _ _ => (g_tup rfl (g_cons (g_name 5 nd) (g_cons (g_name 6 nd) g_nil)) (gl_cons (gl_cons gl_nil)))) (fun _ _ _ _ _ => ts_nil) (fun _ _ _ _ _ => (e_tup (a_cons (e_var 5) (a_cons (e_slk (e_var 6) (e_var 1)) a_nil)))))) a_nil))))))))
  · exact fun _ _ h => h
--@ shared_multiple
theorem d_shared_multiple (T : Txt K mg) (d_divisor : Def P w K mg base 1 "divisor" ["one", "other"] n_divisor) : Def P w K mg base 2 "shared_multiple" ["one", "other"] n_shared_multiple := by
  refine d_of (k := 1) (F := m_shared_multiple) T.h_shared_multiple sc_shared_multiple (fun f cdv A outer s H E hr => ?_) ?_
  ·
    have hu : (A.deeper (envOfC "shared_multiple" (defScope st_shared_multiple) s.heap.objs.size f cdv)).units + 64 < cLine := hr.units
    have hv : (A.deeper (envOfC "shared_multiple" (defScope st_shared_multiple) s.heap.objs.size f cdv)).units + 65 < cLine := room65 hr
    have nd := sc_shared_multiple.nd
    exact (ss_one (s_ret (e_op o_fdiv (e_op o_mul (e_var 0) (e_var 1)) (e_def d_divisor hr (a_cons (e_var 0) (a_cons (e_var 1) a_nil))))))
  · exact fun _ _ h => h
--@ only
theorem d_only (T : Txt K mg) : Def P w K mg base 1 "only" ["pattern", "pads"] n_only := by
  refine d_of (k := 0) (F := m_only) T.h_only sc_only (fun f cdv A outer s H E hr => ?_) ?_
  ·
    have hu : (A.deeper (envOfC "only" (defScope st_only) s.heap.objs.size f cdv)).units + 64 < cLine := hr.units
    have hv : (A.deeper (envOfC "only" (defScope st_only) s.heap.objs.size f cdv)).units + 65 < cLine := room65 hr
    have nd := sc_only.nd
    exact (ss_one (s_ret (e_op o_add (e_sl (e_var 0) p_no (p_so e_int)) (e_tup (a_cons (e_tuple T.b_tuple (e_lc (own := [("part", 2)]) rfl nd (i_seq (e_ix (e_var 0) e_int)) (blkOk_by (by kernel_rfl)) (fun _ _ _ _ _ => (g_name 2 nd)) (fun _ _ _ _ _ => (ts_one (t_cmp (o_in hv) (e_ix (e_var 2) e_int) (e_var 1)))) (fun _ _ _ _ _ => (e_var 2)))) a_nil)))))
  · exact fun _ _ h => h
--@ loudness
theorem d_loudness (T : Txt K mg) : Def P w K mg base 1 "loudness" ["pattern"] n_loudness := by
  refine d_of (k := 0) (F := m_loudness) T.h_loudness sc_loudness (fun f cdv A outer s H E hr => ?_) ?_
  ·
    have hu : (A.deeper (envOfC "loudness" (defScope st_loudness) s.heap.objs.size f cdv)).units + 64 < cLine := hr.units
    have hv : (A.deeper (envOfC "loudness" (defScope st_loudness) s.heap.objs.size f cdv)).units + 65 < cLine := room65 hr
    have nd := sc_loudness.nd
    exact (ss_cons (s_set 1 nd (e_join (e_str []) (e_lc (own := [("pad", 3), ("row", 4)]) rfl nd (i_seq (e_ix (e_var 0) e_int)) (blkOk_by (by kernel_rfl)) (fun _ _ _ _ _ => (g_tup rfl (g_cons (g_name 3 nd) (g_cons (g_name 4 nd) g_nil)) (gl_cons (gl_cons gl_nil)))) (fun _ _ _ _ _ => ts_nil) (fun _ _ _ _ _ => (e_var 4)))))
    (ss_cons (s_set 2 nd (e_count (e_var 1) (e_gs [120] T.c_PLAIN)))
    (ss_one (s_ret (e_tup (a_cons (e_var 2) (a_cons (e_op o_sub (e_op o_sub (e_blt c_len T.b_len (by decide +kernel) (a_cons (e_var 1) a_nil)) (e_var 2)) (e_count (e_var 1) (e_gs [46] T.c_REST))) a_nil)))))))
  · exact fun _ _ h => h
--@ _law_cell_at
theorem d__law_cell_at (T : Txt K mg) : Def P w K mg base 1 "_law_cell_at" ["script", "k"] n__law_cell_at := by
  refine d_of (k := 0) (F := m__law_cell_at) T.h__law_cell_at sc__law_cell_at (fun f cdv A outer s H E hr => ?_) ?_
  ·
    have hu : (A.deeper (envOfC "_law_cell_at" (defScope st__law_cell_at) s.heap.objs.size f cdv)).units + 64 < cLine := hr.units
    have hv : (A.deeper (envOfC "_law_cell_at" (defScope st__law_cell_at) s.heap.objs.size f cdv)).units + 65 < cLine := room65 hr
    have nd := sc__law_cell_at.nd
    exact (ss_cons (s_if (t_cmp o_lt (e_var 1) (e_blt c_len T.b_len (by decide +kernel) (a_cons (e_var 0) a_nil)))
      (ss_one (s_ret (e_ix (e_var 0) (e_var 1))))
      ss_nil)
    (ss_one (s_ret e_int)))
  · exact fun _ _ h => h
--@ _law_mixed
theorem d__law_mixed (T : Txt K mg) (d__law_cell_at : Def P w K mg base 1 "_law_cell_at" ["script", "k"] n__law_cell_at) : Def P w K mg base 2 "_law_mixed" ["script", "k"] n__law_mixed := by
  refine d_of (k := 1) (F := m__law_mixed) T.h__law_mixed sc__law_mixed (fun f cdv A outer s H E hr => ?_) ?_
  ·
    have hu : (A.deeper (envOfC "_law_mixed" (defScope st__law_mixed) s.heap.objs.size f cdv)).units + 64 < cLine := hr.units
    have hv : (A.deeper (envOfC "_law_mixed" (defScope st__law_mixed) s.heap.objs.size f cdv)).units + 65 < cLine := room65 hr
    have nd := sc__law_mixed.nd
    exact (ss_cons (s_set 2 nd (e_op o_mod (e_op o_mul (e_op o_add (e_op o_add (e_def d__law_cell_at hr (a_cons (e_var 0) (a_cons (e_var 1) a_nil))) (e_op o_mul e_int (e_var 1))) e_int) e_int) e_int))
    (ss_one (s_ret (e_op o_mod (e_op o_add (e_op o_add (e_op o_mul (e_var 2) (e_var 2)) (e_op o_mul e_int (e_var 2))) (e_var 1)) e_int))))
  · exact fun _ _ h => h
--@ _law_drawn
theorem d__law_drawn (T : Txt K mg) : Def P w K mg base 1 "_law_drawn" ["number", "k"] n__law_drawn := by
  refine d_of (k := 0) (F := m__law_drawn) T.h__law_drawn sc__law_drawn (fun f cdv A outer s H E hr => ?_) ?_
  ·
    have hu : (A.deeper (envOfC "_law_drawn" (defScope st__law_drawn) s.heap.objs.size f cdv)).units + 64 < cLine := hr.units
    have hv : (A.deeper (envOfC "_law_drawn" (defScope st__law_drawn) s.heap.objs.size f cdv)).units + 65 < cLine := room65 hr
    have nd := sc__law_drawn.nd
    exact (ss_cons (s_set 2 nd (e_op o_mod (e_op o_mul (e_op o_add (e_op o_add (e_var 0) (e_op o_mul e_int (e_var 1))) e_int) e_int) e_int))
    (ss_one (s_ret (e_op o_mod (e_op o_add (e_op o_add (e_op o_mul (e_var 2) (e_var 2)) (e_op o_mul e_int (e_var 2))) (e_var 1)) e_int))))
  · exact fun _ _ h => h
--@ _law_frac
theorem d__law_frac (T : Txt K mg) : Def P w K mg base 1 "_law_frac" ["upper", "lower"] n__law_frac := by
  refine d_of (k := 0) (F := m__law_frac) T.h__law_frac sc__law_frac (fun f cdv A outer s H E hr => ?_) ?_
  ·
    have hu : (A.deeper (envOfC "_law_frac" (defScope st__law_frac) s.heap.objs.size f cdv)).units + 64 < cLine := hr.units
    have hv : (A.deeper (envOfC "_law_frac" (defScope st__law_frac) s.heap.objs.size f cdv)).units + 65 < cLine := room65 hr
    have nd := sc__law_frac.nd
    exact (ss_cons (s_par 2 3 rfl nd (a_cons (e_blt c_abs T.b_abs (by decide +kernel) (a_cons (e_var 0) a_nil)) (a_cons (e_var 1) a_nil)))
    (ss_cons (s_while fuelN PassesOwn.never (t_cmp (o_ne hu) (e_var 3) e_int)
      (ss_one (s_par 2 3 rfl nd (a_cons (e_var 3) (a_cons (e_op o_mod (e_var 2) (e_var 3)) a_nil)))))
    (ss_one (s_ret (e_tup (a_cons (e_op o_fdiv (e_var 0) (e_var 2)) (a_cons (e_op o_fdiv (e_var 1) (e_var 2)) a_nil)))))))
  · exact fun _ _ h => h
--@ _law_marks
theorem d__law_marks (T : Txt K mg) (d__law_drawn : Def P w K mg base 1 "_law_drawn" ["number", "k"] n__law_drawn) : Def P w K mg base 2 "_law_marks" ["number", "steps"] n__law_marks := by
  refine d_of (k := 1) (F := m__law_marks) T.h__law_marks sc__law_marks (fun f cdv A outer s H E hr => ?_) ?_
  ·
    have hu : (A.deeper (envOfC "_law_marks" (defScope st__law_marks) s.heap.objs.size f cdv)).units + 64 < cLine := hr.units
    have hv : (A.deeper (envOfC "_law_marks" (defScope st__law_marks) s.heap.objs.size f cdv)).units + 65 < cLine := room65 hr
    have nd := sc__law_marks.nd
    exact (ss_cons (s_set 2 nd (e_str []))
    (ss_cons (s_for PassesOwn.never rfl (i_range1 T.b_range (a_cons (e_var 1) a_nil)) (g_name 3 nd)
      (ss_cons (s_set 4 nd (e_op o_fdiv (e_def d__law_drawn hr (a_cons (e_var 0) (a_cons (e_var 3) a_nil))) e_int))
      (ss_one (s_set 2 nd (e_op o_add (e_var 2) (e_ix (e_str [46, 46, 46, 120, 120, 88]) (e_op o_mod (e_var 4) e_int)))))))
    (ss_one (s_ret (e_var 2)))))
  · exact fun _ _ h => h
--@ _law_pattern
theorem d__law_pattern (T : Txt K mg) (d__law_drawn : Def P w K mg base 1 "_law_drawn" ["number", "k"] n__law_drawn) (d__law_marks : Def P w K mg base 2 "_law_marks" ["number", "steps"] n__law_marks) : Def P w K mg base 3 "_law_pattern" ["number"] n__law_pattern := by
  refine d_of (k := 2) (F := m__law_pattern) T.h__law_pattern sc__law_pattern (fun f cdv A outer s H E hr => ?_) ?_
  ·
    have hu : (A.deeper (envOfC "_law_pattern" (defScope st__law_pattern) s.heap.objs.size f cdv)).units + 64 < cLine := hr.units
    have hv : (A.deeper (envOfC "_law_pattern" (defScope st__law_pattern) s.heap.objs.size f cdv)).units + 65 < cLine := room65 hr
    have nd := sc__law_pattern.nd
    exact (ss_cons (s_set 1 nd (e_ix (e_tup (a_cons (e_op o_add e_int (e_op o_mod (e_op o_fdiv (e_var 0) e_int) e_int)) (a_cons e_int (a_cons e_int (a_cons (e_op o_add e_int (e_op o_mod (e_op o_fdiv (e_var 0) e_int) e_int)) a_nil))))) (e_op o_mod (e_var 0) e_int)))
    (ss_cons (s_set 2 nd (e_op o_add e_int (e_op o_mod (e_op o_fdiv (e_var 0) e_int) e_int)))
    (ss_cons (s_set 3 nd (e_tup a_nil))
    (ss_cons (s_for PassesOwn.never rfl (i_enum T.b_enumerate (e_tup (a_cons (e_str [97]) (a_cons (e_str [104]) (a_cons (e_str [107]) (a_cons (e_str [115]) (a_cons (e_str [122]) a_nil))))))) (g_tup rfl (g_cons (g_name 4 nd) (g_cons (g_name 5 nd) g_nil)) (gl_cons (gl_cons gl_nil)))
      (ss_cons (s_set 6 nd (e_op o_fdiv (e_def d__law_drawn hr (a_cons (e_var 0) (a_cons (e_op o_add e_int (e_var 4)) a_nil))) e_int))
      (ss_one (s_if (t_cmp o_lt (e_op o_mod (e_var 6) e_int) (e_op o_add e_int (e_op o_mod (e_op o_fdiv (e_var 0) e_int) e_int)))
        (ss_one (s_set 3 nd (e_op o_add (e_var 3) (e_tup (a_cons (e_tup (a_cons (e_var 5) (a_cons (e_def d__law_marks hr (a_cons (e_op o_fdiv (e_var 6) e_int) (a_cons (e_var 1) a_nil))) a_nil))) a_nil)))))
        ss_nil))))
    (ss_one (s_ret (e_tup (a_cons (e_var 1) (a_cons (e_var 2) (a_cons (e_var 3) a_nil))))))))))
  · exact fun _ _ h => h
--@ _law_rounds
theorem d__law_rounds (T : Txt K mg) (d_beats : Def P w K mg base 3 "beats" ["pattern"] n_beats) (d__law_frac : Def P w K mg base 1 "_law_frac" ["upper", "lower"] n__law_frac) : Def P w K mg base 4 "_law_rounds" ["whole", "part"] n__law_rounds := by
  refine d_of (k := 3) (F := m__law_rounds) T.h__law_rounds sc__law_rounds (fun f cdv A outer s H E hr => ?_) ?_
  ·
    have hu : (A.deeper (envOfC "_law_rounds" (defScope st__law_rounds) s.heap.objs.size f cdv)).units + 64 < cLine := hr.units
    have hv : (A.deeper (envOfC "_law_rounds" (defScope st__law_rounds) s.heap.objs.size f cdv)).units + 65 < cLine := room65 hr
    have nd := sc__law_rounds.nd
    exact (ss_cons (s_par 2 3 rfl nd (a_cons (e_def d_beats hr (a_cons (e_var 0) a_nil)) (a_cons (e_def d_beats hr (a_cons (e_var 1) a_nil)) a_nil)))
    (ss_one (s_ret (e_def d__law_frac hr (a_cons (e_op o_mul (e_ix (e_var 2) e_int) (e_ix (e_var 3) e_int)) (a_cons (e_op o_mul (e_ix (e_var 2) e_int) (e_ix (e_var 3) e_int)) a_nil))))))
  · exact fun _ _ h => h
--@ w fitted
theorem dw_fitted {Z : Wd} (T : Txt K mg) (d_finer : Def P w K mg base 1 "finer" ["pattern", "many"] n_finer) : DefW P w K mg base Z 2 "fitted" ["pattern", "grid", "steps"] wn_fitted := by
  refine dw_of (N := ["pattern", "grid", "steps", "some", "many", "pad", "row"]) (ps := ["pattern", "grid", "steps"]) (k := 1) (M := w_fitted) T.h_fitted sc_fitted (fun f cdv A outer s H E hr => ?_)
  ·
    have hu : (A.deeper (envOfC "fitted" (defScope st_fitted) s.heap.objs.size f cdv)).units + 64 < cLine := hr.units
    have hv : (A.deeper (envOfC "fitted" (defScope st_fitted) s.heap.objs.size f cdv)).units + 65 < cLine := room65 hr
    have nd := sc_fitted.nd
    exact (wss_cons (ws_pure (s_set 3 nd (e_def d_finer hr (a_cons (e_var 0) (a_cons (e_op o_fdiv (e_var 1) (e_ix (e_var 0) e_int)) a_nil)))))
    (wss_cons (ws_pure (s_set 4 nd (e_op o_fdiv (e_var 2) (e_ix (e_var 3) e_int))))
    (wss_one (ws_ret (wp_dictE rfl T.b_dict (e_lc (own := [("pad", 5), ("row", 6)]) rfl nd (i_seq (e_ix (e_var 3) e_int)) (blkOk_by (by kernel_rfl)) (fun _ _ _ _ _ => (g_tup rfl (g_cons (g_name 5 nd) (g_cons (g_name 6 nd) g_nil)) (gl_cons (gl_cons gl_nil)))) (fun _ _ _ _ _ => ts_nil) (fun _ _ _ _ _ => (e_tup (a_cons (e_var 5) (a_cons (e_op o_mul (e_var 6) (e_var 4)) a_nil))))))))))
--@ w together
theorem dw_together {Z : Wd} (T : Txt K mg) (d_shared_multiple : Def P w K mg base 2 "shared_multiple" ["one", "other"] n_shared_multiple) (d_laid : Def P w K mg base 1 "laid" ["one", "other"] n_laid) (dw_fitted : DefW P w K mg base Z 2 "fitted" ["pattern", "grid", "steps"] wn_fitted) : DefW P w K mg base Z 3 "together" ["one", "other"] wn_together := by
  refine dw_of (N := ["one", "other", "grid", "steps", "found", "pad", "row"]) (ps := ["one", "other"]) (k := 2) (M := w_together) T.h_together sc_together (fun f cdv A outer s H E hr => ?_)
  ·
    have hu : (A.deeper (envOfC "together" (defScope st_together) s.heap.objs.size f cdv)).units + 64 < cLine := hr.units
    have hv : (A.deeper (envOfC "together" (defScope st_together) s.heap.objs.size f cdv)).units + 65 < cLine := room65 hr
    have nd := sc_together.nd
    exact (wss_cons (ws_pure (s_set 2 nd (e_def d_shared_multiple hr (a_cons (e_ix (e_var 0) e_int) (a_cons (e_ix (e_var 1) e_int) a_nil)))))
    (wss_cons (ws_pure (s_set 3 nd (e_def d_shared_multiple hr (a_cons (e_op o_mul (e_ix (e_var 0) e_int) (e_op o_fdiv (e_var 2) (e_ix (e_var 0) e_int))) (a_cons (e_op o_mul (e_ix (e_var 1) e_int) (e_op o_fdiv (e_var 2) (e_ix (e_var 1) e_int))) a_nil)))))
    (wss_cons (ws_set 4 nd (e_defw (takes_of rfl rfl rfl rfl) dw_fitted hr (wa_pure (a_cons (e_var 0) (a_cons (e_var 2) (a_cons (e_var 3) a_nil))))))
    (wss_cons (ws_forI (passes_of rfl) rfl (wp_frzE (e_defw (takes_of rfl rfl rfl rfl) dw_fitted hr (wa_pure (a_cons (e_var 1) (a_cons (e_var 2) (a_cons (e_var 3) a_nil)))))) (g_tup rfl (g_cons (g_name 5 nd) (g_cons (g_name 6 nd) g_nil)) (gl_cons (gl_cons gl_nil)))
      (wss_one (ws_dput hv (wp_pure (e_var 4)) (wp_pure (e_var 5)) (wp_def d_laid hr (wa_cons (wp_get2 hv (wp_pure (e_var 4)) (wp_pure (e_var 5)) (wp_pure (e_op o_mul (e_gs [46] T.c_REST) (e_var 3))) ⟨rfl, rfl, rfl, rfl⟩) (wa_cons (wp_pure (e_var 6)) wa_nil))))))
    (wss_frzD 4 (wss_pure (ss_one (s_ret (e_tup (a_cons (e_var 3) (a_cons (e_var 2) (a_cons (e_tuple T.b_tuple (e_sitems hu rfl T.b_sorted (e_var 4))) a_nil))))))))))))
--@ w law
theorem ok_law {Z : Wd} {f : Addr} {fd : FuncData} (Fu : Fun K "law" "law" st_law f fd) (hZ : Z.T = []) (T : Txt K mg) (d_only : Def P w K mg base 1 "only" ["pattern", "pads"] n_only) (d__law_pattern : Def P w K mg base 3 "_law_pattern" ["number"] n__law_pattern) (d__law_mixed : Def P w K mg base 2 "_law_mixed" ["script", "k"] n__law_mixed) (d__law_rounds : Def P w K mg base 4 "_law_rounds" ["whole", "part"] n__law_rounds) (d_loudness : Def P w K mg base 1 "loudness" ["pattern"] n_loudness) (d_coarser : Def P w K mg base 2 "coarser" ["pattern"] n_coarser) (dw_together : DefW P w K mg base Z 3 "together" ["one", "other"] wn_together) : FnOk P w K mg base (L2.CX P w) 5 f fd ["script"] (spLaw K) := by
  refine fnw_law hZ (fn_w (N := ["script", "ones", "others", "both", "due", "k", "last", "first", "again", "here", "there", "pad", "row"]) (ps := ["script"]) (k := 4) (M := w_law) Fu sc_law (fun cdv A outer s H E hr => ?_)) q_law
  ·
    have hu : (A.deeper (envOfC "law" (defScope st_law) s.heap.objs.size f cdv)).units + 64 < cLine := hr.units
    have hv : (A.deeper (envOfC "law" (defScope st_law) s.heap.objs.size f cdv)).units + 65 < cLine := room65 hr
    have nd := sc_law.nd
    exact (wss_cons (ws_pure (s_set 1 nd (e_def d_only hr (a_cons (e_def d__law_pattern hr (a_cons (e_def d__law_mixed hr (a_cons (e_var 0) (a_cons e_int a_nil))) a_nil)) (a_cons (e_str [97, 104, 107]) a_nil)))))
    (wss_cons (ws_pure (s_set 2 nd (e_def d_only hr (a_cons (e_def d__law_pattern hr (a_cons (e_def d__law_mixed hr (a_cons (e_var 0) (a_cons e_int a_nil))) a_nil)) (a_cons (e_str [115, 122]) a_nil)))))
    (wss_cons (ws_set 3 nd (e_defw (takes_of rfl rfl rfl rfl) dw_together hr (wa_pure (a_cons (e_var 1) (a_cons (e_var 2) a_nil)))))
    (wss_cons (ws_pure (s_par 9 10 rfl nd (a_cons (e_def d__law_rounds hr (a_cons (e_var 3) (a_cons (e_var 1) a_nil))) (a_cons (e_def d__law_rounds hr (a_cons (e_var 3) (a_cons (e_var 2) a_nil))) a_nil))))
    (wss_cons (ws_pure (s_if (PW.pt (t_or (t_cmp (o_ne hu) (e_ix (e_var 9) e_int) e_int) (t_or (t_cmp (o_ne hu) (e_ix (e_var 10) e_int) e_int) (t_or (t_cmp (o_ne hu) (e_op o_mod (e_ix (e_var 3) e_int) (e_ix (e_var 1) e_int)) e_int) (t_or1 (t_cmp (o_ne hu) (e_op o_mod (e_ix (e_var 3) e_int) (e_ix (e_var 2) e_int)) e_int))))))
      (ss_one (s_ret e_bl))
      ss_nil))
    (wss_cons (ws_set 4 nd (wp_newL (n_lst a_nil)))
    (wss_cons (ws_for (passes_of rfl) rfl (i_range1 T.b_range (a_cons e_int a_nil)) (g_name 5 nd)
      (wss_one (ws_expr (wp_lapp (wp_pure (e_var 4)) (wp_pure (e_op o_add (e_op o_mul (e_ix (e_def d_loudness hr (a_cons (e_var 1) a_nil)) (e_var 5)) (e_ix (e_var 9) e_int)) (e_op o_mul (e_ix (e_def d_loudness hr (a_cons (e_var 2) a_nil)) (e_var 5)) (e_ix (e_var 10) e_int))))))))
    (wss_frzL 4 (wss_cons (ws_if (PW.pt (wt_or (wt_pure (t_cmp (o_ne hu) (e_def d_loudness hr (a_cons (e_var 3) a_nil)) (e_tuple T.b_tuple (e_var 4)))) (wt_or1 (wt_cmp (o_ne hu) (e_defw (takes_of rfl rfl rfl rfl) dw_together hr (wa_pure (a_cons (e_var 2) (a_cons (e_var 1) a_nil)))) (wp_pure (e_var 3))))))
      (wss_pure (ss_one (s_ret e_bl)))
      wss_nil)
    (wss_cons (ws_pure (s_if (t_cmp (o_ne hu) (e_lc (own := [("pad", 11), ("row", 12)]) rfl nd (i_seq (e_ix (e_var 3) e_int)) (blkOk_by (by kernel_rfl)) (fun _ _ _ _ _ => (g_tup rfl (g_cons (g_name 11 nd) (g_cons (g_name 12 nd) g_nil)) (gl_cons (gl_cons gl_nil)))) (fun _ _ _ _ _ => ts_nil) (fun _ _ _ _ _ => (e_var 11))) (e_lc (own := [("pad", 11), ("row", 12)]) rfl nd (i_seq (e_op o_add (e_ix (e_var 1) e_int) (e_ix (e_var 2) e_int))) (blkOk_by (by kernel_rfl)) (fun _ _ _ _ _ => (g_tup rfl (g_cons (g_name 11 nd) (g_cons (g_name 12 nd) g_nil)) (gl_cons (gl_cons gl_nil)))) (fun _ _ _ _ _ => ts_nil) (fun _ _ _ _ _ => (e_var 11))))
      (ss_one (s_ret e_bl))
      ss_nil))
    (wss_cons (ws_pure (s_if (t_cmp o_gt (e_ix (e_var 3) e_int) e_int)
      (ss_one (s_ret e_bl))
      ss_nil))
    (wss_cons (ws_pure (s_set 6 nd (e_def d__law_pattern hr (a_cons (e_def d__law_mixed hr (a_cons (e_var 0) (a_cons e_int a_nil))) a_nil))))
    (wss_cons (ws_set 7 nd (e_defw (takes_of rfl rfl rfl rfl) dw_together hr (wa_pure (a_cons (e_var 3) (a_cons (e_tup (a_cons (e_ix (e_var 6) e_int) (a_cons (e_ix (e_var 6) e_int) (a_cons (e_sl (e_ix (e_var 6) e_int) p_no (p_so e_int)) a_nil)))) a_nil)))))
    (wss_cons (ws_set 8 nd (e_defw (takes_of rfl rfl rfl rfl) dw_together hr (wa_cons (wp_pure (e_var 1)) (wa_cons (e_defw (takes_of rfl rfl rfl rfl) dw_together hr (wa_pure (a_cons (e_var 2) (a_cons (e_tup (a_cons (e_ix (e_var 6) e_int) (a_cons (e_ix (e_var 6) e_int) (a_cons (e_sl (e_ix (e_var 6) e_int) p_no (p_so e_int)) a_nil)))) a_nil)))) wa_nil))))
    (wss_pure (ss_one (s_ret (e_cmp (o_eq hu) (e_def d_coarser hr (a_cons (e_var 7) a_nil)) (e_def d_coarser hr (a_cons (e_var 8) a_nil))))))))))))))))))))
end
--@ end
set_option maxHeartbeats 8000000 in
theorem all_mk {l : PySem.W.OpenLaw} {w : World} {K : PySem.W.Frag} {h : Heap} {mg : Str → Option Value} {fa : Addr} (X : K.In h) (G : h.Ns mainGlobals mg) (hfa : mg "law" = some (.ref fa))
    {od0 an0 : Option Addr} {sl0 : Array (Option Value)} {oc0 kV0 dc0 pm0 cd0 ct0 : Value} {f0 : Addr}
    {od1 an1 : Option Addr} {sl1 : Array (Option Value)} {oc1 kV1 dc1 pm1 cd1 ct1 : Value} {f1 : Addr}
    {od2 an2 : Option Addr} {sl2 : Array (Option Value)} {oc2 kV2 dc2 pm2 cd2 ct2 : Value} {f2 : Addr}
    {od3 an3 : Option Addr} {sl3 : Array (Option Value)} {oc3 kV3 dc3 pm3 cd3 ct3 : Value} {f3 : Addr}
    {od4 an4 : Option Addr} {sl4 : Array (Option Value)} {oc4 kV4 dc4 pm4 cd4 ct4 : Value} {f4 : Addr}
    {od5 an5 : Option Addr} {sl5 : Array (Option Value)} {oc5 kV5 dc5 pm5 cd5 ct5 : Value} {f5 : Addr}
    {od6 an6 : Option Addr} {sl6 : Array (Option Value)} {oc6 kV6 dc6 pm6 cd6 ct6 : Value} {f6 : Addr}
    {od7 an7 : Option Addr} {sl7 : Array (Option Value)} {oc7 kV7 dc7 pm7 cd7 ct7 : Value} {f7 : Addr}
    {od8 an8 : Option Addr} {sl8 : Array (Option Value)} {oc8 kV8 dc8 pm8 cd8 ct8 : Value} {f8 : Addr}
    {od9 an9 : Option Addr} {sl9 : Array (Option Value)} {oc9 kV9 dc9 pm9 cd9 ct9 : Value} {f9 : Addr}
    {od10 an10 : Option Addr} {sl10 : Array (Option Value)} {oc10 kV10 dc10 pm10 cd10 ct10 : Value} {f10 : Addr}
    {od11 an11 : Option Addr} {sl11 : Array (Option Value)} {oc11 kV11 dc11 pm11 cd11 ct11 : Value} {f11 : Addr}
    {od12 an12 : Option Addr} {sl12 : Array (Option Value)} {oc12 kV12 dc12 pm12 cd12 ct12 : Value} {f12 : Addr}
    {od13 an13 : Option Addr} {sl13 : Array (Option Value)} {oc13 kV13 dc13 pm13 cd13 ct13 : Value} {f13 : Addr}
    {od14 an14 : Option Addr} {sl14 : Array (Option Value)} {oc14 kV14 dc14 pm14 cd14 ct14 : Value} {f14 : Addr}
    {od15 an15 : Option Addr} {sl15 : Array (Option Value)} {oc15 kV15 dc15 pm15 cd15 ct15 : Value} {f15 : Addr}
    {od16 an16 : Option Addr} {sl16 : Array (Option Value)} {oc16 kV16 dc16 pm16 cd16 ct16 : Value} {f16 : Addr}
    {od17 an17 : Option Addr} {sl17 : Array (Option Value)} {oc17 kV17 dc17 pm17 cd17 ct17 : Value} {f17 : Addr}
    {od18 an18 : Option Addr} {sl18 : Array (Option Value)} {oc18 kV18 dc18 pm18 cd18 ct18 : Value} {f18 : Addr}
    {od19 an19 : Option Addr} {sl19 : Array (Option Value)} {oc19 kV19 dc19 pm19 cd19 ct19 : Value} {f19 : Addr}
    {t0 : Tok}
    {t1 : Tok}
    {t2 : Tok}
    (a0 : PySem.W.nsIn K mainGlobals "divisor" = some (some (.ref f0))) (l0 : K.lookup f0 = some ⟨oc0, od0, .func (PySem.W.fnOf "divisor" "divisor" (defArgs st_divisor) (defBody st_divisor) (defScope st_divisor) .none kV0 dc0 pm0 an0 cd0 ct0), sl0⟩) (c0 : PySem.W.codeIn K cd0 "divisor" = true) (k0 : PySem.W.keepIn K (.ref f0) = true)
    (a1 : PySem.W.nsIn K mainGlobals "fraction" = some (some (.ref f1))) (l1 : K.lookup f1 = some ⟨oc1, od1, .func (PySem.W.fnOf "fraction" "fraction" (defArgs st_fraction) (defBody st_fraction) (defScope st_fraction) .none kV1 dc1 pm1 an1 cd1 ct1), sl1⟩) (c1 : PySem.W.codeIn K cd1 "fraction" = true) (k1 : PySem.W.keepIn K (.ref f1) = true)
    (a2 : PySem.W.nsIn K mainGlobals "beats" = some (some (.ref f2))) (l2 : K.lookup f2 = some ⟨oc2, od2, .func (PySem.W.fnOf "beats" "beats" (defArgs st_beats) (defBody st_beats) (defScope st_beats) .none kV2 dc2 pm2 an2 cd2 ct2), sl2⟩) (c2 : PySem.W.codeIn K cd2 "beats" = true) (k2 : PySem.W.keepIn K (.ref f2) = true)
    (a3 : PySem.W.nsIn K mainGlobals "laid" = some (some (.ref f3))) (l3 : K.lookup f3 = some ⟨oc3, od3, .func (PySem.W.fnOf "laid" "laid" (defArgs st_laid) (defBody st_laid) (defScope st_laid) .none kV3 dc3 pm3 an3 cd3 ct3), sl3⟩) (c3 : PySem.W.codeIn K cd3 "laid" = true) (k3 : PySem.W.keepIn K (.ref f3) = true)
    (a4 : PySem.W.nsIn K mainGlobals "finer" = some (some (.ref f4))) (l4 : K.lookup f4 = some ⟨oc4, od4, .func (PySem.W.fnOf "finer" "finer" (defArgs st_finer) (defBody st_finer) (defScope st_finer) .none kV4 dc4 pm4 an4 cd4 ct4), sl4⟩) (c4 : PySem.W.codeIn K cd4 "finer" = true) (k4 : PySem.W.keepIn K (.ref f4) = true)
    (a5 : PySem.W.nsIn K mainGlobals "is_finer" = some (some (.ref f5))) (l5 : K.lookup f5 = some ⟨oc5, od5, .func (PySem.W.fnOf "is_finer" "is_finer" (defArgs st_is_finer) (defBody st_is_finer) (defScope st_is_finer) .none kV5 dc5 pm5 an5 cd5 ct5), sl5⟩) (c5 : PySem.W.codeIn K cd5 "is_finer" = true) (k5 : PySem.W.keepIn K (.ref f5) = true)
    (a6 : PySem.W.nsIn K mainGlobals "coarser" = some (some (.ref f6))) (l6 : K.lookup f6 = some ⟨oc6, od6, .func (PySem.W.fnOf "coarser" "coarser" (defArgs st_coarser) (defBody st_coarser) (defScope st_coarser) .none kV6 dc6 pm6 an6 cd6 ct6), sl6⟩) (c6 : PySem.W.codeIn K cd6 "coarser" = true) (k6 : PySem.W.keepIn K (.ref f6) = true)
    (a7 : PySem.W.nsIn K mainGlobals "shared_multiple" = some (some (.ref f7))) (l7 : K.lookup f7 = some ⟨oc7, od7, .func (PySem.W.fnOf "shared_multiple" "shared_multiple" (defArgs st_shared_multiple) (defBody st_shared_multiple) (defScope st_shared_multiple) .none kV7 dc7 pm7 an7 cd7 ct7), sl7⟩) (c7 : PySem.W.codeIn K cd7 "shared_multiple" = true) (k7 : PySem.W.keepIn K (.ref f7) = true)
    (a8 : PySem.W.nsIn K mainGlobals "fitted" = some (some (.ref f8))) (l8 : K.lookup f8 = some ⟨oc8, od8, .func (PySem.W.fnOf "fitted" "fitted" (defArgs st_fitted) (defBody st_fitted) (defScope st_fitted) .none kV8 dc8 pm8 an8 cd8 ct8), sl8⟩) (c8 : PySem.W.codeIn K cd8 "fitted" = true) (k8 : PySem.W.keepIn K (.ref f8) = true)
    (a9 : PySem.W.nsIn K mainGlobals "together" = some (some (.ref f9))) (l9 : K.lookup f9 = some ⟨oc9, od9, .func (PySem.W.fnOf "together" "together" (defArgs st_together) (defBody st_together) (defScope st_together) .none kV9 dc9 pm9 an9 cd9 ct9), sl9⟩) (c9 : PySem.W.codeIn K cd9 "together" = true) (k9 : PySem.W.keepIn K (.ref f9) = true)
    (a10 : PySem.W.nsIn K mainGlobals "only" = some (some (.ref f10))) (l10 : K.lookup f10 = some ⟨oc10, od10, .func (PySem.W.fnOf "only" "only" (defArgs st_only) (defBody st_only) (defScope st_only) .none kV10 dc10 pm10 an10 cd10 ct10), sl10⟩) (c10 : PySem.W.codeIn K cd10 "only" = true) (k10 : PySem.W.keepIn K (.ref f10) = true)
    (a11 : PySem.W.nsIn K mainGlobals "loudness" = some (some (.ref f11))) (l11 : K.lookup f11 = some ⟨oc11, od11, .func (PySem.W.fnOf "loudness" "loudness" (defArgs st_loudness) (defBody st_loudness) (defScope st_loudness) .none kV11 dc11 pm11 an11 cd11 ct11), sl11⟩) (c11 : PySem.W.codeIn K cd11 "loudness" = true) (k11 : PySem.W.keepIn K (.ref f11) = true)
    (a12 : PySem.W.nsIn K mainGlobals "_law_cell_at" = some (some (.ref f12))) (l12 : K.lookup f12 = some ⟨oc12, od12, .func (PySem.W.fnOf "_law_cell_at" "_law_cell_at" (defArgs st__law_cell_at) (defBody st__law_cell_at) (defScope st__law_cell_at) .none kV12 dc12 pm12 an12 cd12 ct12), sl12⟩) (c12 : PySem.W.codeIn K cd12 "_law_cell_at" = true) (k12 : PySem.W.keepIn K (.ref f12) = true)
    (a13 : PySem.W.nsIn K mainGlobals "_law_mixed" = some (some (.ref f13))) (l13 : K.lookup f13 = some ⟨oc13, od13, .func (PySem.W.fnOf "_law_mixed" "_law_mixed" (defArgs st__law_mixed) (defBody st__law_mixed) (defScope st__law_mixed) .none kV13 dc13 pm13 an13 cd13 ct13), sl13⟩) (c13 : PySem.W.codeIn K cd13 "_law_mixed" = true) (k13 : PySem.W.keepIn K (.ref f13) = true)
    (a14 : PySem.W.nsIn K mainGlobals "_law_drawn" = some (some (.ref f14))) (l14 : K.lookup f14 = some ⟨oc14, od14, .func (PySem.W.fnOf "_law_drawn" "_law_drawn" (defArgs st__law_drawn) (defBody st__law_drawn) (defScope st__law_drawn) .none kV14 dc14 pm14 an14 cd14 ct14), sl14⟩) (c14 : PySem.W.codeIn K cd14 "_law_drawn" = true) (k14 : PySem.W.keepIn K (.ref f14) = true)
    (a15 : PySem.W.nsIn K mainGlobals "_law_frac" = some (some (.ref f15))) (l15 : K.lookup f15 = some ⟨oc15, od15, .func (PySem.W.fnOf "_law_frac" "_law_frac" (defArgs st__law_frac) (defBody st__law_frac) (defScope st__law_frac) .none kV15 dc15 pm15 an15 cd15 ct15), sl15⟩) (c15 : PySem.W.codeIn K cd15 "_law_frac" = true) (k15 : PySem.W.keepIn K (.ref f15) = true)
    (a16 : PySem.W.nsIn K mainGlobals "_law_marks" = some (some (.ref f16))) (l16 : K.lookup f16 = some ⟨oc16, od16, .func (PySem.W.fnOf "_law_marks" "_law_marks" (defArgs st__law_marks) (defBody st__law_marks) (defScope st__law_marks) .none kV16 dc16 pm16 an16 cd16 ct16), sl16⟩) (c16 : PySem.W.codeIn K cd16 "_law_marks" = true) (k16 : PySem.W.keepIn K (.ref f16) = true)
    (a17 : PySem.W.nsIn K mainGlobals "_law_pattern" = some (some (.ref f17))) (l17 : K.lookup f17 = some ⟨oc17, od17, .func (PySem.W.fnOf "_law_pattern" "_law_pattern" (defArgs st__law_pattern) (defBody st__law_pattern) (defScope st__law_pattern) .none kV17 dc17 pm17 an17 cd17 ct17), sl17⟩) (c17 : PySem.W.codeIn K cd17 "_law_pattern" = true) (k17 : PySem.W.keepIn K (.ref f17) = true)
    (a18 : PySem.W.nsIn K mainGlobals "_law_rounds" = some (some (.ref f18))) (l18 : K.lookup f18 = some ⟨oc18, od18, .func (PySem.W.fnOf "_law_rounds" "_law_rounds" (defArgs st__law_rounds) (defBody st__law_rounds) (defScope st__law_rounds) .none kV18 dc18 pm18 an18 cd18 ct18), sl18⟩) (c18 : PySem.W.codeIn K cd18 "_law_rounds" = true) (k18 : PySem.W.keepIn K (.ref f18) = true)
    (a19 : PySem.W.nsIn K mainGlobals "law" = some (some (.ref f19))) (l19 : K.lookup f19 = some ⟨oc19, od19, .func (PySem.W.fnOf "law" "law" (defArgs st_law) (defBody st_law) (defScope st_law) .none kV19 dc19 pm19 an19 cd19 ct19), sl19⟩) (c19 : PySem.W.codeIn K cd19 "law" = true) (k19 : PySem.W.keepIn K (.ref f19) = true)
    (z0 : PySem.W.nsIn K mainGlobals "abs" = some none)
    (z1 : PySem.W.nsIn K mainGlobals "all" = some none)
    (z2 : PySem.W.nsIn K mainGlobals "dict" = some none)
    (z3 : PySem.W.nsIn K mainGlobals "enumerate" = some none)
    (z4 : PySem.W.nsIn K mainGlobals "len" = some none)
    (z5 : PySem.W.nsIn K mainGlobals "max" = some none)
    (z6 : PySem.W.nsIn K mainGlobals "range" = some none)
    (z7 : PySem.W.nsIn K mainGlobals "sorted" = some none)
    (z8 : PySem.W.nsIn K mainGlobals "tuple" = some none)
    (z9 : PySem.W.nsIn K mainGlobals "zip" = some none)
    (y0 : PySem.W.nsIn K mainGlobals "MARKS" = some (some (.str (Str.ofString ".xX") t0)))
    (y1 : PySem.W.nsIn K mainGlobals "PLAIN" = some (some (.str (Str.ofString "x") t1)))
    (y2 : PySem.W.nsIn K mainGlobals "REST" = some (some (.str (Str.ofString ".") t2))) :
    ∃ fd : FuncData, (∀ (s : Shared) (v : Value), BindsTo s fd ⟨[v], []⟩ [("script", v)]) ∧ ∀ base : Heap, K.In base → base.Ns mainGlobals mg → FnOk l.prog w K mg base (L2.CX l.prog w) 5 fa fd ["script"] (spLaw K) := by
  have e := hfa.symm.trans (PySem.W.mg_of X G a19)
  cases e
  have F0 := fun_mk (st := st_divisor) l0 c0 k0
  have b0 := F0.binds (ps := ["one", "other"]) fun _ _ _ _ _ _ us hl => match us, hl with | [_, _], _ => rfl
  have F1 := fun_mk (st := st_fraction) l1 c1 k1
  have b1 := F1.binds (ps := ["upper", "lower"]) fun _ _ _ _ _ _ us hl => match us, hl with | [_, _], _ => rfl
  have F2 := fun_mk (st := st_beats) l2 c2 k2
  have b2 := F2.binds (ps := ["pattern"]) fun _ _ _ _ _ _ us hl => match us, hl with | [_], _ => rfl
  have F3 := fun_mk (st := st_laid) l3 c3 k3
  have b3 := F3.binds (ps := ["one", "other"]) fun _ _ _ _ _ _ us hl => match us, hl with | [_, _], _ => rfl
  have F4 := fun_mk (st := st_finer) l4 c4 k4
  have b4 := F4.binds (ps := ["pattern", "many"]) fun _ _ _ _ _ _ us hl => match us, hl with | [_, _], _ => rfl
  have F5 := fun_mk (st := st_is_finer) l5 c5 k5
  have b5 := F5.binds (ps := ["pattern", "many"]) fun _ _ _ _ _ _ us hl => match us, hl with | [_, _], _ => rfl
  have F6 := fun_mk (st := st_coarser) l6 c6 k6
  have b6 := F6.binds (ps := ["pattern"]) fun _ _ _ _ _ _ us hl => match us, hl with | [_], _ => rfl
  have F7 := fun_mk (st := st_shared_multiple) l7 c7 k7
  have b7 := F7.binds (ps := ["one", "other"]) fun _ _ _ _ _ _ us hl => match us, hl with | [_, _], _ => rfl
  have F8 := fun_mk (st := st_fitted) l8 c8 k8
  have b8 := F8.binds (ps := ["pattern", "grid", "steps"]) fun _ _ _ _ _ _ us hl => match us, hl with | [_, _, _], _ => rfl
  have F9 := fun_mk (st := st_together) l9 c9 k9
  have b9 := F9.binds (ps := ["one", "other"]) fun _ _ _ _ _ _ us hl => match us, hl with | [_, _], _ => rfl
  have F10 := fun_mk (st := st_only) l10 c10 k10
  have b10 := F10.binds (ps := ["pattern", "pads"]) fun _ _ _ _ _ _ us hl => match us, hl with | [_, _], _ => rfl
  have F11 := fun_mk (st := st_loudness) l11 c11 k11
  have b11 := F11.binds (ps := ["pattern"]) fun _ _ _ _ _ _ us hl => match us, hl with | [_], _ => rfl
  have F12 := fun_mk (st := st__law_cell_at) l12 c12 k12
  have b12 := F12.binds (ps := ["script", "k"]) fun _ _ _ _ _ _ us hl => match us, hl with | [_, _], _ => rfl
  have F13 := fun_mk (st := st__law_mixed) l13 c13 k13
  have b13 := F13.binds (ps := ["script", "k"]) fun _ _ _ _ _ _ us hl => match us, hl with | [_, _], _ => rfl
  have F14 := fun_mk (st := st__law_drawn) l14 c14 k14
  have b14 := F14.binds (ps := ["number", "k"]) fun _ _ _ _ _ _ us hl => match us, hl with | [_, _], _ => rfl
  have F15 := fun_mk (st := st__law_frac) l15 c15 k15
  have b15 := F15.binds (ps := ["upper", "lower"]) fun _ _ _ _ _ _ us hl => match us, hl with | [_, _], _ => rfl
  have F16 := fun_mk (st := st__law_marks) l16 c16 k16
  have b16 := F16.binds (ps := ["number", "steps"]) fun _ _ _ _ _ _ us hl => match us, hl with | [_, _], _ => rfl
  have F17 := fun_mk (st := st__law_pattern) l17 c17 k17
  have b17 := F17.binds (ps := ["number"]) fun _ _ _ _ _ _ us hl => match us, hl with | [_], _ => rfl
  have F18 := fun_mk (st := st__law_rounds) l18 c18 k18
  have b18 := F18.binds (ps := ["whole", "part"]) fun _ _ _ _ _ _ us hl => match us, hl with | [_, _], _ => rfl
  have F19 := fun_mk (st := st_law) l19 c19 k19
  have T : Txt K mg := ⟨PySem.W.mg_none_of X G z0, PySem.W.mg_none_of X G z1, PySem.W.mg_none_of X G z2, PySem.W.mg_none_of X G z3, PySem.W.mg_none_of X G z4, PySem.W.mg_none_of X G z5, PySem.W.mg_none_of X G z6, PySem.W.mg_none_of X G z7, PySem.W.mg_none_of X G z8, PySem.W.mg_none_of X G z9, ⟨_, PySem.W.mg_of X G y0⟩, ⟨_, PySem.W.mg_of X G y1⟩, ⟨_, PySem.W.mg_of X G y2⟩, ⟨_, _, F0, PySem.W.mg_of X G a0, b0⟩, ⟨_, _, F1, PySem.W.mg_of X G a1, b1⟩, ⟨_, _, F2, PySem.W.mg_of X G a2, b2⟩, ⟨_, _, F3, PySem.W.mg_of X G a3, b3⟩, ⟨_, _, F4, PySem.W.mg_of X G a4, b4⟩, ⟨_, _, F5, PySem.W.mg_of X G a5, b5⟩, ⟨_, _, F6, PySem.W.mg_of X G a6, b6⟩, ⟨_, _, F7, PySem.W.mg_of X G a7, b7⟩, ⟨_, _, F8, PySem.W.mg_of X G a8, b8⟩, ⟨_, _, F9, PySem.W.mg_of X G a9, b9⟩, ⟨_, _, F10, PySem.W.mg_of X G a10, b10⟩, ⟨_, _, F11, PySem.W.mg_of X G a11, b11⟩, ⟨_, _, F12, PySem.W.mg_of X G a12, b12⟩, ⟨_, _, F13, PySem.W.mg_of X G a13, b13⟩, ⟨_, _, F14, PySem.W.mg_of X G a14, b14⟩, ⟨_, _, F15, PySem.W.mg_of X G a15, b15⟩, ⟨_, _, F16, PySem.W.mg_of X G a16, b16⟩, ⟨_, _, F17, PySem.W.mg_of X G a17, b17⟩, ⟨_, _, F18, PySem.W.mg_of X G a18, b18⟩⟩
  let Z : Wd := { C := fa, cl := fun _ => fa, T := [] }
  refine ⟨PySem.W.fnOf "law" "law" (defArgs st_law) (defBody st_law) (defScope st_law) .none kV19 dc19 pm19 an19 cd19 ct19, fun s v => .of_eq rfl, fun base _ _ => ?_⟩
  have D_only := d_only (P := l.prog) (w := w) (base := base) T
  have D__law_drawn := d__law_drawn (P := l.prog) (w := w) (base := base) T
  have D__law_marks := d__law_marks (P := l.prog) (w := w) (base := base) T D__law_drawn
  have D__law_pattern := d__law_pattern (P := l.prog) (w := w) (base := base) T D__law_drawn D__law_marks
  have D__law_cell_at := d__law_cell_at (P := l.prog) (w := w) (base := base) T
  have D__law_mixed := d__law_mixed (P := l.prog) (w := w) (base := base) T D__law_cell_at
  have D_divisor := d_divisor (P := l.prog) (w := w) (base := base) T
  have D_fraction := d_fraction (P := l.prog) (w := w) (base := base) T D_divisor
  have D_beats := d_beats (P := l.prog) (w := w) (base := base) T D_fraction
  have D__law_frac := d__law_frac (P := l.prog) (w := w) (base := base) T
  have D__law_rounds := d__law_rounds (P := l.prog) (w := w) (base := base) T D_beats D__law_frac
  have D_loudness := d_loudness (P := l.prog) (w := w) (base := base) T
  have D_is_finer := d_is_finer (P := l.prog) (w := w) (base := base) T
  have D_coarser := d_coarser (P := l.prog) (w := w) (base := base) T D_is_finer
  have D_shared_multiple := d_shared_multiple (P := l.prog) (w := w) (base := base) T D_divisor
  have D_laid := d_laid (P := l.prog) (w := w) (base := base) T
  have D_finer := d_finer (P := l.prog) (w := w) (base := base) T
  have W_fitted := dw_fitted (P := l.prog) (w := w) (base := base) (Z := Z) T D_finer
  have W_together := dw_together (P := l.prog) (w := w) (base := base) (Z := Z) T D_shared_multiple D_laid W_fitted
  exact ok_law (Z := Z) F19 rfl T D_only D__law_pattern D__law_mixed D__law_rounds D_loudness D_coarser W_together
end K24
open PySem PySem.W PyProof.Rows
set_option maxRecDepth 100000 in
set_option maxHeartbeats 0 in
theorem PySem.Challenge.cw_padrows_k24_whole_together_by_rounds_holds : PySem.Challenge.rw_padrows_k24_whole_together_by_rounds.Holds := by
  w_on; o_law; k_head; (case hw => w_witness2)
  k_fill
  refine L2.walk_of (l := PySem.Challenge.rw_padrows_k24_whole_together_by_rounds) (n := 63) (k := 5) (x := "script") (CX := fun w => L2.CX (PySem.Challenge.rw_padrows_k24_whole_together_by_rounds).prog w) (sp := fun w => Dn.spLaw _) rfl (by decide) rfl ⟨rfl, by decide, by decide⟩ (fun w h Y => PySem.W.kIn_of Y) ?F (fun _ _ a ns hl _ hS => ⟨a, ns, rfl, hS, hl, fun _ => rfl⟩) (fun _ _ _ _ _ ⟨_, _, _, _, _, _, _, _, _, _, _, _, e⟩ => e)
  case F =>
    intro w mg fa h KX G hmg
    refine' K24.all_mk KX G hmg ?a0 ?l0 ?c0 ?k0 ?a1 ?l1 ?c1 ?k1 ?a2 ?l2 ?c2 ?k2 ?a3 ?l3 ?c3 ?k3 ?a4 ?l4 ?c4 ?k4 ?a5 ?l5 ?c5 ?k5 ?a6 ?l6 ?c6 ?k6 ?a7 ?l7 ?c7 ?k7 ?a8 ?l8 ?c8 ?k8 ?a9 ?l9 ?c9 ?k9 ?a10 ?l10 ?c10 ?k10 ?a11 ?l11 ?c11 ?k11 ?a12 ?l12 ?c12 ?k12 ?a13 ?l13 ?c13 ?k13 ?a14 ?l14 ?c14 ?k14 ?a15 ?l15 ?c15 ?k15 ?a16 ?l16 ?c16 ?k16 ?a17 ?l17 ?c17 ?k17 ?a18 ?l18 ?c18 ?k18 ?a19 ?l19 ?c19 ?k19 ?z0 ?z1 ?z2 ?z3 ?z4 ?z5 ?z6 ?z7 ?z8 ?z9 ?y0 ?y1 ?y2
    (case a0 => k_is)
    (case l0 => k_is)
    (case c0 => k_is)
    (case k0 => k_is)
    (case a1 => k_is)
    (case l1 => k_is)
    (case c1 => k_is)
    (case k1 => k_is)
    (case a2 => k_is)
    (case l2 => k_is)
    (case c2 => k_is)
    (case k2 => k_is)
    (case a3 => k_is)
    (case l3 => k_is)
    (case c3 => k_is)
    (case k3 => k_is)
    (case a4 => k_is)
    (case l4 => k_is)
    (case c4 => k_is)
    (case k4 => k_is)
    (case a5 => k_is)
    (case l5 => k_is)
    (case c5 => k_is)
    (case k5 => k_is)
    (case a6 => k_is)
    (case l6 => k_is)
    (case c6 => k_is)
    (case k6 => k_is)
    (case a7 => k_is)
    (case l7 => k_is)
    (case c7 => k_is)
    (case k7 => k_is)
    (case a8 => k_is)
    (case l8 => k_is)
    (case c8 => k_is)
    (case k8 => k_is)
    (case a9 => k_is)
    (case l9 => k_is)
    (case c9 => k_is)
    (case k9 => k_is)
    (case a10 => k_is)
    (case l10 => k_is)
    (case c10 => k_is)
    (case k10 => k_is)
    (case a11 => k_is)
    (case l11 => k_is)
    (case c11 => k_is)
    (case k11 => k_is)
    (case a12 => k_is)
    (case l12 => k_is)
    (case c12 => k_is)
    (case k12 => k_is)
    (case a13 => k_is)
    (case l13 => k_is)
    (case c13 => k_is)
    (case k13 => k_is)
    (case a14 => k_is)
    (case l14 => k_is)
    (case c14 => k_is)
    (case k14 => k_is)
    (case a15 => k_is)
    (case l15 => k_is)
    (case c15 => k_is)
    (case k15 => k_is)
    (case a16 => k_is)
    (case l16 => k_is)
    (case c16 => k_is)
    (case k16 => k_is)
    (case a17 => k_is)
    (case l17 => k_is)
    (case c17 => k_is)
    (case k17 => k_is)
    (case a18 => k_is)
    (case l18 => k_is)
    (case c18 => k_is)
    (case k18 => k_is)
    (case a19 => k_is)
    (case l19 => k_is)
    (case c19 => k_is)
    (case k19 => k_is)
    (case z0 => k_is)
    (case z1 => k_is)
    (case z2 => k_is)
    (case z3 => k_is)
    (case z4 => k_is)
    (case z5 => k_is)
    (case z6 => k_is)
    (case z7 => k_is)
    (case z8 => k_is)
    (case z9 => k_is)
    (case y0 => k_is)
    (case y1 => k_is)
    (case y2 => k_is)
