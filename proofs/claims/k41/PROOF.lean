import PyProof.Rows.All
import Wide.All
import OpenK.AllK
import Wide.FinOn
import PyProof.StrLawsIn
import PyProof.Rows.StrStep
import KE.KTupSum
import KE.DataMinMax
import KE.DataEq
import KE.DataCmp
import HandS.Text
import HandS.ForMost
import HandS.TupAny
import HandS.TupMul
import HandS.TupLe
import HandS.Style
import HandS.Flow
import HandS.Conv
import HandS.Codes
import HandS.IsInst
import HandS.NoneIn
import KE.SortData
import HandS.SetFor
import HandS.Strs
import KE.GoesMore
import KE.GoesNew
import KE.GoesEnum
import KE.KDictPairs
import PyProof.StrLawsTight
import PyProof.StrLawsChain
import PyProof.Rows.StrItems
import HandS.ExcIs
import HandS.ExcOwn
import HandS.ForExc
import HandS.Lambda
import HandS.SetKeys
import HandS.Replace
import PySem.Challenge.RW_padrows_k41_whole_put_right
set_option Elab.async false
set_option linter.all false
set_option maxRecDepth 100000
/-! Part A: plain data, how it lies in the heap, and readings that tell a plain function of plain slots. -/
namespace Dn
open PySem L2

inductive D where
  | non | bl (b : Bool) | int (i : Int) | str (l : List Nat) | tup (xs : List D) | lst (xs : List D)
  | scr (ns : List Int) | adr (a : Addr) | dct (kvs : List (List Nat × D))
  | own (xs : List D) | ownd (kvs : List (List Nat × D))
  | wk (xs : List D)

abbrev S (l : List Nat) : Str := ⟨l.toArray⟩

/-- a tuple that is known to have no attributes of its own -/
def SqP (K : PySem.W.Frag) (H : Hp) (a : Addr) (xs : List V) : Prop :=
  (∃ o : Obj, o.dict = none ∧ H a = some (.frz o (.tup xs))) ∨
    ∃ (o : Obj) (its : Array Value) (n : Nat), K.lookup a = some o ∧ o.dict = none ∧ o.cls = .type "tuple" ∧ o.data = .seq its n ∧ its.size ≤ sizeLine ∧ Vals xs its.toList
theorem SqP.sq {K : PySem.W.Frag} {H : Hp} {a : Addr} {xs : List V} (h : SqP K H a xs) : SqT K H a xs := by
  rcases h with ⟨o, _, h⟩ | ⟨o, its, n, h1, _, h2⟩
  · exact .inl (.inr ⟨o, h⟩)
  · exact .inr ⟨o, its, n, h1, h2⟩
theorem SqP.mono {K : PySem.W.Frag} {H H' : Hp} {a : Addr} {xs : List V} (e : Same H H') (h : SqP K H a xs) : SqP K H' a xs := by
  rcases h with ⟨o, q, h⟩ | h
  · exact .inl ⟨o, q, e _ _ h⟩
  · exact .inr h

mutual
def Is (K : PySem.W.Frag) (H : Hp) : D → V → Prop
  | .non, v => v = .non
  | .bl b, v => v = .bl b
  | .int i, v => v = .int i
  | .str l, v => v = .str (S l)
  | .tup ds, v => ∃ a vs, v = .ref a ∧ SqP K H a vs ∧ IsL K H ds vs
  | .wk ds, v => ∃ a vs, v = .ref a ∧ SqT K H a vs ∧ IsL K H ds vs
  | .lst ds, v => ∃ a vs, v = .ref a ∧ H a = some (.lst vs) ∧ IsL K H ds vs
  | .scr ns, v => ∃ a, v = .ref a ∧ SqL K H a (ns.map V.int)
  | .adr a, v => v = .ref a
  | .dct kvs, v => ∃ a ks, v = .ref a ∧ (∃ o, H a = some (.frz o (.dK ks))) ∧ IsK K H kvs ks
  | .own _, _ => False
  | .ownd _, _ => False
def IsL (K : PySem.W.Frag) (H : Hp) : List D → List V → Prop
  | [], vs => vs = []
  | d :: ds, vs => ∃ v r, vs = v :: r ∧ Is K H d v ∧ IsL K H ds r
def IsK (K : PySem.W.Frag) (H : Hp) : List (List Nat × D) → List (Key × V) → Prop
  | [], ks => ks = []
  | (k, d) :: kvs, ks => ∃ v r, ks = (Sum.inr (S k), v) :: r ∧ Is K H d v ∧ IsK K H kvs r
end

section
variable {K : PySem.W.Frag} {H H' : Hp}
theorem sq_mono (e : Same H H') {a : Addr} {xs : List V} (h : SqT K H a xs) : SqT K H' a xs := by
  rcases h with (h | ⟨o, h⟩) | h
  · exact .inl (.inl (e _ _ h))
  · exact .inl (.inr ⟨o, e _ _ h⟩)
  · exact .inr h
mutual
theorem Is.mono (e : Same H H') : ∀ {d : D} {v : V}, Is K H d v → Is K H' d v
  | .non, _, h => by simpa only [Is] using h
  | .bl _, _, h => by simpa only [Is] using h
  | .int _, _, h => by simpa only [Is] using h
  | .str _, _, h => by simpa only [Is] using h
  | .adr _, _, h => by simpa only [Is] using h
  | .tup ds, v, h => by
    simp only [Is] at h ⊢
    obtain ⟨a, vs, e1, e2, e3⟩ := h
    exact ⟨a, vs, e1, e2.mono e, IsL.mono e e3⟩
  | .wk ds, v, h => by
    simp only [Is] at h ⊢
    obtain ⟨a, vs, e1, e2, e3⟩ := h
    exact ⟨a, vs, e1, sq_mono e e2, IsL.mono e e3⟩
  | .lst ds, v, h => by
    simp only [Is] at h ⊢
    obtain ⟨a, vs, e1, e2, e3⟩ := h
    exact ⟨a, vs, e1, e _ _ e2, IsL.mono e e3⟩
  | .scr ns, v, h => by
    simp only [Is] at h ⊢
    obtain ⟨a, e1, e2⟩ := h
    exact ⟨a, e1, e.seq e2⟩
  | .dct kvs, v, h => by
    simp only [Is] at h ⊢
    obtain ⟨a, vs, e1, ⟨o, e2⟩, e3⟩ := h
    exact ⟨a, vs, e1, ⟨o, e _ _ e2⟩, IsK.mono e e3⟩
  | .own _, _, h => by simp only [Is] at h
  | .ownd _, _, h => by simp only [Is] at h
theorem IsL.mono (e : Same H H') : ∀ {ds : List D} {vs : List V}, IsL K H ds vs → IsL K H' ds vs
  | [], _, h => by simpa only [IsL] using h
  | d :: ds, vs, h => by
    simp only [IsL] at h ⊢
    obtain ⟨v, r, e1, e2, e3⟩ := h
    exact ⟨v, r, e1, Is.mono e e2, IsL.mono e e3⟩
theorem IsK.mono (e : Same H H') : ∀ {ds : List (List Nat × D)} {vs : List (Key × V)}, IsK K H ds vs → IsK K H' ds vs
  | [], _, h => by simpa only [IsK] using h
  | (k, d) :: ds, vs, h => by
    simp only [IsK] at h ⊢
    obtain ⟨v, r, e1, e2, e3⟩ := h
    exact ⟨v, r, e1, Is.mono e e2, IsK.mono e e3⟩
end
theorem IsL.length : ∀ {ds : List D} {vs : List V}, IsL K H ds vs → vs.length = ds.length
  | [], _, h => by simp only [IsL] at h; subst h; rfl
  | d :: ds, vs, h => by
    simp only [IsL] at h
    obtain ⟨v, r, e1, _, e3⟩ := h
    subst e1
    rw [List.length_cons, List.length_cons, IsL.length e3]
theorem IsL.get : ∀ {ds : List D} {vs : List V} {i : Nat} {d : D}, IsL K H ds vs → ds[i]? = some d → ∃ v, vs[i]? = some v ∧ Is K H d v
  | [], _, _, _, _, q => by simp at q
  | d :: ds, vs, i, d', h, q => by
    simp only [IsL] at h
    obtain ⟨v, r, e1, e2, e3⟩ := h
    subst e1
    cases i with
    | zero =>
      simp at q
      subst q
      exact ⟨v, rfl, e2⟩
    | succ j =>
      simp at q
      obtain ⟨w, a, b⟩ := IsL.get e3 q
      exact ⟨w, by simpa using a, b⟩
theorem IsL.append : ∀ {ds es : List D} {vs ws : List V}, IsL K H ds vs → IsL K H es ws → IsL K H (ds ++ es) (vs ++ ws)
  | [], _, _, _, h, q => by
    simp only [IsL] at h
    subst h
    exact q
  | d :: ds, es, vs, ws, h, q => by
    simp only [IsL] at h
    obtain ⟨v, r, e1, e2, e3⟩ := h
    subst e1
    show IsL K H (d :: (ds ++ es)) (v :: (r ++ ws))
    simp only [IsL]
    exact ⟨v, r ++ ws, rfl, e2, e3.append q⟩
theorem IsL.take (n : Nat) : ∀ {ds : List D} {vs : List V}, IsL K H ds vs → IsL K H (ds.take n) (vs.take n) := by
  induction n with
  | zero => intro ds vs _; simp [IsL]
  | succ n ih =>
    intro ds vs h
    cases ds with
    | nil =>
      simp only [IsL] at h
      subst h
      simp [IsL]
    | cons d ds =>
      simp only [IsL] at h
      obtain ⟨v, r, e1, e2, e3⟩ := h
      subst e1
      simp only [List.take_succ_cons, IsL]
      exact ⟨v, _, rfl, e2, ih e3⟩
theorem IsL.drop (n : Nat) : ∀ {ds : List D} {vs : List V}, IsL K H ds vs → IsL K H (ds.drop n) (vs.drop n) := by
  induction n with
  | zero => intro ds vs h; exact h
  | succ n ih =>
    intro ds vs h
    cases ds with
    | nil =>
      simp only [IsL] at h
      subst h
      simp [IsL]
    | cons d ds =>
      simp only [IsL] at h
      obtain ⟨v, r, e1, e2, e3⟩ := h
      subst e1
      exact ih e3
theorem IsL.of_get : ∀ {ds : List D} {vs : List V}, vs.length = ds.length → (∀ (i : Nat) (d : D) (v : V), ds[i]? = some d → vs[i]? = some v → Is K H d v) → IsL K H ds vs
  | [], vs, e, _ => by
    simp only [IsL]
    exact List.eq_nil_of_length_eq_zero e
  | d :: ds, [], e, _ => by simp at e
  | d :: ds, v :: vs, e, h => by
    simp only [IsL]
    exact ⟨v, vs, rfl, h 0 d v rfl rfl, IsL.of_get (by simpa using e) fun i d' v' a b => h (i + 1) d' v' (by simpa using a) (by simpa using b)⟩
theorem IsL.set {ds : List D} {vs : List V} {d : D} {v : V} (j : Nat) (h : IsL K H ds vs) (q : Is K H d v) : IsL K H (ds.set j d) (vs.set j v) := by
  refine IsL.of_get (by rw [List.length_set, List.length_set, h.length]) fun i d' v' a b => ?_
  by_cases e : j = i
  · subst e
    rw [List.getElem?_set_self'] at a b
    cases h1 : ds[j]? with
    | none => rw [h1] at a; cases a
    | some x =>
      rw [h1] at a
      cases h2 : vs[j]? with
      | none => rw [h2] at b; cases b
      | some y =>
        rw [h2] at b
        cases a
        cases b
        exact q
  · rw [List.getElem?_set_ne e] at a b
    obtain ⟨w, c1, c2⟩ := h.get a
    rw [c1] at b
    cases b
    exact c2
end

/-! ### a step of the heap: H is the whole of it, Hb the part that plain data lies in -/
def NoT (Hb : Hp) : Prop := ∀ p ps, Hb p ≠ some (.tbl ps)
theorem NoT.upd {Hb : Hp} {p : Addr} {o : HO} (n : NoT Hb) (h : ∀ ps, o ≠ .tbl ps) : NoT (upd Hb p o) := fun b ps z => by
  by_cases e : b = p
  · subst e
    rw [upd_same] at z
    exact h ps (Option.some.inj z)
  · rw [upd_ne e] at z
    exact n b ps z
structure Step (Hb H Hb' H' : Hp) : Prop where
  a : Same H H'
  b : Same Hb Hb'
  c : Same Hb' H'
  f : ∀ p o, H p = some o → Hb p = none → Hb' p = none
  t : NoT Hb → NoT Hb'
theorem Step.refl {Hb H : Hp} (h : Same Hb H) : Step Hb H Hb H := ⟨Same.refl _, Same.refl _, h, fun _ _ _ n => n, fun n => n⟩
theorem Step.trans {Hb H Hb1 H1 Hb2 H2 : Hp} (x : Step Hb H Hb1 H1) (y : Step Hb1 H1 Hb2 H2) : Step Hb H Hb2 H2 :=
  ⟨x.a.trans y.a, x.b.trans y.b, y.c, fun p o e n => y.f p o (x.a p o e) (x.f p o e n), fun n => y.t (x.t n)⟩
theorem same_new {H : Hp} {p : Addr} {o : HO} (h : H p = none) : Same H (upd H p o) := fun b x e => by
  rw [upd_ne (ne_of_none e h)]
  exact e
theorem same_upd2 {Hb H : Hp} {p : Addr} {o : HO} (s : Same Hb H) : Same (upd Hb p o) (upd H p o) := fun b x e => by
  by_cases h : b = p
  · subst h
    rw [upd_same] at e ⊢
    exact e
  · rw [upd_ne h] at e ⊢
    exact s b x e
theorem Step.new {Hb H : Hp} (s : Same Hb H) {p : Addr} {o : HO} (h : H p = none) (ht : ∀ ps, o ≠ .tbl ps := by intro _ z; cases z) : Step Hb H (upd Hb p o) (upd H p o) :=
  ⟨same_new h, same_new (s.free h), same_upd2 s, fun b x e n => (by rw [upd_ne (ne_of_none e h)]; exact n), fun n => n.upd ht⟩

abbrev En := List (Option D)
def D.isOwn : D → Bool
  | .own _ => true
  | .ownd _ => true
  | _ => false
/-- what a slot holds -/
def IsS (K : PySem.W.Frag) (H0 Hb H : Hp) : D → V → Prop
  | .own ds, v => ∃ a vs, v = .ref a ∧ H0 a = none ∧ Hb a = none ∧ H a = some (.lst vs) ∧ IsL K Hb ds vs
  | .ownd kvs, v => ∃ a ks, v = .ref a ∧ H0 a = none ∧ Hb a = none ∧ H a = some (.dK ks) ∧ IsK K Hb kvs ks
  | d, v => Is K Hb d v
structure Rel (K : PySem.W.Frag) (H0 Hb H : Hp) (σ : L2.St) (env : En) : Prop where
  len : σ.length = env.length
  val : ∀ (i : Nat) (d : D), env[i]? = some (some d) → ∃ v, σ[i]? = some (some v) ∧ IsS K H0 Hb H d v
  sep : ∀ (i j : Nat) (d e : D) (a : Addr), i ≠ j → env[i]? = some (some d) → env[j]? = some (some e) → d.isOwn = true → e.isOwn = true → σ[i]? = some (some (.ref a)) → σ[j]? = some (some (.ref a)) → False
section
variable {K : PySem.W.Frag} {H0 Hb H Hb' H' : Hp} {σ : L2.St} {env : En}
theorem IsS.plain {d : D} {v : V} (h : d.isOwn = false) : IsS K H0 Hb H d v = Is K Hb d v := by
  cases d <;> first | rfl | (simp [D.isOwn] at h)
theorem IsS.step (s : Step Hb H Hb' H') {d : D} {v : V} (h : IsS K H0 Hb H d v) : IsS K H0 Hb' H' d v := by
  cases d with
  | own ds =>
    obtain ⟨a, vs, e1, e2, e3, e4, e5⟩ := h
    exact ⟨a, vs, e1, e2, s.f _ _ e4 e3, s.a _ _ e4, e5.mono s.b⟩
  | ownd ds =>
    obtain ⟨a, vs, e1, e2, e3, e4, e5⟩ := h
    exact ⟨a, vs, e1, e2, s.f _ _ e4 e3, s.a _ _ e4, e5.mono s.b⟩
  | _ => exact Is.mono s.b h
theorem Rel.step (s : Step Hb H Hb' H') (r : Rel K H0 Hb H σ env) : Rel K H0 Hb' H' σ env :=
  ⟨r.len, fun i d e => let ⟨v, a, b⟩ := r.val i d e; ⟨v, a, b.step s⟩, r.sep⟩
/-- a slot gets a plain thing -/
theorem Rel.set (r : Rel K H0 Hb H σ env) (i : Nat) {d : D} {v : V} (h : Is K Hb d v) : Rel K H0 Hb H (σ.set i (some v)) (env.set i (some d)) := by
  have hd : d.isOwn = false := by cases d <;> first | rfl | (simp only [Is] at h)
  refine ⟨by rw [List.length_set, List.length_set, r.len], fun j e q => ?_, fun j k e e' a ne q1 q2 o1 o2 s1 s2 => ?_⟩
  · by_cases hj : i = j
    · subst hj
      have hi : i < env.length := by
        have := (List.getElem?_eq_some_iff.mp q).1
        rw [List.length_set] at this
        exact this
      rw [List.getElem?_set_self hi] at q
      cases q
      refine ⟨v, List.getElem?_set_self (by rw [r.len]; exact hi), ?_⟩
      rw [IsS.plain hd]
      exact h
    · rw [List.getElem?_set_ne hj] at q
      obtain ⟨w, a, b⟩ := r.val j e q
      exact ⟨w, by rw [List.getElem?_set_ne hj]; exact a, b⟩
  · have key : ∀ (m : Nat) (x : D), (env.set i (some d))[m]? = some (some x) → x.isOwn = true → i ≠ m := fun m x q o z => by
      subst z
      have hi : i < env.length := by
        have := (List.getElem?_eq_some_iff.mp q).1
        rw [List.length_set] at this
        exact this
      rw [List.getElem?_set_self hi] at q
      cases q
      rw [hd] at o
      cases o
    have n1 := key j e q1 o1
    have n2 := key k e' q2 o2
    rw [List.getElem?_set_ne n1] at q1 s1
    rw [List.getElem?_set_ne n2] at q2 s2
    exact r.sep j k e e' a ne q1 q2 o1 o2 s1 s2
/-- a slot is forgotten -/
theorem Rel.forget (r : Rel K H0 Hb H σ env) (i : Nat) (x : Option V) : Rel K H0 Hb H (σ.set i x) (env.set i none) := by
  have key : ∀ (m : Nat) (d : D), (env.set i none)[m]? = some (some d) → i ≠ m := fun m d q z => by
    subst z
    have hi : i < env.length := by
      have := (List.getElem?_eq_some_iff.mp q).1
      rw [List.length_set] at this
      exact this
    rw [List.getElem?_set_self hi] at q
    cases q
  refine ⟨by rw [List.length_set, List.length_set, r.len], fun j e q => ?_, fun j k e e' a ne q1 q2 o1 o2 s1 s2 => ?_⟩
  · have n := key j e q
    rw [List.getElem?_set_ne n] at q
    obtain ⟨w, a, b⟩ := r.val j e q
    exact ⟨w, by rw [List.getElem?_set_ne n]; exact a, b⟩
  · have n1 := key j e q1
    have n2 := key k e' q2
    rw [List.getElem?_set_ne n1] at q1 s1
    rw [List.getElem?_set_ne n2] at q2 s2
    exact r.sep j k e e' a ne q1 q2 o1 o2 s1 s2
end

/-! ### readings -/
def tD (K : PySem.W.Frag) (f : En → Option D) : TE := fun σ H Q => ∃ H0 env Hb d, Rel K H0 Hb H σ env ∧ Same Hb H ∧ f env = some d ∧ ∀ v Hb' H', Step Hb H Hb' H' → Is K Hb' d v → Q v H'
def tT (K : PySem.W.Frag) (f : En → Option Bool) : TT := fun σ H Q => ∃ H0 env Hb b, Rel K H0 Hb H σ env ∧ Same Hb H ∧ f env = some b ∧ ∀ Hb' H', Step Hb H Hb' H' → Q b H'
def tA (K : PySem.W.Frag) (f : En → Option (List D)) : TA := fun σ H Q => ∃ H0 env Hb ds, Rel K H0 Hb H σ env ∧ Same Hb H ∧ f env = some ds ∧ ∀ vs Hb' H', Step Hb H Hb' H' → IsL K Hb' ds vs → Q vs H'
def tO (K : PySem.W.Frag) (f : En → Option (Option Int)) : TO := fun σ H Q => ∃ H0 env Hb o, Rel K H0 Hb H σ env ∧ Same Hb H ∧ f env = some o ∧ ∀ Hb' H', Step Hb H Hb' H' → Q o H'

def f1 (g : D → Option D) (fa : En → Option D) : En → Option D := fun env => (fa env).bind g
def f2 (g : D → D → Option D) (fa fb : En → Option D) : En → Option D := fun env => (fa env).bind fun a => (fb env).bind fun b => g a b
def fV (i : Nat) : En → Option D := fun env => match env[i]? with
  | some (some d) => if d.isOwn then none else some d
  | _ => none
def fC (d : D) : En → Option D := fun _ => some d
def fNil : En → Option (List D) := fun _ => some []
def fCons (fa : En → Option D) (fb : En → Option (List D)) : En → Option (List D) := fun env => (fa env).bind fun a => (fb env).bind fun b => some (a :: b)
def asB : D → Option Bool
  | .bl b => some b
  | _ => none
def asI : D → Option Int
  | .int b => some b
  | _ => none

section
variable {X : Cx} {a b c e : Expr} {es : List Expr} {pos : Pos} {fa fb fc : En → Option D} {fs : En → Option (List D)}

theorem PE_weak {t t' : TE} (h : PE X e t) (w : ∀ σ H Q, t' σ H Q → t σ H Q) : PE X e t' := ⟨fun pins s σ H Q I q => h.run pins s σ H Q I (w σ H Q q)⟩
theorem PT_weak {t t' : TT} (h : PT X e t) (w : ∀ σ H Q, t' σ H Q → t σ H Q) : PT X e t' := ⟨fun pins s σ H Q I q => h.run pins s σ H Q I (w σ H Q q)⟩
theorem PW_weak {t t' : TT} (h : PW X e t) (w : ∀ σ H Q, t' σ H Q → t σ H Q) : PW X e t' := ⟨fun wh pins s σ H Q I q => h.run wh pins s σ H Q I (w σ H Q q)⟩
theorem PA_weak {t t' : TA} (h : PA X es t) (w : ∀ σ H Q, t' σ H Q → t σ H Q) : PA X es t' := ⟨fun p pins s σ H Q I q => h.run p pins s σ H Q I (w σ H Q q)⟩

theorem bind2 {α β γ : Type} {x : Option α} {y : Option β} {g : α → β → Option γ} {z : γ} (h : (x.bind fun a => y.bind fun b => g a b) = some z) : ∃ a b, x = some a ∧ y = some b ∧ g a b = some z := by
  cases x with
  | none => cases h
  | some a =>
    cases y with
    | none => cases h
    | some b => exact ⟨a, b, rfl, rfl, h⟩
theorem bind1 {α γ : Type} {x : Option α} {g : α → Option γ} {z : γ} (h : x.bind g = some z) : ∃ a, x = some a ∧ g a = some z := by
  cases x with
  | none => cases h
  | some a => exact ⟨a, rfl, h⟩

/-- names, constants -/
theorem e_var (i : Nat) {x : Str} (hN : X.N[i]? = some x := by rfl) (hv : Vis X.env.scope x := by first | exact Or.inl rfl | exact Or.inr (Or.inl rfl) | exact Or.inr (Or.inr rfl)) (hd : (x == ("__debug__" : Str)) = false := by decide)
    (hcd : (x == ("__classdict__" : Str)) = false := by decide) : PE X (.Name x pos) (tD X.K (fV i)) := PE_weak (pe_var hN hv hd hcd) fun σ H Q h => by
  obtain ⟨H0, env, Hb, d, r, sm, ef, q⟩ := h
  unfold fV at ef
  cases e1 : env[i]? with
  | none => rw [e1] at ef; cases ef
  | some o =>
    rw [e1] at ef
    cases o with
    | none => cases ef
    | some d' =>
      dsimp only at ef
      cases ho : d'.isOwn with
      | true => rw [ho] at ef; simp at ef
      | false =>
        rw [ho] at ef
        simp at ef
        subst ef
        obtain ⟨v, s1, s2⟩ := r.val i d' e1
        rw [IsS.plain ho] at s2
        exact ⟨v, s1, q v Hb H (Step.refl sm) s2⟩
theorem e_c {d : D} {v : V} (he : PE X e (tC v)) (hv : ∀ H, Is X.K H d v) : PE X e (tD X.K (fC d)) := PE_weak he fun σ H Q h => by
  obtain ⟨H0, env, Hb, d', r, sm, ef, q⟩ := h
  cases ef
  exact q v Hb H (Step.refl sm) (hv Hb)
theorem e_int {i j} : PE X (.Constant (.int i) j pos) (tD X.K (fC (.int i))) := e_c pe_int fun _ => by simp only [Is]
theorem e_bl {i j} : PE X (.Constant (.bool i) j pos) (tD X.K (fC (.bl i))) := e_c pe_bl fun _ => by simp only [Is]
theorem e_non {j} : PE X (.Constant .none j pos) (tD X.K (fC .non)) := e_c pe_non fun _ => by simp only [Is]
theorem e_str (l : List Nat) {x : Str} {j} (h : x = S l := by decide +kernel) : PE X (.Constant (.str x) j pos) (tD X.K (fC (.str l))) := e_c pe_str fun _ => by simp only [Is]; rw [h]
/-- a module's text -/
theorem e_gstr (l : List Nat) {x y : Str} {tk : Tok} (hm : X.mg x = some (.str y tk)) (h : y = S l := by decide +kernel) (hg : Gl X x := by rfl) (hd : (x == ("__debug__" : Str)) = false := by decide) : PE X (.Name x pos) (tD X.K (fC (.str l))) :=
  e_c (v := .str y) (pe_glob hg hm ⟨_, rfl⟩ hd) fun _ => by simp only [Is]; rw [h]
theorem e_gint (i : Int) {x : Str} {tk : Tok} (hm : X.mg x = some (.int i tk)) (hg : Gl X x := by rfl) (hd : (x == ("__debug__" : Str)) = false := by decide) : PE X (.Name x pos) (tD X.K (fC (.int i))) :=
  e_c (v := .int i) (pe_glob hg hm ⟨_, rfl⟩ hd) fun _ => by simp only [Is]

/-! ### operations on values -/
def rD2 (K : PySem.W.Frag) (g : D → D → Option D) : R2 := fun x y H Q => ∃ Hb a b d, Same Hb H ∧ Is K Hb a x ∧ Is K Hb b y ∧ g a b = some d ∧ ∀ v Hb' H', Step Hb H Hb' H' → Is K Hb' d v → Q v H'
def rD1 (K : PySem.W.Frag) (g : D → Option D) : V → Hp → VK → Prop := fun x H Q => ∃ Hb a d, Same Hb H ∧ Is K Hb a x ∧ g a = some d ∧ ∀ v Hb' H', Step Hb H Hb' H' → Is K Hb' d v → Q v H'
def rDA (K : PySem.W.Frag) (g : List D → Option D) : List V → Hp → VK → Prop := fun xs H Q => ∃ Hb ds d, Same Hb H ∧ IsL K Hb ds xs ∧ g ds = some d ∧ ∀ v Hb' H', Step Hb H Hb' H' → Is K Hb' d v → Q v H'

theorem t_op {g : D → D → Option D} {σ : L2.St} {H : Hp} {Q : VK} (h : tD X.K (f2 g fa fb) σ H Q) : tOp (rD2 X.K g) (tD X.K fa) (tD X.K fb) σ H Q := by
  obtain ⟨H0, env, Hb, d, r, sm, ef, q⟩ := h
  obtain ⟨da, db, ea, eb, eg⟩ := bind2 ef
  exact ⟨H0, env, Hb, da, r, sm, ea, fun x Hb1 H1 s1 ix => ⟨H0, env, Hb1, db, r.step s1, s1.c, eb, fun y Hb2 H2 s2 iy =>
    ⟨Hb2, da, db, d, s2.c, ix.mono s2.b, iy, eg, fun v Hb' H' s3 iv => q v Hb' H' (s1.trans (s2.trans s3)) iv⟩⟩⟩
theorem e_op {op : Operator} {g : D → D → Option D} (ho : OpR X (binaryOp op) (rD2 X.K g)) (ha : PE X a (tD X.K fa)) (hb : PE X b (tD X.K fb)) : PE X (.BinOp a op b pos) (tD X.K (f2 g fa fb)) :=
  PE_weak (pe_op ho ha hb) fun _ _ _ h => t_op h
theorem e_un {op : UnaryOp} {g : D → Option D} (ho : UnR X (unaryOp op) (rD1 X.K g)) (ha : PE X a (tD X.K fa)) : PE X (.UnaryOp op a pos) (tD X.K (f1 g fa)) :=
  PE_weak (pe_un ho ha) fun σ H Q h => by
    obtain ⟨H0, env, Hb, d, r, sm, ef, q⟩ := h
    obtain ⟨da, ea, eg⟩ := bind1 ef
    exact ⟨H0, env, Hb, da, r, sm, ea, fun x Hb1 H1 s1 ix => ⟨Hb1, da, d, s1.c, ix, eg, fun v Hb' H' s3 iv => q v Hb' H' (s1.trans s3) iv⟩⟩
theorem e_cmp {op : CmpOp} {g : D → D → Option D} (ho : OpR X (compareOp op) (rD2 X.K g)) (ha : PE X a (tD X.K fa)) (hb : PE X b (tD X.K fb)) (hm : behindInMarks op b = false := by first | exact nobehind _ (by decide) (by decide) | rfl) :
    PE X (.Compare a [op] [b] pos) (tD X.K (f2 g fa fb)) := PE_weak (pe_cmpR ho ha hb hm) fun _ _ _ h => t_op h
/-- a <= b < c -/
def fChain (g g' : D → D → Option D) (fa fb fc : En → Option D) : En → Option D := fun env => (fa env).bind fun a => (fb env).bind fun b => (g a b).bind fun z => (asB z).bind fun k => if k then (fc env).bind fun c => g' b c else some (.bl false)
theorem asB_some {d : D} {b : Bool} (h : asB d = some b) : d = .bl b := by
  cases d <;> first | (cases h; rfl) | cases h
theorem asI_some {d : D} {b : Int} (h : asI d = some b) : d = .int b := by
  cases d <;> first | (cases h; rfl) | cases h
theorem e_chain {op op' : CmpOp} {g g' : D → D → Option D} (ho : OpR X (compareOp op) (rD2 X.K g)) (ho' : OpR X (compareOp op') (rD2 X.K g')) (ha : PE X a (tD X.K fa)) (hb : PE X b (tD X.K fb)) (hc : PE X c (tD X.K fc))
    (hm : lastMarks [op, op'] [b, c] = false := by with_unfolding_all rfl) : PE X (.Compare a [op, op'] [b, c] pos) (tD X.K (fChain g g' fa fb fc)) :=
  PE_weak (pe_chain ho ho' ha hb hc hm) fun σ H Q h => by
    obtain ⟨H0, env, Hb, d, r, sm, ef, q⟩ := h
    obtain ⟨da, ea, ef⟩ := bind1 ef
    obtain ⟨db, eb, ef⟩ := bind1 ef
    obtain ⟨z, ez, ef⟩ := bind1 ef
    obtain ⟨k, ek, eg⟩ := bind1 ef
    have hz := asB_some ek
    subst hz
    refine ⟨H0, env, Hb, da, r, sm, ea, fun x Hb1 H1 s1 ix => ⟨H0, env, Hb1, db, r.step s1, s1.c, eb, fun y Hb2 H2 s2 iy => ⟨Hb2, da, db, .bl k, s2.c, ix.mono s2.b, iy, ez, fun v Hb3 H3 s3 iv => ⟨k, by simpa only [Is] using iv, ?_⟩⟩⟩⟩
    cases k with
    | false =>
      simp at eg
      subst eg
      exact q _ Hb3 H3 (s1.trans (s2.trans s3)) (by simp only [Is])
    | true =>
      obtain ⟨dc, ec, eg⟩ := bind1 eg
      exact ⟨H0, env, Hb3, dc, ((r.step s1).step s2).step s3, s3.c, ec, fun w Hb4 H4 s4 iw => ⟨Hb4, db, dc, d, s4.c, (iy.mono s3.b).mono s4.b, iw, eg, fun v' Hb' H' s5 iv' => q v' Hb' H' (s1.trans (s2.trans (s3.trans (s4.trans s5)))) iv'⟩⟩

/-! ### argument lists, displays -/
theorem a_nil : PA X [] (tA X.K fNil) := PA_weak pa_nil fun σ H Q h => by
  obtain ⟨H0, env, Hb, d, r, sm, ef, q⟩ := h
  cases ef
  exact q [] Hb H (Step.refl sm) (by simp only [IsL])
theorem a_cons (ha : PE X e (tD X.K fa)) (hr : PA X es (tA X.K fs)) (hs : starEach (e :: es) X.env = (false, eval e X.env) :: starEach es X.env := by rfl) : PA X (e :: es) (tA X.K (fCons fa fs)) :=
  PA_weak (pa_cons ha hr hs) fun σ H Q h => by
    obtain ⟨H0, env, Hb, ds, r, sm, ef, q⟩ := h
    obtain ⟨da, db, ea, eb, eg⟩ := bind2 ef
    cases eg
    exact ⟨H0, env, Hb, da, r, sm, ea, fun x Hb1 H1 s1 ix => ⟨H0, env, Hb1, db, r.step s1, s1.c, eb, fun xs Hb2 H2 s2 ixs =>
      q (x :: xs) Hb2 H2 (s1.trans s2) (by simp only [IsL]; exact ⟨x, xs, rfl, ix.mono s2.b, ixs⟩)⟩⟩
def fTup (fs : En → Option (List D)) : En → Option D := fun env => (fs env).bind fun ds => if ds.length ≤ sizeLine then some (.tup ds) else none
def fLst (fs : En → Option (List D)) : En → Option D := fun env => (fs env).bind fun ds => if ds.length ≤ sizeLine then some (.lst ds) else none
theorem iteS {α : Type} {c : Prop} [Decidable c] {x y : α} (h : (if c then some x else none) = some y) : c ∧ x = y := by
  by_cases q : c
  · rw [if_pos q] at h
    exact ⟨q, Option.some.inj h⟩
  · rw [if_neg q] at h
    cases h
theorem is_tup_new {K : PySem.W.Frag} {Hb : Hp} {p : Addr} {ds : List D} {vs : List V} {o : Obj} (ho : o.dict = none) (hp : Hb p = none) (h : IsL K Hb ds vs) : Is K (upd Hb p (.frz o (.tup vs))) (.tup ds) (.ref p) := by
  simp only [Is]
  exact ⟨p, vs, rfl, .inl ⟨o, ho, upd_same⟩, h.mono (same_new hp)⟩
theorem is_wk_new {K : PySem.W.Frag} {Hb : Hp} {p : Addr} {ds : List D} {vs : List V} (hp : Hb p = none) (h : IsL K Hb ds vs) : Is K (upd Hb p (.tup vs)) (.wk ds) (.ref p) := by
  simp only [Is]
  exact ⟨p, vs, rfl, .inl (.inl upd_same), h.mono (same_new hp)⟩
/-- a tuple laid at the heap's end -/
theorem inv_newT {X : Cx} {pins : List (Addr × Obj)} {σ : L2.St} {H : Hp} {s : Shared} {vs : List V} {its : List Value} (I : Inv X pins σ H s) (r : Vals vs its) (hz : vs.length ≤ sizeLine) :
    ∃ o : Obj, o.dict = none ∧ Inv X pins σ (upd H s.heap.objs.size (.frz o (.tup vs))) { s with heap := s.heap.push { cls := .type "tuple", data := .seq its.toArray } } := by
  refine ⟨{ cls := .type "tuple", data := .seq its.toArray }, rfl, ?_⟩
  exact I.laid (t' := s.toks) (fun _ _ q => Heap.get?_push_of_some _ q) (Nat.le_refl _) ⟨Heap.get?_push_size _ rfl, hz, its, r, PyProof.Rows.IsTup.new _ _⟩
/-- (a, b, ..) -/
def rNewT (t : TA) : TE := fun σ H Q => t σ H fun vs H1 => vs.length ≤ sizeLine ∧ ∀ p o, H1 p = none → o.dict = none → Q (.ref p) (upd H1 p (.frz o (.tup vs)))
theorem pe_tupN {X : Cx} {es : List Expr} {pos : Pos} {t : TA} {x1} (h : PA X es t) : PE X (.Tuple es x1 pos) (rNewT t) := ⟨fun pins s σ H Q I hq => by
  refine wpAny_Tuple_spliced (thn (h.run pos pins s σ H _ I hq) fun us s1 w => ?_)
  obtain ⟨vs, H1, I1, r, z, q⟩ := w
  obtain ⟨o, ho, I2⟩ := inv_newT I1 r z
  exact ⟨by rw [← r.length]; exact z, .ref s1.heap.objs.size, _, I2, rfl, q _ o (I1.hok.fresh (Nat.le_refl _)) ho⟩⟩
theorem is_lst_new {K : PySem.W.Frag} {Hb : Hp} {p : Addr} {ds : List D} {vs : List V} (hp : Hb p = none) (h : IsL K Hb ds vs) : Is K (upd Hb p (.lst vs)) (.lst ds) (.ref p) := by
  simp only [Is]
  exact ⟨p, vs, rfl, upd_same, h.mono (same_new hp)⟩
theorem e_tup {x1} (h : PA X es (tA X.K fs)) : PE X (.Tuple es x1 pos) (tD X.K (fTup fs)) := PE_weak (pe_tupN h) fun σ H Q hh => by
  obtain ⟨H0, env, Hb, d, r, sm, ef, q⟩ := hh
  obtain ⟨ds, es, eg⟩ := bind1 ef
  obtain ⟨hl, rfl⟩ := iteS eg
  exact ⟨H0, env, Hb, ds, r, sm, es, fun vs Hb1 H1 s1 ix => ⟨by rw [ix.length]; exact hl, fun p o hp ho => q _ _ _ (s1.trans (Step.new s1.c hp)) (is_tup_new ho (s1.c.free hp) ix)⟩⟩
theorem e_lst (h : PA X es (tA X.K fs)) : PE X (.List es pos) (tD X.K (fLst fs)) := PE_weak (pe_lst h) fun σ H Q hh => by
  obtain ⟨H0, env, Hb, d, r, sm, ef, q⟩ := hh
  obtain ⟨ds, es, eg⟩ := bind1 ef
  obtain ⟨hl, rfl⟩ := iteS eg
  exact ⟨H0, env, Hb, ds, r, sm, es, fun vs Hb1 H1 s1 ix => ⟨by rw [ix.length]; exact hl, fun p hp => q _ _ _ (s1.trans (Step.new s1.c hp)) (is_lst_new (s1.c.free hp) ix)⟩⟩

/-! ### tests -/
def fB (fa : En → Option D) : En → Option Bool := fun env => (fa env).bind asB
def fAnd (fa fb : En → Option Bool) : En → Option Bool := fun env => (fa env).bind fun k => if k then fb env else some false
def fOr (fa fb : En → Option Bool) : En → Option Bool := fun env => (fa env).bind fun k => if k then some true else fb env
def fNot (fa : En → Option Bool) : En → Option Bool := fun env => (fa env).bind fun k => some (!k)
variable {ga gb : En → Option Bool} {rest : List Expr}
theorem tB_of {σ : L2.St} {H : Hp} {Q : Bool → Hp → Prop} (h : tT X.K (fB fa) σ H Q) : tB (tD X.K fa) σ H Q := by
  obtain ⟨H0, env, Hb, k, r, sm, ef, q⟩ := h
  obtain ⟨d, ed, eb⟩ := bind1 ef
  have hd := asB_some eb
  subst hd
  exact ⟨H0, env, Hb, _, r, sm, ed, fun v Hb' H' s iv => ⟨k, by simpa only [Is] using iv, q Hb' H' s⟩⟩
theorem t_val (h : PE X e (tD X.K fa)) (he : ∀ whole, isTrue e X.env whole = (do let v ← whole; standAt e.pos; holding [v] (truthy v)) := by intro _; rfl) : PT X e (tT X.K (fB fa)) :=
  PT_weak (pt_val h he) fun _ _ _ h => tB_of h
theorem t_cmp {op : CmpOp} {g : D → D → Option D} (ho : OpR X (compareOp op) (rD2 X.K g)) (ha : PE X a (tD X.K fa)) (hb : PE X b (tD X.K fb)) (hm : behindInMarks op b = false := by first | exact nobehind _ (by decide) (by decide) | rfl) :
    PT X (.Compare a [op] [b] pos) (tT X.K (fB (f2 g fa fb))) := PT_weak (pt_cmpR ho ha hb hm) fun σ H Q h => by
  obtain ⟨H0, env, Hb, k, r, sm, ef, q⟩ := h
  obtain ⟨d, ed, eb⟩ := bind1 ef
  have hd := asB_some eb
  subst hd
  exact t_op ⟨H0, env, Hb, _, r, sm, ed, fun v Hb' H' s iv => ⟨k, by simpa only [Is] using iv, q Hb' H' s⟩⟩
theorem t_and1 (ha : PT X a (tT X.K ga)) : PW X (.BoolOp .And [a] pos) (tT X.K ga) := pw_and1 ha
theorem t_or1 (ha : PT X a (tT X.K ga)) : PW X (.BoolOp .Or [a] pos) (tT X.K ga) := pw_or1 ha
theorem t_and (ha : PT X a (tT X.K ga)) (hb : PW X (.BoolOp .And (b :: rest) pos) (tT X.K gb)) : PW X (.BoolOp .And (a :: b :: rest) pos) (tT X.K (fAnd ga gb)) := PW_weak (pw_and ha hb) fun σ H Q h => by
  obtain ⟨H0, env, Hb, k, r, sm, ef, q⟩ := h
  obtain ⟨c, ec, eg⟩ := bind1 ef
  refine ⟨H0, env, Hb, c, r, sm, ec, fun Hb1 H1 s1 => ?_⟩
  cases c with
  | false =>
    simp at eg
    subst eg
    exact q Hb1 H1 s1
  | true =>
    simp at eg
    exact ⟨H0, env, Hb1, k, r.step s1, s1.c, eg, fun Hb2 H2 s2 => q Hb2 H2 (s1.trans s2)⟩
theorem t_or (ha : PT X a (tT X.K ga)) (hb : PW X (.BoolOp .Or (b :: rest) pos) (tT X.K gb)) : PW X (.BoolOp .Or (a :: b :: rest) pos) (tT X.K (fOr ga gb)) := PW_weak (pw_or ha hb) fun σ H Q h => by
  obtain ⟨H0, env, Hb, k, r, sm, ef, q⟩ := h
  obtain ⟨c, ec, eg⟩ := bind1 ef
  refine ⟨H0, env, Hb, c, r, sm, ec, fun Hb1 H1 s1 => ?_⟩
  cases c with
  | true =>
    simp at eg
    subst eg
    exact q Hb1 H1 s1
  | false =>
    simp at eg
    exact ⟨H0, env, Hb1, k, r.step s1, s1.c, eg, fun Hb2 H2 s2 => q Hb2 H2 (s1.trans s2)⟩
theorem t_not (ha : PT X a (tT X.K ga)) : PT X (.UnaryOp .Not a pos) (tT X.K (fNot ga)) := PT_weak (pt_not ha) fun σ H Q h => by
  obtain ⟨H0, env, Hb, k, r, sm, ef, q⟩ := h
  obtain ⟨c, ec, eg⟩ := bind1 ef
  cases eg
  exact ⟨H0, env, Hb, c, r, sm, ec, fun Hb1 H1 s1 => q Hb1 H1 s1⟩
/-- as values -/
def fAndV (fa fb : En → Option D) : En → Option D := fun env => ((fa env).bind asB).bind fun k => if k then fb env else some (.bl false)
def fOrV (fa fb : En → Option D) : En → Option D := fun env => ((fa env).bind asB).bind fun k => if k then some (.bl true) else fb env
def fNotV (fa : En → Option D) : En → Option D := fun env => ((fa env).bind asB).bind fun k => some (.bl (!k))
def fIf (fc : En → Option Bool) (fa fb : En → Option D) : En → Option D := fun env => (fc env).bind fun k => if k then fa env else fb env
theorem e_and (ha : PE X a (tD X.K fa)) (hb : PE X (.BoolOp .And (b :: rest) pos) (tD X.K fb)) : PE X (.BoolOp .And (a :: b :: rest) pos) (tD X.K (fAndV fa fb)) := PE_weak (pe_and ha hb) fun σ H Q h => by
  obtain ⟨H0, env, Hb, d, r, sm, ef, q⟩ := h
  obtain ⟨c, ec, eg⟩ := bind1 ef
  obtain ⟨z, ez, ec⟩ := bind1 ec
  have hz := asB_some ec
  subst hz
  refine ⟨H0, env, Hb, _, r, sm, ez, fun v Hb1 H1 s1 iv => ⟨c, by simpa only [Is] using iv, ?_⟩⟩
  cases c with
  | false =>
    simp at eg
    subst eg
    exact q _ Hb1 H1 s1 (by simp only [Is])
  | true =>
    simp at eg
    exact ⟨H0, env, Hb1, d, r.step s1, s1.c, eg, fun v' Hb2 H2 s2 iv' => q v' Hb2 H2 (s1.trans s2) iv'⟩
theorem e_or (ha : PE X a (tD X.K fa)) (hb : PE X (.BoolOp .Or (b :: rest) pos) (tD X.K fb)) : PE X (.BoolOp .Or (a :: b :: rest) pos) (tD X.K (fOrV fa fb)) := PE_weak (pe_or ha hb) fun σ H Q h => by
  obtain ⟨H0, env, Hb, d, r, sm, ef, q⟩ := h
  obtain ⟨c, ec, eg⟩ := bind1 ef
  obtain ⟨z, ez, ec⟩ := bind1 ec
  have hz := asB_some ec
  subst hz
  refine ⟨H0, env, Hb, _, r, sm, ez, fun v Hb1 H1 s1 iv => ⟨c, by simpa only [Is] using iv, ?_⟩⟩
  cases c with
  | true =>
    simp at eg
    subst eg
    exact q _ Hb1 H1 s1 (by simp only [Is])
  | false =>
    simp at eg
    exact ⟨H0, env, Hb1, d, r.step s1, s1.c, eg, fun v' Hb2 H2 s2 iv' => q v' Hb2 H2 (s1.trans s2) iv'⟩
theorem e_one {op} (ha : PE X a (tD X.K fa)) : PE X (.BoolOp op [a] pos) (tD X.K fa) := pe_one ha
theorem e_not (ha : PE X a (tD X.K fa)) : PE X (.UnaryOp .Not a pos) (tD X.K (fNotV fa)) := PE_weak (pe_not ha) fun σ H Q h => by
  obtain ⟨H0, env, Hb, d, r, sm, ef, q⟩ := h
  obtain ⟨c, ec, eg⟩ := bind1 ef
  obtain ⟨z, ez, ec⟩ := bind1 ec
  have hz := asB_some ec
  subst hz
  cases eg
  exact ⟨H0, env, Hb, _, r, sm, ez, fun v Hb1 H1 s1 iv => ⟨c, by simpa only [Is] using iv, q _ Hb1 H1 s1 (by simp only [Is])⟩⟩
theorem e_if {fc : En → Option Bool} (hc : PT X c (tT X.K fc)) (ha : PE X a (tD X.K fa)) (hb : PE X b (tD X.K fb)) : PE X (.IfExp c a b pos) (tD X.K (fIf fc fa fb)) := PE_weak (pe_ifExp hc ha hb) fun σ H Q h => by
  obtain ⟨H0, env, Hb, d, r, sm, ef, q⟩ := h
  obtain ⟨k, ec, eg⟩ := bind1 ef
  refine ⟨H0, env, Hb, _, r, sm, ec, fun Hb1 H1 s1 => ?_⟩
  cases k with
  | true =>
    simp at eg
    exact ⟨H0, env, Hb1, d, r.step s1, s1.c, eg, fun v' Hb2 H2 s2 iv' => q v' Hb2 H2 (s1.trans s2) iv'⟩
  | false =>
    simp at eg
    exact ⟨H0, env, Hb1, d, r.step s1, s1.c, eg, fun v' Hb2 H2 s2 iv' => q v' Hb2 H2 (s1.trans s2) iv'⟩
end
end Dn
set_option Elab.async false
set_option linter.all false
set_option maxRecDepth 100000
/-! Part B: operations on plain data. -/
namespace Dn
open PySem L2

/-! ### the library's own data -/
mutual
def toP : D → PyData
  | .non => .none
  | .bl b => .bool b
  | .int i => .int i
  | .str l => .str (S l)
  | .tup ds => .tuple (toPs ds)
  | .lst ds => .list (toPs ds)
  | .scr _ => .none
  | .adr _ => .none
  | .dct _ => .none
  | .own _ => .none
  | .ownd _ => .none
  | .wk _ => .none
def toPs : List D → List PyData
  | [] => []
  | d :: ds => toP d :: toPs ds
end
def flat : D → Bool
  | .non => true
  | .bl _ => true
  | .int _ => true
  | .str _ => true
  | _ => false
def okN : Nat → D → Bool
  | 0, d => flat d
  | n + 1, .tup xs => xs.all fun x => okN n x
  | n + 1, .lst xs => xs.all fun x => okN n x
  | _ + 1, d => flat d
theorem toPs_map : ∀ ds : List D, toPs ds = ds.map toP
  | [] => rfl
  | d :: ds => by rw [toPs, toPs_map ds, List.map_cons]
mutual
theorem plain_toP : ∀ d : D, (toP d).plain = true
  | .non => by simp only [toP, PyData.plain]
  | .bl _ => by simp only [toP, PyData.plain]
  | .int _ => by simp only [toP, PyData.plain]
  | .str _ => by simp only [toP, PyData.plain]
  | .scr _ => by simp only [toP, PyData.plain]
  | .adr _ => by simp only [toP, PyData.plain]
  | .dct _ => by simp only [toP, PyData.plain]
  | .own _ => by simp only [toP, PyData.plain]
  | .ownd _ => by simp only [toP, PyData.plain]
  | .wk _ => by simp only [toP, PyData.plain]
  | .tup ds => by simp only [toP, PyData.plain]; exact plain_toPs ds
  | .lst ds => by simp only [toP, PyData.plain]; exact plain_toPs ds
theorem plain_toPs : ∀ ds : List D, PyData.plainAll (toPs ds) = true
  | [] => by simp only [toPs, PyData.plainAll]
  | d :: ds => by simp only [toPs, PyData.plainAll, plain_toP d, plain_toPs ds, Bool.and_self]
end
theorem flat_shape {d : D} (h : flat d = true) : d = .non ∨ (∃ b, d = .bl b) ∨ (∃ i, d = .int i) ∨ ∃ l, d = .str l := by
  cases d <;> first | (simp [flat] at h; done) | simp
theorem dp_flat {K : PySem.W.Frag} {H : Hp} {d : D} {v : V} (f : flat d = true) (h : Is K H d v) : Dp K H v (toP d) ∧ (toP d).depth = 0 := by
  rcases flat_shape f with e | ⟨b, e⟩ | ⟨b, e⟩ | ⟨b, e⟩ <;> subst e <;> simp only [Is] at h <;> subst h <;> simp only [toP]
  · exact ⟨.non, by simp only [PyData.depth]⟩
  · exact ⟨.bl _, by simp only [PyData.depth]⟩
  · exact ⟨.int _, by simp only [PyData.depth]⟩
  · exact ⟨.str _, by simp only [PyData.depth]⟩
theorem dp_all {K : PySem.W.Frag} {H : Hp} {n : Nat} (ih : ∀ (d : D) (v : V), okN n d = true → Is K H d v → Dp K H v (toP d) ∧ (toP d).depth ≤ n) :
    ∀ {ds : List D} {vs : List V}, (ds.all fun x => okN n x) = true → IsL K H ds vs → DpAll K H vs (toPs ds) ∧ PyData.depthAll (toPs ds) ≤ n
  | [], vs, _, h => by
    simp only [IsL] at h
    subst h
    simp only [toPs, PyData.depthAll]
    exact ⟨.nil, Nat.zero_le _⟩
  | d :: ds, vs, ok, h => by
    simp only [IsL] at h
    obtain ⟨v, r, e1, e2, e3⟩ := h
    subst e1
    rw [List.all_cons, Bool.and_eq_true] at ok
    obtain ⟨a1, a2⟩ := ih d v ok.1 e2
    obtain ⟨b1, b2⟩ := dp_all ih ok.2 e3
    simp only [toPs, PyData.depthAll]
    exact ⟨.cons a1 b1, Nat.max_le.mpr ⟨a2, b2⟩⟩
theorem dp_of {K : PySem.W.Frag} {H : Hp} : ∀ (n : Nat) (d : D) (v : V), okN n d = true → Is K H d v → Dp K H v (toP d) ∧ (toP d).depth ≤ n
  | 0, d, v, ok, h => by
    obtain ⟨a, b⟩ := dp_flat (show flat d = true from ok) h
    exact ⟨a, by omega⟩
  | n + 1, .tup ds, v, ok, h => by
    simp only [Is] at h
    obtain ⟨a, vs, e1, e2, e3⟩ := h
    subst e1
    obtain ⟨c1, c2⟩ := dp_all (dp_of n) (show (ds.all fun x => okN n x) = true from ok) e3
    simp only [toP, PyData.depth]
    exact ⟨.tup e2.sq c1, by omega⟩
  | n + 1, .lst ds, v, ok, h => by
    simp only [Is] at h
    obtain ⟨a, vs, e1, e2, e3⟩ := h
    subst e1
    obtain ⟨c1, c2⟩ := dp_all (dp_of n) (show (ds.all fun x => okN n x) = true from ok) e3
    simp only [toP, PyData.depth]
    exact ⟨.lst (.inl (.inl e2)) c1, by omega⟩
  | n + 1, .non, v, ok, h => by
    obtain ⟨a, b⟩ := dp_flat (show flat .non = true from ok) h
    exact ⟨a, by omega⟩
  | n + 1, .bl b, v, ok, h => by
    obtain ⟨a, b⟩ := dp_flat (show flat (.bl b) = true from ok) h
    exact ⟨a, by omega⟩
  | n + 1, .int b, v, ok, h => by
    obtain ⟨a, b⟩ := dp_flat (show flat (.int b) = true from ok) h
    exact ⟨a, by omega⟩
  | n + 1, .str b, v, ok, h => by
    obtain ⟨a, b⟩ := dp_flat (show flat (.str b) = true from ok) h
    exact ⟨a, by omega⟩
  | n + 1, .scr _, v, ok, h => absurd (show false = true from ok) (by decide)
  | n + 1, .adr _, v, ok, h => absurd (show false = true from ok) (by decide)
  | n + 1, .dct _, v, ok, h => absurd (show false = true from ok) (by decide)
  | n + 1, .own _, v, ok, h => absurd (show false = true from ok) (by decide)
  | n + 1, .ownd _, v, ok, h => absurd (show false = true from ok) (by decide)
  | n + 1, .wk _, v, ok, h => absurd (show false = true from ok) (by decide)
abbrev ok60 (d : D) : Bool := okN 60 d
def eqv (a b : D) : Bool := PyData.eqv (toP a) (toP b)

/-! ### the functions -/
def addD : D → D → Option D
  | .int i, .int j => some (.int (i + j))
  | .str x, .str y => if x.length + y.length ≤ sizeLine then some (.str (x ++ y)) else none
  | .tup x, .tup y => if x.length + y.length ≤ sizeLine then some (.tup (x ++ y)) else none
  | .lst x, .lst y => if x.length + y.length ≤ sizeLine then some (.lst (x ++ y)) else none
  | _, _ => none
def subD : D → D → Option D
  | .int i, .int j => some (.int (i - j))
  | _, _ => none
def reps {α : Type} (x : List α) (n : Nat) : List α := (List.replicate n x).flatten
def mulD : D → D → Option D
  | .int i, .int j => if (-(2 ^ 64) < i ∧ i < 2 ^ 64) ∨ (-(2 ^ 64) < j ∧ j < 2 ^ 64) then some (.int (i * j)) else none
  | .str x, .int n => if x.length ≤ 1000 ∧ -1000 ≤ n ∧ n ≤ 1000 then some (.str (reps x n.toNat)) else none
  | .lst x, .int n => if x.length ≤ 1000 ∧ -1000 ≤ n ∧ n ≤ 1000 then some (.lst (reps x n.toNat)) else none
  | .tup x, .int n => if x ≠ [] ∧ x.length ≤ 1000 ∧ 2 ≤ n ∧ n ≤ 1000 then some (.wk (reps x n.toNat)) else none
  | _, _ => none
def fdivD : D → D → Option D
  | .int i, .int j => if 0 < j ∧ j < 1073741824 then some (.int (i / j)) else none
  | _, _ => none
def modD : D → D → Option D
  | .int i, .int j => if 0 < j then some (.int (i % j)) else none
  | _, _ => none
def powD : D → D → Option D
  | .int i, .int j => if 0 ≤ j ∧ j ≤ 1000000 ∧ i.natAbs < 2 ^ 64 then some (.int (i ^ j.toNat)) else none
  | _, _ => none
def negD : D → Option D
  | .int i => some (.int (-i))
  | _ => none
def eqD (a b : D) : Option D := if ok60 a = true ∧ ok60 b = true then some (.bl (eqv a b)) else none
def neD (a b : D) : Option D := if ok60 a = true ∧ ok60 b = true then some (.bl (!eqv a b)) else none
def ltD : D → D → Option D
  | .int i, .int j => some (.bl (decide (i < j)))
  | .str i, .str j => some (.bl (decide (i < j)))
  | _, _ => none
def leD : D → D → Option D
  | .int i, .int j => some (.bl (decide (i ≤ j)))
  | .str i, .str j => some (.bl (!decide (j < i)))
  | _, _ => none
def gtD : D → D → Option D
  | .int i, .int j => some (.bl (decide (j < i)))
  | .str i, .str j => some (.bl (decide (j < i)))
  | _, _ => none
def geD : D → D → Option D
  | .int i, .int j => some (.bl (decide (j ≤ i)))
  | .str i, .str j => some (.bl (!decide (i < j)))
  | _, _ => none
/-- x in c: a sign in a text, a thing in a tuple or list, a text in a dict -/
def inB : D → D → Option Bool
  | .str [c], .str z => some (decide (c ∈ z))
  | .str k, .dct kvs => some (kvs.any fun p => decide (p.1 = k))
  | x, .tup ds => if ok60 x = true ∧ (ds.all fun d => okN 60 d) = true then some (ds.any fun d => eqv d x) else none
  | x, .lst ds => if ok60 x = true ∧ (ds.all fun d => okN 60 d) = true then some (ds.any fun d => eqv d x) else none
  | _, _ => none
def inD (x c : D) : Option D := (inB x c).bind fun k => some (.bl k)
def ninD (x c : D) : Option D := (inB x c).bind fun k => some (.bl (!k))
def isD : D → D → Option D
  | .bl a, .bl b => some (.bl (decide (a = b)))
  | d, .non => match d with
    | .own _ => none
    | .ownd _ => none
    | .non => some (.bl true)
    | _ => some (.bl false)
  | _, _ => none
def isnD : D → D → Option D
  | .bl a, .bl b => some (.bl (!decide (a = b)))
  | d, .non => match d with
    | .own _ => none
    | .ownd _ => none
    | .non => some (.bl false)
    | _ => some (.bl true)
  | _, _ => none
def ixD : D → D → Option D
  | .tup xs, .int i => atI xs i
  | .lst xs, .int i => atI xs i
  | .str l, .int i => if l.length ≤ sizeLine then (atI l i).bind fun c => some (.str [c]) else none
  | .scr ns, .int i => (atI ns i).bind fun n => some (.int n)
  | _, _ => none
def cut {α : Type} (xs : List α) (lo hi : Option Int) : List α := (xs.drop (HT.sIx xs.length 0 lo)).take (HT.sIx xs.length xs.length hi - HT.sIx xs.length 0 lo)
def slD : D → Option Int → Option Int → Option D
  | .tup xs, lo, hi => some (.tup (cut xs lo hi))
  | .lst xs, lo, hi => some (.lst (cut xs lo hi))
  | .str l, lo, hi => if l.length ≤ sizeLine then some (.str (cut l lo hi)) else none
  | _, _, _ => none

section
variable {X : Cx}
theorem is_up {K : PySem.W.Frag} {Hb H : Hp} (sm : Same Hb H) {d : D} {v : V} (h : Is K Hb d v) : Is K H d v := h.mono sm

theorem S_len (l : List Nat) : (S l).length = l.length := by simp [S, Str.length]
theorem S_app (a b : List Nat) : S a ++ S b = S (a ++ b) := SX.S_cat a b
/-- t + u: either may be empty -/
def rCatN (K : PySem.W.Frag) : R2 := fun x y H Q => ∃ a b xs ys, x = .ref a ∧ y = .ref b ∧ SqT K H a xs ∧ SqT K H b ys ∧ xs.length + ys.length ≤ sizeLine ∧
  (xs = [] → Q (.ref b) H) ∧ (xs ≠ [] → ys = [] → Q (.ref a) H) ∧ (∀ p o, H p = none → o.dict = none → Q (.ref p) (upd H p (.frz o (.tup (xs ++ ys)))))
theorem op_catN : OpR X (binaryOp .Add) (rCatN X.K) := by
  intro pins s σ H x y v u Q I rx ry h
  obtain ⟨a, b, xs, ys, rfl, rfl, ha, hb, hz, q0, q1, q2⟩ := h
  have hx := Classical.em (xs = [])
  cases rx
  cases ry
  obtain ⟨us, r1, p1, _⟩ := I.tuple ha
  obtain ⟨ws, r2, p2, _⟩ := I.tuple hb
  rcases hx with rfl | hx
  · cases r1
    exact cat_tup0 p1 p2 ⟨.ref b, H, I, rfl, q0 rfl⟩
  · refine HT.cat_tup p1 p2 (mt r1.nil_iff.mp hx) (fun z => ⟨.ref a, H, I, rfl, q1 hx (r2.nil_iff.mp z)⟩) (fun _ => ?_) (by rw [← r1.length, ← r2.length]; exact hz)
    obtain ⟨o, ho, I2⟩ := inv_newT I (r1.append r2) (by rw [List.length_append]; exact hz)
    exact ⟨.ref s.heap.objs.size, _, I2, rfl, q2 _ o (I.hok.fresh (Nat.le_refl _)) ho⟩
theorem o_add : OpR X (binaryOp .Add) (rD2 X.K addD) := by
  intro pins s σ H x y v u Q I rx ry h
  obtain ⟨Hb, a, b, d, sm, ia, ib, eg, q⟩ := h
  unfold addD at eg
  split at eg
  · simp only [Is] at ia ib
    subst ia ib
    cases eg
    exact op_add pins s σ H _ _ v u Q I rx ry ⟨_, _, rfl, rfl, q _ Hb H (Step.refl sm) (by simp only [Is])⟩
  · simp only [Is] at ia ib
    subst ia ib
    obtain ⟨hl, rfl⟩ := iteS eg
    refine op_add_str pins s σ H _ _ v u Q I rx ry ⟨_, _, rfl, rfl, by rw [S_len, S_len]; exact hl, ?_⟩
    rw [S_app]
    exact q _ Hb H (Step.refl sm) (by simp only [Is])
  · have ia' := is_up sm ia
    have ib' := is_up sm ib
    simp only [Is] at ia ib ia' ib'
    obtain ⟨p, xs, rfl, hx, lx⟩ := ia
    obtain ⟨p', ys, rfl, hy, ly⟩ := ib
    obtain ⟨hl, rfl⟩ := iteS eg
    refine op_catN pins s σ H _ _ v u Q I rx ry ⟨p, p', xs, ys, rfl, rfl, (hx.mono sm).sq, (hy.mono sm).sq, by rw [lx.length, ly.length]; exact hl, fun e => ?_, fun e1 e2 => ?_, fun r o hr ho => ?_⟩
    · refine q _ Hb H (Step.refl sm) ?_
      simp only [Is]
      have := lx.append ly
      rw [e] at this
      exact ⟨p', ys, rfl, hy, this⟩
    · refine q _ Hb H (Step.refl sm) ?_
      simp only [Is]
      have := lx.append ly
      rw [e2, List.append_nil] at this
      exact ⟨p, xs, rfl, hx, this⟩
    · exact q _ _ _ (Step.new sm hr) (is_tup_new ho (sm.free hr) (lx.append ly))
  · simp only [Is] at ia ib
    obtain ⟨p, xs, rfl, hx, lx⟩ := ia
    obtain ⟨p', ys, rfl, hy, ly⟩ := ib
    obtain ⟨hl, rfl⟩ := iteS eg
    exact op_cat pins s σ H _ _ v u Q I rx ry ⟨p, p', xs, ys, rfl, rfl, sm _ _ hx, sm _ _ hy, by rw [lx.length, ly.length]; exact hl, fun r hr => q _ _ _ (Step.new sm hr) (is_lst_new (sm.free hr) (lx.append ly))⟩
  · cases eg
theorem o_sub : OpR X (binaryOp .Sub) (rD2 X.K subD) := by
  intro pins s σ H x y v u Q I rx ry h
  obtain ⟨Hb, a, b, d, sm, ia, ib, eg, q⟩ := h
  unfold subD at eg
  split at eg
  · simp only [Is] at ia ib
    subst ia ib
    cases eg
    exact op_sub pins s σ H _ _ v u Q I rx ry ⟨_, _, rfl, rfl, q _ Hb H (Step.refl sm) (by simp only [Is])⟩
  · cases eg
theorem size1000 : 1000000 ≤ sizeLine := by decide
theorem reps_len {α : Type} (x : List α) (n : Nat) : (reps x n).length = n * x.length := by
  unfold reps
  induction n with
  | zero => simp
  | succ n ih => rw [List.replicate_succ, List.flatten_cons, List.length_append, ih, Nat.succ_mul, Nat.add_comm]
theorem fold_cat (z : Array Nat) : ∀ (n : Nat) (acc : List Nat), ((List.replicate n z).foldl (· ++ ·) acc.toArray) = (acc ++ (List.replicate n z.toList).flatten).toArray
  | 0, acc => by simp
  | n + 1, acc => by
    rw [List.replicate_succ, List.foldl_cons, List.replicate_succ, List.flatten_cons]
    have : acc.toArray ++ z = (acc ++ z.toList).toArray := by simp
    rw [this, fold_cat z n, List.append_assoc]
theorem reps_nil {α : Type} (n : Nat) : reps ([] : List α) n = [] := by
  apply List.eq_nil_of_length_eq_zero
  rw [reps_len]
  simp
theorem mul_S (l : List Nat) (n : Int) : Txt.mul (S l) n = S (reps l n.toNat) := by
  unfold Txt.mul
  by_cases h1 : n < 1
  · rw [if_pos h1, show n.toNat = 0 by omega]
    rfl
  · rw [if_neg h1]
    by_cases h2 : (n == 1 || (S l).length == 0) = true
    · rw [if_pos h2]
      rw [Bool.or_eq_true] at h2
      rcases h2 with h2 | h2
      · have : n = 1 := by simpa using h2
        subst this
        simp [reps]
      · rw [S_len] at h2
        have : l = [] := by
          cases l with
          | nil => rfl
          | cons a b => simp at h2
        subst this
        rw [reps_nil]
    · rw [if_neg h2]
      have e := fold_cat l.toArray n.toNat []
      unfold reps
      rw [show (#[] : Array Nat) = ([] : List Nat).toArray from rfl, e]
      simp [S]
theorem mulok_S (l : List Nat) (n : Int) (h1 : l.length ≤ 1000) (h2 : -1000 ≤ n) (h3 : n ≤ 1000) : MulOk (S l) n := by
  refine ⟨?_, fun a _ => ?_, fun a _ => ?_⟩
  · rw [Bool.or_eq_false_iff]
    exact ⟨decide_eq_false (by omega), decide_eq_false (by omega)⟩
  · rw [S_len]
    have hb : (1000 : Int) ≤ (2 ^ 63 - 1) / n := by
      rw [Int.le_ediv_iff_mul_le (by omega)]
      omega
    omega
  · rw [S_len]
    have : l.length * n.toNat ≤ 1000 * 1000 := Nat.mul_le_mul h1 (by omega)
    show decide (_ > sizeLine) = false
    have := size1000
    exact decide_eq_false (by omega)
theorem o_mul : OpR X (binaryOp .Mult) (rD2 X.K mulD) := by
  intro pins s σ H x y v u Q I rx ry h
  obtain ⟨Hb, a, b, d, sm, ia, ib, eg, q⟩ := h
  unfold mulD at eg
  split at eg
  · simp only [Is] at ia ib
    subst ia ib
    obtain ⟨hc, rfl⟩ := iteS eg
    exact op_mul pins s σ H _ _ v u Q I rx ry ⟨_, _, rfl, rfl, hc, q _ Hb H (Step.refl sm) (by simp only [Is])⟩
  · simp only [Is] at ia ib
    subst ia ib
    obtain ⟨⟨h1, h2, h3⟩, rfl⟩ := iteS eg
    obtain ⟨t, rfl⟩ := rx
    obtain ⟨t', rfl⟩ := ry
    refine SB.mul (mulok_S _ _ h1 h2 h3) fun t'' k => ⟨.str _, H, I.tok _, ⟨t'', rfl⟩, ?_⟩
    rw [mul_S]
    exact q _ Hb H (Step.refl sm) (by simp only [Is])
  · simp only [Is] at ia ib
    obtain ⟨p, xs, rfl, hx, lx⟩ := ia
    subst ib
    obtain ⟨⟨h1, h2, h3⟩, rfl⟩ := iteS eg
    refine op_rep pins s σ H _ _ v u Q I rx ry ⟨p, _, xs, rfl, rfl, sm _ _ hx, by omega, by omega, ?_, fun r hr => q _ _ _ (Step.new sm hr) (is_lst_new (sm.free hr) ?_)⟩
    · refine Nat.le_trans ?_ size1000
      rw [lx.length]
      refine Nat.le_trans (Nat.mul_le_mul_left _ (?_ : _ ≤ 1000)) (by omega)
      omega
    · unfold reps
      generalize Int.toNat _ = m
      induction m with
      | zero => simp [IsL]
      | succ m ih =>
        rw [List.replicate_succ, List.replicate_succ, List.flatten_cons, List.flatten_cons]
        exact lx.append ih
  · simp only [Is] at ia ib
    obtain ⟨p, xs, rfl, hx, lx⟩ := ia
    subst ib
    obtain ⟨⟨h0, h1, h2, h3⟩, rfl⟩ := iteS eg
    refine op_repT pins s σ H _ _ v u Q I rx ry ⟨p, _, xs, rfl, rfl, (hx.mono sm).sq, ?_, by omega, by omega, by rw [lx.length]; exact h1, fun r hr => q _ _ _ (Step.new sm hr) (is_wk_new (sm.free hr) ?_)⟩
    · intro e
      have := lx.length
      rw [e] at this
      exact h0 (List.eq_nil_of_length_eq_zero this.symm)
    · unfold reps
      generalize Int.toNat _ = m
      induction m with
      | zero => simp [IsL]
      | succ m ih =>
        rw [List.replicate_succ, List.replicate_succ, List.flatten_cons, List.flatten_cons]
        exact lx.append ih
  · cases eg
theorem o_fdiv : OpR X (binaryOp .FloorDiv) (rD2 X.K fdivD) := by
  intro pins s σ H x y v u Q I rx ry h
  obtain ⟨Hb, a, b, d, sm, ia, ib, eg, q⟩ := h
  unfold fdivD at eg
  split at eg
  · simp only [Is] at ia ib
    subst ia ib
    obtain ⟨hc, rfl⟩ := iteS eg
    exact op_fdiv pins s σ H _ _ v u Q I rx ry ⟨_, _, rfl, rfl, hc, q _ Hb H (Step.refl sm) (by simp only [Is])⟩
  · cases eg
theorem o_mod : OpR X (binaryOp .Mod) (rD2 X.K modD) := by
  intro pins s σ H x y v u Q I rx ry h
  obtain ⟨Hb, a, b, d, sm, ia, ib, eg, q⟩ := h
  unfold modD at eg
  split at eg
  · simp only [Is] at ia ib
    subst ia ib
    obtain ⟨hc, rfl⟩ := iteS eg
    exact op_mod pins s σ H _ _ v u Q I rx ry ⟨_, _, rfl, rfl, hc, q _ Hb H (Step.refl sm) (by simp only [Is])⟩
  · cases eg
theorem o_pow : OpR X (binaryOp .Pow) (rD2 X.K powD) := by
  intro pins s σ H x y v u Q I rx ry h
  obtain ⟨Hb, a, b, d, sm, ia, ib, eg, q⟩ := h
  unfold powD at eg
  split at eg
  · simp only [Is] at ia ib
    subst ia ib
    obtain ⟨hc, rfl⟩ := iteS eg
    exact op_pow pins s σ H _ _ v u Q I rx ry ⟨_, _, rfl, rfl, hc, q _ Hb H (Step.refl sm) (by simp only [Is])⟩
  · cases eg
theorem o_neg : UnR X (unaryOp .USub) (rD1 X.K negD) := by
  intro pins s σ H x v Q I rx h
  obtain ⟨Hb, a, d, sm, ia, eg, q⟩ := h
  unfold negD at eg
  split at eg
  · simp only [Is] at ia
    subst ia
    cases eg
    exact un_neg pins s σ H _ v Q I rx ⟨_, rfl, q _ Hb H (Step.refl sm) (by simp only [Is])⟩
  · cases eg
theorem o_eq (hu : X.A.units + 64 < cLine) : OpR X (compareOp .Eq) (rD2 X.K eqD) := by
  intro pins s σ H x y v u Q I rx ry h
  obtain ⟨Hb, a, b, d, sm, ia, ib, eg, q⟩ := h
  obtain ⟨⟨oa, ob⟩, rfl⟩ := iteS eg
  obtain ⟨a1, a2⟩ := dp_of 60 a x oa (is_up sm ia)
  obtain ⟨b1, b2⟩ := dp_of 60 b y ob (is_up sm ib)
  obtain ⟨as, r1⟩ := Dp.reads I _ x v a1 rx
  obtain ⟨bs, r2⟩ := Dp.reads I _ y u b1 ry
  exact PySem.SeqAt.eq_plain r1 r2 (plain_toP a) (plain_toP b) (by omega) ⟨.bl _, H, I, rfl, q _ Hb H (Step.refl sm) (by simp only [Is]; rfl)⟩
theorem o_ne (hu : X.A.units + 64 < cLine) : OpR X (compareOp .NotEq) (rD2 X.K neD) := by
  intro pins s σ H x y v u Q I rx ry h
  obtain ⟨Hb, a, b, d, sm, ia, ib, eg, q⟩ := h
  obtain ⟨⟨oa, ob⟩, rfl⟩ := iteS eg
  obtain ⟨a1, a2⟩ := dp_of 60 a x oa (is_up sm ia)
  obtain ⟨b1, b2⟩ := dp_of 60 b y ob (is_up sm ib)
  obtain ⟨as, r1⟩ := Dp.reads I _ x v a1 rx
  obtain ⟨bs, r2⟩ := Dp.reads I _ y u b1 ry
  exact PySem.SeqAt.ne_plain r1 r2 (plain_toP a) (plain_toP b) (by omega) ⟨.bl _, H, I, rfl, q _ Hb H (Step.refl sm) (by simp only [Is]; rfl)⟩
theorem o_lt : OpR X (compareOp .Lt) (rD2 X.K ltD) := by
  intro pins s σ H x y v u Q I rx ry h
  obtain ⟨Hb, a, b, d, sm, ia, ib, eg, q⟩ := h
  unfold ltD at eg
  split at eg
  · simp only [Is] at ia ib
    subst ia ib
    cases eg
    exact op_lt pins s σ H _ _ v u Q I rx ry ⟨_, _, rfl, rfl, q _ Hb H (Step.refl sm) (by simp only [Is])⟩
  · simp only [Is] at ia ib
    subst ia ib
    cases eg
    exact op_lt_str pins s σ H _ _ v u Q I rx ry ⟨_, _, rfl, rfl, q _ Hb H (Step.refl sm) (by simp only [Is, S])⟩
  · cases eg
theorem o_le : OpR X (compareOp .LtE) (rD2 X.K leD) := by
  intro pins s σ H x y v u Q I rx ry h
  obtain ⟨Hb, a, b, d, sm, ia, ib, eg, q⟩ := h
  unfold leD at eg
  split at eg
  · simp only [Is] at ia ib
    subst ia ib
    cases eg
    exact op_le pins s σ H _ _ v u Q I rx ry ⟨_, _, rfl, rfl, q _ Hb H (Step.refl sm) (by simp only [Is])⟩
  · simp only [Is] at ia ib
    subst ia ib
    cases eg
    exact op_le_str pins s σ H _ _ v u Q I rx ry ⟨_, _, rfl, rfl, q _ Hb H (Step.refl sm) (by simp only [Is, S])⟩
  · cases eg
theorem o_gt : OpR X (compareOp .Gt) (rD2 X.K gtD) := by
  intro pins s σ H x y v u Q I rx ry h
  obtain ⟨Hb, a, b, d, sm, ia, ib, eg, q⟩ := h
  unfold gtD at eg
  split at eg
  · simp only [Is] at ia ib
    subst ia ib
    cases eg
    exact op_gt pins s σ H _ _ v u Q I rx ry ⟨_, _, rfl, rfl, q _ Hb H (Step.refl sm) (by simp only [Is])⟩
  · simp only [Is] at ia ib
    subst ia ib
    cases eg
    exact op_gt_str pins s σ H _ _ v u Q I rx ry ⟨_, _, rfl, rfl, q _ Hb H (Step.refl sm) (by simp only [Is, S])⟩
  · cases eg
theorem o_ge : OpR X (compareOp .GtE) (rD2 X.K geD) := by
  intro pins s σ H x y v u Q I rx ry h
  obtain ⟨Hb, a, b, d, sm, ia, ib, eg, q⟩ := h
  unfold geD at eg
  split at eg
  · simp only [Is] at ia ib
    subst ia ib
    cases eg
    exact op_ge pins s σ H _ _ v u Q I rx ry ⟨_, _, rfl, rfl, q _ Hb H (Step.refl sm) (by simp only [Is])⟩
  · simp only [Is] at ia ib
    subst ia ib
    cases eg
    exact op_ge_str pins s σ H _ _ v u Q I rx ry ⟨_, _, rfl, rfl, q _ Hb H (Step.refl sm) (by simp only [Is, S])⟩
  · cases eg
theorem any_toPs (x : D) : ∀ ds : List D, ((toPs ds).any fun y => PyData.eqv y (toP x)) = ds.any fun d => eqv d x
  | [] => by simp [toPs]
  | d :: ds => by
    rw [toPs, List.any_cons, List.any_cons, any_toPs x ds]
    rfl
/-! ### dicts of texts -/
theorem isK_keys {K : PySem.W.Frag} {H : Hp} : ∀ {kvs : List (List Nat × D)} {ks : List (Key × V)}, IsK K H kvs ks → ks.map (·.1) = kvs.map fun p => Sum.inr (S p.1)
  | [], _, h => by simp only [IsK] at h; subst h; rfl
  | (k, d) :: r, ks, h => by
    simp only [IsK] at h
    obtain ⟨v, t, rfl, _, h3⟩ := h
    rw [List.map_cons, List.map_cons, isK_keys h3]
theorem isK_val {K : PySem.W.Frag} {H : Hp} (k : List Nat) : ∀ {kvs : List (List Nat × D)} {ks : List (Key × V)}, IsK K H kvs ks → (∀ d, (kvs.find? fun p => decide (p.1 = k)).map (·.2) = some d → ∃ v, valV ks (Sum.inr (S k)) = some v ∧ Is K H d v) ∧ (valV ks (Sum.inr (S k))).isSome = kvs.any fun p => decide (p.1 = k)
  | [], _, h => by
    simp only [IsK] at h
    subst h
    exact ⟨fun d e => by simp at e, rfl⟩
  | (j, x) :: r, ks, h => by
    simp only [IsK] at h
    obtain ⟨v, t, rfl, h2, h3⟩ := h
    obtain ⟨i1, i2⟩ := isK_val k h3
    by_cases e : j = k
    · subst e
      rw [valV_pos rfl]
      refine ⟨fun d q => ?_, by simp⟩
      simp [List.find?_cons] at q
      subst q
      exact ⟨v, rfl, h2⟩
    · have e' : ¬ (Sum.inr (S j) : Key) = Sum.inr (S k) := fun z => e (by
        injection z with z
        exact SX.S_inj z)
      rw [valV_neg (p := (Sum.inr (S j), v)) e']
      refine ⟨fun d q => i1 d ?_, ?_⟩
      · rw [List.find?_cons_of_neg (by simpa using e)] at q
        exact q
      · rw [i2, List.any_cons, decide_eq_false e, Bool.false_or]
theorem in_core (neg : Bool) (hu : X.A.units + 65 < cLine) : OpR X (compareOp (if neg then .NotIn else .In)) (rD2 X.K fun x c => (inB x c).bind fun k => some (.bl (if neg then !k else k))) := by
  intro pins s σ H x y v u Q I rx ry h
  obtain ⟨Hb, a, b, d, sm, ia, ib, eg, q⟩ := h
  obtain ⟨k, ek, ed⟩ := bind1 eg
  cases ed
  unfold inB at ek
  split at ek
  · simp only [Is] at ia ib
    subst ia ib
    cases ek
    cases neg with
    | false => exact op_in_sign pins s σ H _ _ v u Q I rx ry ⟨_, _, rfl, rfl, q _ Hb H (Step.refl sm) (by simp [Is, S])⟩
    | true => exact op_notIn_sign pins s σ H _ _ v u Q I rx ry ⟨_, _, rfl, rfl, q _ Hb H (Step.refl sm) (by simp [Is, S])⟩
  · rename_i kx kvs
    simp only [Is] at ia ib
    obtain ⟨p, ks, rfl, ⟨o, hd⟩, hk⟩ := ib
    subst ia
    cases ry
    cases ek
    obtain ⟨_, hv⟩ := isK_val kx hk
    have g : DGet H p (.str (S kx)) (valV ks (Sum.inr (S kx))) := .inl ⟨ks, Sum.inr (S kx), .inr ⟨o, sm _ _ hd⟩, rfl, rfl⟩
    cases neg with
    | false => exact d_in (by omega) I g rx fun s3 I3 => ⟨.bl _, H, I3, rfl, q _ Hb H (Step.refl sm) (by simp only [Is]; rw [hv]; rfl)⟩
    | true => exact d_notIn (by omega) I g rx fun s3 I3 => ⟨.bl _, H, I3, rfl, q _ Hb H (Step.refl sm) (by simp only [Is]; rw [hv]; rfl)⟩
  · obtain ⟨⟨oa, ob⟩, rfl⟩ := iteS ek
    obtain ⟨a1, a2⟩ := dp_of 60 _ x oa (is_up sm ia)
    obtain ⟨b1, b2⟩ := dp_of 61 _ y (show okN 61 (.tup _) = true from ob) (is_up sm ib)
    obtain ⟨as, r1⟩ := Dp.reads I _ x v a1 rx
    obtain ⟨bs, r2⟩ := Dp.reads I _ y u b1 ry
    rw [toP] at r2
    cases neg with
    | false => exact PySem.SeqAt.in_tuple_data r2 r1 (plain_toPs _) (plain_toP _) (by omega) ⟨.bl _, H, I, rfl, q _ Hb H (Step.refl sm) (by simp only [Is]; rw [any_toPs]; rfl)⟩
    | true => exact PySem.SeqAt.notIn_tuple_data r2 r1 (plain_toPs _) (plain_toP _) (by omega) ⟨.bl _, H, I, rfl, q _ Hb H (Step.refl sm) (by simp only [Is]; rw [any_toPs]; rfl)⟩
  · obtain ⟨⟨oa, ob⟩, rfl⟩ := iteS ek
    obtain ⟨a1, a2⟩ := dp_of 60 _ x oa (is_up sm ia)
    obtain ⟨b1, b2⟩ := dp_of 61 _ y (show okN 61 (.lst _) = true from ob) (is_up sm ib)
    obtain ⟨as, r1⟩ := Dp.reads I _ x v a1 rx
    obtain ⟨bs, r2⟩ := Dp.reads I _ y u b1 ry
    rw [toP] at r2
    cases neg with
    | false => exact PySem.SeqAt.in_list_data r2 r1 (plain_toPs _) (plain_toP _) (by omega) ⟨.bl _, H, I, rfl, q _ Hb H (Step.refl sm) (by simp only [Is]; rw [any_toPs]; rfl)⟩
    | true => exact PySem.SeqAt.notIn_list_data r2 r1 (plain_toPs _) (plain_toP _) (by omega) ⟨.bl _, H, I, rfl, q _ Hb H (Step.refl sm) (by simp only [Is]; rw [any_toPs]; rfl)⟩
  · cases ek
theorem o_in (hu : X.A.units + 65 < cLine) : OpR X (compareOp .In) (rD2 X.K inD) := in_core false hu
theorem o_nin (hu : X.A.units + 65 < cLine) : OpR X (compareOp .NotIn) (rD2 X.K ninD) := in_core true hu
theorem is_ne_non {K : PySem.W.Frag} {H : Hp} {d : D} {v : V} (h : Is K H d v) (hd : d ≠ .non) : v ≠ .non := by
  cases d <;> simp only [Is] at h
  · exact absurd rfl hd
  · rw [h]; simp
  · rw [h]; simp
  · rw [h]; simp
  · obtain ⟨a, _, e, _⟩ := h; rw [e]; simp
  · obtain ⟨a, _, e, _⟩ := h; rw [e]; simp
  · obtain ⟨a, e, _⟩ := h; rw [e]; simp
  · rw [h]; simp
  · obtain ⟨a, _, e, _⟩ := h; rw [e]; simp
  · obtain ⟨a, _, e, _⟩ := h; rw [e]; simp
theorem isD_non {d z : D} (h : isD d .non = some z) : z = .bl (match d with | .non => true | _ => false) := by
  cases d <;> simp [isD] at h <;> exact h.symm
theorem isnD_non {d z : D} (h : isnD d .non = some z) : z = .bl (match d with | .non => false | _ => true) := by
  cases d <;> simp [isnD] at h <;> exact h.symm
theorem o_is : OpR X (compareOp .Is) (rD2 X.K isD) := by
  intro pins s σ H x y v u Q I rx ry h
  obtain ⟨Hb, a, b, d, sm, ia, ib, eg, q⟩ := h
  by_cases hb : b = .non
  · subst hb
    have hd := isD_non eg
    have ib' := ib
    simp only [Is] at ib'
    subst ib'
    refine op_isN pins s σ H _ _ v u Q I rx ry ⟨rfl, q _ Hb H (Step.refl sm) ?_⟩
    rw [hd]
    simp only [Is]
    by_cases ha : a = .non
    · subst ha
      simp only [Is] at ia
      rw [ia]
      rfl
    · rw [decide_eq_false (is_ne_non ia ha)]
      cases a <;> first | rfl | exact absurd rfl ha
  · cases a <;> cases b <;> first | (simp [isD] at eg; done) | exact absurd rfl hb | skip
    simp only [Is] at ia ib
    subst ia ib
    simp [isD] at eg
    subst eg
    exact op_isBl pins s σ H _ _ v u Q I rx ry ⟨_, _, rfl, rfl, q _ Hb H (Step.refl sm) (by simp only [Is])⟩
theorem o_isn : OpR X (compareOp .IsNot) (rD2 X.K isnD) := by
  intro pins s σ H x y v u Q I rx ry h
  obtain ⟨Hb, a, b, d, sm, ia, ib, eg, q⟩ := h
  by_cases hb : b = .non
  · subst hb
    have hd := isnD_non eg
    have ib' := ib
    simp only [Is] at ib'
    subst ib'
    refine op_notN pins s σ H _ _ v u Q I rx ry ⟨rfl, q _ Hb H (Step.refl sm) ?_⟩
    rw [hd]
    simp only [Is]
    by_cases ha : a = .non
    · subst ha
      simp only [Is] at ia
      rw [ia]
      rfl
    · rw [decide_eq_false (is_ne_non ia ha)]
      cases a <;> first | rfl | exact absurd rfl ha
  · cases a <;> cases b <;> first | (simp [isnD] at eg; done) | exact absurd rfl hb | skip
    simp only [Is] at ia ib
    subst ia ib
    simp [isnD] at eg
    subst eg
    exact op_notBl pins s σ H _ _ v u Q I rx ry ⟨_, _, rfl, rfl, q _ Hb H (Step.refl sm) (by simp only [Is])⟩

/-! ### subscripts and slices -/
theorem atI_is {K : PySem.W.Frag} {H : Hp} {ds : List D} {vs : List V} {i : Int} {d : D} (l : IsL K H ds vs) (h : atI ds i = some d) : ∃ v, atI vs i = some v ∧ Is K H d v := by
  unfold atI at h ⊢
  rw [l.length]
  cases e : ixN ds.length i with
  | none => rw [e] at h; cases h
  | some j =>
    rw [e] at h
    exact l.get h
theorem x_seq : IxR X (rD2 X.K ixD) := by
  intro value slice pins s σ H x y v u Q I rx ry h hs
  obtain ⟨Hb, a, b, d, sm, ia, ib, eg, q⟩ := h
  unfold ixD at eg
  split at eg
  · simp only [Is] at ia ib
    obtain ⟨p, xs, rfl, hx, lx⟩ := ia
    subst ib
    obtain ⟨w, e1, e2⟩ := atI_is lx eg
    exact ix_tup value slice pins s σ H _ _ v u Q I rx ry ⟨p, xs, _, w, rfl, rfl, (hx.mono sm).sq, e1, q _ Hb H (Step.refl sm) e2⟩ hs
  · simp only [Is] at ia ib
    obtain ⟨p, xs, rfl, hx, lx⟩ := ia
    subst ib
    obtain ⟨w, e1, e2⟩ := atI_is lx eg
    exact ix_list value slice pins s σ H _ _ v u Q I rx ry ⟨p, xs, _, w, rfl, rfl, .inl (.inl (sm _ _ hx)), e1, q _ Hb H (Step.refl sm) e2⟩ hs
  · simp only [Is] at ia ib
    subst ia ib
    split at eg
    · rename_i hl
      obtain ⟨c, ec, ed⟩ := bind1 eg
      cases ed
      exact ix_str value slice pins s σ H _ _ v u Q I rx ry ⟨_, _, c, rfl, rfl, by rw [S_len]; exact hl, ec, q _ Hb H (Step.refl sm) (by simp only [Is, S])⟩ hs
    · cases eg
  · simp only [Is] at ia ib
    obtain ⟨p, rfl, hx⟩ := ia
    subst ib
    obtain ⟨n, en, ed⟩ := bind1 eg
    cases ed
    refine ix_list value slice pins s σ H _ _ v u Q I rx ry ⟨p, _, _, .int n, rfl, rfl, sm.seq hx, ?_, q _ Hb H (Step.refl sm) (by simp only [Is])⟩ hs
    unfold atI at en ⊢
    rw [List.length_map]
    cases e : ixN _ _ with
    | none => rw [e] at en; cases en
    | some j =>
      rw [e] at en
      simp only [Option.bind_some] at en ⊢
      rw [List.getElem?_map, en]
      rfl
  · cases eg
theorem cut_is {K : PySem.W.Frag} {H : Hp} {ds : List D} {vs : List V} (l : IsL K H ds vs) (lo hi : Option Int) : IsL K H (cut ds lo hi) (cutV vs lo hi) := by
  unfold cut cutV
  rw [l.length]
  exact (l.drop _).take _
def rDS (K : PySem.W.Frag) (g : D → Option Int → Option Int → Option D) : V → Option Int → Option Int → Hp → VK → Prop := fun x lo hi H Q => ∃ Hb a d, Same Hb H ∧ Is K Hb a x ∧ g a lo hi = some d ∧ ∀ v Hb' H', Step Hb H Hb' H' → Is K Hb' d v → Q v H'
/-- t[lo:hi] -/
def rSlN (K : PySem.W.Frag) : V → Option Int → Option Int → Hp → VK → Prop := fun x lo hi H Q => ∃ a xs, x = .ref a ∧ SqT K H a xs ∧
  (HT.sIx xs.length 0 lo = 0 ∧ HT.sIx xs.length xs.length hi = xs.length → Q (.ref a) H) ∧ (∀ p o, H p = none → o.dict = none → Q (.ref p) (upd H p (.frz o (.tup (cutV xs lo hi)))))
theorem sl_tupN : SlR X (rSlN X.K) := by
  intro pins s σ H x v vl vu lo hi sl Q I rx hs pl pu h
  obtain ⟨a, xs, rfl, hx, q1, q2⟩ := h
  rcases Classical.em (HT.sIx xs.length 0 lo = 0 ∧ HT.sIx xs.length xs.length hi = xs.length) with hw | hw
  · exact sl_tupA pins s σ H _ v vl vu lo hi sl Q I rx hs pl pu ⟨a, xs, rfl, hx, q1, fun n => absurd hw n⟩
  · cases rx
    obtain ⟨us, r, ht, hz⟩ := I.tuple hx
    have hn : us.toArray.size = xs.length := by rw [List.size_toArray, r.length]
    refine ⟨"tuple", _, PyProof.Rows.slot_tuple_getitem.lookup, ht.typeIs, HT.getItem_tuple_cut ht hs pl pu (by rwa [hn]) ?_ (by rwa [hn])⟩
    rw [hn]
    obtain ⟨o, ho, I2⟩ := inv_newT I ((r.drop (HT.sIx xs.length 0 lo)).take (HT.sIx xs.length xs.length hi - HT.sIx xs.length 0 lo)) (Nat.le_trans (cutV_length xs lo hi) hz)
    exact ⟨.ref s.heap.objs.size, _, I2, rfl, q2 _ o (I.hok.fresh (Nat.le_refl _)) ho⟩
theorem x_sl : SlR X (rDS X.K slD) := by
  intro pins s σ H x v vl vu lo hi sl Q I rx hs pl pu h
  obtain ⟨Hb, a, d, sm, ia, eg, q⟩ := h
  unfold slD at eg
  split at eg
  · simp only [Is] at ia
    obtain ⟨p, xs, rfl, hx, lx⟩ := ia
    cases eg
    refine sl_tupN pins s σ H _ v vl vu lo hi sl Q I rx hs pl pu ⟨p, xs, rfl, (hx.mono sm).sq, fun e => ?_, fun r o hr ho => ?_⟩
    · refine q _ Hb H (Step.refl sm) ?_
      simp only [Is]
      refine ⟨p, xs, rfl, hx, ?_⟩
      have := cut_is lx lo hi
      unfold cutV at this
      rw [e.1, e.2, List.drop_zero, Nat.sub_zero, List.take_length] at this
      exact this
    · exact q _ _ _ (Step.new sm hr) (is_tup_new ho (sm.free hr) (cut_is lx lo hi))
  · simp only [Is] at ia
    obtain ⟨p, xs, rfl, hx, lx⟩ := ia
    cases eg
    exact sl_list pins s σ H _ v vl vu lo hi sl Q I rx hs pl pu ⟨p, xs, rfl, .inl (.inl (sm _ _ hx)), fun r hr => q _ _ _ (Step.new sm hr) (is_lst_new (sm.free hr) (cut_is lx lo hi))⟩
  · simp only [Is] at ia
    subst ia
    obtain ⟨hl, rfl⟩ := iteS eg
    refine sl_str pins s σ H _ v vl vu lo hi sl Q I rx hs pl pu ⟨_, rfl, by rw [S_len]; exact hl, q _ Hb H (Step.refl sm) ?_⟩
    simp only [Is, cutS, cut, S, Str.length, List.size_toArray]
  · cases eg
variable {a b e : Expr} {pos p2 : Pos} {fa fb : En → Option D} {lo hi : Option Expr} {fl fh : En → Option (Option Int)}
theorem e_ix (ha : PE X a (tD X.K fa)) (hb : PE X b (tD X.K fb)) (hs : PlainIx b := by exact fun _ _ => rfl) : PE X (.Subscript a b pos) (tD X.K (f2 ixD fa fb)) :=
  PE_weak (pe_ix x_seq ha hb hs) fun _ _ _ h => t_op h
def fPo (fa : En → Option D) : En → Option (Option Int) := fun env => ((fa env).bind asI).bind fun i => some (some i)
def fNo : En → Option (Option Int) := fun _ => some none
theorem PO_weak {o : Option Expr} {t t' : TO} (h : PO X o t) (w : ∀ σ H Q, t' σ H Q → t σ H Q) : PO X o t' := ⟨fun pins s σ H Q I q => h.run pins s σ H Q I (w σ H Q q)⟩
theorem p_no : PO X none (tO X.K fNo) := PO_weak po_none fun σ H Q h => by
  obtain ⟨H0, env, Hb, o, r, sm, ef, q⟩ := h
  cases ef
  exact q Hb H (Step.refl sm)
theorem p_so (ha : PE X a (tD X.K fa)) : PO X (some a) (tO X.K (fPo fa)) := PO_weak (po_some ha) fun σ H Q h => by
  obtain ⟨H0, env, Hb, o, r, sm, ef, q⟩ := h
  obtain ⟨i, ei, ef⟩ := bind1 ef
  obtain ⟨d, ed, ei⟩ := bind1 ei
  have hd := asI_some ei
  subst hd
  cases ef
  exact ⟨H0, env, Hb, _, r, sm, ed, fun v Hb' H' s iv => ⟨i, by simpa only [Is] using iv, q Hb' H' s⟩⟩
def fSl (fa : En → Option D) (fl fh : En → Option (Option Int)) : En → Option D := fun env => (fa env).bind fun d => (fl env).bind fun l => (fh env).bind fun h => slD d l h
theorem e_sl (ha : PE X a (tD X.K fa)) (hl : PO X lo (tO X.K fl)) (hh : PO X hi (tO X.K fh)) : PE X (.Subscript a (.Slice lo hi none p2) pos) (tD X.K (fSl fa fl fh)) :=
  PE_weak (pe_slice x_sl ha hl hh) fun σ H Q h => by
    obtain ⟨H0, env, Hb, d, r, sm, ef, q⟩ := h
    obtain ⟨da, ea, ef⟩ := bind1 ef
    obtain ⟨l, el, ef⟩ := bind1 ef
    obtain ⟨hh, eh, ef⟩ := bind1 ef
    exact ⟨H0, env, Hb, da, r, sm, ea, fun x Hb1 H1 s1 ix => ⟨H0, env, Hb1, l, r.step s1, s1.c, el, fun Hb2 H2 s2 => ⟨H0, env, Hb2, hh, (r.step s1).step s2, s2.c, eh, fun Hb3 H3 s3 =>
      ⟨Hb3, da, d, s3.c, (ix.mono s2.b).mono s3.b, ef, fun v Hb' H' s4 iv => q v Hb' H' (s1.trans (s2.trans (s3.trans s4))) iv⟩⟩⟩⟩
end
end Dn
set_option Elab.async false
set_option linter.all false
set_option maxRecDepth 100000
/-! Part C: statements, loops, comprehensions, calls, defs. -/
namespace Dn
open PySem L2 PySem.Spec PyProof.Rows

inductive Fl where
  | nx (e : En) | rt (d : D) | bk (e : En) | ct (e : En)
/-- what is wanted behind, for each way out -/
def Out (K : PySem.W.Frag) (Hb0 H0 : Hp) (N : Ends) : Fl → Prop
  | .nx env => ∀ σ Hb H, Rel K H0 Hb H σ env → Step Hb0 H0 Hb H → N.nx σ H
  | .rt d => ∀ v Hb H, Step Hb0 H0 Hb H → Is K Hb d v → N.rt v H
  | .bk env => ∀ σ Hb H, Rel K H0 Hb H σ env → Step Hb0 H0 Hb H → N.bk σ H
  | .ct env => ∀ σ Hb H, Rel K H0 Hb H σ env → Step Hb0 H0 Hb H → N.ct σ H
def tS (K : PySem.W.Frag) (F : En → Option Fl) : TS := fun N σ H => ∃ H0 Hb0 env Hb fl, Rel K H0 Hb H σ env ∧ Step Hb0 H0 Hb H ∧ F env = some fl ∧ Out K Hb0 H0 N fl
def tG (K : PySem.W.Frag) (ts : List Nat) (g : D → En → Option En) : TG := fun v σ H Q => ∃ H0 Hb env d env', Rel K H0 Hb H σ env ∧ Same Hb H ∧ Is K Hb d v ∧ g d env = some env' ∧ ∀ σ', Rel K H0 Hb H σ' env' → wipe σ' ts = wipe σ ts → Q σ' H
def tGs (K : PySem.W.Frag) (ts : List Nat) (g : List D → En → Option En) : TGs := fun vs σ H Q => ∃ H0 Hb env ds env', Rel K H0 Hb H σ env ∧ Same Hb H ∧ IsL K Hb ds vs ∧ g ds env = some env' ∧ ∀ σ', Rel K H0 Hb H σ' env' → wipe σ' ts = wipe σ ts → Q σ' H

theorem Step.fwd {Hb0 H0 Hb1 H1 Hb2 H2 : Hp} (x : Step Hb0 H0 Hb1 H1) (y : Step Hb1 H1 Hb2 H2) : Step Hb1 H0 Hb2 H2 := ⟨x.a.trans y.a, y.b, y.c, fun p o e n => y.f p o (x.a p o e) n, y.t⟩
theorem Step.back {Hb0 H0 Hb1 H1 Hb2 H2 : Hp} (x : Step Hb0 H0 Hb1 H1) (y : Step Hb1 H0 Hb2 H2) : Step Hb0 H0 Hb2 H2 := ⟨y.a, x.b.trans y.b, y.c, fun p o e n => y.f p o e (x.f p o e n), fun n => y.t (x.t n)⟩
/-- a new object that no plain thing lies in -/
theorem Step.hid {Hb H : Hp} (s : Same Hb H) {p : Addr} {o : HO} (h : H p = none) (hb : Hb p = none) : Step Hb H Hb (upd H p o) := ⟨same_new h, Same.refl _, fun b x e => (by rw [upd_ne (ne_of_none e hb)]; exact s b x e), fun _ _ _ n => n, fun n => n⟩

section
variable {X : Cx} {a b e : Expr} {st : Stmt} {sts rest : List Stmt} {pos : Pos} {fa fb : En → Option D} {F G : En → Option Fl}
theorem PS_weak {t t' : TS} (h : PS X st t) (w : ∀ N σ H, t' N σ H → t N σ H) : PS X st t' := ⟨fun pins s σ H N I q => h.run pins s σ H N I (w N σ H q)⟩
theorem PSs_weak {t t' : TS} (h : PSs X sts t) (w : ∀ N σ H, t' N σ H → t N σ H) : PSs X sts t' := ⟨fun pins s σ H N I q => h.run pins s σ H N I (w N σ H q)⟩
theorem PG_weak {tg : Expr} {t t' : TG} (h : PG X tg t) (w : ∀ v σ H Q, t' v σ H Q → t v σ H Q) : PG X tg t' := ⟨fun pins s σ H v u Q I r q => h.run pins s σ H v u Q I r (w v σ H Q q)⟩
theorem PGs_weak {tg : List Expr} {t t' : TGs} (h : PGs X tg t) (w : ∀ v σ H Q, t' v σ H Q → t v σ H Q) : PGs X tg t' := ⟨fun pins s σ H v u Q I r q => h.run pins s σ H v u Q I r (w v σ H Q q)⟩

/-! ### wiping -/
theorem wipe_get (σ : L2.St) (j : Nat) : ∀ vs : List Nat, (wipe σ vs)[j]? = if j ∈ vs then σ[j]?.map (fun _ => none) else σ[j]?
  | [] => by simp [wipe]
  | v :: vs => by
    unfold wipe
    by_cases h : v = j
    · subst h
      by_cases hv : v < σ.length
      · rw [List.getElem?_set_self (by rw [wipe_length]; exact hv)]
        simp [List.getElem?_eq_getElem hv]
      · rw [List.getElem?_eq_none (by rw [List.length_set, wipe_length]; omega), List.getElem?_eq_none (show σ.length ≤ v by omega)]
        simp
    · rw [List.getElem?_set_ne h, wipe_get σ j vs]
      have : (j ∈ v :: vs) = (j ∈ vs) := by
        rw [List.mem_cons]
        exact propext ⟨fun q => q.resolve_left fun z => h z.symm, Or.inr⟩
      simp only [this]
theorem wipe_ext {σ τ : L2.St} {vs : List Nat} (hl : σ.length = τ.length) (h : ∀ j, j ∉ vs → σ[j]? = τ[j]?) : wipe σ vs = wipe τ vs := by
  apply List.ext_getElem?
  intro j
  rw [wipe_get, wipe_get]
  by_cases q : j ∈ vs
  · rw [if_pos q, if_pos q]
    by_cases z : j < σ.length
    · rw [List.getElem?_eq_getElem z, List.getElem?_eq_getElem (show j < τ.length by omega)]
      rfl
    · rw [List.getElem?_eq_none (by omega), List.getElem?_eq_none (by omega)]
  · rw [if_neg q, if_neg q, h j q]
theorem wipe_eq_get {σ τ : L2.St} {vs : List Nat} (h : wipe σ vs = wipe τ vs) : σ.length = τ.length ∧ ∀ j, j ∉ vs → σ[j]? = τ[j]? := by
  refine ⟨by rw [← wipe_length σ vs, ← wipe_length τ vs, h], fun j q => ?_⟩
  have := congrArg (fun l : L2.St => l[j]?) h
  simp only [wipe_get, if_neg q] at this
  exact this
theorem wipe_mono {σ τ : L2.St} {vs ws : List Nat} (hs : ∀ i ∈ vs, i ∈ ws) (h : wipe σ vs = wipe τ vs) : wipe σ ws = wipe τ ws :=
  wipe_ext (wipe_eq_get h).1 fun j q => (wipe_eq_get h).2 j fun z => q (hs j z)
theorem wipe_wipe (σ : L2.St) (vs : List Nat) : wipe (wipe σ vs) vs = wipe σ vs :=
  wipe_ext (wipe_length _ _) fun j q => by rw [wipe_get, if_neg q]
theorem wipe_set (σ : L2.St) (i : Nat) (x : Option V) : wipe (σ.set i x) [i] = wipe σ [i] := by
  refine wipe_ext (by rw [List.length_set]) fun j q => ?_
  rw [List.getElem?_set_ne]
  intro z
  exact q (by simp [z])
def wipeE (env : En) : List Nat → En
  | [] => env
  | v :: vs => (wipeE env vs).set v none
theorem Rel.wipe {K : PySem.W.Frag} {H0 Hb H : Hp} {σ : L2.St} {env : En} (r : Rel K H0 Hb H σ env) : ∀ vs : List Nat, Rel K H0 Hb H (L2.wipe σ vs) (wipeE env vs)
  | [] => r
  | v :: vs => (r.wipe vs).forget v none

theorem wipeE_some {env : En} {i : Nat} {d : D} : ∀ {vs : List Nat}, (wipeE env vs)[i]? = some (some d) → env[i]? = some (some d) ∧ i ∉ vs
  | [], h => ⟨h, by simp⟩
  | v :: vs, h => by
    unfold wipeE at h
    by_cases hi : v = i
    · subst hi
      by_cases hv : v < (wipeE env vs).length
      · rw [List.getElem?_set_self hv] at h
        cases h
      · rw [List.getElem?_eq_none (by simpa using hv)] at h
        cases h
    · rw [List.getElem?_set_ne hi] at h
      obtain ⟨h1, h2⟩ := wipeE_some h
      exact ⟨h1, by simp only [List.mem_cons, not_or]; exact ⟨fun e => hi e.symm, h2⟩⟩
theorem wipe_some' {σ : L2.St} {vs : List Nat} {i : Nat} {x : V} (h : (wipe σ vs)[i]? = some (some x)) : σ[i]? = some (some x) := (wipe_some h).1

/-! ### targets -/
def gN (i : Nat) : D → En → Option En := fun d env => some (env.set i (some d))
def gNil' : List D → En → Option En := fun ds env => match ds with
  | [] => some env
  | _ :: _ => none
def gCons' (g : D → En → Option En) (h : List D → En → Option En) : List D → En → Option En := fun ds env => match ds with
  | [] => none
  | d :: r => (g d env).bind fun env' => h r env'
def gT (g : List D → En → Option En) : D → En → Option En := fun d env => match d with
  | .tup ds => g ds env
  | .wk ds => g ds env
  | _ => none
def gL (g : List D → En → Option En) : D → En → Option En := fun d env => match d with
  | .lst ds => g ds env
  | _ => none
variable {ts us : List Nat} {g : D → En → Option En} {gs : List D → En → Option En} {tg : Expr} {tgs : List Expr}
theorem g_name (i : Nat) {x : Str} (hN : X.N.Nodup) (hi : X.N[i]? = some x := by rfl) (hx : Loc X.env.scope x := by first | exact Or.inl rfl | exact Or.inr rfl) (hf : X.fn x = true ∨ X.env.scope.names.lookup x = some .local := by first | exact .inl rfl | exact .inr rfl) : PG X (.Name x pos) (tG X.K [i] (gN i)) :=
  PG_weak (pg_name hN hi hx hf) fun v σ H Q h => by
    obtain ⟨H0, Hb, env, d, env', r, sm, iv, eg, q⟩ := h
    cases eg
    exact q _ (r.set i iv) (wipe_set σ i _)
theorem g_nil : PGs X [] (tGs X.K [] gNil') := PGs_weak pgs_nil fun v σ H Q h => by
  obtain ⟨H0, Hb, env, ds, env', r, sm, iv, eg, q⟩ := h
  cases ds with
  | nil =>
    simp only [IsL] at iv
    cases eg
    exact ⟨iv, q σ r rfl⟩
  | cons d ds => cases eg
theorem g_cons (h1 : PG X tg (tG X.K ts g)) (h2 : PGs X tgs (tGs X.K us gs)) (hs : (assignEach (tg :: tgs) X.env).map (·.2) = assign tg X.env :: (assignEach tgs X.env).map (·.2) := by rfl) : PGs X (tg :: tgs) (tGs X.K (ts ++ us) (gCons' g gs)) :=
  PGs_weak (pgs_cons h1 h2 hs) fun v σ H Q h => by
    obtain ⟨H0, Hb, env, ds, env', r, sm, iv, eg, q⟩ := h
    cases ds with
    | nil => cases eg
    | cons d ds =>
      simp only [IsL] at iv
      obtain ⟨w, vr, rfl, i1, i2⟩ := iv
      obtain ⟨e1, h1, h2⟩ := bind1 eg
      refine ⟨w, vr, rfl, H0, Hb, env, d, e1, r, sm, i1, h1, fun σ1 r1 w1 => ⟨H0, Hb, e1, ds, env', r1, sm, i2, h2, fun σ2 r2 w2 => q σ2 r2 ?_⟩⟩
      exact (wipe_mono (fun i hi => List.mem_append_right _ hi) w2).trans (wipe_mono (fun i hi => List.mem_append_left _ hi) w1)
theorem g_tup {k : Nat} {n : Nat} (hc : X.calm = true) (h : PGs X tgs (tGs X.K ts gs)) (hl : ∀ ds env env', gs ds env = some env' → ds.length = n)
    (hn : (assignEach tgs X.env).length = n := by rfl) (hst : (assignEach tgs X.env).findIdx? (·.1) = none := by rfl) : PG X (.Tuple tgs k pos) (tG X.K ts (gT gs)) :=
  PG_weak (pg_tup hc h hn hst) fun v σ H Q h => by
    obtain ⟨H0, Hb, env, d, env', r, sm, iv, eg, q⟩ := h
    cases d with
    | tup ds =>
      simp only [Is] at iv
      obtain ⟨p, xs, rfl, hx, lx⟩ := iv
      exact ⟨p, xs, rfl, (hx.mono sm).sq, by rw [lx.length]; exact hl _ _ _ eg, H0, Hb, env, ds, env', r, sm, lx, eg, q⟩
    | wk ds =>
      simp only [Is] at iv
      obtain ⟨p, xs, rfl, hx, lx⟩ := iv
      exact ⟨p, xs, rfl, sq_mono sm hx, by rw [lx.length]; exact hl _ _ _ eg, H0, Hb, env, ds, env', r, sm, lx, eg, q⟩
    | _ => cases eg
theorem g_lst {k : Nat} {n : Nat} (hc : X.calm = true) (h : PGs X tgs (tGs X.K ts gs)) (hl : ∀ ds env env', gs ds env = some env' → ds.length = n)
    (hn : (assignEach tgs X.env).length = n := by rfl) (hst : (assignEach tgs X.env).findIdx? (·.1) = none := by rfl) : PG X (.Tuple tgs k pos) (tG X.K ts (gL gs)) :=
  PG_weak (pg_unl hc h hn hst) fun v σ H Q h => by
    obtain ⟨H0, Hb, env, d, env', r, sm, iv, eg, q⟩ := h
    cases d with
    | lst ds =>
      simp only [Is] at iv
      obtain ⟨p, xs, rfl, hx, lx⟩ := iv
      exact ⟨p, xs, rfl, .inl (.inl (sm _ _ hx)), by rw [lx.length]; exact hl _ _ _ eg, H0, Hb, env, ds, env', r, sm, lx, eg, q⟩
    | _ => cases eg
theorem gl_nil : ∀ (ds : List D) (env env' : En), gNil' ds env = some env' → ds.length = 0
  | [], _, _, _ => rfl
  | _ :: _, _, _, h => by cases h
theorem gl_cons {n : Nat} (h : ∀ (ds : List D) (env env' : En), gs ds env = some env' → ds.length = n) : ∀ (ds : List D) (env env' : En), gCons' g gs ds env = some env' → ds.length = n + 1
  | [], _, _, q => by cases q
  | d :: ds, env, env', q => by
    obtain ⟨e1, _, h2⟩ := bind1 q
    rw [List.length_cons, h _ _ _ h2]

/-! ### statements -/
def fAsg (fa : En → Option D) (g : D → En → Option En) : En → Option Fl := fun env => (fa env).bind fun d => (g d env).bind fun env' => some (.nx env')
def fSet (i : Nat) (fa : En → Option D) : En → Option Fl := fun env => (fa env).bind fun d => some (.nx (env.set i (some d)))
def fRet (fa : En → Option D) : En → Option Fl := fun env => (fa env).bind fun d => some (.rt d)
def fDrop (fa : En → Option D) : En → Option Fl := fun env => (fa env).bind fun _ => some (.nx env)
def fSeq (F G : En → Option Fl) : En → Option Fl := fun env => (F env).bind fun fl => match fl with
  | .nx e => G e
  | .rt d => some (.rt d)
  | .bk e => some (.bk e)
  | .ct e => some (.ct e)
def fPass : En → Option Fl := fun env => some (.nx env)
def fIfS (c : En → Option Bool) (F G : En → Option Fl) : En → Option Fl := fun env => (c env).bind fun k => if k then F env else G env
def fStuck : En → Option Fl := fun _ => none
theorem tS_asg {N : Ends} {σ : L2.St} {H : Hp} (h : tS X.K (fAsg fa g) N σ H) : tAsg (tD X.K fa) (tG X.K ts g) N σ H := by
  obtain ⟨H0, Hb0, env, Hb, fl, r, sp, ef, out⟩ := h
  obtain ⟨d, ed, ef⟩ := bind1 ef
  obtain ⟨env', eg, ef⟩ := bind1 ef
  cases ef
  exact ⟨H0, env, Hb, d, r, sp.c, ed, fun v Hb1 H1 s1 iv => ⟨H0, Hb1, env, d, env', r.step s1, s1.c, iv, eg, fun σ' r' _ => out σ' Hb1 H1 r' (sp.trans s1)⟩⟩
theorem s_asg (he : PE X e (tD X.K fa)) (hg : PG X tg (tG X.K ts g)) (hs : swapsWithSole [tg] e pos.line X.env = pure false := by rfl) (hw : swappedStores [tg] e X.env = pure none := by rfl)
    (h1 : (assignEach [tg] X.env).map (·.2) = [assign tg X.env] := by rfl) : PS X (.Assign [tg] e pos) (tS X.K (fAsg fa g)) := PS_weak (ps_asg he hg hs hw h1) fun N σ H h => tS_asg h
theorem tS_set {i : Nat} {N : Ends} {σ : L2.St} {H : Hp} (h : tS X.K (fSet i fa) N σ H) : tAsg (tD X.K fa) (gName i) N σ H := by
  obtain ⟨H0, Hb0, env, Hb, fl, r, sp, ef, out⟩ := h
  obtain ⟨d, ed, ef⟩ := bind1 ef
  cases ef
  exact ⟨H0, env, Hb, d, r, sp.c, ed, fun v Hb1 H1 s1 iv => out _ Hb1 H1 ((r.step s1).set i iv) (sp.trans s1)⟩
theorem s_set (i : Nat) {x : Str} {pos' : Pos} (hN : X.N.Nodup) (he : PE X e (tD X.K fa)) (hi : X.N[i]? = some x := by rfl) (hx : Loc X.env.scope x := by first | exact Or.inl rfl | exact Or.inr rfl) (hs : swapsWith e (some (.Name x pos')) pos.line X.env = pure false := by rfl)
    (hf : X.fn x = true ∨ X.env.scope.names.lookup x = some .local := by first | exact .inl rfl | exact .inr rfl) : PS X (.Assign [.Name x pos'] e pos) (tS X.K (fSet i fa)) := PS_weak (ps_set hN hi hx he hs hf) fun N σ H h => tS_set h
/-- a, b = x, y -/
def fPar (i j : Nat) (fs : En → Option (List D)) : En → Option Fl := fun env => (fs env).bind fun ds => match ds with
  | [d, d'] => some (.nx ((env.set i (some d)).set j (some d')))
  | _ => none
theorem s_par (i j : Nat) {x y : Str} {px py pt : Pos} {kt k2 pt2} {fs : En → Option (List D)} (hc : X.calm = true) (hN : X.N.Nodup) (ha : PA X [a, b] (tA X.K fs)) (hi : X.N[i]? = some x := by rfl) (hj : X.N[j]? = some y := by rfl) (hij : i ≠ j := by decide)
    (hx : X.env.scope.names.lookup x = some .local := by rfl) (hy : X.env.scope.names.lookup y = some .local := by rfl)
    (hw : swappedStores [.Tuple [.Name x px, .Name y py] kt pt] (.Tuple [a, b] k2 pt2) X.env = pure (some [x, y]) := by rfl)
    (hs : swapsWithSole [.Tuple [.Name x px, .Name y py] kt pt] (.Tuple [a, b] k2 pt2) pos.line X.env = pure false := by rfl) :
    PS X (.Assign [.Tuple [.Name x px, .Name y py] kt pt] (.Tuple [a, b] k2 pt2) pos) (tS X.K (fPar i j fs)) := PS_weak (ps_par hc hN hi hj hij hx hy ha hw hs) fun N σ H h => by
  obtain ⟨H0, Hb0, env, Hb, fl, r, sp, ef, out⟩ := h
  obtain ⟨ds, ed, ef⟩ := bind1 ef
  refine ⟨H0, env, Hb, ds, r, sp.c, ed, fun vs Hb1 H1 s1 iv => ?_⟩
  match ds, ef, iv with
  | [d, d'], ef, iv =>
    cases ef
    simp only [IsL] at iv
    obtain ⟨v, r1, rfl, i1, v', r2, rfl, i2, rfl⟩ := iv
    exact ⟨v, v', rfl, out _ Hb1 H1 (((r.step s1).set i i1).set j i2) (sp.trans s1)⟩
theorem s_ret (he : PE X e (tD X.K fa)) : PS X (.Return (some e) pos) (tS X.K (fRet fa)) := PS_weak (ps_ret he) fun N σ H h => by
  obtain ⟨H0, Hb0, env, Hb, fl, r, sp, ef, out⟩ := h
  obtain ⟨d, ed, ef⟩ := bind1 ef
  cases ef
  exact ⟨H0, env, Hb, d, r, sp.c, ed, fun v Hb1 H1 s1 iv => out v Hb1 H1 (sp.trans s1) iv⟩
theorem s_expr (he : PE X e (tD X.K fa)) (hs : swapsWith e none pos.line X.env = pure false := by rfl) : PS X (.Expr e pos) (tS X.K (fDrop fa)) := PS_weak (ps_expr he hs) fun N σ H h => by
  obtain ⟨H0, Hb0, env, Hb, fl, r, sp, ef, out⟩ := h
  obtain ⟨d, ed, ef⟩ := bind1 ef
  cases ef
  exact ⟨H0, env, Hb, d, r, sp.c, ed, fun v Hb1 H1 s1 iv => out σ Hb1 H1 (r.step s1) (sp.trans s1)⟩
theorem ss_nil : PSs X [] (tS X.K fPass) := PSs_weak pss_nil fun N σ H h => by
  obtain ⟨H0, Hb0, env, Hb, fl, r, sp, ef, out⟩ := h
  cases ef
  exact out σ Hb H r sp
theorem s_pass : PS X (.Pass pos) (tS X.K fPass) := PS_weak ps_pass fun N σ H h => by
  obtain ⟨H0, Hb0, env, Hb, fl, r, sp, ef, out⟩ := h
  cases ef
  exact out σ Hb H r sp
theorem s_stuck : PS X st (tS X.K fStuck) := PS_weak ps_never fun N σ H h => by
  obtain ⟨H0, Hb0, env, Hb, fl, r, sp, ef, out⟩ := h
  cases ef
theorem ss_one (h : PS X st (tS X.K F)) : PSs X [st] (tS X.K F) := pss_one h
theorem ss_cons (h1 : PS X st (tS X.K F)) (h2 : PSs X rest (tS X.K G)) : PSs X (st :: rest) (tS X.K (fSeq F G)) := PSs_weak (pss_cons h1 h2) fun N σ H h => by
  obtain ⟨H0, Hb0, env, Hb, fl, r, sp, ef, out⟩ := h
  obtain ⟨f1, e1, ef⟩ := bind1 ef
  refine ⟨H0, Hb0, env, Hb, f1, r, sp, e1, ?_⟩
  cases f1 with
  | nx e' => exact fun σ' Hb' H' r' s' => ⟨H0, Hb0, e', Hb', fl, r', s', ef, out⟩
  | rt d => cases ef; exact out
  | bk e' => cases ef; exact out
  | ct e' => cases ef; exact out
theorem s_if {c : Expr} {fc : En → Option Bool} {p q : List Stmt} (hc : PT X c (tT X.K fc)) (hp : PSs X p (tS X.K F)) (hq : PSs X q (tS X.K G)) : PS X (.If c p q pos) (tS X.K (fIfS fc F G)) := PS_weak (ps_if hc hp hq) fun N σ H h => by
  obtain ⟨H0, Hb0, env, Hb, fl, r, sp, ef, out⟩ := h
  obtain ⟨k, ek, ef⟩ := bind1 ef
  refine ⟨H0, env, Hb, k, r, sp.c, ek, fun Hb1 H1 s1 => ?_⟩
  cases k with
  | true => exact ⟨H0, Hb0, env, Hb1, fl, r.step s1, sp.trans s1, ef, out⟩
  | false => exact ⟨H0, Hb0, env, Hb1, fl, r.step s1, sp.trans s1, ef, out⟩

/-! ### while -/
def whileF (c : En → Option Bool) (B : En → Option Fl) : Nat → En → Option Fl
  | 0, _ => none
  | n + 1, env => (c env).bind fun k => if k then (B env).bind fun fl => match fl with
      | .nx e => whileF c B n e
      | .ct e => whileF c B n e
      | .bk e => some (.nx e)
      | .rt d => some (.rt d)
    else some (.nx env)
def fWhile (fuel : En → Nat) (c : En → Option Bool) (B : En → Option Fl) : En → Option Fl := fun env => whileF c B (fuel env) env
theorem s_while (fuel : En → Nat) {c : Expr} {fc : En → Option Bool} {body : List Stmt} (hp : PassesOwn (model X.prog X.w) X.A X.env X.xe) (hc : PT X c (tT X.K fc)) (hb : PSs X body (tS X.K F)) : PS X (.While c body [] pos) (tS X.K (fWhile fuel fc F)) :=
  PS_weak (ps_while hp hc hb) fun N σ H h => by
    obtain ⟨H0, Hb0, env, Hb, fl, r, sp, ef, out⟩ := h
    refine ⟨fun m σ' H' => ∃ env' Hb', Rel X.K H0 Hb' H' σ' env' ∧ Step Hb0 H0 Hb' H' ∧ whileF fc F m env' = some fl, ⟨fuel env, env, Hb, r, sp, ef⟩, fun m σ1 H1 hW => ?_⟩
    obtain ⟨e1, Hb1, r1, s1, q1⟩ := hW
    cases m with
    | zero => cases q1
    | succ m =>
      obtain ⟨k, ek, q1⟩ := bind1 q1
      refine ⟨H0, e1, Hb1, k, r1, s1.c, ek, fun Hb2 H2 s2 => ?_⟩
      cases k with
      | false =>
        cases q1
        exact out σ1 Hb2 H2 (r1.step s2) (s1.trans s2)
      | true =>
        obtain ⟨f1, ef1, q1⟩ := bind1 q1
        refine ⟨fun σ' H' => ∃ env' Hb', Rel X.K H0 Hb' H' σ' env' ∧ Step Hb0 H0 Hb' H' ∧ whileF fc F m env' = some fl, fun σ' H' hN => ⟨m, Nat.lt_succ_self m, hN⟩, H0, Hb0, e1, Hb2, f1, r1.step s2, s1.trans s2, ef1, ?_⟩
        cases f1 with
        | nx e' => exact fun σ' Hb' H' r' s' => ⟨e', Hb', r', s', q1⟩
        | ct e' => exact fun σ' Hb' H' r' s' => ⟨e', Hb', r', s', q1⟩
        | bk e' =>
          cases q1
          exact fun σ' Hb' H' r' s' => out σ' Hb' H' r' s'
        | rt d =>
          cases q1
          exact out

/-! ### what is walked -/
def WalkD (K : PySem.W.Frag) (J : It) (ds : List D) (Hb0 : Hp) : Prop :=
  ∀ Hb H, Same Hb0 Hb → Same Hb H → (∀ (i : Nat) (d : D), ds[i]? = some d → J.go i H ∧ ∀ x H', J.yld i H x H' → ∃ Hb', Step Hb H Hb' H' ∧ Is K Hb' d x) ∧ J.stop ds.length H
def tI (K : PySem.W.Frag) (it : En → Option (List D)) : TI := fun σ H R => ∃ H0 env Hb ds, Rel K H0 Hb H σ env ∧ Same Hb H ∧ it env = some ds ∧ ∀ J Hb' H', Step Hb H Hb' H' → WalkD K J ds Hb' → R J H'
def itemsD : D → Option (List D)
  | .tup ds => some ds
  | .wk ds => some ds
  | .lst ds => some ds
  | .str l => some (l.map fun c => .str [c])
  | _ => none
def fIt (fa : En → Option D) : En → Option (List D) := fun env => (fa env).bind itemsD
theorem walk_l {K : PySem.W.Frag} {Hb : Hp} {p : Addr} {ds : List D} {vs : List V} (h : Hb p = some (.lst vs)) (l : IsL K Hb ds vs) : WalkD K (Itl K p) ds Hb := fun Hb1 H1 s1 s2 => by
  have hs : SqL K H1 p vs := .inl (.inl (s2 _ _ (s1 _ _ h)))
  refine ⟨fun i d e => ?_, ⟨vs, hs, by rw [l.length]; exact Nat.le_refl _⟩⟩
  obtain ⟨v, e1, e2⟩ := l.get e
  refine ⟨⟨vs, v, hs, e1⟩, fun x H' hy => ?_⟩
  obtain ⟨rfl, f⟩ := hy
  have := f vs hs
  rw [e1] at this
  cases this
  exact ⟨Hb1, Step.refl s2, e2.mono s1⟩
theorem walk_t {K : PySem.W.Frag} {Hb : Hp} {p : Addr} {ds : List D} {vs : List V} (h : SqT K Hb p vs) (l : IsL K Hb ds vs) : WalkD K (Itt K p) ds Hb := fun Hb1 H1 s1 s2 => by
  have hs : SqT K H1 p vs := sq_mono s2 (sq_mono s1 h)
  refine ⟨fun i d e => ?_, ⟨vs, hs, by rw [l.length]; exact Nat.le_refl _⟩⟩
  obtain ⟨v, e1, e2⟩ := l.get e
  refine ⟨⟨vs, v, hs, e1⟩, fun x H' hy => ?_⟩
  obtain ⟨rfl, f⟩ := hy
  have := f vs hs
  rw [e1] at this
  cases this
  exact ⟨Hb1, Step.refl s2, e2.mono s1⟩
theorem walk_s {K : PySem.W.Frag} {Hb : Hp} (l : List Nat) : WalkD K (Its (S l)) (l.map fun c => .str [c]) Hb := fun Hb1 H1 s1 s2 => by
  refine ⟨fun i d e => ?_, by show l.toArray.size ≤ (l.map _).length; simp⟩
  rw [List.getElem?_map] at e
  cases e1 : l[i]? with
  | none => rw [e1] at e; cases e
  | some c =>
    rw [e1] at e
    cases e
    refine ⟨?_, fun x H' hy => ?_⟩
    · show i < l.toArray.size
      have := (List.getElem?_eq_some_iff.mp e1).1
      simpa using this
    · obtain ⟨rfl, c', ec, rfl⟩ := hy
      have ec : l.toArray[i]? = some c' := ec
      rw [List.getElem?_toArray, e1] at ec
      cases ec
      exact ⟨Hb1, Step.refl s2, by simp only [Is, S]⟩
theorem walk_r {K : PySem.W.Frag} {Hb : Hp} (lo : Int) (n : Nat) : WalkD K (Itr lo n) ((List.range n).map fun i => .int (lo + (i : Nat))) Hb := fun Hb1 H1 s1 s2 => by
  refine ⟨fun i d e => ?_, by show n ≤ (List.map _ _).length; simp⟩
  rw [List.getElem?_map] at e
  cases e1 : (List.range n)[i]? with
  | none => rw [e1] at e; cases e
  | some c =>
    rw [e1] at e
    cases e
    obtain ⟨h1, h2⟩ := List.getElem?_eq_some_iff.mp e1
    rw [List.getElem_range] at h2
    subst h2
    refine ⟨by show i < n; simpa using h1, fun x H' hy => ?_⟩
    obtain ⟨rfl, rfl⟩ := hy
    exact ⟨Hb1, Step.refl s2, by simp only [Is]⟩
theorem i_seq (he : PE X e (tD X.K fa)) : PI X tg e (tI X.K (fIt fa)) := ⟨fun pins s σ H R I h => by
  obtain ⟨H0, env, Hb, ds, r, sm, ef, q⟩ := h
  obtain ⟨d, ed, ef⟩ := bind1 ef
  cases d with
  | tup xs =>
    cases ef
    refine (pi_tup he).run pins s σ H R I ⟨H0, env, Hb, _, r, sm, ed, fun v Hb1 H1 s1 iv => ?_⟩
    simp only [Is] at iv
    obtain ⟨p, vs, rfl, hx, lx⟩ := iv
    exact ⟨p, rfl, ⟨vs, (hx.mono s1.c).sq⟩, q _ Hb1 H1 s1 (walk_t hx.sq lx)⟩
  | wk xs =>
    cases ef
    refine (pi_tup he).run pins s σ H R I ⟨H0, env, Hb, _, r, sm, ed, fun v Hb1 H1 s1 iv => ?_⟩
    simp only [Is] at iv
    obtain ⟨p, vs, rfl, hx, lx⟩ := iv
    exact ⟨p, rfl, ⟨vs, sq_mono s1.c hx⟩, q _ Hb1 H1 s1 (walk_t hx lx)⟩
  | lst xs =>
    cases ef
    refine (pi_list he).run pins s σ H R I ⟨H0, env, Hb, _, r, sm, ed, fun v Hb1 H1 s1 iv => ?_⟩
    simp only [Is] at iv
    obtain ⟨p, vs, rfl, hx, lx⟩ := iv
    exact ⟨p, rfl, ⟨vs, .inl (.inl (s1.c _ _ hx))⟩, q _ Hb1 H1 s1 (walk_l hx lx)⟩
  | str l =>
    cases ef
    refine (pi_str he).run pins s σ H R I ⟨H0, env, Hb, _, r, sm, ed, fun v Hb1 H1 s1 iv => ?_⟩
    simp only [Is] at iv
    subst iv
    exact ⟨_, rfl, q _ Hb1 H1 s1 (walk_s l)⟩
  | _ => cases ef⟩
def rangeD (lo hi : Int) : Option (List D) := if (-(2 ^ 62) ≤ lo ∧ lo < 2 ^ 62 ∧ -(2 ^ 62) ≤ hi ∧ hi < 2 ^ 62) then some ((List.range (hi - lo).toNat).map fun i => .int (lo + (i : Nat))) else none
def fRng1 (fs : En → Option (List D)) : En → Option (List D) := fun env => (fs env).bind fun ds => match ds with
  | [.int n] => rangeD 0 n
  | _ => none
def fRng2 (fs : En → Option (List D)) : En → Option (List D) := fun env => (fs env).bind fun ds => match ds with
  | [.int m, .int n] => rangeD m n
  | _ => none
variable {fs : En → Option (List D)} {p : Pos}
theorem i_range1 (hm : X.mg "range" = none) (ha : PA X [a] (tA X.K fs)) (hg : Gl X "range" := by rfl) (hs : starEach [a] X.env = [(false, eval a X.env)] := by rfl) : PI X tg (.Call (.Name "range" p) [a] [] pos) (tI X.K (fRng1 fs)) := ⟨fun pins s σ H R I h => by
  obtain ⟨H0, env, Hb, ds, r, sm, ef, q⟩ := h
  obtain ⟨xs, ed, ef⟩ := bind1 ef
  refine (pi_range1 hg hm ha hs).run pins s σ H R I ⟨H0, env, Hb, xs, r, sm, ed, fun vs Hb1 H1 s1 iv => ?_⟩
  split at ef
  · simp only [IsL, Is] at iv
    obtain ⟨v, r1, rfl, rfl, rfl⟩ := iv
    obtain ⟨⟨_, _, h1, h2⟩, rfl⟩ := iteS ef
    refine ⟨_, rfl, h1, h2, q _ Hb1 H1 s1 ?_⟩
    rw [Int.sub_zero]
    exact walk_r (K := X.K) (Hb := Hb1) 0 (Int.toNat _)
  · cases ef⟩
theorem i_range2 (hm : X.mg "range" = none) (ha : PA X [a, b] (tA X.K fs)) (hg : Gl X "range" := by rfl) (hs : starEach [a, b] X.env = [(false, eval a X.env), (false, eval b X.env)] := by rfl) (hs2 : starEach [b] X.env = [(false, eval b X.env)] := by rfl) : PI X tg (.Call (.Name "range" p) [a, b] [] pos) (tI X.K (fRng2 fs)) := ⟨fun pins s σ H R I h => by
  obtain ⟨H0, env, Hb, ds, r, sm, ef, q⟩ := h
  obtain ⟨xs, ed, ef⟩ := bind1 ef
  refine (pi_range2 hg hm ha hs hs2).run pins s σ H R I ⟨H0, env, Hb, xs, r, sm, ed, fun vs Hb1 H1 s1 iv => ?_⟩
  split at ef
  · simp only [IsL, Is] at iv
    obtain ⟨v, r1, rfl, rfl, v2, r2, rfl, rfl, rfl⟩ := iv
    obtain ⟨hh, rfl⟩ := iteS ef
    exact ⟨_, _, rfl, hh, q _ Hb1 H1 s1 (walk_r (K := X.K) (Hb := Hb1) _ (Int.toNat _))⟩
  · cases ef⟩

/-! ### for -/
def forF (g : D → En → Option En) (B : En → Option Fl) : List D → En → Option Fl
  | [], env => some (.nx env)
  | d :: ds, env => (g d env).bind fun e1 => (B e1).bind fun fl => match fl with
    | .nx e => forF g B ds e
    | .ct e => forF g B ds e
    | .bk e => some (.nx e)
    | .rt d => some (.rt d)
def fFor (it : En → Option (List D)) (g : D → En → Option En) (B : En → Option Fl) : En → Option Fl := fun env => (it env).bind fun ds => forF g B ds env
theorem s_for {iter : Expr} {body : List Stmt} {it : En → Option (List D)} (hp : PassesOwn (model X.prog X.w) X.A X.env X.xe) (hc : X.calm = true) (hi : PI X tg iter (tI X.K it)) (hg : PG X tg (tG X.K ts g)) (hb : PSs X body (tS X.K F))
    (hs : ∀ x, foldedSetIterable iter X.env x = pure x := by intro _; rfl) : PS X (.For tg iter body [] pos) (tS X.K (fFor it g F)) := PS_weak (ps_for hp hc hi hg hb hs) fun N σ H h => by
  obtain ⟨H0, Hb0, env, Hb, fl, r, sp, ef, out⟩ := h
  obtain ⟨ds, ed, ef⟩ := bind1 ef
  refine ⟨H0, env, Hb, ds, r, sp.c, ed, fun J Hb1 H1 s1 wk => ?_⟩
  have x1 : Step Hb0 H0 Hb1 H1 := sp.trans s1
  refine ⟨fun i m σ' H' => ∃ env' Hb', Rel X.K H0 Hb' H' σ' env' ∧ Step Hb1 H0 Hb' H' ∧ i + m = ds.length ∧ forF g F (ds.drop i) env' = some fl, ⟨ds.length, env, Hb1, r.step s1, x1.fwd (Step.refl s1.c), by omega, ef⟩, fun i m σ2 H2 hW => ?_⟩
  obtain ⟨e2, Hb2, r2, s2, im, q2⟩ := hW
  obtain ⟨wi, ws⟩ := wk Hb2 H2 s2.b s2.c
  by_cases hm : m = 0
  · subst hm
    have hi : i = ds.length := by omega
    subst hi
    rw [List.drop_length] at q2
    cases q2
    exact .inl ⟨ws, out σ2 Hb2 H2 r2 (x1.back s2)⟩
  · have hi : i < ds.length := by omega
    obtain ⟨go, yld⟩ := wi i ds[i] (List.getElem?_eq_getElem hi)
    rw [List.drop_eq_getElem_cons hi] at q2
    obtain ⟨e3, eg, q2⟩ := bind1 q2
    obtain ⟨f1, ef1, q2⟩ := bind1 q2
    refine .inr ⟨go, fun σ' H' => ∃ env' Hb', Rel X.K H0 Hb' H' σ' env' ∧ Step Hb1 H0 Hb' H' ∧ forF g F (ds.drop (i + 1)) env' = some fl, fun σ' H' hN => ?_, fun x H' hy => ?_⟩
    · obtain ⟨e', Hb', a1, a2, a4⟩ := hN
      exact ⟨m - 1, by omega, e', Hb', a1, a2, by omega, a4⟩
    · obtain ⟨Hb3, s3, iv⟩ := yld x H' hy
      refine ⟨H0, Hb3, e2, ds[i], e3, r2.step s3, s3.c, iv, eg, fun σ' r' _ => ⟨H0, Hb1, e3, Hb3, f1, r', s2.trans s3, ef1, ?_⟩⟩
      cases f1 with
      | nx e' => exact fun σ' Hb' H' r' s' => ⟨e', Hb', r', s', q2⟩
      | ct e' => exact fun σ' Hb' H' r' s' => ⟨e', Hb', r', s', q2⟩
      | bk e' =>
        cases q2
        exact fun σ' Hb' H' r' s' => out σ' Hb' H' r' (x1.back s')
      | rt d =>
        cases q2
        exact fun v Hb' H' s' iv => out v Hb' H' (x1.back s') iv

/-! ### list comprehensions -/
def lcF (g : D → En → Option En) (t : En → Option Bool) (f : En → Option D) (env : En) : List D → Option (List D)
  | [] => some []
  | d :: ds => (g d env).bind fun e1 => (t e1).bind fun k => if k then (f e1).bind fun y => (lcF g t f env ds).bind fun r => some (y :: r) else lcF g t f env ds
def fLc (it : En → Option (List D)) (g : D → En → Option En) (t : En → Option Bool) (f : En → Option D) (vs : List Nat) : En → Option D := fun env =>
  (it env).bind fun ds => if ds.length ≤ 1000000 then (lcF g t f (wipeE env vs) ds).bind fun r => some (.lst r) else none
def fYes : En → Option Bool := fun _ => some true
theorem PTs_weak {ifs : List Expr} {t t' : TT} (h : PTs X ifs t) (w : ∀ σ H Q, t' σ H Q → t σ H Q) : PTs X ifs t' := ⟨fun pins s σ H Q I q => h.run pins s σ H Q I (w σ H Q q)⟩
theorem ts_nil : PTs X [] (tT X.K fYes) := PTs_weak pts_nil fun σ H Q h => by
  obtain ⟨H0, env, Hb, k, r, sm, ef, q⟩ := h
  cases ef
  exact q Hb H (Step.refl sm)
theorem ts_one {c : Expr} {ft : En → Option Bool} (h : PT X c (tT X.K ft)) : PTs X [c] (tT X.K ft) := pts_one h
theorem t_lc {K : PySem.W.Frag} {it : En → Option (List D)} {t : En → Option Bool} {f : En → Option D} {vs : List Nat} (hts : ∀ i ∈ ts, i ∈ vs) {σ : L2.St} {H : Hp} {Q : VK} (h : tD K (fLc it g t f vs) σ H Q) :
    tLc (tI K it) (tG K ts g) (tT K t) (tD K f) vs σ H Q := by
  obtain ⟨H0, env, Hb, d, r, sm, ef, q⟩ := h
  obtain ⟨ds, ed, ef⟩ := bind1 ef
  split at ef
  · rename_i hsz
    obtain ⟨out, eo, ef⟩ := bind1 ef
    cases ef
    refine ⟨H0, env, Hb, ds, r, sm, ed, fun J Hb1 H1 s1 wk Dd hD => ?_⟩
    refine ⟨fun i m H' => ∃ Hb' acc done rest, Rel K H0 Hb' H' (wipe σ vs) (wipeE env vs) ∧ Step Hb1 H1 Hb' H' ∧ Hb' Dd = none ∧ H' Dd = some (.lst acc) ∧ IsL K Hb' done acc ∧ done.length ≤ i ∧ i + m = ds.length ∧ lcF g t f (wipeE env vs) (ds.drop i) = some rest ∧ done ++ rest = out,
      ⟨ds.length, Hb1, [], [], out, ?_, ?_, s1.c.free hD, upd_same, by simp only [IsL], Nat.zero_le _, by omega, eo, rfl⟩, fun i m H2 hW => ?_⟩
    · refine ((r.step s1).wipe vs).step (Step.hid s1.c hD (s1.c.free hD))
    · exact Step.hid s1.c hD (s1.c.free hD)
    · obtain ⟨Hb2, acc, done, rest, r2, s2, hd1, hd2, il, hlen, im, el, eout⟩ := hW
      obtain ⟨wi, ws⟩ := wk Hb2 H2 s2.b s2.c
      by_cases hm : m = 0
      · subst hm
        have hi : i = ds.length := by omega
        subst hi
        rw [List.drop_length] at el
        cases el
        rw [List.append_nil] at eout
        subst eout
        refine .inl ⟨ws, q _ (upd Hb2 Dd (.lst acc)) H2 (s1.trans ?_) (is_lst_new hd1 il)⟩
        refine ⟨s2.a, s2.b.trans (same_new hd1), fun b x e => ?_, fun b x e n => ?_, fun n => (s2.t n).upd (by intro _ z; cases z)⟩
        · by_cases hb : b = Dd
          · subst hb
            rw [upd_same] at e
            rw [hd2, e]
          · rw [upd_ne hb] at e
            exact s2.c b x e
        · have hb : b ≠ Dd := ne_of_none e hD
          rw [upd_ne hb]
          exact s2.f b x e n
      · have hi : i < ds.length := by omega
        obtain ⟨go, yld⟩ := wi i ds[i] (List.getElem?_eq_getElem hi)
        rw [List.drop_eq_getElem_cons hi] at el
        obtain ⟨e3, eg, el⟩ := bind1 el
        obtain ⟨k, ek, el⟩ := bind1 el
        refine .inr ⟨go, fun H' => ∃ Hb' acc done rest, Rel K H0 Hb' H' (wipe σ vs) (wipeE env vs) ∧ Step Hb1 H1 Hb' H' ∧ Hb' Dd = none ∧ H' Dd = some (.lst acc) ∧ IsL K Hb' done acc ∧ done.length ≤ i + 1 ∧ lcF g t f (wipeE env vs) (ds.drop (i + 1)) = some rest ∧ done ++ rest = out, fun H' hN => ?_, fun x H' hy => ?_⟩
        · obtain ⟨Hb', acc', done', rest', a1, a2, a3, a4, a5, a6, a7, a8⟩ := hN
          exact ⟨m - 1, by omega, Hb', acc', done', rest', a1, a2, a3, a4, a5, a6, by omega, a7, a8⟩
        · obtain ⟨Hb3, s3, iv⟩ := yld x H' hy
          refine ⟨H0, Hb3, wipeE env vs, ds[i], e3, r2.step s3, s3.c, iv, eg, fun σ' r' hw => ⟨?_, H0, e3, Hb3, k, r', s3.c, ek, fun Hb4 H4 s4 => ?_⟩⟩
          · have := wipe_mono hts hw
            rw [wipe_wipe] at this
            exact this
          · have d4 : H4 Dd = some (.lst acc) := s4.a _ _ (s3.a _ _ hd2)
            have n4 : Hb4 Dd = none := s4.f _ _ (s3.a _ _ hd2) (s3.f _ _ hd2 hd1)
            cases k with
            | false =>
              exact ⟨Hb4, acc, done, rest, (r2.step s3).step s4, s2.trans (s3.trans s4), n4, d4, il.mono (s3.b.trans s4.b), by omega, el, eout⟩
            | true =>
              obtain ⟨y, ey, el⟩ := bind1 el
              obtain ⟨rest', er, el⟩ := bind1 el
              cases el
              refine ⟨H0, e3, Hb4, y, r'.step s4, s4.c, ey, fun v Hb5 H5 s5 iv5 => ?_⟩
              have d5 : H5 Dd = some (.lst acc) := s5.a _ _ d4
              have n5 : Hb5 Dd = none := s5.f _ _ d4 n4
              have st : Step Hb1 H1 Hb5 H5 := s2.trans (s3.trans (s4.trans s5))
              have hsame : Same Hb5 (upd H5 Dd (.lst (acc ++ [v]))) := fun b o e => by
                rw [upd_ne (ne_of_none e n5)]
                exact st.c b o e
              refine ⟨acc, d5, ?_, Hb5, acc ++ [v], done ++ [y], rest', ?_, ?_, n5, upd_same, ?_, ?_, er, ?_⟩
              · rw [il.length]
                have := size1000
                omega
              · have rr := ((r2.step s3).step s4).step s5
                refine ⟨rr.len, fun j d e => ?_, rr.sep⟩
                obtain ⟨w, a1, a2⟩ := rr.val j d e
                refine ⟨w, a1, ?_⟩
                cases hown : d.isOwn with
                | false =>
                  rw [IsS.plain hown] at a2 ⊢
                  exact a2
                | true =>
                  obtain ⟨v0, b1, b2⟩ := r.val j d (by
                    have := (wipeE_some e).1
                    exact this)
                  have b3 := wipe_some' a1
                  rw [b3] at b1
                  cases b1
                  cases d with
                  | own dd =>
                    obtain ⟨p, vs', c1, c2, c3, c4, c5⟩ := a2
                    obtain ⟨p', vs'', c1', c2', c3', c4', c5'⟩ := b2
                    subst c1
                    cases c1'
                    exact ⟨p, vs', rfl, c2, c3, by rw [upd_ne (ne_of_none (s1.a _ _ c4') hD)]; exact c4, c5⟩
                  | ownd dd =>
                    obtain ⟨p, vs', c1, c2, c3, c4, c5⟩ := a2
                    obtain ⟨p', vs'', c1', c2', c3', c4', c5'⟩ := b2
                    subst c1
                    cases c1'
                    exact ⟨p, vs', rfl, c2, c3, by rw [upd_ne (ne_of_none (s1.a _ _ c4') hD)]; exact c4, c5⟩
                  | _ => cases hown
              · refine ⟨fun b o e => ?_, st.b, hsame, st.f, st.t⟩
                rw [upd_ne (ne_of_none e hD)]
                exact st.a b o e
              · have := il.mono (s3.b.trans (s4.b.trans s5.b))
                refine this.append ?_
                simp only [IsL]
                exact ⟨v, [], rfl, iv5, rfl⟩
              · rw [List.length_append, List.length_singleton]
                omega
              · rw [List.append_assoc]
                exact eout
  · cases ef
theorem e_lc {elt iter : Expr} {ifs : List Expr} {scope : Scope} {own : List (Str × Nat)} {it : En → Option (List D)} {t : En → Option Bool} {f : En → Option D} (hc : X.calm = true) (hN : X.N.Nodup) (hi : PI X tg iter (tI X.K it)) (ok : BlkOk X.N X.env.scope scope own)
    (hg : ∀ (s : Shared) (H : Hp) (C : Addr) (cl : List (Str × Addr)) (fp : List Addr), PG (X.blk s H scope (compEnvC scope cl C X.env) fp) tg (tG X.K ts g)) (ht : ∀ (s : Shared) (H : Hp) (C : Addr) (cl : List (Str × Addr)) (fp : List Addr), PTs (X.blk s H scope (compEnvC scope cl C X.env) fp) ifs (tT X.K t))
    (he : ∀ (s : Shared) (H : Hp) (C : Addr) (cl : List (Str × Addr)) (fp : List Addr), PE (X.blk s H scope (compEnvC scope cl C X.env) fp) elt (tD X.K f)) (hts : ∀ i ∈ ts, i ∈ own.map (·.2) := by decide) (hs : ∀ x, foldedSetIterable iter X.env x = pure x := by intro _; rfl) :
    PE X (.ListComp elt [⟨tg, iter, ifs, 0⟩] scope pos) (tD X.K (fLc it g t f (own.map (·.2)))) := PE_weak (pe_lc hc hN hi ok hg ht he hs) fun _ _ _ h => t_lc hts h
theorem s_setLc (i : Nat) {y : Str} {py spos : Pos} {elt iter : Expr} {ifs : List Expr} {scope : Scope} {own : List (Str × Nat)} {it : En → Option (List D)} {t : En → Option Bool} {f : En → Option D} (hc : X.calm = true) (hN : X.N.Nodup) (hi : PI X tg iter (tI X.K it)) (ok : BlkOk X.N X.env.scope scope own)
    (hg : ∀ (s : Shared) (H : Hp) (C : Addr) (cl : List (Str × Addr)) (fp : List Addr), PG (X.blk s H scope (compEnvC scope cl C X.env) fp) tg (tG X.K ts g)) (ht : ∀ (s : Shared) (H : Hp) (C : Addr) (cl : List (Str × Addr)) (fp : List Addr), PTs (X.blk s H scope (compEnvC scope cl C X.env) fp) ifs (tT X.K t))
    (he : ∀ (s : Shared) (H : Hp) (C : Addr) (cl : List (Str × Addr)) (fp : List Addr), PE (X.blk s H scope (compEnvC scope cl C X.env) fp) elt (tD X.K f)) (hsw : swapsWith (.ListComp elt [⟨tg, iter, ifs, 0⟩] scope pos) (some (.Name y py)) spos.line X.env = pure true)
    (hts : ∀ i ∈ ts, i ∈ own.map (·.2) := by decide) (hy : X.N[i]? = some y := by rfl) (hyl : X.env.scope.names.lookup y = some .local := by rfl) (hs : ∀ x, foldedSetIterable iter X.env x = pure x := by intro _; rfl) :
    PS X (.Assign [.Name y py] (.ListComp elt [⟨tg, iter, ifs, 0⟩] scope pos) spos) (tS X.K (fSet i (fLc it g t f (own.map (·.2))))) := PS_weak (ps_setLc hc hN hy hyl hsw hi ok hg ht he hs) fun N σ H h => by
  obtain ⟨H0, Hb0, env, Hb, fl, r, sp, ef, out⟩ := h
  obtain ⟨d, ed, ef⟩ := bind1 ef
  cases ef
  exact t_lc hts ⟨H0, env, Hb, d, r, sp.c, ed, fun v Hb1 H1 s1 iv => out _ Hb1 H1 ((r.step s1).set i iv) (sp.trans s1)⟩

/-! ### calls and defs -/
def spD (K : PySem.W.Frag) (sem : List D → Option D) : Sp := fun vs H Q _ => ∃ Hb ds d, Same Hb H ∧ IsL K Hb ds vs ∧ sem ds = some d ∧ ∀ v Hb' H', Step Hb H Hb' H' → Is K Hb' d v → Q v H'
def fCall (sem : List D → Option D) (fs : En → Option (List D)) : En → Option D := fun env => (fs env).bind sem
theorem t_call {sem : List D → Option D} {E : XK} {σ : L2.St} {H : Hp} {Q : VK} (h : tD X.K (fCall sem fs) σ H Q) : tCall (spD X.K sem) [] E (tA X.K fs) σ H Q := by
  obtain ⟨H0, env, Hb, d, r, sm, ef, q⟩ := h
  obtain ⟨ds, ed, ef⟩ := bind1 ef
  exact ⟨H0, env, Hb, ds, r, sm, ed, fun vs Hb1 H1 s1 iv => by
    show spD X.K sem (vs ++ []) H1 Q E
    rw [List.append_nil]
    exact ⟨Hb1, ds, d, s1.c, iv, ef, fun v Hb2 H2 s2 i2 => q v Hb2 H2 (s1.trans s2) i2⟩⟩
theorem e_call {x : Str} {es : List Expr} {f : Addr} {fd : FuncData} {ps : List Str} {k : Nat} {sem : List D → Option D} (Fo : FnOk X.prog X.w X.K X.mg X.base CX0 k f fd ps (spD X.K sem)) (hr : Room k X.A) (hm : X.mg x = some (.ref f)) (hk : PySem.W.keepIn X.K (.ref f) = true) (hb : Binds X.K fd ps [])
    (ha : PA X (e :: es) (tA X.K fs)) (hg : Gl X x := by rfl) (hdb : (x == ("__debug__" : Str)) = false := by decide) (he : starEach (e :: es) X.env = (false, eval e X.env) :: starEach es X.env := by rfl) (hpl : (backTo pos (starEach es X.env)).any (·.1) = false := by rfl) :
    PE X (.Call (.Name x p) (e :: es) [] pos) (tD X.K (fCall sem fs)) := PE_weak (pe_call Fo hr hg hm hk hb .nil pass0 ha hdb he hpl) fun _ _ _ h => t_call h
/-- built-ins -/
def fBlt (g : List D → Option D) (fs : En → Option (List D)) : En → Option D := fun env => (fs env).bind g
theorem t_cb {g : List D → Option D} {σ : L2.St} {H : Hp} {Q : VK} (h : tD X.K (fBlt g fs) σ H Q) : tCB (rDA X.K g) (tA X.K fs) σ H Q := by
  obtain ⟨H0, env, Hb, d, r, sm, ef, q⟩ := h
  obtain ⟨ds, ed, ef⟩ := bind1 ef
  exact ⟨H0, env, Hb, ds, r, sm, ed, fun vs Hb1 H1 s1 iv => ⟨Hb1, ds, d, s1.c, iv, ef, fun v Hb2 H2 s2 i2 => q v Hb2 H2 (s1.trans s2) i2⟩⟩
theorem e_blt {x : Str} {id : String} {es : List Expr} {g : List D → Option D} (hc : CallR X (.builtin id) (rDA X.K g)) (hm : X.mg x = none) (hv : bootBuiltins x = some (.builtin id)) (ha : PA X (e :: es) (tA X.K fs)) (hg : Gl X x := by rfl) (hn : x ≠ "__name__" := by decide) (hdb : (x == ("__debug__" : Str)) = false := by decide)
    (he : starEach (e :: es) X.env = (false, eval e X.env) :: starEach es X.env := by rfl) (hpl : (backTo pos (starEach es X.env)).any (·.1) = false := by rfl) : PE X (.Call (.Name x p) (e :: es) [] pos) (tD X.K (fBlt g fs)) := PE_weak (pe_callB hc hg hm hv ha hn hdb he hpl) fun _ _ _ h => t_cb h
theorem e_ty {x : Str} {T : String} {es : List Expr} {g : List D → Option D} (hc : CallR X (.type T) (rDA X.K g)) (hm : X.mg x = none) (hv : bootBuiltins x = some (.type T)) (ha : PA X (e :: es) (tA X.K fs)) (hg : Gl X x := by rfl) (hn : x ≠ "__name__" := by decide) (hdb : (x == ("__debug__" : Str)) = false := by decide)
    (he : starEach (e :: es) X.env = (false, eval e X.env) :: starEach es X.env := by rfl) (hpl : (backTo pos (starEach es X.env)).any (·.1) = false := by rfl) : PE X (.Call (.Name x p) (e :: es) [] pos) (tD X.K (fBlt g fs)) := PE_weak (pe_callTy hc hg hm hv ha hn hdb he hpl) fun _ _ _ h => t_cb h
end

def startE (n : Nat) (ds : List D) : En := ds.map some ++ List.replicate (n - ds.length) none
/-- what a def's body computes -/
def semOf (n m : Nat) (F : En → Option Fl) : List D → Option D := fun ds => if ds.length = m then (F (startE n ds)).bind fun fl => match fl with
  | .rt d => some d
  | .nx _ => some .non
  | _ => none
 else none
theorem rel_start {K : PySem.W.Frag} {Hb H : Hp} {N : List Str} {ds : List D} {vs : List V} (h : IsL K Hb ds vs) : Rel K H Hb H (L2.start N vs) (startE N.length ds) := by
  have hown : ∀ (ds : List D) (vs : List V), IsL K Hb ds vs → ∀ d ∈ ds, d.isOwn = false := by
    intro ds
    induction ds with
    | nil => intro _ _ d hd; cases hd
    | cons x xs ih =>
      intro vs h d hd
      simp only [IsL] at h
      obtain ⟨v, r, _, i1, i2⟩ := h
      rcases List.mem_cons.mp hd with rfl | hd
      · cases d <;> first | rfl | (simp only [Is] at i1)
      · exact ih r i2 d hd
  have pl := hown ds vs h
  have get : ∀ (i : Nat) (d : D), (startE N.length ds)[i]? = some (some d) → ds[i]? = some d := fun i d e => by
    unfold startE at e
    by_cases hi : i < ds.length
    · rw [List.getElem?_append_left (by simpa using hi), List.getElem?_map] at e
      cases q : ds[i]? with
      | none => rw [q] at e; cases e
      | some z => rw [q] at e; cases e; rfl
    · rw [List.getElem?_append_right (by simpa using hi), List.getElem?_replicate] at e
      split at e <;> cases e
  refine ⟨?_, fun i d e => ?_, fun i j d e a _ e1 e2 o1 _ _ _ => ?_⟩
  · unfold L2.start startE
    rw [List.length_append, List.length_append, List.length_map, List.length_map, List.length_replicate, List.length_replicate, h.length]
  · have e' := get i d e
    obtain ⟨v, h1, h2⟩ := h.get e'
    refine ⟨v, ?_, ?_⟩
    · unfold L2.start
      have hi := (List.getElem?_eq_some_iff.mp h1).1
      rw [List.getElem?_append_left (by simpa using hi), List.getElem?_map, h1]
      rfl
    · rw [IsS.plain (pl d (List.mem_of_getElem? e'))]
      exact h2
  · have := pl d (List.mem_of_getElem? (get i d e1))
    rw [this] at o1
    cases o1
section
variable {P : Program} {w : World} {K : PySem.W.Frag} {mg : Str → Option Value} {base : Heap}
theorem fn_d {x qual : Str} {st : Stmt} {f : Addr} {fd : FuncData} {N ps : List Str} {k : Nat} {F : En → Option Fl} (Fu : Fun K x qual st f fd) (S : FnScope N ps (defScope st))
    (hb : ∀ (cdv : Value) (A : Around) (outer : List Env) (s : Shared) (H : Hp) (E : XK), Room k (A.deeper (envOfC qual (defScope st) s.heap.objs.size f cdv)) → PSs (cxOf CX0 P w K mg base N qual (defScope st) f cdv A outer s H E).nox (defBody st) (tS K F)) :
    FnOk P w K mg base CX0 (k + 1) f fd ps (spD K (semOf N.length ps.length F)) := by
  refine Fu.ok S (fun vs H Q E h => ?_) (fun cdv A outer s H vs Q E hr h => ⟨_, hb cdv A outer s H E hr, ?_⟩)
  · obtain ⟨Hb, ds, d, sm, il, es, q⟩ := h
    unfold semOf at es
    split at es
    · rename_i hl
      rw [il.length, hl]
    · cases es
  · obtain ⟨Hb, ds, d, sm, il, es, q⟩ := h
    unfold semOf at es
    split at es
    · obtain ⟨fl, ef, es⟩ := bind1 es
      refine ⟨H, Hb, startE N.length ds, Hb, fl, rel_start il, Step.refl sm, ef, ?_⟩
      cases fl with
      | rt d' => cases es; exact q
      | nx e' =>
        cases es
        exact fun σ Hb' H' r' s' => q .non Hb' H' s' (by simp only [Is])
      | bk e' => cases es
      | ct e' => cases es
    · cases es
theorem fn_nice {f : Addr} {fd : FuncData} {ps : List Str} {k : Nat} {sem nice : List D → Option D} (h : FnOk P w K mg base CX0 k f fd ps (spD K sem)) (q : ∀ ds d, nice ds = some d → sem ds = some d) : FnOk P w K mg base CX0 k f fd ps (spD K nice) :=
  h.imp fun vs H Q E ⟨Hb, ds, d, a1, a2, a3, a4⟩ => ⟨Hb, ds, d, a1, a2, q ds d a3, a4⟩
/-- the law's own promise -/
def spLaw (K : PySem.W.Frag) : Sp := fun vs H Q _ => ∃ (a : Addr) (ns : List Int), vs = [.ref a] ∧ SqL K H a (ns.map V.int) ∧ ns.length ≤ 63 ∧ ∀ H', Q (.bl true) H'
theorem fn_law {f : Addr} {fd : FuncData} {k : Nat} {sem : List D → Option D} (h : FnOk P w K mg base CX0 k f fd ["script"] (spD K sem)) (q : ∀ ns : List Int, ns.length ≤ 63 → sem [.scr ns] = some (.bl true)) : FnOk P w K mg base CX0 k f fd ["script"] (spLaw K) :=
  h.imp fun vs H Q E ⟨a, ns, e, hs, hl, hq⟩ => ⟨H, [.scr ns], .bl true, Same.refl H, by
    subst e
    simp only [IsL, Is]
    exact ⟨_, _, rfl, ⟨a, rfl, hs⟩, rfl⟩, q ns hl, fun v Hb' H' _ iv => by
    simp only [Is] at iv
    subst iv
    exact hq H'⟩
end
end Dn
set_option Elab.async false
set_option linter.all false
set_option maxRecDepth 100000
/-! Part D: built-ins and methods of texts. -/
namespace Dn
open PySem L2 PySem.Spec PyProof.Rows

def strsOf : List D → Option (List (List Nat))
  | [] => some []
  | .str l :: ds => (strsOf ds).bind fun r => some (l :: r)
  | _ :: _ => none
def intsOf : List D → Option (List Int)
  | [] => some []
  | .int l :: ds => (intsOf ds).bind fun r => some (l :: r)
  | _ :: _ => none
def blsOf : List D → Option (List Bool)
  | [] => some []
  | .bl l :: ds => (blsOf ds).bind fun r => some (l :: r)
  | _ :: _ => none
theorem strsOf_eq : ∀ {ds : List D} {ls : List (List Nat)}, strsOf ds = some ls → ds = ls.map D.str
  | [], ls, h => by cases h; rfl
  | .str l :: ds, ls, h => by
    obtain ⟨r, e, h⟩ := bind1 h
    cases h
    rw [List.map_cons, strsOf_eq e]
  | .non :: _, _, h => by cases h
  | .bl _ :: _, _, h => by cases h
  | .int _ :: _, _, h => by cases h
  | .tup _ :: _, _, h => by cases h
  | .wk _ :: _, _, h => by cases h
  | .lst _ :: _, _, h => by cases h
  | .scr _ :: _, _, h => by cases h
  | .adr _ :: _, _, h => by cases h
  | .dct _ :: _, _, h => by cases h
  | .own _ :: _, _, h => by cases h
  | .ownd _ :: _, _, h => by cases h
theorem intsOf_eq : ∀ {ds : List D} {ls : List Int}, intsOf ds = some ls → ds = ls.map D.int
  | [], ls, h => by cases h; rfl
  | .int l :: ds, ls, h => by
    obtain ⟨r, e, h⟩ := bind1 h
    cases h
    rw [List.map_cons, intsOf_eq e]
  | .non :: _, _, h => by cases h
  | .bl _ :: _, _, h => by cases h
  | .str _ :: _, _, h => by cases h
  | .tup _ :: _, _, h => by cases h
  | .wk _ :: _, _, h => by cases h
  | .lst _ :: _, _, h => by cases h
  | .scr _ :: _, _, h => by cases h
  | .adr _ :: _, _, h => by cases h
  | .dct _ :: _, _, h => by cases h
  | .own _ :: _, _, h => by cases h
  | .ownd _ :: _, _, h => by cases h
theorem blsOf_eq : ∀ {ds : List D} {ls : List Bool}, blsOf ds = some ls → ds = ls.map D.bl
  | [], ls, h => by cases h; rfl
  | .bl l :: ds, ls, h => by
    obtain ⟨r, e, h⟩ := bind1 h
    cases h
    rw [List.map_cons, blsOf_eq e]
  | .non :: _, _, h => by cases h
  | .int _ :: _, _, h => by cases h
  | .str _ :: _, _, h => by cases h
  | .tup _ :: _, _, h => by cases h
  | .wk _ :: _, _, h => by cases h
  | .lst _ :: _, _, h => by cases h
  | .scr _ :: _, _, h => by cases h
  | .adr _ :: _, _, h => by cases h
  | .dct _ :: _, _, h => by cases h
  | .own _ :: _, _, h => by cases h
  | .ownd _ :: _, _, h => by cases h
theorem strsOf_map : ∀ ls : List (List Nat), strsOf (ls.map D.str) = some ls
  | [] => rfl
  | l :: ls => by rw [List.map_cons, strsOf, strsOf_map ls]; rfl
theorem intsOf_map : ∀ ls : List Int, intsOf (ls.map D.int) = some ls
  | [] => rfl
  | l :: ls => by rw [List.map_cons, intsOf, intsOf_map ls]; rfl
theorem blsOf_map : ∀ ls : List Bool, blsOf (ls.map D.bl) = some ls
  | [] => rfl
  | l :: ls => by rw [List.map_cons, blsOf, blsOf_map ls]; rfl
section
variable {K : PySem.W.Frag} {H : Hp}
theorem isl_strs : ∀ {ls : List (List Nat)} {vs : List V}, IsL K H (ls.map D.str) vs → vs = (ls.map S).map V.str
  | [], vs, h => by simpa only [List.map_nil, IsL] using h
  | l :: ls, vs, h => by
    simp only [List.map_cons, IsL, Is] at h
    obtain ⟨v, r, rfl, rfl, h⟩ := h
    rw [isl_strs h, List.map_cons, List.map_cons]
theorem isl_ints : ∀ {ls : List Int} {vs : List V}, IsL K H (ls.map D.int) vs → vs = ls.map V.int
  | [], vs, h => by simpa only [List.map_nil, IsL] using h
  | l :: ls, vs, h => by
    simp only [List.map_cons, IsL, Is] at h
    obtain ⟨v, r, rfl, rfl, h⟩ := h
    rw [isl_ints h, List.map_cons]
theorem isl_bls : ∀ {ls : List Bool} {vs : List V}, IsL K H (ls.map D.bl) vs → vs = ls.map V.bl
  | [], vs, h => by simpa only [List.map_nil, IsL] using h
  | l :: ls, vs, h => by
    simp only [List.map_cons, IsL, Is] at h
    obtain ⟨v, r, rfl, rfl, h⟩ := h
    rw [isl_bls h, List.map_cons]
theorem of_strs : ∀ (ls : List (List Nat)), IsL K H (ls.map D.str) ((ls.map S).map V.str)
  | [] => by simp only [List.map_nil, IsL]
  | l :: ls => by simp only [List.map_cons, IsL, Is]; exact ⟨_, _, rfl, rfl, of_strs ls⟩
theorem of_ints : ∀ (ls : List Int), IsL K H (ls.map D.int) (ls.map V.int)
  | [] => by simp only [List.map_nil, IsL]
  | l :: ls => by simp only [List.map_cons, IsL, Is]; exact ⟨_, _, rfl, rfl, of_ints ls⟩
/-- one argument -/
theorem isl1 {d : D} {vs : List V} (h : IsL K H [d] vs) : ∃ v, vs = [v] ∧ Is K H d v := by
  simp only [IsL] at h
  obtain ⟨v, r, rfl, i, rfl⟩ := h
  exact ⟨v, rfl, i⟩
theorem isl2 {d e : D} {vs : List V} (h : IsL K H [d, e] vs) : ∃ v w, vs = [v, w] ∧ Is K H d v ∧ Is K H e w := by
  simp only [IsL] at h
  obtain ⟨v, r, rfl, i, w, r2, rfl, i2, rfl⟩ := h
  exact ⟨v, w, rfl, i, i2⟩
end

/-! ### len, int, abs, all, sum, min, max -/
def lenG : List D → Option D
  | [.str l] => if l.length ≤ sizeLine then some (.int l.length) else none
  | [.tup l] => some (.int l.length)
  | [.wk l] => some (.int l.length)
  | [.lst l] => some (.int l.length)
  | [.scr l] => some (.int l.length)
  | _ => none
def intG : List D → Option D
  | [.int i] => some (.int i)
  | [.bl k] => some (.int (if k then 1 else 0))
  | [.str l] => if l.length ≤ 640 then (PySem.intText? (S l)).bind fun n => some (.int n) else none
  | _ => none
def absG : List D → Option D
  | [.int i] => some (.int (if i < 0 then -i else i))
  | _ => none
def tupG : List D → Option D
  | [.lst l] => some (.tup l)
  | [.tup l] => some (.tup l)
  | _ => none
def minOf {α : Type} (lt : α → α → Bool) (x : α) (xs : List α) : α := xs.foldl (fun a y => if lt y a then y else a) x
def maxOf {α : Type} (lt : α → α → Bool) (x : α) (xs : List α) : α := xs.foldl (fun a y => if lt a y then y else a) x
def ltS (a b : List Nat) : Bool := decide (a < b)
def ltI (a b : Int) : Bool := decide (a < b)
def minG : List D → Option D
  | [.lst ds] => match strsOf ds with
    | some (x :: xs) => some (.str (minOf ltS x xs))
    | _ => match intsOf ds with
      | some (x :: xs) => some (.int (minOf ltI x xs))
      | _ => none
  | [.tup ds] => match intsOf ds with
      | some (x :: xs) => some (.int (minOf ltI x xs))
      | _ => none
  | [.int i, .int j] => some (.int (if j < i then j else i))
  | _ => none
def maxG : List D → Option D
  | [.lst ds] => match intsOf ds with
      | some (x :: xs) => some (.int (maxOf ltI x xs))
      | _ => none
  | [.tup ds] => match intsOf ds with
      | some (x :: xs) => some (.int (maxOf ltI x xs))
      | _ => none
  | [.int i, .int j] => some (.int (if j > i then j else i))
  | _ => none
def allG : List D → Option D
  | [.lst ds] => (blsOf ds).bind fun bs => some (.bl (bs.all id))
  | _ => none
def sumG : List D → Option D
  | [.lst ds] => (intsOf ds).bind fun bs => some (.int bs.sum)
  | [.tup ds] => (intsOf ds).bind fun bs => some (.int bs.sum)
  | _ => none
section
variable {X : Cx}
theorem c_len : CallR X (.builtin "len") (rDA X.K lenG) := by
  intro pins s σ H xs us Q I r h
  obtain ⟨Hb, ds, d, sm, il, eg, q⟩ := h
  unfold lenG at eg
  split at eg
  · obtain ⟨v, rfl, iv⟩ := isl1 il
    simp only [Is] at iv
    subst iv
    obtain ⟨hl, rfl⟩ := iteS eg
    exact call_len_str pins s σ H _ us Q I r ⟨_, rfl, by rw [S_len]; exact hl, q _ Hb H (Step.refl sm) (by simp only [Is, S_len])⟩
  · obtain ⟨v, rfl, iv⟩ := isl1 il
    simp only [Is] at iv
    obtain ⟨p, vs, rfl, hx, lx⟩ := iv
    cases eg
    exact call_len_seq pins s σ H _ us Q I r ⟨p, vs, rfl, .inr ((hx.mono sm).sq), q _ Hb H (Step.refl sm) (by simp only [Is, lx.length])⟩
  · obtain ⟨v, rfl, iv⟩ := isl1 il
    simp only [Is] at iv
    obtain ⟨p, vs, rfl, hx, lx⟩ := iv
    cases eg
    exact call_len_seq pins s σ H _ us Q I r ⟨p, vs, rfl, .inr (sq_mono sm hx), q _ Hb H (Step.refl sm) (by simp only [Is, lx.length])⟩
  · obtain ⟨v, rfl, iv⟩ := isl1 il
    simp only [Is] at iv
    obtain ⟨p, vs, rfl, hx, lx⟩ := iv
    cases eg
    exact call_len_seq pins s σ H _ us Q I r ⟨p, vs, rfl, .inl (.inl (.inl (sm _ _ hx))), q _ Hb H (Step.refl sm) (by simp only [Is, lx.length])⟩
  · obtain ⟨v, rfl, iv⟩ := isl1 il
    simp only [Is] at iv
    obtain ⟨p, rfl, hx⟩ := iv
    cases eg
    exact call_len_seq pins s σ H _ us Q I r ⟨p, _, rfl, .inl (sm.seq hx), q _ Hb H (Step.refl sm) (by simp only [Is, List.length_map])⟩
  · cases eg
theorem c_int : CallR X (.type "int") (rDA X.K intG) := by
  intro pins s σ H xs us Q I r h
  obtain ⟨Hb, ds, d, sm, il, eg, q⟩ := h
  unfold intG at eg
  split at eg
  · obtain ⟨v, rfl, iv⟩ := isl1 il
    simp only [Is] at iv
    subst iv
    cases eg
    exact call_int1 pins s σ H _ us Q I r (.inl ⟨_, rfl, q _ Hb H (Step.refl sm) (by simp only [Is])⟩)
  · obtain ⟨v, rfl, iv⟩ := isl1 il
    simp only [Is] at iv
    subst iv
    cases eg
    exact call_int1 pins s σ H _ us Q I r (.inr ⟨_, rfl, q _ Hb H (Step.refl sm) (by simp only [Is])⟩)
  · obtain ⟨v, rfl, iv⟩ := isl1 il
    simp only [Is] at iv
    subst iv
    split at eg
    · rename_i hl
      obtain ⟨n, en, ed⟩ := bind1 eg
      cases ed
      exact call_int_str pins s σ H _ us Q I r ⟨_, n, rfl, en, by rw [S_len]; exact hl, q _ Hb H (Step.refl sm) (by simp only [Is])⟩
    · cases eg
  · cases eg
theorem c_abs : CallR X (.builtin "abs") (rDA X.K absG) := by
  intro pins s σ H xs us Q I r h
  obtain ⟨Hb, ds, d, sm, il, eg, q⟩ := h
  unfold absG at eg
  split at eg
  · obtain ⟨v, rfl, iv⟩ := isl1 il
    simp only [Is] at iv
    subst iv
    cases eg
    exact call_abs pins s σ H _ us Q I r ⟨_, rfl, q _ Hb H (Step.refl sm) (by simp only [Is])⟩
  · cases eg
theorem c_all (hc : X.calm = true) : CallR X (.builtin "all") (rDA X.K allG) := by
  intro pins s σ H xs us Q I r h
  obtain ⟨Hb, ds, d, sm, il, eg, q⟩ := h
  unfold allG at eg
  split at eg
  · obtain ⟨v, rfl, iv⟩ := isl1 il
    simp only [Is] at iv
    obtain ⟨p, vs, rfl, hx, lx⟩ := iv
    obtain ⟨bs, eb, ed⟩ := bind1 eg
    cases ed
    have e := blsOf_eq eb
    subst e
    have := isl_bls lx
    subst this
    exact cr_all hc pins s σ H _ us Q I r ⟨p, bs, rfl, .inl (.inl (sm _ _ hx)), q _ Hb H (Step.refl sm) (by simp only [Is])⟩
  · cases eg
theorem c_sum (hc : X.calm = true) : CallR X (.builtin "sum") (rDA X.K sumG) := by
  intro pins s σ H xs us Q I r h
  obtain ⟨Hb, ds, d, sm, il, eg, q⟩ := h
  unfold sumG at eg
  split at eg
  · obtain ⟨v, rfl, iv⟩ := isl1 il
    simp only [Is] at iv
    obtain ⟨p, vs, rfl, hx, lx⟩ := iv
    obtain ⟨bs, eb, ed⟩ := bind1 eg
    cases ed
    have e := intsOf_eq eb
    subst e
    have := isl_ints lx
    subst this
    exact cr_sum hc pins s σ H _ us Q I r ⟨p, bs, rfl, .inl (.inl (sm _ _ hx)), q _ Hb H (Step.refl sm) (by simp only [Is])⟩
  · obtain ⟨v, rfl, iv⟩ := isl1 il
    simp only [Is] at iv
    obtain ⟨p, vs, rfl, hx, lx⟩ := iv
    obtain ⟨bs, eb, ed⟩ := bind1 eg
    cases ed
    have e := intsOf_eq eb
    subst e
    have := isl_ints lx
    subst this
    obtain ⟨its, rv, hl, hz⟩ := I.tuple ((hx.mono sm).sq)
    rw [Vals.ref1 r]
    have hi := rv.ints
    obtain ⟨xs, ex⟩ := hi.allInts.items
    have hn : numsOf (intItems xs).toList = bs := by rw [← ex]; exact hi.numsOf
    rw [nums_intItems] at hn
    have hl' : s.heap.IsTuple p (intItems xs) := by rw [← ex]; exact hl
    refine PySem.W.ktm_sumG (I.ok.hd hc) hl' fun h' tk t' hk => ?_
    refine ⟨.int bs.sum, H, I.kept hk, ⟨t', ?_⟩, q _ Hb H (Step.refl sm) (by simp only [Is])⟩
    rw [preSum_eq, List.take_of_length_le (by simp), hn]
  · cases eg
theorem minOf_mem {α : Type} (lt : α → α → Bool) : ∀ (xs : List α) (x : α), minOf lt x xs ∈ x :: xs
  | [], x => List.mem_cons_self
  | y :: ys, x => by
    show minOf lt (if lt y x then y else x) ys ∈ _
    have := minOf_mem lt ys (if lt y x then y else x)
    rcases List.mem_cons.mp this with h | h
    · rw [h]
      split
      · exact List.mem_cons_of_mem _ List.mem_cons_self
      · exact List.mem_cons_self
    · exact List.mem_cons_of_mem _ (List.mem_cons_of_mem _ h)
theorem maxOf_mem {α : Type} (lt : α → α → Bool) : ∀ (xs : List α) (x : α), maxOf lt x xs ∈ x :: xs
  | [], x => List.mem_cons_self
  | y :: ys, x => by
    show maxOf lt (if lt x y then y else x) ys ∈ _
    have := maxOf_mem lt ys (if lt x y then y else x)
    rcases List.mem_cons.mp this with h | h
    · rw [h]
      split
      · exact List.mem_cons_of_mem _ List.mem_cons_self
      · exact List.mem_cons_self
    · exact List.mem_cons_of_mem _ (List.mem_cons_of_mem _ h)
theorem minOfI_le : ∀ (xs : List Int) (x : Int), ∀ y ∈ x :: xs, minOf ltI x xs ≤ y
  | [], x, y, h => by
    have : y = x := by simpa using h
    subst this
    exact Int.le_refl _
  | z :: zs, x, y, h => by
    show minOf ltI (if ltI z x then z else x) zs ≤ y
    have ih := minOfI_le zs (if ltI z x then z else x)
    have h0 := ih _ List.mem_cons_self
    have hle : (if ltI z x then z else x) ≤ x ∧ (if ltI z x then z else x) ≤ z := by
      unfold ltI
      by_cases q : z < x
      · rw [decide_eq_true q]
        simp
        omega
      · rw [decide_eq_false q]
        simp
        omega
    rcases List.mem_cons.mp h with rfl | h
    · omega
    · rcases List.mem_cons.mp h with rfl | h
      · omega
      · exact ih y (List.mem_cons_of_mem _ h)
theorem maxOfI_ge : ∀ (xs : List Int) (x : Int), ∀ y ∈ x :: xs, y ≤ maxOf ltI x xs
  | [], x, y, h => by
    have : y = x := by simpa using h
    subst this
    exact Int.le_refl _
  | z :: zs, x, y, h => by
    show y ≤ maxOf ltI (if ltI x z then z else x) zs
    have ih := maxOfI_ge zs (if ltI x z then z else x)
    have h0 := ih _ List.mem_cons_self
    have hle : x ≤ (if ltI x z then z else x) ∧ z ≤ (if ltI x z then z else x) := by
      unfold ltI
      by_cases q : x < z
      · rw [decide_eq_true q]
        simp
        omega
      · rw [decide_eq_false q]
        simp
        omega
    rcases List.mem_cons.mp h with rfl | h
    · omega
    · rcases List.mem_cons.mp h with rfl | h
      · omega
      · exact ih y (List.mem_cons_of_mem _ h)
theorem minD_strs : ∀ (ls : List (List Nat)) (l : List Nat), PySem.W.minD (.str (S l)) ((ls.map S).map PyData.str) = .str (S (minOf ltS l ls))
  | [], l => rfl
  | m :: ls, l => by
    show PySem.W.minD (if PySem.W.dataLt (.str (S m)) (.str (S l)) then .str (S m) else .str (S l)) _ = .str (S (minOf ltS (if ltS m l then m else l) ls))
    rw [PySem.W.dataLt_str]
    have : decide ((S m).cps.toList < (S l).cps.toList) = ltS m l := by simp [S, ltS]
    rw [this]
    cases ltS m l with
    | true => exact minD_strs ls m
    | false => exact minD_strs ls l
theorem readsAll_strs {h : Heap} : ∀ {us : List Value} {ls : List Str}, Vals (ls.map V.str) us → ∃ as, ReadsAll h us (ls.map PyData.str) as
  | us, [], r => by
    rw [List.map_nil] at r
    cases r
    exact ⟨_, ReadsAll.nil⟩
  | us, l :: ls, r => by
    rw [List.map_cons] at r
    cases r with
    | cons r1 r2 =>
      obtain ⟨t, rfl⟩ := r1
      obtain ⟨as, h2⟩ := readsAll_strs (h := h) r2
      exact ⟨_, ReadsAll.cons (Reads.str l t) h2⟩
theorem depth_strs : ∀ ls : List Str, PyData.depthAll (ls.map PyData.str) = 0
  | [] => by simp only [List.map_nil, PyData.depthAll]
  | l :: ls => by simp only [List.map_cons, PyData.depthAll, PyData.depth, depth_strs ls, Nat.max_self]
theorem readsAll_ints {h : Heap} : ∀ {us : List Value} {ls : List Int}, Vals (ls.map V.int) us → ∃ as, ReadsAll h us (ls.map PyData.int) as
  | us, [], r => by
    rw [List.map_nil] at r
    cases r
    exact ⟨_, ReadsAll.nil⟩
  | us, l :: ls, r => by
    rw [List.map_cons] at r
    cases r with
    | cons r1 r2 =>
      obtain ⟨t, rfl⟩ := r1
      obtain ⟨as, h2⟩ := readsAll_ints (h := h) r2
      exact ⟨_, ReadsAll.cons (Reads.int l t) h2⟩
theorem depth_ints0 : ∀ ls : List Int, PyData.depthAll (ls.map PyData.int) = 0
  | [] => by simp only [List.map_nil, PyData.depthAll]
  | l :: ls => by simp only [List.map_cons, PyData.depthAll, PyData.depth, depth_ints0 ls, Nat.max_self]
theorem alike_ints0 (n : Int) (ns : List Int) : PySem.W.AlikeAll (.int n :: ns.map PyData.int) := by
  refine ⟨fun x hx y hy => ?_, fun x hx => ?_⟩
  · have e1 : ∃ z, x = PyData.int z := by
      rcases List.mem_cons.mp hx with rfl | hx
      · exact ⟨_, rfl⟩
      · obtain ⟨z, _, rfl⟩ := List.mem_map.mp hx
        exact ⟨_, rfl⟩
    have e2 : ∃ z, y = PyData.int z := by
      rcases List.mem_cons.mp hy with rfl | hy
      · exact ⟨_, rfl⟩
      · obtain ⟨z, _, rfl⟩ := List.mem_map.mp hy
        exact ⟨_, rfl⟩
    obtain ⟨z1, rfl⟩ := e1
    obtain ⟨z2, rfl⟩ := e2
    simp only [PySem.W.alike]
  · rcases List.mem_cons.mp hx with rfl | hx
    · simp
    · obtain ⟨z, _, rfl⟩ := List.mem_map.mp hx
      simp
theorem minD_ints0 : ∀ (ls : List Int) (l : Int), PySem.W.minD (.int l) (ls.map PyData.int) = .int (minOf ltI l ls)
  | [], l => rfl
  | m :: ls, l => by
    show PySem.W.minD (if PySem.W.dataLt (.int m) (.int l) then .int m else .int l) _ = .int (minOf ltI (if ltI m l then m else l) ls)
    have : PySem.W.dataLt (.int m) (.int l) = ltI m l := by rw [PySem.W.dataLt_int]; rfl
    rw [this]
    cases ltI m l with
    | true => exact minD_ints0 ls m
    | false => exact minD_ints0 ls l
theorem maxD_ints0 : ∀ (ls : List Int) (l : Int), PySem.W.maxD (.int l) (ls.map PyData.int) = .int (maxOf ltI l ls)
  | [], l => rfl
  | m :: ls, l => by
    show PySem.W.maxD (if PySem.W.dataLt (.int l) (.int m) then .int m else .int l) _ = .int (maxOf ltI (if ltI l m then m else l) ls)
    have : PySem.W.dataLt (.int l) (.int m) = ltI l m := by rw [PySem.W.dataLt_int]; rfl
    rw [this]
    cases ltI l m with
    | true => exact maxD_ints0 ls m
    | false => exact maxD_ints0 ls l
theorem tup_int_at {its : List Value} {ns : List Int} {i : Nat} {v : Value} (rv : Vals (ns.map V.int) its) (hi : its.toArray[i]? = some v) : ∃ z t, v = Value.int z t := by
  have hi : its[i]? = some v := by simpa using hi
  have hi2 := (List.getElem?_eq_some_iff.mp hi).1
  have hlen := rv.length
  obtain ⟨w, hw⟩ : ∃ w, (ns.map V.int)[i]? = some w := ⟨_, List.getElem?_eq_getElem (by omega)⟩
  obtain ⟨u, hu1, hu2⟩ := rv.get hw
  rw [hi] at hu1
  cases hu1
  rw [List.getElem?_map] at hw
  cases e3 : ns[i]? with
  | none => rw [e3] at hw; cases hw
  | some z =>
    rw [e3] at hw
    cases hw
    obtain ⟨t, rfl⟩ := hu2
    exact ⟨z, t, rfl⟩
theorem c_min (hc : X.calm = true) (hu : X.A.units + 64 < cLine) : CallR X (.builtin "min") (rDA X.K minG) := by
  intro pins s σ H xs us Q I r h
  obtain ⟨Hb, ds, d, sm, il, eg, q⟩ := h
  unfold minG at eg
  split at eg
  · obtain ⟨v, rfl, iv⟩ := isl1 il
    simp only [Is] at iv
    obtain ⟨p, vs, rfl, hx, lx⟩ := iv
    split at eg
    · rename_i l ls eb
      cases eg
      have e := strsOf_eq eb
      subst e
      have := isl_strs lx
      subst this
      obtain ⟨its, rv, hl, hz⟩ := I.list (show SqL X.K H p _ from .inl (.inl (sm _ _ hx)))
      obtain ⟨as, ra⟩ := readsAll_strs (h := s.heap) rv
      rw [Vals.ref1 r]
      refine PySem.W.min_list_data (x := .str (S l)) (xs := (ls.map S).map PyData.str) (I.ok.hd hc) hl.isList (by simpa using ra) ⟨fun x hx y hy => ?_, fun x hx => ?_⟩ ?_ fun i v h' tk bs ev rd hk => ?_
      · have e1 : ∃ z, x = PyData.str z := by
          rcases List.mem_cons.mp hx with rfl | hx
          · exact ⟨_, rfl⟩
          · obtain ⟨z, _, rfl⟩ := List.mem_map.mp hx
            exact ⟨_, rfl⟩
        have e2 : ∃ z, y = PyData.str z := by
          rcases List.mem_cons.mp hy with rfl | hy
          · exact ⟨_, rfl⟩
          · obtain ⟨z, _, rfl⟩ := List.mem_map.mp hy
            exact ⟨_, rfl⟩
        obtain ⟨z1, rfl⟩ := e1
        obtain ⟨z2, rfl⟩ := e2
        simp only [PySem.W.alike]
      · rcases List.mem_cons.mp hx with rfl | hx
        · simp
        · obtain ⟨z, _, rfl⟩ := List.mem_map.mp hx
          simp
      · have := depth_strs ((l :: ls).map S)
        rw [List.map_cons, List.map_cons] at this
        rw [this]
        omega
      · rw [minD_strs] at rd
        have hv : ∃ z t, v = Value.str z t := by
          have hi : its[i]? = some v := by simpa using ev
          have hi2 := (List.getElem?_eq_some_iff.mp hi).1
          have hlen := rv.length
          obtain ⟨w, hw⟩ : ∃ w, (((l :: ls).map S).map V.str)[i]? = some w := ⟨_, List.getElem?_eq_getElem (by omega)⟩
          obtain ⟨u, hu1, hu2⟩ := rv.get hw
          rw [hi] at hu1
          cases hu1
          rw [List.getElem?_map] at hw
          cases e3 : ((l :: ls).map S)[i]? with
          | none => rw [e3] at hw; cases hw
          | some z =>
            rw [e3] at hw
            cases hw
            obtain ⟨t, rfl⟩ := hu2
            exact ⟨z, t, rfl⟩
        obtain ⟨z, t, rfl⟩ := hv
        cases rd
        exact ⟨.str _, H, I.kept hk, ⟨t, rfl⟩, q _ Hb H (Step.refl sm) (by simp only [Is])⟩
    · split at eg
      · rename_i n ns eb
        cases eg
        have e := intsOf_eq eb
        subst e
        have := isl_ints lx
        subst this
        refine cr_min hc pins s σ H _ us Q I r ⟨p, n :: ns, rfl, .inl (.inl (sm _ _ hx)), by simp, fun m hm hle => ?_⟩
        have : m = minOf ltI n ns := Int.le_antisymm (hle _ (minOf_mem ltI ns n)) (minOfI_le ns n m hm)
        subst this
        exact q _ Hb H (Step.refl sm) (by simp only [Is])
      · cases eg
  · obtain ⟨v, rfl, iv⟩ := isl1 il
    simp only [Is] at iv
    obtain ⟨p, vs, rfl, hx, lx⟩ := iv
    split at eg
    · rename_i n ns eb
      cases eg
      have e := intsOf_eq eb
      subst e
      have := isl_ints lx
      subst this
      obtain ⟨its, rv, hl, hz⟩ := I.tuple ((hx.mono sm).sq)
      obtain ⟨as, ra⟩ := readsAll_ints (h := s.heap) rv
      rw [Vals.ref1 r]
      refine PySem.W.min_tuple_data (x := .int n) (xs := ns.map PyData.int) (I.ok.hd hc) hl (by simpa using ra) (alike_ints0 n ns) (by have := depth_ints0 (n :: ns); rw [List.map_cons] at this; rw [this]; omega) fun i v h' tk bs ev rd hk => ?_
      rw [minD_ints0] at rd
      obtain ⟨z, t, rfl⟩ := tup_int_at rv ev
      cases rd
      exact ⟨.int _, H, I.kept hk, ⟨t, rfl⟩, q _ Hb H (Step.refl sm) (by simp only [Is])⟩
    · cases eg
  · obtain ⟨v, w, rfl, iv, iw⟩ := isl2 il
    simp only [Is] at iv iw
    subst iv iw
    cases eg
    exact call_min2 hc pins s σ H _ us Q I r ⟨_, _, rfl, q _ Hb H (Step.refl sm) (by simp only [Is])⟩
  · cases eg
theorem c_max (hc : X.calm = true) (hu : X.A.units + 64 < cLine) : CallR X (.builtin "max") (rDA X.K maxG) := by
  intro pins s σ H xs us Q I r h
  obtain ⟨Hb, ds, d, sm, il, eg, q⟩ := h
  unfold maxG at eg
  split at eg
  · obtain ⟨v, rfl, iv⟩ := isl1 il
    simp only [Is] at iv
    obtain ⟨p, vs, rfl, hx, lx⟩ := iv
    split at eg
    · rename_i n ns eb
      cases eg
      have e := intsOf_eq eb
      subst e
      have := isl_ints lx
      subst this
      refine cr_max hc pins s σ H _ us Q I r ⟨p, n :: ns, rfl, .inl (.inl (sm _ _ hx)), by simp, fun m hm hle => ?_⟩
      have : m = maxOf ltI n ns := Int.le_antisymm (maxOfI_ge ns n m hm) (hle _ (maxOf_mem ltI ns n))
      subst this
      exact q _ Hb H (Step.refl sm) (by simp only [Is])
    · cases eg
  · obtain ⟨v, rfl, iv⟩ := isl1 il
    simp only [Is] at iv
    obtain ⟨p, vs, rfl, hx, lx⟩ := iv
    split at eg
    · rename_i n ns eb
      cases eg
      have e := intsOf_eq eb
      subst e
      have := isl_ints lx
      subst this
      obtain ⟨its, rv, hl, hz⟩ := I.tuple ((hx.mono sm).sq)
      obtain ⟨as, ra⟩ := readsAll_ints (h := s.heap) rv
      rw [Vals.ref1 r]
      refine PySem.W.max_tuple_data (x := .int n) (xs := ns.map PyData.int) (I.ok.hd hc) hl (by simpa using ra) (alike_ints0 n ns) (by have := depth_ints0 (n :: ns); rw [List.map_cons] at this; rw [this]; omega) fun i v h' tk bs ev rd hk => ?_
      rw [maxD_ints0] at rd
      obtain ⟨z, t, rfl⟩ := tup_int_at rv ev
      cases rd
      exact ⟨.int _, H, I.kept hk, ⟨t, rfl⟩, q _ Hb H (Step.refl sm) (by simp only [Is])⟩
    · cases eg
  · obtain ⟨v, w, rfl, iv, iw⟩ := isl2 il
    simp only [Is] at iv iw
    subst iv iw
    cases eg
    exact call_max2 hc pins s σ H _ us Q I r ⟨_, _, rfl, q _ Hb H (Step.refl sm) (by simp only [Is])⟩
  · cases eg

/-! ### tuple(..) -/
variable {a b e o : Expr} {pos apos p : Pos} {fa fb fo : En → Option D} {fs : En → Option (List D)}
def tupD : D → Option D
  | .lst l => some (.tup l)
  | .tup l => some (.tup l)
  | _ => none
/-- tuple(x) of a list: a new one; of a tuple: itself -/
def kTupN (K : PySem.W.Frag) (x : V) (H : Hp) (Q : VK) : Prop :=
  (∃ p xs, x = .ref p ∧ SqL K H p xs ∧ ∀ q o, H q = none → o.dict = none → Q (.ref q) (upd H q (.frz o (.tup xs)))) ∨ (∃ p xs, x = .ref p ∧ SqT K H p xs ∧ Q (.ref p) H)
theorem rl_tupN (pins : List (Addr × Obj)) (s : Shared) (σ : L2.St) (H : Hp) (x : V) (v : Value) (Q : VK) (I : Inv X pins σ H s) (r : RelV x v) (h : kTupN X.K x H Q) :
    wpAny (model X.prog X.w) X.A (call (.type "tuple") [v]) (EP X pins σ Q) X.xe s := by
  rcases h with ⟨p, xs, rfl, hs, q⟩ | ⟨p, xs, rfl, hs, q⟩
  · cases r
    obtain ⟨us, rv, pl, hz⟩ := I.list hs
    refine call_tuple_list pl.isList (fun h' hk => ?_) (by rw [List.size_toArray, ← rv.length]; exact hz)
    have I1 : Inv X pins σ H { s with heap := h' } := I.kept (t' := s.toks) hk
    obtain ⟨o, ho, I2⟩ := inv_newT I1 rv hz
    exact ⟨.ref h'.objs.size, _, I2, rfl, q _ o (I1.hok.fresh (Nat.le_refl _)) ho⟩
  · exact rl_tuple pins s σ H _ v Q I r (.inr ⟨p, xs, rfl, hs, q⟩)
theorem pe_tupleN {X : Cx} {a : Expr} {ta : TE} {p pos : Pos} (hg : Gl X "tuple") (hm : X.mg "tuple" = none) (ha : PE X a ta) (na : starEach [a] X.env = (false, eval a X.env) :: starEach [] X.env) :
    PE X (.Call (.Name "tuple" p) [a] [] pos) (tThen ta (kTupN X.K)) := ⟨fun pins s σ H Q I h => by
  refine Call_ (ld_blt I hg hm boot_tuple (PyProof.Rows.callWith_type1 (one_arg ha I h ?_ na) na))
  intro v s2 x H2 I2 r q
  exact rl_tupN pins s2 σ H2 x v Q I2 r q⟩
theorem e_tuple (hm : X.mg "tuple" = none) (ha : PE X a (tD X.K fa)) (hg : Gl X "tuple" := by rfl) (na : starEach [a] X.env = (false, eval a X.env) :: starEach [] X.env := by rfl) : PE X (.Call (.Name "tuple" p) [a] [] pos) (tD X.K (f1 tupD fa)) :=
  PE_weak (pe_tupleN hg hm ha na) fun σ H Q h => by
    obtain ⟨H0, env, Hb, d, r, sm, ef, q⟩ := h
    obtain ⟨da, ea, eg⟩ := bind1 ef
    refine ⟨H0, env, Hb, da, r, sm, ea, fun v Hb1 H1 s1 iv => ?_⟩
    unfold tupD at eg
    split at eg
    · cases eg
      simp only [Is] at iv
      obtain ⟨p, vs, rfl, hx, lx⟩ := iv
      exact .inl ⟨p, vs, rfl, .inl (.inl (s1.c _ _ hx)), fun r o hr ho => q _ _ _ (s1.trans (Step.new s1.c hr)) (is_tup_new ho (s1.c.free hr) lx)⟩
    · cases eg
      have iv' := iv
      simp only [Is] at iv'
      obtain ⟨p, vs, rfl, hx, lx⟩ := iv'
      exact .inr ⟨p, vs, rfl, (hx.mono s1.c).sq, q _ Hb1 H1 s1 iv⟩
    · cases eg

/-! ### methods of texts -/
def fM1 (g : List Nat → D → Option D) (fo fa : En → Option D) : En → Option D := fun env => (fo env).bind fun d => match d with
  | .str l => (fa env).bind fun x => g l x
  | _ => none
def rDM (K : PySem.W.Frag) (g : List Nat → D → Option D) : V → List V → Hp → VK → Prop := fun x xs H Q => ∃ Hb l y b d, Same Hb H ∧ x = .str (S l) ∧ xs = [y] ∧ Is K Hb b y ∧ g l b = some d ∧ ∀ v Hb' H', Step Hb H Hb' H' → Is K Hb' d v → Q v H'
theorem e_m1 {id : String} {name : Str} {g : List Nat → D → Option D} (slot : Slot "str" name id) (ty : typeOf (.builtin id) = pure (.type "method_descriptor")) (rule : MtR X id (rDM X.K g)) (ho : PE X o (tD X.K fo)) (he : PE X e (tD X.K fa))
    (hs : starEach [e] X.env = [(false, eval e X.env)] := by rfl) (hbase : attributeBase o name X.env (eval o X.env) = eval o X.env := by rfl) (hline : (apos.endLine == pos.line) = true := by rfl) :
    PE X (.Call (.Attribute o name apos) [e] [] pos) (tD X.K (fM1 g fo fa)) := PE_weak (pe_m1 slot ty rule ho he hs hbase hline) fun σ H Q h => by
  obtain ⟨H0, env, Hb, d, r, sm, ef, q⟩ := h
  obtain ⟨dd, eo, ef⟩ := bind1 ef
  refine ⟨H0, env, Hb, dd, r, sm, eo, fun v Hb1 H1 s1 iv => ?_⟩
  split at ef
  · simp only [Is] at iv
    subst iv
    obtain ⟨x, ex, eg⟩ := bind1 ef
    exact ⟨⟨_, rfl⟩, H0, env, Hb1, x, r.step s1, s1.c, ex, fun w Hb2 H2 s2 iw => ⟨Hb2, _, w, x, d, s2.c, rfl, rfl, iw, eg, fun v' Hb3 H3 s3 iv' => q v' Hb3 H3 (s1.trans (s2.trans s3)) iv'⟩⟩
  · cases ef
def joinL (sep : List Nat) : List (List Nat) → List Nat
  | [] => []
  | [x] => x
  | x :: rest => x ++ sep ++ joinL sep rest
theorem join_S (sep : List Nat) : ∀ ls : List (List Nat), Str.join (S sep) (ls.map S) = S (joinL sep ls)
  | [] => rfl
  | [x] => rfl
  | x :: y :: r => by
    have ih := join_S sep (y :: r)
    rw [List.map_cons] at ih
    show S x ++ S sep ++ Str.join (S sep) (S y :: r.map S) = S (x ++ sep ++ joinL sep (y :: r))
    rw [ih, S_app, S_app]
def joinD (sep : List Nat) : D → Option D
  | .lst ds => (strsOf ds).bind fun ls => if (ls.map List.length).sum + ls.length * sep.length ≤ 1000000 then some (.str (joinL sep ls)) else none
  | .tup ds => (strsOf ds).bind fun ls => if (ls.map List.length).sum + ls.length * sep.length ≤ 1000000 then some (.str (joinL sep ls)) else none
  | _ => none
theorem sum_S (ls : List (List Nat)) : ((ls.map S).map fun x : Str => x.length) = ls.map List.length := by
  rw [List.map_map]
  apply List.map_congr_left
  intro x _
  exact S_len x
theorem m_join : MtR X "str.join" (rDM X.K joinD) := by
  intro pins s σ H x xs v us Q I rx rs h
  obtain ⟨Hb, l, y, b, d, sm, rfl, rfl, ib, eg, q⟩ := h
  unfold joinD at eg
  split at eg
  · simp only [Is] at ib
    obtain ⟨p, vs, rfl, hx, lx⟩ := ib
    obtain ⟨ls, el, eg⟩ := bind1 eg
    obtain ⟨hsz, rfl⟩ := iteS eg
    have e := strsOf_eq el
    subst e
    have := isl_strs lx
    subst this
    refine mt_join pins s σ H _ _ v us Q I rx rs ⟨_, p, ls.map S, rfl, rfl, .inl (.inl (.inl (sm _ _ hx))), ?_, q _ Hb H (Step.refl sm) ?_⟩
    · rw [sum_S, List.length_map, S_len]
      omega
    · simp only [Is]
      unfold Txt.join
      rw [StrLaws.glued_eq_join, join_S]
  · simp only [Is] at ib
    obtain ⟨p, vs, rfl, hx, lx⟩ := ib
    obtain ⟨ls, el, eg⟩ := bind1 eg
    obtain ⟨hsz, rfl⟩ := iteS eg
    have e := strsOf_eq el
    subst e
    have := isl_strs lx
    subst this
    refine mt_join pins s σ H _ _ v us Q I rx rs ⟨_, p, ls.map S, rfl, rfl, .inr ((hx.mono sm).sq), ?_, q _ Hb H (Step.refl sm) ?_⟩
    · rw [sum_S, List.length_map, S_len]
      omega
    · simp only [Is]
      unfold Txt.join
      rw [StrLaws.glued_eq_join, join_S]
  · cases eg
theorem e_join (ho : PE X o (tD X.K fo)) (he : PE X e (tD X.K fa)) (hs : starEach [e] X.env = [(false, eval e X.env)] := by rfl) (hbase : attributeBase o "join" X.env (eval o X.env) = eval o X.env := by rfl) (hline : (apos.endLine == pos.line) = true := by rfl) :
    PE X (.Call (.Attribute o "join" apos) [e] [] pos) (tD X.K (fM1 joinD fo fa)) := e_m1 F.slot_str_join F.type_str_join m_join ho he hs hbase hline

/-! ### where a sign stands -/
def spots (l : List Nat) (c : Nat) : List Nat := (List.range l.length).filter fun i => decide (l[i]? = some c)
theorem occ_run (l : List Nat) (c lim : Nat) : ∀ (is : List Nat) (acc : Array Nat) (free : Nat), (∀ i ∈ is, free ≤ i) → is.Pairwise (· < ·) → acc.size + is.length ≤ lim →
    (forIn is (acc, free) (StrLaws.occBody (S l) (S [c]) l.length lim)).run.fst.toList = acc.toList ++ is.filter fun i => decide (l[i]? = some c)
  | [], acc, free, _, _, _ => by simp
  | i :: is, acc, free, hf, hp, hs => by
    rw [List.forIn_cons]
    unfold StrLaws.occBody
    have h1 : free ≤ i := hf i List.mem_cons_self
    have hp' := List.pairwise_cons.mp hp
    rw [List.length_cons] at hs
    have sub := StrLaws.subAt_one (S l) c i
    rw [S_len] at sub
    have esl : (S l).cps.toList = l := by simp [S]
    rw [esl] at sub
    by_cases hc : l[i]? = some c
    · have hb := sub.mpr hc
      rw [if_pos ⟨⟨⟨by show acc.size < lim; omega, h1⟩, hb.1⟩, hb.2⟩]
      show (forIn is (acc.push i, i + 1) (StrLaws.occBody (S l) (S [c]) l.length lim)).run.fst.toList = _
      rw [occ_run l c lim is (acc.push i) (i + 1) (fun j hj => hp'.1 j hj) hp'.2 (by rw [Array.size_push]; omega)]
      rw [List.filter_cons_of_pos (by simpa using hc)]
      simp
    · rw [if_neg fun h => hc (sub.mp ⟨h.1.2, h.2⟩)]
      show (forIn is (acc, free) (StrLaws.occBody (S l) (S [c]) l.length lim)).run.fst.toList = _
      rw [occ_run l c lim is acc free (fun j hj => hf j (List.mem_cons_of_mem _ hj)) hp'.2 (by omega)]
      rw [List.filter_cons_of_neg (by simpa using hc)]
theorem occ_sign (l : List Nat) (c : Nat) : Builtin.Str.occurrences (S l) (S [c]) 0 l.length (l.length + 1) = spots l c := by
  rw [StrLaws.occ_eq, occ_run l c (l.length + 1) _ #[] 0 (fun _ _ => Nat.zero_le _) (List.pairwise_lt_range' ..) (by simp)]
  simp only [Nat.sub_zero, List.nil_append]
  unfold spots
  rw [← List.range_eq_range', List.range_succ, List.filter_append]
  simp
theorem spots_len (c : Nat) : ∀ l : List Nat, (spots l c).length = l.count c
  | [] => rfl
  | x :: xs => by
    unfold spots
    rw [List.length_cons, List.range_succ_eq_map, List.filter_cons, List.filter_map]
    have ih := spots_len c xs
    unfold spots at ih
    have e : ((List.range xs.length).filter ((fun i => decide ((x :: xs)[i]? = some c)) ∘ Nat.succ)) = (List.range xs.length).filter fun i => decide (xs[i]? = some c) := by
      congr 1
    by_cases h : x = c
    · subst h
      simp only [List.getElem?_cons_zero, decide_true, if_true, List.length_cons, List.length_map, e, ih, List.count_cons_self]
    · have : ¬ (some x = some c) := fun q => h (Option.some.inj q)
      simp only [List.getElem?_cons_zero, decide_eq_false this, List.length_map, e, ih]
      rw [List.count_cons_of_ne h]
      simp [List.length_map, e, ih]
def countD (l : List Nat) : D → Option D
  | .str [c] => some (.int (l.count c))
  | _ => none
theorem m_count : MtR X "str.count" (rDM X.K countD) := by
  intro pins s σ H x xs v us Q I rx rs h
  obtain ⟨Hb, l, y, b, d, sm, rfl, rfl, ib, eg, q⟩ := h
  unfold countD at eg
  split at eg
  · simp only [Is] at ib
    subst ib
    cases eg
    refine mt_count pins s σ H _ _ v us Q I rx rs ⟨_, _, rfl, rfl, q _ Hb H (Step.refl sm) ?_⟩
    simp only [Is]
    unfold Txt.count
    rw [S_len, occ_sign, spots_len]
  · cases eg
theorem e_count (ho : PE X o (tD X.K fo)) (he : PE X e (tD X.K fa)) (hs : starEach [e] X.env = [(false, eval e X.env)] := by rfl) (hbase : attributeBase o "count" X.env (eval o X.env) = eval o X.env := by rfl) (hline : (apos.endLine == pos.line) = true := by rfl) :
    PE X (.Call (.Attribute o "count" apos) [e] [] pos) (tD X.K (fM1 countD fo fa)) := e_m1 F.slot_str_count F.type_str_count m_count ho he hs hbase hline

/-! ### s[::k] -/
def stride (l : List Nat) (k : Int) : List Nat := (Txt.sliceBy (S l) none none (k, 0)).cps.toList
def slkD : D → D → Option D
  | .str l, .int k => if l.length ≤ sizeLine ∧ k ≠ 0 then some (.str (stride l k)) else none
  | _, _ => none
theorem e_slk {p3 : Pos} (he : PE X e (tD X.K fa)) (hk : PE X b (tD X.K fb)) (hi : ∀ x t r, letTemporaryGo e (.str x t) r = pure () := by intro _ _ _; with_unfolding_all rfl)
    (hss : ∀ (x : Str) (t : Tok) (n : Addr), subscripted (.Slice none none (some b) p3) false (.str x t) (.ref n) = operate [.ref n, .str x t] (getItem (.str x t) (.ref n)) := by intro _ _ _; with_unfolding_all rfl) :
    PE X (.Subscript e (.Slice none none (some b) p3) pos) (tD X.K (f2 slkD fa fb)) := ⟨fun pins s σ H Q I h => by
  obtain ⟨H0, env, Hb, d, r, sm, ef, q⟩ := h
  obtain ⟨da, db, ea, eb, eg⟩ := bind2 ef
  unfold slkD at eg
  split at eg
  · rename_i l k
    obtain ⟨⟨hl, hk0⟩, rfl⟩ := iteS eg
    refine Subscript_ (thn (he.run pins s σ H _ I ⟨H0, env, Hb, _, r, sm, ea, fun x Hb1 H1 s1 ix => (⟨Hb1, s1, ix⟩ : ∃ Hb1, Step Hb H Hb1 H1 ∧ Is X.K Hb1 (.str l) x)⟩) fun v s1 ⟨x, H1, I1, r1, Hb1, st1, ix⟩ => ?_)
    simp only [Is] at ix
    subst ix
    obtain ⟨t, rfl⟩ := r1
    refine wpAny_Slice (thn (po_none.run pins s1 σ H1 (fun o H2 => o = none ∧ H2 = H1) I1 ⟨rfl, rfl⟩) fun vl s2 ⟨lo, H2, I2, pl, el, e2⟩ => ?_)
    subst el e2
    refine thn (po_none.run pins s2 σ H2 (fun o H3 => o = none ∧ H3 = H2) I2 ⟨rfl, rfl⟩) fun vu s3 ⟨u, H3, I3, pu, eu, e3⟩ => ?_
    subst eu e3
    refine thn ((po_some hk).run pins s3 σ H3 (fun o H4 => o = some k ∧ ∃ Hb4, Step Hb H Hb4 H4) I3 ⟨H0, env, Hb1, .int k, r.step st1, st1.c, eb, fun v' Hb4 H4 s4 iv4 => ⟨k, by simpa only [Is] using iv4, rfl, Hb4, st1.trans s4⟩⟩) fun vs s4 ⟨o, H4, I4, ps, eo, Hb4, st4⟩ => ?_
    subst eo
    have I5 : Inv X pins σ H4 { s4 with heap := s4.heap.push { cls := .type "slice", data := .fields #[vl, vu, vs] } } := I4.kept (t' := s4.toks) fun b ob q => Heap.get?_push_of_some _ q
    cases pl
    cases pu
    cases ps with
    | int _ uk =>
      show wpAny (model X.prog X.w) X.A (subscriptTail e (.Slice none none (some b) p3) (.str (S l) t) (.ref s4.heap.objs.size)) (EP X pins σ Q) X.xe { s4 with heap := s4.heap.push { cls := .type "slice", data := .fields #[.none, .none, .int k uk] } }
      refine tail_of_ItemOn ⟨"str", _, F.slot_str_getitem.lookup, typeIs_str _ _ _, wpAny_getItem_str_slice (l := none) (u := none) (st := some (k, uk)) ⟨_, Heap.get?_push_size _ rfl, rfl, rfl⟩ (by simpa using hk0)
        (post_val_or_str ⟨Nat.le_trans (Txt.sliceBy_le (S l) _ _ (k, uk) (by simpa using hk0)) (by rw [S_len]; exact hl), fun t' c => ?_⟩)⟩ (hss _ _ _) (hi _ _)
      refine ⟨.str _, H4, I5.tok _, ⟨t', rfl⟩, q _ Hb4 H4 st4 ?_⟩
      simp only [Is]
      show V.str (Txt.sliceBy (S l) none none (k, uk)) = V.str ⟨(Txt.sliceBy (S l) none none (k, 0)).cps.toList.toArray⟩
      rfl
  · cases eg⟩
end
end Dn
set_option Elab.async false
set_option linter.all false
set_option maxRecDepth 100000
/-! Part E: defs of the text, and how the functions of slots are reckoned. -/
namespace Dn
open PySem L2 PySem.Spec PyProof.Rows

theorem room65 {k : Nat} {A : Around} (r : Room k A) : A.units + 65 < cLine := by have := r.un; omega
section
variable {P : Program} {w : World} {K : PySem.W.Frag} {mg : Str → Option Value} {base : Heap}
/-- a def stands -/
def Has (K : PySem.W.Frag) (mg : Str → Option Value) (x : Str) (st : Stmt) (ps : List Str) : Prop := ∃ f fd, Fun K x x st f fd ∧ mg x = some (.ref f) ∧ Binds K fd ps []
/-- a def does what sem says -/
def Def (P : Program) (w : World) (K : PySem.W.Frag) (mg : Str → Option Value) (base : Heap) (k : Nat) (x : Str) (ps : List Str) (sem : List D → Option D) : Prop :=
  ∃ f fd, FnOk P w K mg base CX0 k f fd ps (spD K sem) ∧ mg x = some (.ref f) ∧ PySem.W.keepIn K (.ref f) = true ∧ Binds K fd ps []
theorem d_of {x : Str} {st : Stmt} {N ps : List Str} {k : Nat} {F : En → Option Fl} {nice : List D → Option D} (h : Has K mg x st ps) (S : FnScope N ps (defScope st))
    (hb : ∀ (f : Addr) (cdv : Value) (A : Around) (outer : List Env) (s : Shared) (H : Hp) (E : XK), Room k (A.deeper (envOfC x (defScope st) s.heap.objs.size f cdv)) → PSs (cxOf CX0 P w K mg base N x (defScope st) f cdv A outer s H E).nox (defBody st) (tS K F))
    (q : ∀ ds d, nice ds = some d → semOf N.length ps.length F ds = some d) : Def P w K mg base (k + 1) x ps nice := by
  obtain ⟨f, fd, Fu, hm, hb'⟩ := h
  exact ⟨f, fd, fn_nice (fn_d Fu S (hb f)) q, hm, Fu.kp, hb'⟩
theorem l_of {x : Str} {st : Stmt} {N : List Str} {k : Nat} {F : En → Option Fl} {f : Addr} {fd : FuncData} (Fu : Fun K x x st f fd) (S : FnScope N ["script"] (defScope st))
    (hb : ∀ (f : Addr) (cdv : Value) (A : Around) (outer : List Env) (s : Shared) (H : Hp) (E : XK), Room k (A.deeper (envOfC x (defScope st) s.heap.objs.size f cdv)) → PSs (cxOf CX0 P w K mg base N x (defScope st) f cdv A outer s H E).nox (defBody st) (tS K F))
    (q : ∀ ns : List Int, ns.length ≤ 63 → semOf N.length 1 F [.scr ns] = some (.bl true)) : FnOk P w K mg base CX0 (k + 1) f fd ["script"] (spLaw K) :=
  fn_law (fn_d Fu S (hb f)) q
end
section
variable {X : Cx} {e : Expr} {es : List Expr} {pos p : Pos} {fs : En → Option (List D)}
theorem e_def {x : Str} {ps : List Str} {k j : Nat} {sem : List D → Option D} (h : Def X.prog X.w X.K X.mg X.base k x ps sem) (hr : Room j X.A) (ha : PA X (e :: es) (tA X.K fs)) (hkj : k ≤ j := by decide) (hg : Gl X x := by rfl) (hdb : (x == ("__debug__" : Str)) = false := by decide)
    (he : starEach (e :: es) X.env = (false, eval e X.env) :: starEach es X.env := by rfl) (hpl : (backTo pos (starEach es X.env)).any (·.1) = false := by rfl) :
    PE X (.Call (.Name x p) (e :: es) [] pos) (tD X.K (fCall sem fs)) := by
  obtain ⟨f, fd, Fo, hm, hk, hb⟩ := h
  exact e_call Fo (hr.mono hkj) hm hk hb ha hg hdb he hpl
theorem e_gs (l : List Nat) {x y : Str} (hm : ∃ tk, X.mg x = some (.str y tk)) (h : y = S l := by decide +kernel) (hg : Gl X x := by rfl) (hd : (x == ("__debug__" : Str)) = false := by decide) : PE X (.Name x pos) (tD X.K (fC (.str l))) := by
  obtain ⟨tk, hm⟩ := hm
  exact e_gstr l hm h hg hd
theorem e_gi (i : Int) {x : Str} (hm : ∃ tk, X.mg x = some (.int i tk)) (hg : Gl X x := by rfl) (hd : (x == ("__debug__" : Str)) = false := by decide) : PE X (.Name x pos) (tD X.K (fC (.int i))) := by
  obtain ⟨tk, hm⟩ := hm
  exact e_gint i hm hg hd
end

/-! ### reckoning -/
theorem seq_nx {F G : En → Option Fl} {env e : En} (h : F env = some (.nx e)) : fSeq F G env = G e := by
  unfold fSeq
  rw [h]
  rfl
theorem seq_rt {F G : En → Option Fl} {env : En} {d : D} (h : F env = some (.rt d)) : fSeq F G env = some (.rt d) := by
  unfold fSeq
  rw [h]
  rfl
theorem set_of {i : Nat} {f : En → Option D} {env : En} {d : D} (h : f env = some d) : fSet i f env = some (.nx (env.set i (some d))) := by
  unfold fSet
  rw [h]
  rfl
theorem ret_of {f : En → Option D} {env : En} {d : D} (h : f env = some d) : fRet f env = some (.rt d) := by
  unfold fRet
  rw [h]
  rfl
theorem if_t {c : En → Option Bool} {F G : En → Option Fl} {env : En} (h : c env = some true) : fIfS c F G env = F env := by
  unfold fIfS
  rw [h]
  rfl
theorem if_f {c : En → Option Bool} {F G : En → Option Fl} {env : En} (h : c env = some false) : fIfS c F G env = G env := by
  unfold fIfS
  rw [h]
  rfl
/-- a comprehension without a test -/
theorem lc_map {α : Type} {g : D → En → Option En} {f : En → Option D} {env : En} (c : α → D) (h : α → D) : ∀ (xs : List α), (∀ x ∈ xs, ∃ e1, g (c x) env = some e1 ∧ f e1 = some (h x)) → lcF g fYes f env (xs.map c) = some (xs.map h)
  | [], _ => rfl
  | x :: xs, q => by
    obtain ⟨e1, a1, a2⟩ := q x List.mem_cons_self
    have ih := lc_map c h xs fun y hy => q y (List.mem_cons_of_mem _ hy)
    rw [List.map_cons, List.map_cons, lcF, a1]
    simp only [Option.bind_some, fYes, if_true, a2, ih]
theorem lc_filter {α : Type} {g : D → En → Option En} {t : En → Option Bool} {f : En → Option D} {env : En} (c : α → D) (k : α → Bool) (h : α → D) : ∀ (xs : List α), (∀ x ∈ xs, ∃ e1, g (c x) env = some e1 ∧ t e1 = some (k x) ∧ (k x = true → f e1 = some (h x))) → lcF g t f env (xs.map c) = some ((xs.filter k).map h)
  | [], _ => rfl
  | x :: xs, q => by
    obtain ⟨e1, a1, a2, a3⟩ := q x List.mem_cons_self
    have ih := lc_filter c k h xs fun y hy => q y (List.mem_cons_of_mem _ hy)
    rw [List.map_cons, lcF, a1]
    simp only [Option.bind_some, a2]
    cases hk : k x with
    | true =>
      rw [List.filter_cons_of_pos hk, List.map_cons]
      simp only [if_true, a3 hk, Option.bind_some, ih]
    | false =>
      rw [List.filter_cons_of_neg (by rw [hk]; decide)]
      simp only [Bool.false_eq_true, if_false, ih]
theorem lcw {it : En → Option (List D)} {g : D → En → Option En} {t : En → Option Bool} {f : En → Option D} {vs : List Nat} {env : En} {ds r : List D} (h1 : it env = some ds) (h2 : ds.length ≤ 1000000) (h3 : lcF g t f (wipeE env vs) ds = some r) : fLc it g t f vs env = some (.lst r) := by
  unfold fLc
  rw [h1]
  simp only [Option.bind_some, if_pos h2, h3]
/-- a loop that goes through -/
theorem for_inv {α : Type} {g : D → En → Option En} {B : En → Option Fl} (c : α → D) (I : List α → En → Prop) : ∀ (xs pre : List α) (env : En), I pre env → (∀ (p : List α) (x : α) (q : List α) (e : En), pre ++ xs = p ++ x :: q → I p e → ∃ e1 e2, g (c x) e = some e1 ∧ B e1 = some (.nx e2) ∧ I (p ++ [x]) e2) →
    ∃ e', forF g B (xs.map c) env = some (.nx e') ∧ I (pre ++ xs) e'
  | [], pre, env, h, _ => ⟨env, rfl, by rw [List.append_nil]; exact h⟩
  | x :: xs, pre, env, h, q => by
    obtain ⟨e1, e2, a1, a2, a3⟩ := q pre x xs env rfl h
    obtain ⟨e', b1, b2⟩ := for_inv c I xs (pre ++ [x]) e2 a3 fun p y r e hp hi => q p y r e (by rw [← hp]; simp) hi
    refine ⟨e', ?_, by simpa using b2⟩
    rw [List.map_cons, forF, a1]
    simp only [Option.bind_some, a2, b1]
theorem forw {it : En → Option (List D)} {g : D → En → Option En} {B : En → Option Fl} {env : En} {ds : List D} (h : it env = some ds) : fFor it g B env = forF g B ds env := by
  unfold fFor
  rw [h]
  rfl
end Dn
set_option Elab.async false
set_option linter.all false
set_option maxRecDepth 100000
/-! Part F: values, step by step. -/
namespace Dn
open PySem L2

section
variable {env : En} {a b c : D} {fa fb fc fo : En → Option D} {fs : En → Option (List D)} {ds : List D}
theorem v_c : fC a env = some a := rfl
theorem v_var {i : Nat} (h : env[i]? = some (some a)) (ho : a.isOwn = false) : fV i env = some a := by
  unfold fV
  rw [h]
  simp only [ho, Bool.false_eq_true, if_false]
theorem v_2 {g : D → D → Option D} (h1 : fa env = some a) (h2 : fb env = some b) (h3 : g a b = some c) : f2 g fa fb env = some c := by
  unfold f2
  rw [h1, h2]
  exact h3
theorem v_1 {g : D → Option D} (h1 : fa env = some a) (h3 : g a = some c) : f1 g fa env = some c := by
  unfold f1
  rw [h1]
  exact h3
theorem v_nil : fNil env = some [] := rfl
theorem v_cons (h1 : fa env = some a) (h2 : fs env = some ds) : fCons fa fs env = some (a :: ds) := by
  unfold fCons
  rw [h1, h2]
  rfl
theorem v_call {sem : List D → Option D} (h1 : fs env = some ds) (h2 : sem ds = some c) : fCall sem fs env = some c := by
  unfold fCall
  rw [h1]
  exact h2
theorem v_blt {sem : List D → Option D} (h1 : fs env = some ds) (h2 : sem ds = some c) : fBlt sem fs env = some c := by
  unfold fBlt
  rw [h1]
  exact h2
theorem v_tup (h1 : fs env = some ds) (h2 : ds.length ≤ sizeLine) : fTup fs env = some (.tup ds) := by
  unfold fTup
  rw [h1]
  simp only [Option.bind_some, if_pos h2]
theorem v_lst (h1 : fs env = some ds) (h2 : ds.length ≤ sizeLine) : fLst fs env = some (.lst ds) := by
  unfold fLst
  rw [h1]
  simp only [Option.bind_some, if_pos h2]
theorem v_sl {fl fh : En → Option (Option Int)} {lo hi : Option Int} (h1 : fa env = some a) (h2 : fl env = some lo) (h3 : fh env = some hi) (h4 : slD a lo hi = some c) : fSl fa fl fh env = some c := by
  unfold fSl
  rw [h1, h2, h3]
  exact h4
theorem v_no : fNo env = some none := rfl
theorem v_po {i : Int} (h : fa env = some (.int i)) : fPo fa env = some (some i) := by
  unfold fPo
  rw [h]
  rfl
theorem v_m1 {g : List Nat → D → Option D} {l : List Nat} (h1 : fo env = some (.str l)) (h2 : fa env = some a) (h3 : g l a = some c) : fM1 g fo fa env = some c := by
  unfold fM1
  rw [h1]
  simp only [Option.bind_some, h2, h3]
theorem v_b {k : Bool} (h : fa env = some (.bl k)) : fB fa env = some k := by
  unfold fB
  rw [h]
  rfl
theorem v_andt {ga gb : En → Option Bool} {k : Bool} (h1 : ga env = some true) (h2 : gb env = some k) : fAnd ga gb env = some k := by
  unfold fAnd
  rw [h1]
  simp only [Option.bind_some, if_true, h2]
theorem v_andf {ga gb : En → Option Bool} (h1 : ga env = some false) : fAnd ga gb env = some false := by
  unfold fAnd
  rw [h1]
  rfl
theorem v_ort {ga gb : En → Option Bool} (h1 : ga env = some true) : fOr ga gb env = some true := by
  unfold fOr
  rw [h1]
  rfl
theorem v_orf {ga gb : En → Option Bool} {k : Bool} (h1 : ga env = some false) (h2 : gb env = some k) : fOr ga gb env = some k := by
  unfold fOr
  rw [h1]
  simp only [Option.bind_some, Bool.false_eq_true, if_false, h2]
theorem v_not {ga : En → Option Bool} {k : Bool} (h1 : ga env = some k) : fNot ga env = some (!k) := by
  unfold fNot
  rw [h1]
  rfl
theorem v_andVt (h1 : fa env = some (.bl true)) (h2 : fb env = some c) : fAndV fa fb env = some c := by
  unfold fAndV
  rw [h1]
  simp only [Option.bind_some, asB, if_true, h2]
theorem v_andVf (h1 : fa env = some (.bl false)) : fAndV fa fb env = some (.bl false) := by
  unfold fAndV
  rw [h1]
  rfl
theorem v_orVt (h1 : fa env = some (.bl true)) : fOrV fa fb env = some (.bl true) := by
  unfold fOrV
  rw [h1]
  rfl
theorem v_orVf (h1 : fa env = some (.bl false)) (h2 : fb env = some c) : fOrV fa fb env = some c := by
  unfold fOrV
  rw [h1]
  simp only [Option.bind_some, asB, Bool.false_eq_true, if_false, h2]
theorem v_notV {k : Bool} (h1 : fa env = some (.bl k)) : fNotV fa env = some (.bl (!k)) := by
  unfold fNotV
  rw [h1]
  rfl
theorem v_it (h : fa env = some (.tup ds)) : fIt fa env = some ds := by
  unfold fIt
  rw [h]
  rfl
theorem v_itl (h : fa env = some (.lst ds)) : fIt fa env = some ds := by
  unfold fIt
  rw [h]
  rfl
theorem v_its {l : List Nat} (h : fa env = some (.str l)) : fIt fa env = some (l.map fun x => .str [x]) := by
  unfold fIt
  rw [h]
  rfl
theorem v_rng1 {n : Int} (h : fs env = some [.int n]) (h2 : -1000000 ≤ n ∧ n ≤ 1000000) : fRng1 fs env = some ((List.range n.toNat).map fun i => .int (i : Nat)) := by
  unfold fRng1
  rw [h]
  simp only [Option.bind_some, rangeD, Int.sub_zero, Int.zero_add]
  rw [if_pos (by omega)]
theorem v_rng2 {m n : Int} (h : fs env = some [.int m, .int n]) (h2 : -1000000 ≤ n ∧ n ≤ 1000000 ∧ -1000000 ≤ m ∧ m ≤ 1000000) : fRng2 fs env = some ((List.range (n - m).toNat).map fun i => .int (m + (i : Nat))) := by
  unfold fRng2
  rw [h]
  simp only [Option.bind_some, rangeD]
  rw [if_pos (by omega)]
end
/-! operations -/
theorem add_i (i j : Int) : addD (.int i) (.int j) = some (.int (i + j)) := rfl
theorem sub_i (i j : Int) : subD (.int i) (.int j) = some (.int (i - j)) := rfl
theorem mul_i {i j : Int} (h : (-(2 ^ 64) < i ∧ i < 2 ^ 64) ∨ (-(2 ^ 64) < j ∧ j < 2 ^ 64)) : mulD (.int i) (.int j) = some (.int (i * j)) := if_pos h
theorem fdiv_i {i j : Int} (h : 0 < j ∧ j < 1073741824) : fdivD (.int i) (.int j) = some (.int (i / j)) := if_pos h
theorem mod_i {i j : Int} (h : 0 < j) : modD (.int i) (.int j) = some (.int (i % j)) := if_pos h
theorem neg_i (i : Int) : negD (.int i) = some (.int (-i)) := rfl
theorem lt_i (i j : Int) : ltD (.int i) (.int j) = some (.bl (decide (i < j))) := rfl
theorem le_i (i j : Int) : leD (.int i) (.int j) = some (.bl (decide (i ≤ j))) := rfl
theorem gt_i (i j : Int) : gtD (.int i) (.int j) = some (.bl (decide (j < i))) := rfl
theorem ge_i (i j : Int) : geD (.int i) (.int j) = some (.bl (decide (j ≤ i))) := rfl
theorem eqv_i (i j : Int) : eqv (.int i) (.int j) = decide (i = j) := by
  unfold eqv
  simp only [toP, PyData.eqv]
  by_cases h : i = j
  · subst h; simp
  · simp [h]
theorem S_inj {a b : List Nat} (h : S a = S b) : a = b := SX.S_inj h
theorem eqv_s (i j : List Nat) : eqv (.str i) (.str j) = decide (i = j) := by
  unfold eqv
  simp only [toP, PyData.eqv]
  by_cases h : i = j
  · subst h; simp
  · rw [decide_eq_false h]
    rw [beq_eq_false_iff_ne]
    exact fun q => h (S_inj q)
theorem eqv_b (i j : Bool) : eqv (.bl i) (.bl j) = decide (i = j) := by
  unfold eqv
  simp only [toP, PyData.eqv]
  cases i <;> cases j <;> rfl
theorem eqv_refl (d : D) : eqv d d = true := PySem.SeqAt.eqv_refl_plain (toP d) (plain_toP d)
theorem eq_i (i j : Int) : eqD (.int i) (.int j) = some (.bl (decide (i = j))) := by
  unfold eqD
  rw [if_pos ⟨rfl, rfl⟩, eqv_i]
theorem ne_i (i j : Int) : neD (.int i) (.int j) = some (.bl (!decide (i = j))) := by
  unfold neD
  rw [if_pos ⟨rfl, rfl⟩, eqv_i]
theorem eq_s (i j : List Nat) : eqD (.str i) (.str j) = some (.bl (decide (i = j))) := by
  unfold eqD
  rw [if_pos ⟨rfl, rfl⟩, eqv_s]
theorem ne_s (i j : List Nat) : neD (.str i) (.str j) = some (.bl (!decide (i = j))) := by
  unfold neD
  rw [if_pos ⟨rfl, rfl⟩, eqv_s]
theorem eq_same {d : D} (h : okN 60 d = true) : eqD d d = some (.bl true) := by
  unfold eqD
  rw [if_pos ⟨h, h⟩, eqv_refl]
theorem ne_same {d : D} (h : okN 60 d = true) : neD d d = some (.bl false) := by
  unfold neD
  rw [if_pos ⟨h, h⟩, eqv_refl]
  rfl
theorem add_s {x y : List Nat} (h : x.length + y.length ≤ 1000000) : addD (.str x) (.str y) = some (.str (x ++ y)) := if_pos (Nat.le_trans h size1000)
theorem add_t {x y : List D} (h : x.length + y.length ≤ 1000000) : addD (.tup x) (.tup y) = some (.tup (x ++ y)) := if_pos (Nat.le_trans h size1000)
theorem add_l {x y : List D} (h : x.length + y.length ≤ 1000000) : addD (.lst x) (.lst y) = some (.lst (x ++ y)) := if_pos (Nat.le_trans h size1000)
theorem mul_s {x : List Nat} {n : Int} (h : x.length ≤ 1000 ∧ -1000 ≤ n ∧ n ≤ 1000) : mulD (.str x) (.int n) = some (.str (reps x n.toNat)) := if_pos h
theorem mul_l {x : List D} {n : Int} (h : x.length ≤ 1000 ∧ -1000 ≤ n ∧ n ≤ 1000) : mulD (.lst x) (.int n) = some (.lst (reps x n.toNat)) := if_pos h
theorem len_s {x : List Nat} (h : x.length ≤ 1000000) : lenG [.str x] = some (.int x.length) := if_pos (Nat.le_trans h size1000)
theorem len_t (x : List D) : lenG [.tup x] = some (.int x.length) := rfl
theorem len_l (x : List D) : lenG [.lst x] = some (.int x.length) := rfl
theorem len_c (x : List Int) : lenG [.scr x] = some (.int x.length) := rfl
theorem int_b (k : Bool) : intG [.bl k] = some (.int (if k then 1 else 0)) := rfl
theorem int_i (k : Int) : intG [.int k] = some (.int k) := rfl
theorem abs_i (k : Int) : absG [.int k] = some (.int (if k < 0 then -k else k)) := rfl
theorem atI_n {α : Type} {xs : List α} {i : Int} (h0 : 0 ≤ i) (h1 : i < xs.length) : atI xs i = xs[i.toNat]? := by
  unfold atI ixN
  rw [if_pos h0, if_pos h1]
  rfl
theorem ix_t {xs : List D} {i : Int} {d : D} (h0 : 0 ≤ i) (h : xs[i.toNat]? = some d) : ixD (.tup xs) (.int i) = some d := by
  show atI xs i = some d
  have := (List.getElem?_eq_some_iff.mp h).1
  rw [atI_n h0 (by omega)]
  exact h
theorem ix_l {xs : List D} {i : Int} {d : D} (h0 : 0 ≤ i) (h : xs[i.toNat]? = some d) : ixD (.lst xs) (.int i) = some d := by
  show atI xs i = some d
  have := (List.getElem?_eq_some_iff.mp h).1
  rw [atI_n h0 (by omega)]
  exact h
theorem ix_s {xs : List Nat} {i : Int} {d : Nat} (hl : xs.length ≤ 1000000) (h0 : 0 ≤ i) (h : xs[i.toNat]? = some d) : ixD (.str xs) (.int i) = some (.str [d]) := by
  show (if xs.length ≤ sizeLine then (atI xs i).bind _ else none) = _
  have := (List.getElem?_eq_some_iff.mp h).1
  rw [if_pos (Nat.le_trans hl size1000), atI_n h0 (by omega), h]
  rfl
theorem cut_from {α : Type} (xs : List α) (n : Nat) : cut xs (some (n : Int)) none = xs.drop n := by
  unfold cut
  rw [HT.sIx_nat, HT.sIx_none]
  by_cases h : n ≤ xs.length
  · rw [Nat.min_eq_left h, List.take_of_length_le (by rw [List.length_drop]; omega)]
  · rw [Nat.min_eq_right (by omega), List.drop_length, List.drop_of_length_le (by omega)]
    simp
theorem cut_to {α : Type} (xs : List α) (n : Nat) : cut xs none (some (n : Int)) = xs.take n := by
  unfold cut
  rw [HT.sIx_nat, HT.sIx_none, List.drop_zero, Nat.sub_zero]
  by_cases h : n ≤ xs.length
  · rw [Nat.min_eq_left h]
  · rw [Nat.min_eq_right (by omega), List.take_length, List.take_of_length_le (by omega)]
theorem sl_s {x : List Nat} {lo hi : Option Int} (h : x.length ≤ 1000000) : slD (.str x) lo hi = some (.str (cut x lo hi)) := if_pos (Nat.le_trans h size1000)
theorem sl_t (x : List D) (lo hi : Option Int) : slD (.tup x) lo hi = some (.tup (cut x lo hi)) := rfl
theorem sl_l (x : List D) (lo hi : Option Int) : slD (.lst x) lo hi = some (.lst (cut x lo hi)) := rfl
theorem join_l {sep : List Nat} {ls : List (List Nat)} (h : (ls.map List.length).sum + ls.length * sep.length ≤ 1000000) : joinD sep (.lst (ls.map D.str)) = some (.str (joinL sep ls)) := by
  show (strsOf (ls.map D.str)).bind _ = _
  rw [strsOf_map]
  exact if_pos h
theorem joinL_nil (ls : List (List Nat)) : joinL [] ls = ls.flatten := by
  induction ls with
  | nil => rfl
  | cons x xs ih =>
    cases xs with
    | nil => simp [joinL]
    | cons y ys =>
      show x ++ [] ++ joinL [] (y :: ys) = _
      rw [ih, List.append_nil]
      simp
theorem min_s {x : List Nat} {xs : List (List Nat)} : minG [.lst ((x :: xs).map D.str)] = some (.str (minOf ltS x xs)) := by
  unfold minG
  simp only [strsOf_map]
theorem max_i {x : Int} {xs : List Int} : maxG [.lst ((x :: xs).map D.int)] = some (.int (maxOf ltI x xs)) := by
  unfold maxG
  simp only [intsOf_map]
theorem all_b (bs : List Bool) : allG [.lst (bs.map D.bl)] = some (.bl (bs.all id)) := by
  show (blsOf (bs.map D.bl)).bind _ = _
  rw [blsOf_map]
  rfl
theorem flat_one : ∀ (l : List Nat), (l.map fun c => [c]).flatten = l
  | [] => rfl
  | c :: l => by rw [List.map_cons, List.flatten_cons, flat_one l]; rfl

/-! statements -/
section
variable {env e e' : En} {F G : En → Option Fl} {fl : Fl} {f : En → Option D} {d : D}
theorem w_seq (h1 : F env = some (.nx e)) (h2 : G e = some fl) : fSeq F G env = some fl := (seq_nx h1).trans h2
theorem w_ret (h1 : F env = some (.rt d)) : fSeq F G env = some (.rt d) := seq_rt h1
theorem w_set {i : Nat} (h : f env = some d) (he : env.set i (some d) = e) : fSet i f env = some (.nx e) := by
  rw [set_of h, he]
theorem w_ift {c : En → Option Bool} (h : c env = some true) (h2 : F env = some fl) : fIfS c F G env = some fl := (if_t h).trans h2
theorem w_iff {c : En → Option Bool} (h : c env = some false) (h2 : G env = some fl) : fIfS c F G env = some fl := (if_f h).trans h2
theorem w_pass : fPass env = some (.nx env) := rfl
theorem w_for {it : En → Option (List D)} {g : D → En → Option En} {ds : List D} (h : it env = some ds) (h2 : forF g F ds env = some fl) : fFor it g F env = some fl := (forw h).trans h2
theorem w_forn {g : D → En → Option En} : forF g F [] env = some (.nx env) := rfl
theorem w_forc {g : D → En → Option En} {x : D} {ds : List D} (h1 : g x env = some e) (h2 : F e = some (.nx e')) (h3 : forF g F ds e' = some fl) : forF g F (x :: ds) env = some fl := by
  rw [forF, h1]
  simp only [Option.bind_some, h2, h3]
theorem w_forr {g : D → En → Option En} {x d : D} {ds : List D} (h1 : g x env = some e) (h2 : F e = some (.rt d)) : forF g F (x :: ds) env = some (.rt d) := by
  rw [forF, h1]
  simp only [Option.bind_some, h2]
theorem sem_rt {n m : Nat} {ds : List D} (hl : ds.length = m) (h : F (startE n ds) = some (.rt d)) : semOf n m F ds = some d := by
  unfold semOf
  rw [if_pos hl, h]
  rfl
theorem sem_nx {n m : Nat} {ds : List D} (hl : ds.length = m) (h : F (startE n ds) = some (.nx e)) : semOf n m F ds = some .non := by
  unfold semOf
  rw [if_pos hl, h]
  rfl
end
end Dn
set_option Elab.async false
set_option linter.all false
set_option maxRecDepth 100000
/-! The law's own numbers. -/
namespace Dn
open PySem L2
local macro_rules | `(tactic| walk_at "dg") => `(tactic| first
  | with_reducible exact add_i _ _ | with_reducible exact sub_i _ _ | ((with_reducible refine mul_i ?_); omega) | ((with_reducible refine fdiv_i ?_); omega) | ((with_reducible refine mod_i ?_); omega) | with_reducible exact neg_i _
  | with_reducible exact lt_i _ _ | with_reducible exact le_i _ _ | with_reducible exact gt_i _ _ | with_reducible exact ge_i _ _ | with_reducible exact eq_i _ _ | with_reducible exact ne_i _ _ | with_reducible exact eq_s _ _ | with_reducible exact ne_s _ _
  | ((with_reducible refine add_s ?_); omega) | ((with_reducible refine add_t ?_); omega) | ((with_reducible refine add_l ?_); omega) | ((with_reducible refine mul_s ?_); omega) | ((with_reducible refine mul_l ?_); omega)
  | ((with_reducible refine len_s ?_); omega) | with_reducible exact len_t _ | with_reducible exact len_l _ | with_reducible exact len_c _ | with_reducible exact int_b _ | with_reducible exact int_i _ | with_reducible exact abs_i _
  | ((with_reducible refine sl_s ?_); omega) | with_reducible exact sl_t _ _ _ | with_reducible exact sl_l _ _ _ | ((with_reducible apply ix_t); (· omega); (· rfl)) | ((with_reducible apply ix_l); (· omega); (· rfl)) | with_reducible assumption)
local macro_rules | `(tactic| walk_at "dc") => `(tactic| with_reducible assumption)
local macro_rules | `(tactic| walk_at "dn") => `(tactic| first
  | with_reducible exact v_c | with_reducible exact v_nil | with_reducible exact v_no
  | ((with_reducible apply v_var); (· rfl); (· rfl))
  | ((with_reducible apply v_2); (· walk_at "dn"); (· walk_at "dn"); (· walk_at "dg"))
  | ((with_reducible apply v_1); (· walk_at "dn"); (· walk_at "dg"))
  | ((with_reducible apply v_cons); (· walk_at "dn"); (· walk_at "dn"))
  | ((with_reducible apply v_blt); (· walk_at "dn"); (· walk_at "dg"))
  | ((with_reducible apply v_call); (· walk_at "dn"); (· walk_at "dc"))
  | ((with_reducible apply v_tup); (· walk_at "dn"); (· first | decide | (simp only [List.length_cons, List.length_nil]; decide)))
  | ((with_reducible apply v_lst); (· walk_at "dn"); (· first | decide | (simp only [List.length_cons, List.length_nil]; decide)))
  | ((with_reducible apply v_po); (· walk_at "dn"))
  | ((with_reducible apply v_sl); (· walk_at "dn"); (· walk_at "dn"); (· walk_at "dn"); (· walk_at "dg"))
  | ((with_reducible apply v_m1); (· walk_at "dn"); (· walk_at "dn"); (· walk_at "dg"))
  | ((with_reducible apply v_b); (· walk_at "dn"))
  | ((with_reducible apply v_not); (· walk_at "dn"))
  | ((with_reducible apply v_notV); (· walk_at "dn"))
  | ((with_reducible apply v_rng1); (· walk_at "dn"); (· omega))
  | ((with_reducible apply v_rng2); (· walk_at "dn"); (· omega))
  | ((with_reducible apply v_it); (· walk_at "dn"))
  | ((with_reducible apply v_itl); (· walk_at "dn"))
  | ((with_reducible apply v_its); (· walk_at "dn"))
  | with_reducible assumption)
local macro_rules | `(tactic| walk_at "dt") => `(tactic| first
  | with_reducible exact v_c | with_reducible exact v_nil | with_reducible exact v_no
  | ((with_reducible apply v_var); (· rfl); (· rfl))
  | ((with_reducible apply v_2) <;> walk_at "dt")
  | ((with_reducible apply v_1) <;> walk_at "dt")
  | ((with_reducible apply v_cons) <;> walk_at "dt")
  | ((with_reducible apply v_blt) <;> walk_at "dt")
  | ((with_reducible apply v_call) <;> walk_at "dt")
  | ((with_reducible apply v_tup) <;> walk_at "dt")
  | ((with_reducible apply v_lst) <;> walk_at "dt")
  | ((with_reducible apply v_po) <;> walk_at "dt")
  | ((with_reducible apply v_sl) <;> walk_at "dt")
  | ((with_reducible apply v_m1) <;> walk_at "dt")
  | ((with_reducible apply v_b) <;> walk_at "dt")
  | ((with_reducible apply v_notV) <;> walk_at "dt")
  | ((with_reducible apply v_not) <;> walk_at "dt")
  | ((with_reducible apply v_rng1) <;> first | omega | walk_at "dt")
  | ((with_reducible apply v_rng2) <;> first | omega | walk_at "dt")
  | walk_at "dg"
  | (show List.length _ ≤ sizeLine; first | decide | (simp only [List.length_cons, List.length_nil]; decide))
  | skip)
local macro_rules | `(tactic| walk_at "ds") => `(tactic| first
  | ((with_reducible apply w_ss) <;> first | walk_at "d1" | skip)
  | ((with_reducible apply w_r) <;> first | walk_at "d1" | skip)
  | ((with_reducible apply w_sp) <;> first | walk_at "d1" | skip)
  | ((with_reducible apply w_so) <;> first | walk_at "d1" | skip)
  | (with_reducible apply w_sv)
  | (with_reducible apply w_sq))
local macro_rules | `(tactic| walk_at "dx") => `(tactic| simp only [put, jn, List.set_cons_zero, List.set_cons_succ])
noncomputable def m__law_cell_at : En → Option Fl :=
  (fSeq (fIfS (fB (f2 ltD (fV 1) (fBlt lenG (fCons (fV 0) fNil))))
    (fRet (f2 ixD (fV 0) (fV 1)))
    fPass)
  (fRet (fC (.int 0))))
noncomputable def n__law_cell_at : List D → Option D := semOf 2 2 m__law_cell_at
noncomputable def m__law_mixed : En → Option Fl :=
  (fSeq (fSet 2 (f2 modD (f2 mulD (f2 addD (f2 addD (fCall n__law_cell_at (fCons (fV 0) (fCons (fV 1) fNil))) (f2 mulD (fC (.int 7919)) (fV 1))) (fC (.int 1))) (fC (.int 48271))) (fC (.int 2147483647))))
  (fRet (f2 modD (f2 addD (f2 addD (f2 mulD (fV 2) (fV 2)) (f2 mulD (fC (.int 7)) (fV 2))) (fV 1)) (fC (.int 2147483629)))))
noncomputable def n__law_mixed : List D → Option D := semOf 3 2 m__law_mixed
noncomputable def m__law_drawn : En → Option Fl :=
  (fSeq (fSet 2 (f2 modD (f2 mulD (f2 addD (f2 addD (fV 0) (f2 mulD (fC (.int 104729)) (fV 1))) (fC (.int 17))) (fC (.int 69621))) (fC (.int 2147483647))))
  (fRet (f2 modD (f2 addD (f2 addD (f2 mulD (fV 2) (fV 2)) (f2 mulD (fC (.int 3)) (fV 2))) (fV 1)) (fC (.int 2147483629)))))
noncomputable def n__law_drawn : List D → Option D := semOf 3 2 m__law_drawn
theorem cell_ok (ns : List Int) (k : Int) (hk : 0 ≤ k) : ∃ c, n__law_cell_at [.scr ns, .int k] = some (.int c) := by
  by_cases h : k < (ns.length : Int)
  · have hn : k.toNat < ns.length := by omega
    have hx : ixD (.scr ns) (.int k) = some (.int ns[k.toNat]) := by
      show (atI ns k).bind _ = _
      rw [atI_n hk h, List.getElem?_eq_getElem hn]
      rfl
    refine ⟨ns[k.toNat], sem_rt rfl ?_⟩
    show m__law_cell_at [some (.scr ns), some (.int k)] = _
    unfold m__law_cell_at
    refine w_ret (w_ift ?_ (ret_of (by walk_at "dn")))
    refine v_b ?_
    rw [← decide_eq_true h]
    walk_at "dn"
  · refine ⟨0, sem_rt rfl ?_⟩
    show m__law_cell_at [some (.scr ns), some (.int k)] = _
    unfold m__law_cell_at
    refine w_seq (w_iff ?_ w_pass) (ret_of (by walk_at "dn"))
    refine v_b ?_
    rw [← decide_eq_false h]
    walk_at "dn"
theorem mixed_ok (ns : List Int) (k : Int) (hk : 0 ≤ k) (hk2 : k ≤ 1000) : ∃ m, 0 ≤ m ∧ m < 2147483629 ∧ n__law_mixed [.scr ns, .int k] = some (.int m) := by
  obtain ⟨c, hc⟩ := cell_ok ns k hk
  generalize hd : (c + 7919 * k + 1) * 48271 % 2147483647 = d
  have d0 : 0 ≤ d ∧ d < 2147483647 := by omega
  refine ⟨(d * d + 7 * d + k) % 2147483629, by omega, by omega, sem_rt rfl ?_⟩
  show m__law_mixed [some (.scr ns), some (.int k), none] = _
  unfold m__law_mixed
  refine w_seq (w_set (d := .int d) (by rw [← hd]; walk_at "dn") rfl) (ret_of ?_)
  walk_at "dn"
theorem drawn_ok (n k : Int) (hk : 0 ≤ k ∧ k ≤ 1000) : ∃ m, 0 ≤ m ∧ m < 2147483629 ∧ n__law_drawn [.int n, .int k] = some (.int m) := by
  generalize hd : (n + 104729 * k + 17) * 69621 % 2147483647 = d
  have d0 : 0 ≤ d ∧ d < 2147483647 := by omega
  refine ⟨(d * d + 3 * d + k) % 2147483629, by omega, by omega, sem_rt rfl ?_⟩
  show m__law_drawn [some (.int n), some (.int k), none] = _
  unfold m__law_drawn
  refine w_seq (w_set (d := .int d) (by rw [← hd]; walk_at "dn") rfl) (ret_of ?_)
  walk_at "dn"
end Dn
set_option Elab.async false
set_option linter.all false
set_option maxRecDepth 100000
/-! Rows: spread, turned, least_turn, are_turns. -/
namespace Dn
open PySem L2
local macro_rules | `(tactic| walk_at "dg") => `(tactic| first
  | with_reducible exact add_i _ _ | with_reducible exact sub_i _ _ | ((with_reducible refine mul_i ?_); omega) | ((with_reducible refine fdiv_i ?_); omega) | ((with_reducible refine mod_i ?_); omega) | with_reducible exact neg_i _
  | with_reducible exact lt_i _ _ | with_reducible exact le_i _ _ | with_reducible exact gt_i _ _ | with_reducible exact ge_i _ _ | with_reducible exact eq_i _ _ | with_reducible exact ne_i _ _ | with_reducible exact eq_s _ _ | with_reducible exact ne_s _ _
  | ((with_reducible refine add_s ?_); omega) | ((with_reducible refine add_t ?_); omega) | ((with_reducible refine add_l ?_); omega) | ((with_reducible refine mul_s ?_); omega) | ((with_reducible refine mul_l ?_); omega)
  | ((with_reducible refine len_s ?_); omega) | with_reducible exact len_t _ | with_reducible exact len_l _ | with_reducible exact len_c _ | with_reducible exact int_b _ | with_reducible exact int_i _ | with_reducible exact abs_i _
  | ((with_reducible refine sl_s ?_); omega) | with_reducible exact sl_t _ _ _ | with_reducible exact sl_l _ _ _ | ((with_reducible apply ix_t); (· omega); (· rfl)) | ((with_reducible apply ix_l); (· omega); (· rfl)) | with_reducible assumption)
local macro_rules | `(tactic| walk_at "dc") => `(tactic| with_reducible assumption)
local macro_rules | `(tactic| walk_at "dn") => `(tactic| first
  | with_reducible exact v_c | with_reducible exact v_nil | with_reducible exact v_no
  | ((with_reducible apply v_var); (· rfl); (· rfl))
  | ((with_reducible apply v_2); (· walk_at "dn"); (· walk_at "dn"); (· walk_at "dg"))
  | ((with_reducible apply v_1); (· walk_at "dn"); (· walk_at "dg"))
  | ((with_reducible apply v_cons); (· walk_at "dn"); (· walk_at "dn"))
  | ((with_reducible apply v_blt); (· walk_at "dn"); (· walk_at "dg"))
  | ((with_reducible apply v_call); (· walk_at "dn"); (· walk_at "dc"))
  | ((with_reducible apply v_tup); (· walk_at "dn"); (· first | decide | (simp only [List.length_cons, List.length_nil]; decide)))
  | ((with_reducible apply v_lst); (· walk_at "dn"); (· first | decide | (simp only [List.length_cons, List.length_nil]; decide)))
  | ((with_reducible apply v_po); (· walk_at "dn"))
  | ((with_reducible apply v_sl); (· walk_at "dn"); (· walk_at "dn"); (· walk_at "dn"); (· walk_at "dg"))
  | ((with_reducible apply v_m1); (· walk_at "dn"); (· walk_at "dn"); (· walk_at "dg"))
  | ((with_reducible apply v_b); (· walk_at "dn"))
  | ((with_reducible apply v_not); (· walk_at "dn"))
  | ((with_reducible apply v_notV); (· walk_at "dn"))
  | ((with_reducible apply v_rng1); (· walk_at "dn"); (· omega))
  | ((with_reducible apply v_rng2); (· walk_at "dn"); (· omega))
  | ((with_reducible apply v_it); (· walk_at "dn"))
  | ((with_reducible apply v_itl); (· walk_at "dn"))
  | ((with_reducible apply v_its); (· walk_at "dn"))
  | with_reducible assumption)
local macro_rules | `(tactic| walk_at "dt") => `(tactic| first
  | with_reducible exact v_c | with_reducible exact v_nil | with_reducible exact v_no
  | ((with_reducible apply v_var); (· rfl); (· rfl))
  | ((with_reducible apply v_2) <;> walk_at "dt")
  | ((with_reducible apply v_1) <;> walk_at "dt")
  | ((with_reducible apply v_cons) <;> walk_at "dt")
  | ((with_reducible apply v_blt) <;> walk_at "dt")
  | ((with_reducible apply v_call) <;> walk_at "dt")
  | ((with_reducible apply v_tup) <;> walk_at "dt")
  | ((with_reducible apply v_lst) <;> walk_at "dt")
  | ((with_reducible apply v_po) <;> walk_at "dt")
  | ((with_reducible apply v_sl) <;> walk_at "dt")
  | ((with_reducible apply v_m1) <;> walk_at "dt")
  | ((with_reducible apply v_b) <;> walk_at "dt")
  | ((with_reducible apply v_notV) <;> walk_at "dt")
  | ((with_reducible apply v_not) <;> walk_at "dt")
  | ((with_reducible apply v_rng1) <;> first | omega | walk_at "dt")
  | ((with_reducible apply v_rng2) <;> first | omega | walk_at "dt")
  | walk_at "dg"
  | (show List.length _ ≤ sizeLine; first | decide | (simp only [List.length_cons, List.length_nil]; decide))
  | skip)
local macro_rules | `(tactic| walk_at "ds") => `(tactic| first
  | ((with_reducible apply w_ss) <;> first | walk_at "d1" | skip)
  | ((with_reducible apply w_r) <;> first | walk_at "d1" | skip)
  | ((with_reducible apply w_sp) <;> first | walk_at "d1" | skip)
  | ((with_reducible apply w_so) <;> first | walk_at "d1" | skip)
  | (with_reducible apply w_sv)
  | (with_reducible apply w_sq))
local macro_rules | `(tactic| walk_at "dx") => `(tactic| simp only [put, jn, List.set_cons_zero, List.set_cons_succ])
noncomputable def m_spread : En → Option Fl :=
  (fSeq (fSet 2 (fLc (fRng1 (fCons (fV 0) fNil)) (gN 3) fYes (f2 fdivD (f2 mulD (fV 3) (fV 1)) (fV 0)) [3]))
  (fRet (fM1 joinD (fC (.str [])) (fLc (fRng1 (fCons (fV 1) fNil)) (gN 4) fYes (f2 ixD (fLst (fCons (fC (.str [46])) (fCons (fC (.str [120])) fNil))) (fBlt intG (fCons (f2 inD (fV 4) (fV 2)) fNil))) [4]))))
noncomputable def n_spread : List D → Option D := semOf 5 2 m_spread
noncomputable def m_turned : En → Option Fl :=
  (fSeq (fSet 2 (f2 modD (f2 subD (fC (.int 0)) (fV 1)) (fBlt lenG (fCons (fV 0) fNil))))
  (fRet (f2 addD (fSl (fV 0) (fPo (fV 2)) fNo) (fSl (fV 0) fNo (fPo (fV 2))))))
noncomputable def n_turned : List D → Option D := semOf 3 2 m_turned
noncomputable def m_least_turn : En → Option Fl :=
  (fRet (fBlt minG (fCons (fLc (fRng1 (fCons (fBlt lenG (fCons (fV 0) fNil)) fNil)) (gN 1) fYes (fCall n_turned (fCons (fV 0) (fCons (fV 1) fNil))) [1]) fNil)))
noncomputable def n_least_turn : List D → Option D := semOf 2 1 m_least_turn
noncomputable def m_are_turns : En → Option Fl :=
  (fRet (fAndV (f2 eqD (fBlt lenG (fCons (fV 0) fNil)) (fBlt lenG (fCons (fV 1) fNil))) (f2 eqD (fCall n_least_turn (fCons (fV 0) fNil)) (fCall n_least_turn (fCons (fV 1) fNil)))))
noncomputable def n_are_turns : List D → Option D := semOf 2 2 m_are_turns
theorem in_li (i : Int) (ns : List Int) : inD (.int i) (.lst (ns.map D.int)) = some (.bl (ns.any fun n => decide (n = i))) := by
  unfold inD inB
  have h1 : ok60 (.int i) = true := rfl
  have h2 : ((ns.map D.int).all fun d => okN 60 d) = true := by
    rw [List.all_eq_true]
    intro x hx
    obtain ⟨n, _, rfl⟩ := List.mem_map.mp hx
    rfl
  have h3 : ((ns.map D.int).any fun d => eqv d (.int i)) = ns.any fun n => decide (n = i) := by
    rw [List.any_map]
    exact congrArg (fun f => ns.any f) (funext fun n => eqv_i n i)
  simp only [h1, h2, and_self, if_true, Option.bind_some, h3]
def spreadL (m s : Nat) : List Nat := (List.range s).map fun i => if ((List.range m).any fun k => decide (k * s / m = i)) then 120 else 46
theorem sum_ones {α : Type} (f : α → List Nat) (h : ∀ x, (f x).length = 1) : ∀ xs : List α, ((xs.map f).map List.length).sum = xs.length
  | [] => rfl
  | x :: xs => by rw [List.map_cons, List.map_cons, List.sum_cons, h x, sum_ones f h xs, List.length_cons, Nat.add_comm]
theorem flat_ones {α : Type} (f : α → Nat) : ∀ xs : List α, (xs.map fun x => [f x]).flatten = xs.map f
  | [] => rfl
  | x :: xs => by rw [List.map_cons, List.flatten_cons, flat_ones f xs]; rfl
theorem e_spread {m s : Nat} (hm : m ≤ 1000) (hs : s ≤ 1000) : n_spread [.int m, .int s] = some (.str (spreadL m s)) := by
  refine sem_rt rfl ?_
  show m_spread [some (.int m), some (.int s), none, none, none] = _
  unfold m_spread
  have h1 : fLc (fRng1 (fCons (fV 0) fNil)) (gN 3) fYes (f2 fdivD (f2 mulD (fV 3) (fV 1)) (fV 0)) [3] [some (.int m), some (.int s), none, none, none] = some (.lst (((List.range m).map fun k => ((k * s / m : Nat) : Int)).map D.int)) := by
    refine lcw (v_rng1 (by walk_at "dn") (by omega)) (by simp; omega) ?_
    rw [List.map_map]
    refine lc_map (fun i : Nat => .int (i : Nat)) _ _ fun k hk => ⟨_, rfl, ?_⟩
    have hk := List.mem_range.mp hk
    have e : (((k * s / m : Nat) : Nat) : Int) = (k : Int) * (s : Int) / (m : Int) := by simp
    show _ = some (D.int ((k * s / m : Nat) : Int))
    rw [e]
    show f2 fdivD (f2 mulD (fV 3) (fV 1)) (fV 0) [some (.int m), some (.int s), none, some (.int (k : Nat)), none] = _
    walk_at "dn"
  refine w_seq (w_set h1 rfl) (ret_of ?_)
  generalize hp : ((List.range m).map fun k => ((k * s / m : Nat) : Int)) = ps
  have h2 : fLc (fRng1 (fCons (fV 1) fNil)) (gN 4) fYes (f2 ixD (fLst (fCons (fC (.str [46])) (fCons (fC (.str [120])) fNil))) (fBlt intG (fCons (f2 inD (fV 4) (fV 2)) fNil))) [4] [some (.int m), some (.int s), some (.lst (ps.map D.int)), none, none] = some (.lst (((List.range s).map fun i : Nat => [if (ps.any fun n => decide (n = (i : Int))) then 120 else 46]).map D.str)) := by
    refine lcw (v_rng1 (by walk_at "dn") (by omega)) (by simp; omega) ?_
    rw [List.map_map]
    refine lc_map (fun i : Nat => .int (i : Nat)) _ _ fun k hk => ⟨_, rfl, ?_⟩
    show f2 ixD (fLst (fCons (fC (.str [46])) (fCons (fC (.str [120])) fNil))) (fBlt intG (fCons (f2 inD (fV 4) (fV 2)) fNil)) [some (.int m), some (.int s), some (.lst (ps.map D.int)), none, some (.int (k : Nat))] = some (D.str [if (ps.any fun n => decide (n = (k : Int))) then 120 else 46])
    have hi := in_li (k : Int) ps
    refine v_2 (by walk_at "dn") (v_blt (v_cons (v_2 (by walk_at "dn") (by walk_at "dn") hi) v_nil) (int_b _)) ?_
    cases (ps.any fun n => decide (n = (k : Int))) <;> rfl
  refine v_m1 v_c h2 ?_
  rw [join_l]
  · rw [joinL_nil, flat_ones]
    refine congrArg (fun l => some (D.str l)) ?_
    unfold spreadL
    apply List.map_congr_left
    intro i _
    have e3 : (ps.any fun n => decide (n = (i : Int))) = (List.range m).any fun k => decide (k * s / m = i) := by
      rw [← hp, List.any_map]
      exact congrArg (fun f => (List.range m).any f) (funext fun k => decide_eq_decide.mpr ⟨fun q => Int.ofNat.inj q, fun q => congrArg Int.ofNat q⟩)
    rw [e3]
  · rw [sum_ones _ fun _ => rfl]
    simp
    omega
def rotL (row : List Nat) (by' : Int) : List Nat := row.drop ((0 - by') % row.length).toNat ++ row.take ((0 - by') % row.length).toNat
theorem e_turned {row : List Nat} {by' : Int} (h : 0 < row.length) (h2 : row.length ≤ 100000) : n_turned [.str row, .int by'] = some (.str (rotL row by')) := by
  refine sem_rt rfl ?_
  show m_turned [some (.str row), some (.int by'), none] = _
  unfold m_turned
  refine w_seq (w_set (by walk_at "dn") rfl) ?_
  refine ret_of ?_
  obtain ⟨n, hn, hn2⟩ : ∃ n : Nat, (n : Int) = (0 - by') % row.length ∧ n < row.length := by
    have := Int.emod_nonneg (0 - by') (show (row.length : Int) ≠ 0 by omega)
    have := Int.emod_lt_of_pos (0 - by') (show (0 : Int) < (row.length : Int) by omega)
    exact ⟨((0 - by') % row.length).toNat, by omega, by omega⟩
  unfold rotL
  rw [← hn]
  have e1 : slD (.str row) (some (n : Int)) none = some (.str (row.drop n)) := by rw [sl_s (by omega), cut_from]
  have e2 : slD (.str row) none (some (n : Int)) = some (.str (row.take n)) := by rw [sl_s (by omega), cut_to]
  refine v_2 (v_sl (by walk_at "dn") (by walk_at "dn") v_no e1) (v_sl (by walk_at "dn") v_no (by walk_at "dn") e2) (add_s ?_)
  rw [List.length_drop, List.length_take]
  omega
def turnsL (row : List Nat) : List (List Nat) := (List.range row.length).map fun k => rotL row (k : Nat)
def leastL (row : List Nat) : List Nat := match turnsL row with
  | [] => []
  | x :: xs => minOf ltS x xs
theorem turnsL_ne {row : List Nat} (h : 0 < row.length) : ∃ x xs, turnsL row = x :: xs ∧ leastL row = minOf ltS x xs := by
  cases e : turnsL row with
  | nil =>
    have := congrArg List.length e
    unfold turnsL at this
    simp at this
    rw [this] at h
    simp at h
  | cons x xs => exact ⟨x, xs, rfl, by unfold leastL; rw [e]⟩
theorem e_least {row : List Nat} (h : 0 < row.length) (h2 : row.length ≤ 1000) : n_least_turn [.str row] = some (.str (leastL row)) := by
  refine sem_rt rfl ?_
  show m_least_turn [some (.str row), none] = _
  unfold m_least_turn
  refine ret_of ?_
  obtain ⟨x, xs, e1, e2⟩ := turnsL_ne h
  have h1 : fLc (fRng1 (fCons (fBlt lenG (fCons (fV 0) fNil)) fNil)) (gN 1) fYes (fCall n_turned (fCons (fV 0) (fCons (fV 1) fNil))) [1] [some (.str row), none] = some (.lst ((turnsL row).map D.str)) := by
    refine lcw (v_rng1 (by walk_at "dn") (by omega)) (by simp; omega) ?_
    unfold turnsL
    rw [List.map_map]
    refine lc_map (fun i : Nat => .int (i : Nat)) _ _ fun k hk => ⟨_, rfl, ?_⟩
    show fCall n_turned (fCons (fV 0) (fCons (fV 1) fNil)) [some (.str row), some (.int (k : Nat))] = some (D.str (rotL row (k : Nat)))
    exact v_call (by walk_at "dn") (e_turned h (by omega))
  rw [e2]
  rw [e1] at h1
  exact v_blt (v_cons h1 v_nil) min_s
theorem e_are {one other : List Nat} (h : 0 < one.length) (h2 : one.length ≤ 1000) (h3 : 0 < other.length) (h4 : other.length ≤ 1000) : n_are_turns [.str one, .str other] = some (.bl (decide (one.length = other.length) && decide (leastL one = leastL other))) := by
  refine sem_rt rfl ?_
  show m_are_turns [some (.str one), some (.str other)] = _
  unfold m_are_turns
  refine ret_of ?_
  by_cases hl : one.length = other.length
  · rw [decide_eq_true hl, Bool.true_and]
    refine v_andVt ?_ (v_2 (v_call (by walk_at "dn") (e_least h h2)) (v_call (by walk_at "dn") (e_least h3 h4)) (eq_s _ _))
    have : (true : Bool) = decide ((one.length : Int) = (other.length : Int)) := (decide_eq_true (by omega)).symm
    rw [this]
    walk_at "dn"
  · rw [decide_eq_false hl, Bool.false_and]
    refine v_andVf ?_
    have : (false : Bool) = decide ((one.length : Int) = (other.length : Int)) := (decide_eq_false (by omega)).symm
    rw [this]
    walk_at "dn"
end Dn
set_option Elab.async false
set_option linter.all false
set_option maxRecDepth 100000
/-! Part G: zip and enumerate over lists, tuples, texts. -/
namespace Dn
open PySem L2 PySem.Spec PyProof.Rows

/-- a thing that is walked -/
inductive Sr where
  | l (a : Addr) (xs : List V) | t (a : Addr) (xs : List V) | s (z : Str) (u : Tok)
def Sr.cond (K : PySem.W.Frag) (H : Hp) : Sr → Prop
  | .l a xs => SqL K H a xs
  | .t a xs => SqT K H a xs
  | .s _ _ => True
def Sr.vals : Sr → List V
  | .l _ xs => xs
  | .t _ xs => xs
  | .s z _ => z.cps.toList.map fun c => V.str ⟨#[c]⟩
def Sr.at (it : Addr) (i : Nat) (h : Heap) : Sr → Prop
  | .l a _ => h.IsListIter it a i
  | .t a _ => h.IsTupleIter it a i
  | .s z u => h.IsStrIter it (strIterType z) z u i
def Sr.val : Sr → Value → Prop
  | .l a _, v => v = .ref a
  | .t a _, v => v = .ref a
  | .s z u, v => v = .str z u
def Sr.ob : Sr → Obj
  | .l a _ => { cls := .type "list_iterator", data := .fields #[.ref a, .int 0 0] }
  | .t a _ => { cls := .type "tuple_iterator", data := .fields #[.ref a, .int 0 0] }
  | .s z u => { cls := .type (strIterType z), data := .fields #[.str z u, .int 0 0] }
theorem Sr.is_obj {it : Addr} {i : Nat} {h : Heap} : ∀ {r : Sr}, r.at it i h → ∃ o, h.get? it = some o ∧ ∀ v, o.data ≠ .cell v
  | .l a xs, ⟨o, ho, _, hd⟩ => ⟨o, ho, fun v q => by rw [hd] at q; cases q⟩
  | .t a xs, ⟨o, ho, _, hd⟩ => ⟨o, ho, fun v q => by rw [hd] at q; cases q⟩
  | .s z u, ⟨o, ho, _, hd⟩ => ⟨o, ho, fun v q => by rw [hd] at q; cases q⟩
theorem Sr.stay {it : Addr} {i : Nat} {h h' : Heap} (k : ∀ o, h.get? it = some o → h'.get? it = some o) : ∀ {r : Sr}, r.at it i h → r.at it i h'
  | .l a xs, ⟨o, ho, q⟩ => ⟨o, k o ho, q⟩
  | .t a xs, ⟨o, ho, q⟩ => ⟨o, k o ho, q⟩
  | .s z u, ⟨o, ho, q⟩ => ⟨o, k o ho, q⟩
theorem Sr.at0 {it : Addr} {h : Heap} : ∀ {r : Sr}, h.get? it = some r.ob → r.at it 0 h
  | .l a xs, e => ⟨_, e, rfl, rfl⟩
  | .t a xs, e => ⟨_, e, rfl, rfl⟩
  | .s z u, e => ⟨_, e, rfl, rfl⟩
section
variable {X : Cx} {pins : List (Addr × Obj)} {σ : L2.St} {H : Hp} {s : Shared}
theorem sqT_ne (I : Inv X pins σ H s) {a : Addr} {xs : List V} (h : SqT X.K H a xs) {b : Addr} (f : FpOk X pins H b) : a ≠ b := fun e => by
  subst e
  rcases h with (h | ⟨o, h⟩) | ⟨o, its, n, hk, _⟩
  · rw [f.1] at h; cases h
  · rw [f.1] at h; cases h
  · have hb := I.ok.mod.kin _ _ hk
    rcases f.2.2.2.1 with z | z
    · exact I.ok.noex _ _ hb z
    · exact absurd (Nat.lt_of_lt_of_le (Heap.lt_size hb) (Nat.le_trans I.ok.bsz z)) (Nat.lt_irrefl _)
theorem sqL_ne (I : Inv X pins σ H s) {a : Addr} {xs : List V} (h : SqL X.K H a xs) {b : Addr} (f : FpOk X pins H b) : a ≠ b := fun e => by
  subst e
  rcases h with (h | ⟨o, h⟩) | ⟨o, its, n, hk, _⟩
  · rw [f.1] at h; cases h
  · rw [f.1] at h; cases h
  · have hb := I.ok.mod.kin _ _ hk
    rcases f.2.2.2.1 with z | z
    · exact I.ok.noex _ _ hb z
    · exact absurd (Nat.lt_of_lt_of_le (Heap.lt_size hb) (Nat.le_trans I.ok.bsz z)) (Nat.lt_irrefl _)
/-- what its iterator draws, as things stand -/
theorem Sr.draws (I : Inv X pins σ H s) (hc : X.calm = true) (r : Sr) (c : r.cond X.K H) {it : Addr} (f : FpOk X pins H it) :
    ∃ (fp : List Addr) (Pr : Nat → Value → Prop) (hr : Heap → Prop), Draws X.prog X.w X.A.in1 it (it :: fp) r.vals.length Pr (fun i h => r.at it i h ∧ hr h) ∧ hr s.heap ∧ (∀ j v, Pr j v → ∃ x, r.vals[j]? = some x ∧ RelV x v) ∧ ∀ b ∈ fp, ∀ e, FpOk X pins H e → b ≠ e := by
  cases r with
  | l a xs =>
    obtain ⟨its, rv, p, _⟩ := I.list c
    refine ⟨[a], _, _, by have := Draws.list (prog := X.prog) (w := X.w) (A := X.A.in1) (I.ok.hd hc) it a (sqL_ne I c f) its.toArray; rw [List.size_toArray, ← rv.length] at this; exact this, p.isList, fun j v e => ?_, fun b hb e fe => ?_⟩
    · have e : its[j]? = some v := by simpa using e
      have hj := (List.getElem?_eq_some_iff.mp e).1
      have hl := rv.length
      obtain ⟨u, h1, h2⟩ := rv.get (List.getElem?_eq_getElem (show j < xs.length by omega))
      rw [e] at h1
      cases h1
      exact ⟨_, List.getElem?_eq_getElem (by show j < xs.length; omega), h2⟩
    · have : b = a := by simpa using hb
      subst this
      exact sqL_ne I c fe
  | t a xs =>
    obtain ⟨its, rv, p, _⟩ := I.tuple c
    refine ⟨[a], _, _, by have := Draws.tuple (prog := X.prog) (w := X.w) (A := X.A.in1) (I.ok.hd hc) it a (sqT_ne I c f) its.toArray; rw [List.size_toArray, ← rv.length] at this; exact this, p, fun j v e => ?_, fun b hb e fe => ?_⟩
    · have e : its[j]? = some v := by simpa using e
      have hj := (List.getElem?_eq_some_iff.mp e).1
      have hl := rv.length
      obtain ⟨u, h1, h2⟩ := rv.get (List.getElem?_eq_getElem (show j < xs.length by omega))
      rw [e] at h1
      cases h1
      exact ⟨_, List.getElem?_eq_getElem (by show j < xs.length; omega), h2⟩
    · have : b = a := by simpa using hb
      subst this
      exact sqT_ne I c fe
  | s z u =>
    have D := Draws.text (prog := X.prog) (w := X.w) (A := X.A.in1) (I.ok.hd hc) it z u
    have len_s : ∀ {h : Heap}, Sr.at it (Sr.s z u).vals.length h (Sr.s z u) → h.IsStrIter it (strIterType z) z u z.cps.size := fun {h} y => by
      have e : (Sr.s z u).vals.length = z.cps.size := by simp [Sr.vals]
      rw [e] at y
      exact y
    refine ⟨[], _, fun _ => True, ⟨fun i h st => D.live i h st.1, fun i h h' st k => ⟨D.frame i h h' st.1 k, trivial⟩, fun i s Q E hi st q => D.item i s Q E (by simpa [Sr.vals] using hi) st.1 fun x h' tk a1 a2 a3 => q x h' tk a1 ⟨a2, trivial⟩ a3, fun s Q E st q => D.done s Q E (len_s st.1) q⟩, trivial, fun j v e => ?_, fun b hb => by cases hb⟩
    obtain ⟨c, u', e1, rfl⟩ := e
    refine ⟨.str ⟨#[c]⟩, ?_, ⟨u', rfl⟩⟩
    show (z.cps.toList.map _)[j]? = _
    rw [List.getElem?_map]
    have : z.cps.toList[j]? = some c := by simpa using e1
    rw [this]
    rfl
theorem Sr.begins (I : Inv X pins σ H s) : ∀ (r : Sr) (c : r.cond X.K H) {v : Value}, r.val v → ∃ hr : Heap → Prop, Begins v r.ob hr ∧ hr s.heap
  | .l a xs, c, v, e => by
    obtain ⟨its, rv, p, _⟩ := I.list c
    cases e
    exact ⟨_, begins_list a its.toArray, p.isList⟩
  | .t a xs, c, v, e => by
    obtain ⟨its, rv, p, _⟩ := I.tuple c
    cases e
    exact ⟨_, begins_tuple a its.toArray, p⟩
  | .s z u, c, v, e => by
    cases e
    exact ⟨_, begins_text z u, trivial⟩
end
/-- new tuples, one a turn -/
def itJ (n : Nat) (rows : Nat → List V) (cond : Hp → Prop) : It :=
  ⟨fun i H => i < n ∧ cond H, fun i H v H' => ∃ T, v = .ref T ∧ H T = none ∧ H' = upd H T (.tup (rows i)), fun i H => i = n ∧ cond H⟩
theorem turn_j {P : Program} {w : World} {K : PySem.W.Frag} {elts : List Expr} {k : Nat} {pos : Pos} {n : Nat} {rows : Nat → List V} {cond : Hp → Prop} {fpT : List Addr} {I0 : Addr} {tn : Nat → Heap → Prop} (mem : I0 ∈ fpT)
    (obj : ∀ i h, tn i h → ∀ b ∈ fpT, ∃ o, h.get? b = some o ∧ ∀ v, o.data ≠ .cell v) (keep : ∀ i h h', tn i h → (∀ b ∈ fpT, ∀ o, h.get? b = some o → h'.get? b = some o) → tn i h') (hsz : ∀ i, (rows i).length ≤ sizeLine)
    (W : ∀ (X : Cx) (pins : List (Addr × Obj)) (σ : L2.St) (H : Hp) (s : Shared), X.prog = P → X.w = w → X.K = K → X.calm = true → Inv X pins σ H s → (∀ b ∈ fpT, FpOk X pins H b) → cond H → ∀ i, tn i s.heap →
      ∃ fp wr Y St, GoesN P w X.A (.Tuple elts k pos) I0 fp wr n Y St ∧ St i s.heap ∧ (∀ b ∈ wr, b ∈ fpT) ∧ (∀ j h, St j h → tn j h) ∧ ∀ j h0 v h, j < n → Y j h0 v h → ∃ T vals, v = .ref T ∧ h0.objs.size ≤ T ∧ h.IsTuple T vals ∧ Vals (rows j) vals.toList)
    (self : ∀ (A : Around) (i : Nat) (s : Shared) (Q : Value → Shared → Prop) (E : Value → Shared → Prop), tn i s.heap → Q (.ref I0) s → wpAny (model P w) A (pyIter (.ref I0)) Q E s) :
    Turn P w K (.Tuple elts k pos) (itJ n rows cond) fpT I0 tn where
  mem := mem
  obj := obj
  keep := keep
  self := self
  item := by
    intro X hP hw hK hc i pins s σ H E I hf st hg
    obtain ⟨hi, hcd⟩ := hg
    obtain ⟨fp, wr, Y, St, G, s0, hwr, hst, hY⟩ := W X pins σ H s hP hw hK hc I hf hcd i st
    subst hP hw hK
    have old : ∀ b ∈ fpT, b < s.heap.objs.size := fun b hb => by
      obtain ⟨o, e, _⟩ := obj i s.heap st b hb
      exact Heap.lt_size e
    have g := G.goes i s (fun v s2 => ∃ x H', Inv X pins σ H' s2 ∧ RelV x v ∧ (itJ n rows cond).yld i H x H' ∧ tn (i + 1) s2.heap ∧ ∀ b ∈ fpT, H' b = none) E hi s0 fun v h' tk hy st' hk htk => by
      obtain ⟨T, vals, rfl, hT, hIs, hV⟩ := hY i s.heap v h' hi hy
      have I1 : Inv X pins σ (upd H T (.tup (rows i))) { s with heap := h', toks := tk } :=
        I.turnedNew (ch := fpT) (fun b o hb q => hk b o (fun z => hb (hwr b z)) q) hf hT ⟨hsz i, vals.toList, hV, by rw [show vals.toList.toArray = vals by simp]; exact hIs⟩
      refine ⟨.ref T, _, I1, rfl, ⟨T, rfl, I.hok.fresh hT, rfl⟩, hst _ _ st', fun b hb => ?_⟩
      rw [upd_ne (Nat.ne_of_lt (Nat.lt_of_lt_of_le (old b hb) hT))]
      exact (hf b hb).1
    exact g
  done := by
    intro X hP hw hK hc i pins s σ H E I hf st hg
    obtain ⟨hi, hcd⟩ := hg
    obtain ⟨fp, wr, Y, St, G, s0, hwr, hst, hY⟩ := W X pins σ H s hP hw hK hc I hf hcd i st
    subst hP hw hK
    subst hi
    exact G.stops s (fun s1 => Inv X pins σ H s1) E s0 fun h' tk hk _ => I.turnedL (ch := fpT) (fun b o hb q => hk b o (fun z => hb (hwr b z)) q) hf
theorem walk_j {K : PySem.W.Frag} {n : Nat} {rows : Nat → List V} {cond : Hp → Prop} {ds : List D} {Hb : Hp} (hn : ds.length = n) (hc : ∀ H, Same Hb H → cond H) (hr : ∀ (i : Nat) (d : D), ds[i]? = some d → ∃ es, d = .wk es ∧ IsL K Hb es (rows i)) : WalkD K (itJ n rows cond) ds Hb := fun Hb1 H1 s1 s2 => by
  refine ⟨fun i d e => ⟨⟨by have := (List.getElem?_eq_some_iff.mp e).1; omega, hc H1 (s1.trans s2)⟩, fun x H' hy => ?_⟩, ⟨hn, hc H1 (s1.trans s2)⟩⟩
  obtain ⟨T, rfl, hT, rfl⟩ := hy
  obtain ⟨es, rfl, il⟩ := hr i d e
  exact ⟨_, Step.new s2 hT, is_wk_new (s2.free hT) (il.mono s1)⟩

/-! ### zip of two -/
def pairs2 (xs ys : List V) (i : Nat) : List V := [xs.getD i .non, ys.getD i .non]
theorem turn_z2 {P : Program} {w : World} {K : PySem.W.Frag} {elts : List Expr} {k : Nat} {pos : Pos} (r1 r2 : Sr) (z TI TO i1 i2 : Addr) (hd : [z, TI, TO, i1, i2].Nodup) :
    Turn P w K (.Tuple elts k pos) (itJ (min r1.vals.length r2.vals.length) (pairs2 r1.vals r2.vals) fun H => r1.cond K H ∧ r2.cond K H) [z, TI, TO, i1, i2] z
      (fun i h => IsZip h z TI TO .none ∧ IsTupOf2 h TI (.ref i1) (.ref i2) ∧ (∃ a1 a2, IsTupOf2 h TO a1 a2) ∧ r1.at i1 i h ∧ r2.at i2 i h) := by
  refine turn_j (by simp) (fun i h st b hb => ?_) (fun i h h' st k => ?_) (fun i => by show 2 ≤ sizeLine; decide) (fun X pins σ H s hP hw hK hc I hf hcd i st => ?_) fun A i s Q E st q => wpAny_pyIter_zip st.1 q
  · obtain ⟨hz, hTI, ⟨x, y, hTO⟩, h1, h2⟩ := st
    have e' : b = z ∨ b = TI ∨ b = TO ∨ b = i1 ∨ b = i2 := by simpa using hb
    rcases e' with rfl | rfl | rfl | rfl | rfl
    · exact ⟨_, hz, fun v q => nomatch q⟩
    · exact ⟨_, hTI, fun v q => nomatch q⟩
    · exact ⟨_, hTO, fun v q => nomatch q⟩
    · exact Sr.is_obj h1
    · exact Sr.is_obj h2
  · obtain ⟨hz, hTI, ⟨x, y, hTO⟩, h1, h2⟩ := st
    exact ⟨k z (by simp) _ hz, k TI (by simp) _ hTI, ⟨x, y, k TO (by simp) _ hTO⟩, Sr.stay (k i1 (by simp)) h1, Sr.stay (k i2 (by simp)) h2⟩
  · obtain ⟨hz, hTI, hTO, h1, h2⟩ := st
    subst hP hw hK
    obtain ⟨fp1, P1, q1, D1, v1, e1, n1⟩ := r1.draws I hc hcd.1 (hf i1 (by simp))
    obtain ⟨fp2, P2, q2, D2, v2, e2, n2⟩ := r2.draws I hc hcd.2 (hf i2 (by simp))
    have no1 : ∀ b ∈ [z, TI, TO, i1, i2], b ∉ fp1 := fun b hb m => n1 b m b (hf b hb) rfl
    have no2 : ∀ b ∈ [z, TI, TO, i1, i2], b ∉ fp2 := fun b hb m => n2 b m b (hf b hb) rfl
    simp only [List.nodup_cons, List.mem_cons, List.not_mem_nil, or_false, not_or, List.nodup_nil, and_true, not_false_eq_true] at hd
    obtain ⟨⟨a1, a2, a3, a4⟩, ⟨b1, b2, b3⟩, ⟨c1, c2⟩, d1⟩ := hd
    have S2 : ZipSep2 z TI TO i1 i2 (i1 :: fp1) (i2 :: fp2) := ⟨fun q => a1 q.symm, fun q => a2 q.symm, b1, b2, List.mem_cons_self, by simp only [List.mem_cons, not_or]; exact ⟨a3, no1 z (by simp)⟩, by simp only [List.mem_cons, not_or]; exact ⟨c1, no1 TO (by simp)⟩, b3, List.mem_cons_self,
      by simp only [List.mem_cons, not_or]; exact ⟨a4, no2 z (by simp)⟩, by simp only [List.mem_cons, not_or]; exact ⟨c2, no2 TO (by simp)⟩, by simp only [List.mem_cons, not_or]; exact ⟨d1, no2 i1 (by simp)⟩, by simp only [List.mem_cons, not_or]; exact ⟨fun q => d1 q.symm, no1 i2 (by simp)⟩⟩
    refine ⟨_, _, _, _, GoesN.zip2 S2 D1 D2, ⟨hz, hTI, hTO, ⟨h1, v1⟩, ⟨h2, v2⟩⟩, fun b hb => ?_, fun j h st => ⟨st.1, st.2.1, st.2.2.1, st.2.2.2.1.1, st.2.2.2.2.1⟩, fun j h0 v h hj hy => ?_⟩
    · have e' : b = z ∨ b = TO ∨ b = i1 ∨ b = i2 := by simpa using hb
      rcases e' with rfl | rfl | rfl | rfl <;> simp
    · obtain ⟨T, x, y, ev, hT, p1, p2, hIs⟩ := hy
      obtain ⟨x', g1, g2⟩ := e1 j x p1
      obtain ⟨y', g3, g4⟩ := e2 j y p2
      refine ⟨T, _, ev, hT, hIs, ?_⟩
      show Vals [r1.vals.getD j .non, r2.vals.getD j .non] [x, y]
      rw [List.getD_eq_getElem?_getD, List.getD_eq_getElem?_getD, g1, g3]
      exact .cons g2 (.cons g4 .nil)
theorem turn_z3 {P : Program} {w : World} {K : PySem.W.Frag} {elts : List Expr} {k : Nat} {pos : Pos} (r1 r2 r3 : Sr) (z TI TO i1 i2 i3 : Addr) (hd : [z, TI, TO, i1, i2, i3].Nodup) :
    Turn P w K (.Tuple elts k pos) (itJ (min (min r1.vals.length r2.vals.length) r3.vals.length) (fun i => [r1.vals.getD i .non, r2.vals.getD i .non, r3.vals.getD i .non]) fun H => r1.cond K H ∧ r2.cond K H ∧ r3.cond K H) [z, TI, TO, i1, i2, i3] z
      (fun i h => IsZip h z TI TO .none ∧ IsTupOf3 h TI (.ref i1) (.ref i2) (.ref i3) ∧ (∃ a1 a2 a3, IsTupOf3 h TO a1 a2 a3) ∧ r1.at i1 i h ∧ r2.at i2 i h ∧ r3.at i3 i h) := by
  refine turn_j (by simp) (fun i h st b hb => ?_) (fun i h h' st k => ?_) (fun i => by show 3 ≤ sizeLine; decide) (fun X pins σ H s hP hw hK hc I hf hcd i st => ?_) fun A i s Q E st q => wpAny_pyIter_zip st.1 q
  · obtain ⟨hz, hTI, ⟨x, y, u, hTO⟩, h1, h2, h3⟩ := st
    have e' : b = z ∨ b = TI ∨ b = TO ∨ b = i1 ∨ b = i2 ∨ b = i3 := by simpa using hb
    rcases e' with rfl | rfl | rfl | rfl | rfl | rfl
    · exact ⟨_, hz, fun v q => nomatch q⟩
    · exact ⟨_, hTI, fun v q => nomatch q⟩
    · exact ⟨_, hTO, fun v q => nomatch q⟩
    · exact Sr.is_obj h1
    · exact Sr.is_obj h2
    · exact Sr.is_obj h3
  · obtain ⟨hz, hTI, ⟨x, y, u, hTO⟩, h1, h2, h3⟩ := st
    exact ⟨k z (by simp) _ hz, k TI (by simp) _ hTI, ⟨x, y, u, k TO (by simp) _ hTO⟩, Sr.stay (k i1 (by simp)) h1, Sr.stay (k i2 (by simp)) h2, Sr.stay (k i3 (by simp)) h3⟩
  · obtain ⟨hz, hTI, hTO, h1, h2, h3⟩ := st
    subst hP hw hK
    obtain ⟨fp1, P1, q1, D1, v1, e1, n1⟩ := r1.draws I hc hcd.1 (hf i1 (by simp))
    obtain ⟨fp2, P2, q2, D2, v2, e2, n2⟩ := r2.draws I hc hcd.2.1 (hf i2 (by simp))
    obtain ⟨fp3, P3, q3, D3, v3, e3, n3⟩ := r3.draws I hc hcd.2.2 (hf i3 (by simp))
    have no1 : ∀ b ∈ [z, TI, TO, i1, i2, i3], b ∉ fp1 := fun b hb m => n1 b m b (hf b hb) rfl
    have no2 : ∀ b ∈ [z, TI, TO, i1, i2, i3], b ∉ fp2 := fun b hb m => n2 b m b (hf b hb) rfl
    have no3 : ∀ b ∈ [z, TI, TO, i1, i2, i3], b ∉ fp3 := fun b hb m => n3 b m b (hf b hb) rfl
    simp only [List.nodup_cons, List.mem_cons, List.not_mem_nil, or_false, not_or, List.nodup_nil, and_true, not_false_eq_true] at hd
    obtain ⟨⟨a1, a2, a3, a4, a5⟩, ⟨b1, b2, b3, b4⟩, ⟨c1, c2, c3⟩, ⟨d1, d2⟩, f1⟩ := hd
    have mk : ∀ {b i : Addr} {fp : List Addr}, b ≠ i → b ∉ fp → b ∉ i :: fp := fun h1 h2 => by simp only [List.mem_cons, not_or]; exact ⟨h1, h2⟩
    have S3 : ZipSep3 z TI TO i1 i2 i3 (i1 :: fp1) (i2 :: fp2) (i3 :: fp3) :=
      { TIz := fun q => a1 q.symm, TOz := fun q => a2 q.symm, TITO := b1, TIi1 := b2, mem1 := List.mem_cons_self, zf1 := mk a3 (no1 z (by simp)), Tf1 := mk c1 (no1 TO (by simp)), TIi2 := b3, mem2 := List.mem_cons_self, zf2 := mk a4 (no2 z (by simp)), Tf2 := mk c2 (no2 TO (by simp)),
        TIi3 := b4, mem3 := List.mem_cons_self, zf3 := mk a5 (no3 z (by simp)), Tf3 := mk c3 (no3 TO (by simp)), sep1_2 := mk d1 (no2 i1 (by simp)), sep1_3 := mk d2 (no3 i1 (by simp)), sep2_1 := mk (fun q => d1 q.symm) (no1 i2 (by simp)), sep2_3 := mk f1 (no3 i2 (by simp)),
        sep3_1 := mk (fun q => d2 q.symm) (no1 i3 (by simp)), sep3_2 := mk (fun q => f1 q.symm) (no2 i3 (by simp)) }
    refine ⟨_, _, _, _, GoesN.zip3 S3 D1 D2 D3, ⟨hz, hTI, hTO, ⟨h1, v1⟩, ⟨h2, v2⟩, ⟨h3, v3⟩⟩, fun b hb => ?_, fun j h st => ⟨st.1, st.2.1, st.2.2.1, st.2.2.2.1.1, st.2.2.2.2.1.1, st.2.2.2.2.2.1⟩, fun j h0 v h hj hy => ?_⟩
    · have e' : b = z ∨ b = TO ∨ b = i1 ∨ b = i2 ∨ b = i3 := by simpa using hb
      rcases e' with rfl | rfl | rfl | rfl | rfl <;> simp
    · obtain ⟨T, x, y, u, ev, hT, p1, p2, p3, hIs⟩ := hy
      obtain ⟨x', g1, g2⟩ := e1 j x p1
      obtain ⟨y', g3, g4⟩ := e2 j y p2
      obtain ⟨u', g5, g6⟩ := e3 j u p3
      refine ⟨T, _, ev, hT, hIs, ?_⟩
      show Vals [r1.vals.getD j .non, r2.vals.getD j .non, r3.vals.getD j .non] [x, y, u]
      rw [List.getD_eq_getElem?_getD, List.getD_eq_getElem?_getD, List.getD_eq_getElem?_getD, g1, g3, g5]
      exact .cons g2 (.cons g4 (.cons g6 .nil))
theorem turn_en {P : Program} {w : World} {K : PySem.W.Frag} {elts : List Expr} {k : Nat} {pos : Pos} (r1 : Sr) (e it : Addr) (hd : e ≠ it) :
    Turn P w K (.Tuple elts k pos) (itJ r1.vals.length (fun i => [.int ((i : Nat) : Int), r1.vals.getD i .non]) fun H => r1.cond K H) [e, it] e
      (fun i h => (∃ old, IsEnum h e it (0 + (i : Int)) old) ∧ r1.at it i h) := by
  refine turn_j (by simp) (fun i h st b hb => ?_) (fun i h h' st k => ?_) (fun i => by show 2 ≤ sizeLine; decide) (fun X pins σ H s hP hw hK hc I hf hcd i st => ?_) fun A i s Q E st q => wpAny_pyIter_enum st.1.choose_spec q
  · obtain ⟨⟨old, he⟩, h1⟩ := st
    have e' : b = e ∨ b = it := by simpa using hb
    rcases e' with rfl | rfl
    · exact ⟨_, he, fun v q => nomatch q⟩
    · exact Sr.is_obj h1
  · obtain ⟨⟨old, he⟩, h1⟩ := st
    exact ⟨⟨old, k e (by simp) _ he⟩, Sr.stay (k it (by simp)) h1⟩
  · obtain ⟨he, h1⟩ := st
    subst hP hw hK
    obtain ⟨fp1, P1, q1, D1, v1, e1, n1⟩ := r1.draws I hc hcd (hf it (by simp))
    have ne : e ∉ it :: fp1 := by simp only [List.mem_cons, not_or]; exact ⟨hd, fun m => n1 e m e (hf e (by simp)) rfl⟩
    refine ⟨_, _, _, _, GoesN.enumFrom 0 D1 e hd ne List.mem_cons_self, ⟨he, h1, v1⟩, fun b hb => by simpa using hb, fun j h st => ⟨st.1, st.2.1⟩, fun j h0 v h hj hy => ?_⟩
    obtain ⟨T, t, x, ev, hT, p1, hIs⟩ := hy
    obtain ⟨x', g1, g2⟩ := e1 j x p1
    refine ⟨T, _, ev, hT, hIs, ?_⟩
    show Vals [.int (j : Int), r1.vals.getD j .non] [.int (0 + (j : Int)) t, x]
    rw [List.getD_eq_getElem?_getD, g1, Int.zero_add]
    exact .cons ⟨t, rfl⟩ (.cons g2 .nil)

/-! ### the source of a plain thing -/
theorem src_of {K : PySem.W.Frag} {Hb : Hp} {d : D} {v : V} {u : Value} {xs : List D} (h : Is K Hb d v) (e : itemsD d = some xs) (r : RelV v u) : ∃ q : Sr, q.val u ∧ (∀ H, Same Hb H → q.cond K H) ∧ IsL K Hb xs q.vals := by
  cases d with
  | tup ds =>
    cases e
    simp only [Is] at h
    obtain ⟨p, vs, rfl, hx, lx⟩ := h
    exact ⟨.t p vs, r, fun H sm => (hx.mono sm).sq, lx⟩
  | wk ds =>
    cases e
    simp only [Is] at h
    obtain ⟨p, vs, rfl, hx, lx⟩ := h
    exact ⟨.t p vs, r, fun H sm => sq_mono sm hx, lx⟩
  | lst ds =>
    cases e
    simp only [Is] at h
    obtain ⟨p, vs, rfl, hx, lx⟩ := h
    exact ⟨.l p vs, r, fun H sm => .inl (.inl (sm _ _ hx)), lx⟩
  | str l =>
    cases e
    simp only [Is] at h
    subst h
    obtain ⟨t, rfl⟩ := r
    refine ⟨.s (S l) t, rfl, fun _ _ => trivial, ?_⟩
    show IsL K Hb (l.map fun c => D.str [c]) (l.map fun c => V.str ⟨#[c]⟩)
    induction l with
    | nil => simp [IsL]
    | cons c l ih =>
      simp only [List.map_cons, IsL, Is]
      exact ⟨_, _, rfl, rfl, ih⟩
  | _ => cases e
theorem isl_getD {K : PySem.W.Frag} {Hb : Hp} {xs : List D} {vs : List V} (h : IsL K Hb xs vs) {i : Nat} {x : D} (e : xs[i]? = some x) : Is K Hb x (vs.getD i .non) := by
  obtain ⟨v, a, b⟩ := h.get e
  rw [List.getD_eq_getElem?_getD, a]
  exact b
def zip2D (xs ys : List D) : List D := List.zipWith (fun x y => D.wk [x, y]) xs ys
def zip3D (xs ys zs : List D) : List D := List.zipWith (fun x (p : D × D) => D.wk [x, p.1, p.2]) xs (ys.zip zs)
def enumD (xs : List D) : List D := List.zipWith (fun (i : Nat) x => D.wk [.int (i : Nat), x]) (List.range xs.length) xs
def fZip2 (fa fb : En → Option D) : En → Option (List D) := fun env => (fa env).bind fun a => (fb env).bind fun b => (itemsD a).bind fun xs => (itemsD b).bind fun ys => some (zip2D xs ys)
def fZip3 (fa fb fc : En → Option D) : En → Option (List D) := fun env => (fa env).bind fun a => (fb env).bind fun b => (fc env).bind fun c => (itemsD a).bind fun xs => (itemsD b).bind fun ys => (itemsD c).bind fun zs => some (zip3D xs ys zs)
def fEnum (fa : En → Option D) : En → Option (List D) := fun env => (fa env).bind fun a => (itemsD a).bind fun xs => some (enumD xs)
section
variable {X : Cx} {a b c e : Expr} {elts : List Expr} {kk : Nat} {p pos tpos : Pos} {fa fb fc : En → Option D}
theorem i_zip2 (hm : X.mg "zip" = none) (ha : PE X a (tD X.K fa)) (hb : PE X b (tD X.K fb)) (hg : Gl X "zip" := by rfl) (hs : starEach [a, b] X.env = (false, eval a X.env) :: starEach [b] X.env := by rfl) (hs2 : starEach [b] X.env = (false, eval b X.env) :: starEach [] X.env := by rfl) (hpl : (backTo pos (starEach [b] X.env)).any (·.1) = false := by rfl) :
    PI X (.Tuple elts kk tpos) (.Call (.Name "zip" p) [a, b] [] pos) (tI X.K (fZip2 fa fb)) := ⟨fun pins s σ H R I h => by
  obtain ⟨H0, env, Hb, ds, r, sm, ef, q⟩ := h
  obtain ⟨da, ea, ef⟩ := bind1 ef
  obtain ⟨db, eb, ef⟩ := bind1 ef
  obtain ⟨xs, ex, ef⟩ := bind1 ef
  obtain ⟨ys, ey, ef⟩ := bind1 ef
  cases ef
  have hA : PA X [a, b] (tA X.K (fCons fa (fCons fb fNil))) := a_cons ha (a_cons hb a_nil hs2) hs
  refine Call_ (ld_blt I hg hm PyProof.Rows.boot_zip (PyProof.Rows.callWith_type1 (thn (hA.run pos pins s σ H (fun vs H1 => ∃ Hb1, Step Hb H Hb1 H1 ∧ IsL X.K Hb1 [da, db] vs) I ⟨H0, env, Hb, [da, db], r, sm, by unfold fCons fNil; rw [ea, eb]; rfl, fun vs Hb1 H1 s1 iv => ⟨Hb1, s1, iv⟩⟩) fun us s1 ⟨vs, H1, I1, rv, Hb1, st1, iv⟩ => ?_) hs hpl))
  obtain ⟨v1, v2, rfl, i1, i2⟩ := isl2 iv
  cases rv with
  | cons r1 rv =>
    cases rv with
    | cons r2 rv =>
      cases rv
      obtain ⟨q1, w1, c1, l1⟩ := src_of i1 ex r1
      obtain ⟨q2, w2, c2, l2⟩ := src_of i2 ey r2
      obtain ⟨b1, B1, k1⟩ := q1.begins I1 (c1 H1 st1.c) w1
      obtain ⟨b2, B2, k2⟩ := q2.begins I1 (c2 H1 st1.c) w2
      refine zip_begins2 B1 B2 k1 k2 fun h' hz hTI hTO g1 g2 hsz hk => wpAny_pyIter_zip hz ?_
      have I2 : Inv X pins σ H1 { s1 with heap := h' } := I1.kept (t' := s1.toks) hk
      refine ⟨s1.heap.objs.size + 4, [s1.heap.objs.size + 4, s1.heap.objs.size + 2, s1.heap.objs.size + 3, s1.heap.objs.size, s1.heap.objs.size + 1], _, _, H1, rfl, I2, turn_z2 q1 q2 _ _ _ _ _ ?_, ⟨hz, hTI, ⟨_, _, hTO⟩, Sr.at0 g1, Sr.at0 g2⟩, fun x hx => ?_, q _ Hb1 H1 st1 ?_⟩
      · generalize s1.heap.objs.size = n
        have : (n : Nat) = n := rfl
        simp
      · have hle : s1.heap.objs.size ≤ x := by
          generalize s1.heap.objs.size = n at hx
          have e' : x = n + 4 ∨ x = n + 2 ∨ x = n + 3 ∨ x = n ∨ x = n + 1 := by simpa using hx
          rcases e' with z | z | z | z | z <;> rw [z] <;> first | exact Nat.le_refl _ | exact Nat.le_add_right _ _
        exact I1.fpOk hle (I1.hok.fresh hle)
      · refine walk_j ?_ (fun H' s' => ⟨c1 H' s', c2 H' s'⟩) fun i d e => ?_
        · unfold zip2D
          rw [List.length_zipWith, l1.length, l2.length]
        · unfold zip2D at e
          rw [List.getElem?_zipWith] at e
          cases e1 : xs[i]? with
          | none => rw [e1] at e; cases e
          | some x =>
            cases e2 : ys[i]? with
            | none => rw [e1, e2] at e; cases e
            | some y =>
              rw [e1, e2] at e
              cases e
              refine ⟨_, rfl, ?_⟩
              simp only [IsL, pairs2]
              exact ⟨_, _, rfl, isl_getD l1 e1, _, _, rfl, isl_getD l2 e2, rfl⟩⟩
theorem i_zip3 (hm : X.mg "zip" = none) (ha : PE X a (tD X.K fa)) (hb : PE X b (tD X.K fb)) (hc : PE X c (tD X.K fc)) (hg : Gl X "zip" := by rfl) (hs : starEach [a, b, c] X.env = (false, eval a X.env) :: starEach [b, c] X.env := by rfl) (hs2 : starEach [b, c] X.env = (false, eval b X.env) :: starEach [c] X.env := by rfl)
    (hs3 : starEach [c] X.env = (false, eval c X.env) :: starEach [] X.env := by rfl) (hpl : (backTo pos (starEach [b, c] X.env)).any (·.1) = false := by rfl) : PI X (.Tuple elts kk tpos) (.Call (.Name "zip" p) [a, b, c] [] pos) (tI X.K (fZip3 fa fb fc)) := ⟨fun pins s σ H R I h => by
  obtain ⟨H0, env, Hb, ds, r, sm, ef, q⟩ := h
  obtain ⟨da, ea, ef⟩ := bind1 ef
  obtain ⟨db, eb, ef⟩ := bind1 ef
  obtain ⟨dc, ec, ef⟩ := bind1 ef
  obtain ⟨xs, ex, ef⟩ := bind1 ef
  obtain ⟨ys, ey, ef⟩ := bind1 ef
  obtain ⟨zs, ez, ef⟩ := bind1 ef
  cases ef
  have hA : PA X [a, b, c] (tA X.K (fCons fa (fCons fb (fCons fc fNil)))) := a_cons ha (a_cons hb (a_cons hc a_nil hs3) hs2) hs
  refine Call_ (ld_blt I hg hm PyProof.Rows.boot_zip (PyProof.Rows.callWith_type1 (thn (hA.run pos pins s σ H (fun vs H1 => ∃ Hb1, Step Hb H Hb1 H1 ∧ IsL X.K Hb1 [da, db, dc] vs) I ⟨H0, env, Hb, [da, db, dc], r, sm, by unfold fCons fNil; rw [ea, eb, ec]; rfl, fun vs Hb1 H1 s1 iv => ⟨Hb1, s1, iv⟩⟩) fun us s1 ⟨vs, H1, I1, rv, Hb1, st1, iv⟩ => ?_) hs hpl))
  simp only [IsL] at iv
  obtain ⟨v1, t1, rfl, i1, v2, t2, rfl, i2, v3, t3, rfl, i3, rfl⟩ := iv
  cases rv with
  | cons r1 rv =>
    cases rv with
    | cons r2 rv =>
      cases rv with
      | cons r3 rv =>
        cases rv
        obtain ⟨q1, w1, c1, l1⟩ := src_of i1 ex r1
        obtain ⟨q2, w2, c2, l2⟩ := src_of i2 ey r2
        obtain ⟨q3, w3, c3, l3⟩ := src_of i3 ez r3
        obtain ⟨b1, B1, k1⟩ := q1.begins I1 (c1 H1 st1.c) w1
        obtain ⟨b2, B2, k2⟩ := q2.begins I1 (c2 H1 st1.c) w2
        obtain ⟨b3, B3, k3⟩ := q3.begins I1 (c3 H1 st1.c) w3
        refine zip_begins3 B1 B2 B3 k1 k2 k3 fun h' hz hTI hTO g1 g2 g3 hsz hk => wpAny_pyIter_zip hz ?_
        have I2 : Inv X pins σ H1 { s1 with heap := h' } := I1.kept (t' := s1.toks) hk
        refine ⟨s1.heap.objs.size + 5, [s1.heap.objs.size + 5, s1.heap.objs.size + 3, s1.heap.objs.size + 4, s1.heap.objs.size, s1.heap.objs.size + 1, s1.heap.objs.size + 2], _, _, H1, rfl, I2, turn_z3 q1 q2 q3 _ _ _ _ _ _ ?_, ⟨hz, hTI, ⟨_, _, _, hTO⟩, Sr.at0 g1, Sr.at0 g2, Sr.at0 g3⟩, fun x hx => ?_, q _ Hb1 H1 st1 ?_⟩
        · generalize s1.heap.objs.size = n
          have : (n : Nat) = n := rfl
          simp
        · have hle : s1.heap.objs.size ≤ x := by
            generalize s1.heap.objs.size = n at hx
            have e' : x = n + 5 ∨ x = n + 3 ∨ x = n + 4 ∨ x = n ∨ x = n + 1 ∨ x = n + 2 := by simpa using hx
            rcases e' with z | z | z | z | z | z <;> rw [z] <;> first | exact Nat.le_refl _ | exact Nat.le_add_right _ _
          exact I1.fpOk hle (I1.hok.fresh hle)
        · refine walk_j ?_ (fun H' s' => ⟨c1 H' s', c2 H' s', c3 H' s'⟩) fun i d e => ?_
          · unfold zip3D
            rw [List.length_zipWith, List.length_zip, l1.length, l2.length, l3.length]
            omega
          · unfold zip3D at e
            rw [List.getElem?_zipWith] at e
            cases e1 : xs[i]? with
            | none => rw [e1] at e; cases e
            | some x =>
              cases e2 : (ys.zip zs)[i]? with
              | none => rw [e1, e2] at e; cases e
              | some y =>
                rw [e1, e2] at e
                cases e
                obtain ⟨y1, y2⟩ := y
                obtain ⟨e3, e4⟩ := List.getElem?_zip_eq_some.mp e2
                refine ⟨_, rfl, ?_⟩
                simp only [IsL]
                exact ⟨_, _, rfl, isl_getD l1 e1, _, _, rfl, isl_getD l2 e3, _, _, rfl, isl_getD l3 e4, rfl⟩⟩
set_option maxHeartbeats 1000000 in
theorem en_meets {v : Value} {ob : Obj} {Hr : Heap → Prop} (B : Begins v ob Hr) :
    Meets (Builtin.«enumerate.__new__» ⟨[.type "enumerate", v], []⟩) (fun _ R s => Hr s.heap ∧ R (.ok (.ret (.ref (s.heap.push ob).objs.size))) { s with heap := (s.heap.push ob).push { cls := .type "enumerate", data := .fields #[.none, .bool false, .ref s.heap.objs.size, rawInt 0, .none, .none] } }) :=
  .of_wp fun prog w A R s h => by
    obtain ⟨hp, gn, dr, tk, os⟩ := s
    obtain ⟨hr, h⟩ := h
    have hsub := sub_enumerate
    have go : ∀ {A' : Around} {E : Value → Shared → Prop} {Q : Value → Shared → Prop}, Q (.ref hp.objs.size) ⟨hp.push ob, gn, dr, tk, os⟩ → wpAny (model prog w) A' (pyIter v) Q E ⟨hp, gn, dr, tk, os⟩ := fun z => B.iter prog w _ _ ⟨hp, gn, dr, tk, os⟩ _ hr z
    wp_walk using go
    refine wpAny_stack_any fun sk => wpAny_pure ?_
    split
    · rename_i cc _ _ _ _ _
      cases (cc == Value.type "enumerate") <;> (wp_walk using go; exact ⟨_, rfl, h⟩)
    · wp_walk using go
      exact ⟨_, rfl, h⟩
theorem en_begins {prog : Program} {w : World} {A : Around} {E : Value → Shared → Prop} {s : Shared} {v : Value} {ob : Obj} {Hr : Heap → Prop} {Q : Value → Shared → Prop} (B : Begins v ob Hr) (h1 : Hr s.heap)
    (h : ∀ h', IsEnum h' (s.heap.objs.size + 1) s.heap.objs.size 0 .none → h'.get? s.heap.objs.size = some ob → (∀ b o, s.heap.get? b = some o → h'.get? b = some o) → Q (.ref (s.heap.objs.size + 1)) { s with heap := h' }) : wpAny (model prog w) A (call (.type "enumerate") [v]) Q E s := by
  refine callType_new F.called_enumerate (by decide) (F.typeCall_enumerate_1 _) (F.newCall_enumerate_1 _) (fun obj => F.args_object_init_2 obj _) F.entry_enumerate_new (en_meets B) ⟨h1, ?_⟩
  have hz : (s.heap.push ob).objs.size = s.heap.objs.size + 1 := Heap.size_push ..
  have he : IsEnum ((s.heap.push ob).push { cls := .type "enumerate", data := .fields #[.none, .bool false, .ref s.heap.objs.size, rawInt 0, .none, .none] }) (s.heap.objs.size + 1) s.heap.objs.size 0 .none := by
    have z := Heap.get?_push_size (s.heap.push ob) (o := { cls := .type "enumerate", data := .fields #[.none, .bool false, .ref s.heap.objs.size, rawInt 0, .none, .none] }) rfl
    rw [hz] at z
    exact z
  show _ ∧ _
  rw [hz]
  exact ⟨⟨_, he, rfl⟩, h _ he (Heap.get?_push_of_some _ (Heap.get?_push_size _ B.free)) fun b o x => Heap.get?_push_of_some _ (Heap.get?_push_of_some _ x)⟩
theorem i_enum (hm : X.mg "enumerate" = none) (ha : PE X a (tD X.K fa)) (hg : Gl X "enumerate" := by rfl) (hs : starEach [a] X.env = (false, eval a X.env) :: starEach [] X.env := by rfl) :
    PI X (.Tuple elts kk tpos) (.Call (.Name "enumerate" p) [a] [] pos) (tI X.K (fEnum fa)) := ⟨fun pins s σ H R I h => by
  obtain ⟨H0, env, Hb, ds, r, sm, ef, q⟩ := h
  obtain ⟨da, ea, ef⟩ := bind1 ef
  obtain ⟨xs, ex, ef⟩ := bind1 ef
  cases ef
  have hA : PA X [a] (tA X.K (fCons fa fNil)) := a_cons ha a_nil hs
  refine Call_ (ld_blt I hg hm boot_enumerate (PyProof.Rows.callWith_type1 (thn (hA.run pos pins s σ H (fun vs H1 => ∃ Hb1, Step Hb H Hb1 H1 ∧ IsL X.K Hb1 [da] vs) I ⟨H0, env, Hb, [da], r, sm, by unfold fCons fNil; rw [ea]; rfl, fun vs Hb1 H1 s1 iv => ⟨Hb1, s1, iv⟩⟩) fun us s1 ⟨vs, H1, I1, rv, Hb1, st1, iv⟩ => ?_) hs rfl))
  obtain ⟨v1, rfl, i1⟩ := isl1 iv
  cases rv with
  | cons r1 rv =>
    cases rv
    obtain ⟨q1, w1, c1, l1⟩ := src_of i1 ex r1
    obtain ⟨b1, B1, k1⟩ := q1.begins I1 (c1 H1 st1.c) w1
    refine en_begins B1 k1 fun h' he g1 hk => wpAny_pyIter_enum he ?_
    have I2 : Inv X pins σ H1 { s1 with heap := h' } := I1.kept (t' := s1.toks) hk
    refine ⟨s1.heap.objs.size + 1, [s1.heap.objs.size + 1, s1.heap.objs.size], _, _, H1, rfl, I2, turn_en q1 _ _ (Nat.succ_ne_self _), ⟨⟨_, he⟩, Sr.at0 g1⟩, fun x hx => ?_, q _ Hb1 H1 st1 ?_⟩
    · have hle : s1.heap.objs.size ≤ x := by
        generalize s1.heap.objs.size = n at hx
        have e' : x = n + 1 ∨ x = n := by simpa using hx
        rcases e' with z | z <;> rw [z] <;> first | exact Nat.le_refl _ | exact Nat.le_add_right _ _
      exact I1.fpOk hle (I1.hok.fresh hle)
    · refine walk_j ?_ (fun H' s' => c1 H' s') fun i d e => ?_
      · unfold enumD
        rw [List.length_zipWith, List.length_range, l1.length, Nat.min_self]
      · unfold enumD at e
        rw [List.getElem?_zipWith] at e
        cases e1 : xs[i]? with
        | none =>
          rw [e1] at e
          cases e0 : (List.range xs.length)[i]? with
          | none => rw [e0] at e; cases e
          | some j => rw [e0] at e; cases e
        | some x =>
          have hi := (List.getElem?_eq_some_iff.mp e1).1
          have e0 : (List.range xs.length)[i]? = some i := by rw [List.getElem?_eq_getElem (by simpa using hi), List.getElem_range]
          rw [e0, e1] at e
          cases e
          refine ⟨_, rfl, ?_⟩
          simp only [IsL, Is]
          exact ⟨_, _, rfl, rfl, _, _, rfl, isl_getD l1 e1, rfl⟩⟩
end
end Dn
set_option Elab.async false
set_option linter.all false
set_option maxRecDepth 100000
/-! Part H: sorted, min, max, sum of tuples too, str.index, sorted(set(..)). -/
namespace Dn
open PySem L2 PySem.Spec PyProof.Rows

section
variable {prog : Program} {w : World} {A : Around} {E : Value → Shared → Prop} {s : Shared}
theorem collect_tup {l : Addr} {vs : List Value} {Q : List Value → Shared → Prop} (hl : s.heap.IsTuple l vs.toArray)
    (h : Q vs { s with heap := (s.heap.push (seqObj "list" #[] 0)).update s.heap.objs.size (Obj.mapSeq (· ++ vs.toArray)) }) (hsz : vs.length ≤ sizeLine) :
    wpAny (model prog w) A (collect (.ref l)) Q E s := by
  obtain ⟨o, ho, hc, n, hd⟩ := id hl
  unfold collect
  refine wpAny_bind (wpAny_runValue (codeAny_builtin entry_proto_collect' ?_))
  show wpAny _ _ (do again (.builtin "list.__iadd__" ⟨[← newList [], .ref l], []⟩)) _ _ s
  refine wpAny_bind (wpAny_newList (wpAny_pure ⟨Code.quiet_builtin _ (by decide +kernel), codeAny_builtin entry_list_iadd' ?_⟩))
  show wpAny _ _ (Builtin.List.listExtendWith (.ref s.heap.objs.size) (.ref l) (.ref s.heap.objs.size)) _ _ { s with heap := s.heap.push (seqObj "list" #[] 0) }
  unfold Builtin.List.listExtendWith
  have ho' : (s.heap.push (seqObj "list" #[] 0)).get? l = some o := Heap.get?_push_of_some _ ho
  refine wpAny_bind (wpAny_typeOf (T := "tuple") ⟨o, ho', hc⟩ ?_)
  have ht : (Value.type "tuple" == Value.type "tuple") = true := by rfl
  rw [if_pos (by rw [ht]; simp)]
  refine wpAny_bind (listItems_at ho' hd ?_)
  refine wpAny_bind (listItems_at (xs := #[]) (n := 0) (Heap.get?_push_size _ rfl) rfl ?_)
  rw [if_neg (by simp)]
  refine wpAny_bind (listUpdate_at (xs := #[]) (n := 0) (Heap.get?_push_size _ rfl) rfl ?_ (Nat.zero_le _) (by show (#[] ++ vs.toArray).size ≤ sizeLine + 1; simp only [Array.size_append, List.size_toArray, List.length_nil]; omega))
  refine wpAny_pure ?_
  show wpAny (model prog w) A (do
      let o ← load s.heap.objs.size
      match o.data with
      | .seq xs _ => pure xs.toList
      | _ => unsupported "internal:collect") Q E { s with heap := (s.heap.push (seqObj "list" #[] 0)).update s.heap.objs.size (Obj.mapSeq (· ++ vs.toArray)) }
  refine wpAny_bind (wpAny_load (get?_update_seq (Heap.get?_push_size _ rfl) _) ?_)
  show wpAny _ _ (pure ((#[] : Array Value) ++ vs.toArray).toList) Q E _
  rw [show ((#[] : Array Value) ++ vs.toArray).toList = vs by simp]
  exact wpAny_pure h
open PySem.W in
theorem sorted_tup_of {l : Addr} {vs : List Value} {Q : Value → Shared → Prop} (hl : s.heap.IsTuple l vs.toArray) (hL : vs.length ≤ sizeLine)
    (body : ∀ E' : Value → Shared → Prop, wpAny (model prog w) A.in1.in1 (Builtin.«list.sort» ⟨[.ref (s.heap.objs.size + 1)], []⟩) (fun f s' => f = .done (.ret .none) ∧ Q (.ref (s.heap.objs.size + 1)) s') E' { s with heap := copyHeap s.heap vs }) :
    wpAny (model prog w) A (call (.builtin "sorted") [.ref l]) Q E s := by
  refine Calls.call_function_entry kind_sorted plain_sorted entry_sorted (args_sorted1 _) ?_
  unfold Builtin.«sorted»
  refine wpAny_bind (m := checkCount "sorted" 1 1 _) (wpAny_pure ?_)
  refine wpAny_bind (collect_tup hl ?_ hL)
  refine wpAny_bind (wpAny_newList ?_ hL)
  have hsz : ((s.heap.push (seqObj "list" #[] 0)).update s.heap.objs.size (Obj.mapSeq (· ++ vs.toArray))).objs.size = s.heap.objs.size + 1 := by
    rw [Heap.size_update, size_push']
  show wpAny _ _ _ _ _ { s with heap := copyHeap s.heap vs }
  rw [hsz]
  refine wpAny_bind (wpAny_holding (wpAny_call_entry slot_list_sort ⟨_, copyHeap_at s.heap vs, rfl⟩ entry_list_sort ?body (args_list_sort _)))
  case body =>
    show wpAny (model prog w) A.in1.in1 (Builtin.«list.sort» ⟨[.ref (s.heap.objs.size + 1)], []⟩) _ _ _
    refine wpAny_mono (body _) (fun f s' hf => ?_) fun _ _ e => e
    obtain ⟨rfl, hq⟩ := hf
    exact ⟨_, rfl, wpAny_pure ⟨_, rfl, hq⟩⟩
open PySem.W in
theorem sorted_tup_data {β : Type} {R : Value → β → Prop} {enc : β → PyData} {vs : List Value} {bs : List β} {l : Addr} {Q : Value → Shared → Prop} (hl : s.heap.IsTuple l vs.toArray) (e : EachIs R vs bs) (er : EachIs (fun v b => ∃ as, Reads s.heap v (enc b) as) vs bs) (hal : AllAlike (bs.map enc)) (hk : Sortable (bs.map enc)) (hL : bs.length ≤ sizeLine)
    (hu : ∀ b, b ∈ bs → A.units + 2 + (enc b).depth < cLine) (h : ∀ out, out.length = bs.length → EachIs R out (bs.mergeSort (dataLe false enc)) → Q (.ref (s.heap.objs.size + 1)) { s with heap := sortedAll s.heap vs (List.toArray out) }) :
    wpAny (model prog w) A (call (.builtin "sorted") [.ref l]) Q E s := by
  have er' : EachIs (fun v b => ∃ as, Reads (sortingHeap (copyHeap s.heap vs) (s.heap.objs.size + 1) vs) v (enc b) as) vs bs := er.mono fun _ _ ⟨as, r⟩ => ⟨as, PyProof.Rows.Reads.keeps (fun _ _ => sorting_copy_old) r⟩
  have S := SortsAt.data (prog := prog) (w := w) (A := A.in1.in1) (s := { s with heap := sortingHeap (copyHeap s.heap vs) (s.heap.objs.size + 1) vs }) (each_map (R := fun v d => ∃ as, Reads (sortingHeap (copyHeap s.heap vs) (s.heap.objs.size + 1) vs) v d as) enc er') hal hk (bound_map hu)
  have hL' : vs.length ≤ sizeLine := by rw [e.length]; exact hL
  refine sorted_tup_of hl hL' fun _ => list_sort_vals (s := { s with heap := copyHeap s.heap vs }) (copyHeap_at s.heap vs) S hL' ⟨rfl, ?_⟩
  exact h _ (by rw [sortVals_length false rfl]; exact e.length) (sortVals_data false e er' hal)
end

/-! ### sorted -/
def isT1 : D → Bool
  | .tup (_ :: _) => true
  | _ => false
def notT : D → Bool
  | .int _ => true
  | .str _ => true
  | .bl _ => true
  | .lst _ => true
  | _ => false
def srtOk (ds : List D) : Bool := (ds.all fun a => okN 50 a && ds.all fun b => PySem.W.alike (toP a) (toP b)) && ((ds.all isT1) || (ds.all notT))
def leP : D → D → Bool := PySem.W.dataLe false toP
def sortedG : List D → Option D
  | [.lst ds] => if srtOk ds = true then some (.lst (ds.mergeSort leP)) else none
  | [.tup ds] => if srtOk ds = true then some (.lst (ds.mergeSort leP)) else none
  | _ => none
section
variable {X : Cx}
open PySem.W (EachIs AllAlike Sortable)
theorem each_zip {K : PySem.W.Frag} {H : Hp} : ∀ {ds : List D} {vs : List V} {us : List Value}, IsL K H ds vs → Vals vs us → EachIs (fun (v : Value) (b : V × D) => RelV b.1 v ∧ Is K H b.2 b.1) us (vs.zip ds) ∧ (vs.zip ds).map Prod.snd = ds
  | [], vs, us, h, r => by
    simp only [IsL] at h
    subst h
    cases r
    exact ⟨.nil, rfl⟩
  | d :: ds, vs, us, h, r => by
    simp only [IsL] at h
    obtain ⟨v, vs', rfl, i, h⟩ := h
    cases r with
    | cons r1 r2 =>
      obtain ⟨a, b⟩ := each_zip h r2
      exact ⟨.cons ⟨r1, i⟩ a, by rw [List.zip_cons_cons, List.map_cons, b]⟩
theorem zip_each {K : PySem.W.Frag} {H : Hp} : ∀ {bs : List (V × D)} {us : List Value}, EachIs (fun (v : Value) (b : V × D) => RelV b.1 v ∧ Is K H b.2 b.1) us bs → Vals (bs.map Prod.fst) us ∧ IsL K H (bs.map Prod.snd) (bs.map Prod.fst)
  | [], _, .nil => ⟨.nil, by simp only [List.map_nil, IsL]⟩
  | b :: bs, _, .cons h1 h2 => by
    obtain ⟨a, c⟩ := zip_each h2
    refine ⟨.cons h1.1 a, ?_⟩
    simp only [List.map_cons, IsL]
    exact ⟨_, _, rfl, h1.2, c⟩
theorem each_reads {pins : List (Addr × Obj)} {s : Shared} {σ : L2.St} {H : Hp} (I : Inv X pins σ H s) : ∀ {bs : List (V × D)} {us : List Value}, (∀ b ∈ bs, okN 50 b.2 = true) → EachIs (fun (v : Value) (b : V × D) => RelV b.1 v ∧ Is X.K H b.2 b.1) us bs → EachIs (fun v b => ∃ as, Reads s.heap v (toP b.2) as) us bs
  | [], _, _, .nil => .nil
  | b :: bs, _, ok, .cons h1 h2 => by
    have a1 := (dp_of 50 b.2 b.1 (ok b List.mem_cons_self) h1.2).1
    exact .cons (Dp.reads I _ _ _ a1 h1.1) (each_reads I (fun c hc => ok c (List.mem_cons_of_mem _ hc)) h2)
theorem each_depth {K : PySem.W.Frag} {H : Hp} : ∀ {bs : List (V × D)} {us : List Value}, (∀ b ∈ bs, okN 50 b.2 = true) → EachIs (fun (v : Value) (b : V × D) => RelV b.1 v ∧ Is K H b.2 b.1) us bs → ∀ b ∈ bs, (toP b.2).depth ≤ 50
  | [], _, _, .nil, b, hb => by cases hb
  | c :: bs, _, ok, .cons h1 h2, b, hb => by
    rcases List.mem_cons.mp hb with rfl | hb
    · exact (dp_of 50 b.2 b.1 (ok b List.mem_cons_self) h1.2).2
    · exact each_depth (fun c hc => ok c (List.mem_cons_of_mem _ hc)) h2 b hb
theorem srt_ok {ds : List D} (h : srtOk ds = true) : (∀ a ∈ ds, okN 50 a = true) ∧ AllAlike (ds.map toP) ∧ Sortable (ds.map toP) := by
  unfold srtOk at h
  rw [Bool.and_eq_true, Bool.or_eq_true] at h
  obtain ⟨h1, h2⟩ := h
  have q : ∀ a ∈ ds, okN 50 a = true ∧ ∀ b ∈ ds, PySem.W.alike (toP a) (toP b) = true := fun a ha => by
    have := List.all_eq_true.mp h1 a ha
    rw [Bool.and_eq_true] at this
    exact ⟨this.1, fun b hb => List.all_eq_true.mp this.2 b hb⟩
  refine ⟨fun a ha => (q a ha).1, fun d hd d' hd' => ?_, ?_⟩
  · obtain ⟨a, ha, rfl⟩ := List.mem_map.mp hd
    obtain ⟨b, hb, rfl⟩ := List.mem_map.mp hd'
    exact (q a ha).2 b hb
  · rcases h2 with h2 | h2
    · refine .inl fun d hd => ?_
      obtain ⟨a, ha, rfl⟩ := List.mem_map.mp hd
      have := List.all_eq_true.mp h2 a ha
      unfold isT1 at this
      split at this
      · exact ⟨_, _, by simp only [toP, toPs]; rfl⟩
      · cases this
    · refine .inr fun d hd => ?_
      obtain ⟨a, ha, rfl⟩ := List.mem_map.mp hd
      have := List.all_eq_true.mp h2 a ha
      unfold notT at this
      split at this <;> first | (simp only [toP]; exact ⟨by simp, by simp⟩) | cases this
theorem c_sorted (hu : X.A.units + 64 < cLine) : CallR X (.builtin "sorted") (rDA X.K sortedG) := by
  intro pins s σ H xs us Q I r h
  obtain ⟨Hb, ds, d, sm, il, eg, q⟩ := h
  have main : ∀ (es : List D) (vs : List V) (its : List Value), IsL X.K Hb es vs → Vals vs its → vs.length ≤ sizeLine → srtOk es = true →
      (∀ v Hb' H', Step Hb H Hb' H' → Is X.K Hb' (.lst (es.mergeSort leP)) v → Q v H') →
      EachIs (fun (v : Value) (b : V × D) => RelV b.1 v ∧ Is X.K Hb b.2 b.1) its (vs.zip es) ∧ EachIs (fun v b => ∃ as, Reads s.heap v (toP b.2) as) its (vs.zip es) ∧ AllAlike ((vs.zip es).map fun b => toP b.2) ∧ Sortable ((vs.zip es).map fun b => toP b.2) ∧
      (vs.zip es).length ≤ sizeLine ∧ (∀ b ∈ vs.zip es, X.A.units + 2 + (toP b.2).depth < cLine) ∧
      ∀ out : List Value, out.length = (vs.zip es).length → EachIs (fun (v : Value) (b : V × D) => RelV b.1 v ∧ Is X.K Hb b.2 b.1) out ((vs.zip es).mergeSort (PySem.W.dataLe false fun b => toP b.2)) → EP X pins σ Q (.ref (s.heap.objs.size + 1)) { s with heap := sortedAll s.heap its (List.toArray out) } := by
    intro es vs its lx rv hz ok q
    obtain ⟨e1, e2⟩ := each_zip lx rv
    obtain ⟨o1, o2, o3⟩ := srt_ok ok
    have mem : ∀ b ∈ vs.zip es, b.2 ∈ es := fun b hb => by rw [← e2]; exact List.mem_map_of_mem hb
    have em : ((vs.zip es).map fun b => toP b.2) = es.map toP := by
      conv => rhs; rw [← e2]
      rw [List.map_map] <;> rfl
    have hz' : (vs.zip es).length ≤ sizeLine := by
      rw [List.length_zip, lx.length, Nat.min_self, ← lx.length]
      exact hz
    have e1' : EachIs (fun (v : Value) (b : V × D) => RelV b.1 v ∧ Is X.K H b.2 b.1) its (vs.zip es) := e1.mono fun _ _ x => ⟨x.1, x.2.mono sm⟩
    refine ⟨e1, each_reads I (fun b hb => o1 _ (mem b hb)) e1', by rw [em]; exact o2, by rw [em]; exact o3, hz', fun b hb => ?_, fun out hl eo => ?_⟩
    · have := each_depth (fun b hb => o1 _ (mem b hb)) e1 b hb
      omega
    · obtain ⟨z1, z2⟩ := zip_each eo
      have ez : (((vs.zip es).mergeSort (PySem.W.dataLe false fun b => toP b.2)).map Prod.snd) = es.mergeSort leP := by
        rw [List.map_mergeSort (r := PySem.W.dataLe false fun b : V × D => toP b.2) (s := leP) (f := Prod.snd) fun a _ b _ => rfl, e2]
      rw [ez] at z2
      obtain ⟨ep, he'⟩ := PyProof.Rows.sortedAll_at s.heap its out.toArray
      have hlen : (((vs.zip es).mergeSort (PySem.W.dataLe false fun b => toP b.2)).map Prod.fst).length ≤ sizeLine := by
        rw [List.length_map, List.length_mergeSort]
        exact hz'
      have hf : H (s.heap.objs.size + 1) = none := I.hok.fresh (Nat.le_succ _)
      refine ⟨.ref _, upd H (s.heap.objs.size + 1) (.lst _), I.laid (t' := s.toks) (fun _ _ => PyProof.Rows.sortedAll_old) (Nat.le_succ _) ⟨hlen, out, ep, z1, he'⟩, rfl, q _ _ _ (Step.new sm hf) ?_⟩
      exact is_lst_new (sm.free hf) z2
  unfold sortedG at eg
  split at eg
  · obtain ⟨v, rfl, iv⟩ := isl1 il
    simp only [Is] at iv
    obtain ⟨p, vs, rfl, hx, lx⟩ := iv
    obtain ⟨ok, rfl⟩ := iteS eg
    obtain ⟨its, rv, hl, hz⟩ := I.list (show SqL X.K H p _ from .inl (.inl (sm _ _ hx)))
    obtain ⟨m1, m2, m3, m4, m5, m6, m7⟩ := main _ vs its lx rv hz ok q
    rw [Vals.ref1 r]
    exact PySem.W.sorted_data hl.isList m1 m2 m3 m4 m5 m6 m7
  · obtain ⟨v, rfl, iv⟩ := isl1 il
    simp only [Is] at iv
    obtain ⟨p, vs, rfl, hx, lx⟩ := iv
    obtain ⟨ok, rfl⟩ := iteS eg
    obtain ⟨its, rv, hl, hz⟩ := I.tuple (hx.mono sm).sq
    obtain ⟨m1, m2, m3, m4, m5, m6, m7⟩ := main _ vs its lx rv hz ok q
    rw [Vals.ref1 r]
    exact sorted_tup_data hl m1 m2 m3 m4 m5 m6 m7
  · cases eg

/-! ### where a sign stands first -/
theorem occ_full (l : List Nat) (c : Nat) : ∀ (is : List Nat) (acc : Array Nat) (free : Nat), acc.size = 1 → (forIn is (acc, free) (StrLaws.occBody (S l) (S [c]) l.length 1)).run.fst.toList = acc.toList
  | [], acc, free, _ => by simp
  | i :: is, acc, free, h => by
    rw [List.forIn_cons]
    unfold StrLaws.occBody
    rw [if_neg fun q => by have : acc.size < 1 := q.1.1.1; omega]
    show (forIn is (acc, free) (StrLaws.occBody (S l) (S [c]) l.length 1)).run.fst.toList = _
    exact occ_full l c is acc free h
theorem occ_first (l : List Nat) (c : Nat) : ∀ (is : List Nat), (forIn is ((#[] : Array Nat), 0) (StrLaws.occBody (S l) (S [c]) l.length 1)).run.fst.toList = (is.filter fun i => decide (l[i]? = some c)).take 1
  | [] => by simp
  | i :: is => by
    rw [List.forIn_cons]
    have sub := StrLaws.subAt_one (S l) c i
    rw [S_len] at sub
    have esl : (S l).cps.toList = l := by simp [S]
    rw [esl] at sub
    by_cases hc : l[i]? = some c
    · have hb := sub.mpr hc
      unfold StrLaws.occBody
      rw [if_pos ⟨⟨⟨by show (0 : Nat) < 1; omega, Nat.zero_le _⟩, hb.1⟩, hb.2⟩]
      show (forIn is ((#[] : Array Nat).push i, i + 1) (StrLaws.occBody (S l) (S [c]) l.length 1)).run.fst.toList = _
      rw [occ_full l c is _ _ rfl, List.filter_cons_of_pos (by simpa using hc)]
      rfl
    · unfold StrLaws.occBody
      rw [if_neg fun h => hc (sub.mp ⟨h.1.2, h.2⟩)]
      show (forIn is ((#[] : Array Nat), 0) (StrLaws.occBody (S l) (S [c]) l.length 1)).run.fst.toList = _
      rw [occ_first l c is, List.filter_cons_of_neg (by simpa using hc)]
theorem spots_head (c : Nat) : ∀ l : List Nat, c ∈ l → (spots l c).take 1 = [l.idxOf c]
  | [], h => by cases h
  | x :: xs, h => by
    unfold spots
    rw [List.length_cons, List.range_succ_eq_map, List.filter_cons, List.filter_map]
    have e : ((List.range xs.length).filter ((fun i => decide ((x :: xs)[i]? = some c)) ∘ Nat.succ)) = (List.range xs.length).filter fun i => decide (xs[i]? = some c) := by
      congr 1
    by_cases hx : x = c
    · subst hx
      simp
    · have hm : c ∈ xs := by
        rcases List.mem_cons.mp h with q | q
        · exact absurd q.symm hx
        · exact q
      have ih := spots_head c xs hm
      unfold spots at ih
      have : ¬ (some x = some c) := fun q => hx (Option.some.inj q)
      rw [List.getElem?_cons_zero, decide_eq_false this, if_neg (by simp), e, ← List.map_take, ih, List.idxOf_cons]
      have : (x == c) = false := by simpa using hx
      rw [this]
      rfl
theorem occ_idx (l : List Nat) (c : Nat) (h : c ∈ l) : Builtin.Str.occurrences (S l) (S [c]) 0 l.length 1 = [l.idxOf c] := by
  rw [StrLaws.occ_eq, occ_first l c]
  simp only [Nat.sub_zero]
  rw [← List.range_eq_range', List.range_succ, List.filter_append]
  have := spots_head c l h
  unfold spots at this
  simpa using this
def indexD (l : List Nat) : D → Option D
  | .str [c] => if c ∈ l then some (.int (l.idxOf c)) else none
  | _ => none
theorem m_index : MtR X "str.index" (rDM X.K indexD) := by
  intro pins s σ H x xs v us Q I rx rs h
  obtain ⟨Hb, l, y, b, d, sm, rfl, rfl, ib, eg, q⟩ := h
  unfold indexD at eg
  split at eg
  · rename_i c
    simp only [Is] at ib
    subst ib
    obtain ⟨hm, rfl⟩ := iteS eg
    obtain ⟨t, rfl⟩ := rx
    obtain ⟨u, rfl, ru⟩ := rs.one
    obtain ⟨t2, rfl⟩ := ru
    refine call_gives PySem.F.slot_str_index (typeIs_str _ _ _) PySem.F.entry_str_index (PySem.F.args_str_index_2 _ _) (PySem.gives_str_index (S l) (S [c]) t t2 (l.idxOf c) [] ?_) ?_
    · rw [S_len]
      exact occ_idx l c hm
    · exact ⟨.int _, H, I.tok _, ⟨_, rfl⟩, q _ Hb H (Step.refl sm) (by simp only [Is])⟩
  · cases eg
variable {a b e o : Expr} {pos apos p p2 pos2 : Pos} {fa fb fo : En → Option D} {fs : En → Option (List D)}
theorem e_index (ho : PE X o (tD X.K fo)) (he : PE X e (tD X.K fa)) (hs : starEach [e] X.env = [(false, eval e X.env)] := by rfl) (hbase : attributeBase o "index" X.env (eval o X.env) = eval o X.env := by rfl) (hline : (apos.endLine == pos.line) = true := by rfl) :
    PE X (.Call (.Attribute o "index" apos) [e] [] pos) (tD X.K (fM1 indexD fo fa)) := e_m1 F.slot_str_index F.type_str_index m_index ho he hs hbase hline

/-! ### sorted(set(t)), a tuple of ints -/
def uniqI (ns : List Int) : List Int := ns.eraseDups.mergeSort fun a b => decide (a ≤ b)
theorem nodup_eraseDups {α : Type} [BEq α] [LawfulBEq α] (l : List α) : l.eraseDups.Nodup := by
  induction h : l.length using Nat.strongRecOn generalizing l with
  | ind n ih =>
    cases l with
    | nil => simp
    | cons x xs =>
      rw [List.eraseDups_cons, List.nodup_cons]
      subst h
      have hl : (xs.filter fun b => !b == x).length < (x :: xs).length := by
        have := List.length_filter_le (fun b => !b == x) xs
        rw [List.length_cons]
        omega
      refine ⟨fun q => ?_, ih _ hl _ rfl⟩
      rw [List.mem_eraseDups] at q
      have := (List.mem_filter.mp q).2
      simp at this
theorem uniqI_mem (ns : List Int) (k : Int) : k ∈ uniqI ns ↔ k ∈ ns := by
  unfold uniqI
  rw [List.mem_mergeSort, List.mem_eraseDups]
theorem uniqI_rises (ns : List Int) : (uniqI ns).Pairwise (· < ·) := by
  have h1 : (uniqI ns).Pairwise fun a b => decide (a ≤ b) = true := List.pairwise_mergeSort (fun a b c h h' => by simp at *; omega) (fun a b => by simp; omega) _
  have h2 : (uniqI ns).Nodup := (List.mergeSort_perm _ _).nodup_iff.mpr (nodup_eraseDups ns)
  refine List.Pairwise.imp₂ (fun x y h h' => ?_) h1 h2
  have : x ≤ y := by simpa using h
  have : x ≠ y := h'
  omega
theorem rises_eq {xs ys : List Int} (hx : xs.Pairwise (· < ·)) (hy : ys.Pairwise (· < ·)) (h : ∀ k, k ∈ xs ↔ k ∈ ys) : xs = ys := by
  have nd : ∀ {l : List Int}, l.Pairwise (· < ·) → l.Nodup := fun h => h.imp fun q e => by omega
  exact List.Perm.eq_of_pairwise (le := fun a b : Int => a < b) (fun a b _ _ h h' => by omega) hx hy ((List.perm_ext_iff_of_nodup (nd hx) (nd hy)).mpr h)
def sortSetD : D → Option D
  | .tup ds => (intsOf ds).bind fun ns => if ns.length < 64 then some (.lst ((uniqI ns).map D.int)) else none
  | _ => none
def rMkSet (X : Cx) : List V → Hp → VK → Prop := fun xs H Q => ∃ (p : Addr) (ns : List Int), xs = [V.ref p] ∧ SqT X.K H p (ns.map V.int) ∧ ns.length < 64 ∧
  ∀ (a : Addr) (c : Nat), H a = none → c ≤ ns.length → Q (.ref a) (upd H a (SetO X.w a (fun j => decide (j ∈ ns)) c))
theorem cr_mkSet (hc : X.calm = true) : CallR X (.type "set") (rMkSet X) := by
  intro pins s σ H xs us Q I r h
  obtain ⟨p, ns, rfl, hx, hl, q⟩ := h
  obtain ⟨its, rv, ht, hz⟩ := I.tuple hx
  rw [Vals.ref1 r]
  have hi := rv.ints
  refine call_set_tupI ns (I.ok.hd hc) ht (by simpa using hi) (by unfold scanBound; omega) fun h' tk c R hcn k => ?_
  exact ⟨.ref _, upd H s.heap.objs.size (SetO X.w s.heap.objs.size _ c), I.laid (t' := tk) k (Nat.le_refl _) (setO_new R), rfl, q _ _ (I.hok.fresh (Nat.le_refl _)) hcn⟩
theorem e_sset (hc : X.calm = true) (hm : X.mg "sorted" = none) (hm2 : X.mg "set" = none) (ha : PE X a (tD X.K fa)) (hg : Gl X "sorted" := by rfl) (hg2 : Gl X "set" := by rfl)
    (na : starEach [.Call (.Name "set" p2) [a] [] pos2] X.env = (false, eval (.Call (.Name "set" p2) [a] [] pos2) X.env) :: starEach [] X.env := by rfl) (na2 : starEach [a] X.env = (false, eval a X.env) :: starEach [] X.env := by rfl) :
    PE X (.Call (.Name "sorted" p) [.Call (.Name "set" p2) [a] [] pos2] [] pos) (tD X.K (f1 sortSetD fa)) := by
  refine PE_weak (pe_callB (cr_sortedSet hc) hg hm (by decide +kernel) (pa_cons (pe_callTy (cr_mkSet hc) hg2 hm2 (by decide +kernel) (pa_cons ha pa_nil na2) (he := na2)) pa_nil na) (he := na)) fun σ H Q h => ?_
  obtain ⟨H0, env, Hb, d, r, sm, ef, q⟩ := h
  obtain ⟨da, ea, eg⟩ := bind1 ef
  refine ⟨H0, env, Hb, da, r, sm, ea, fun v Hb1 H1 s1 iv => ?_⟩
  unfold sortSetD at eg
  split at eg
  · obtain ⟨ns, en, eg⟩ := bind1 eg
    obtain ⟨hl, rfl⟩ := iteS eg
    have e := intsOf_eq en
    subst e
    simp only [Is] at iv
    obtain ⟨p, vs, rfl, hx, lx⟩ := iv
    have := isl_ints lx
    subst this
    refine ⟨p, ns, rfl, (hx.mono s1.c).sq, hl, fun z c hz hcn => ?_⟩
    refine ⟨z, _, c, rfl, upd_same, by omega, fun ns' p' rises hmem _ hp => ?_⟩
    have e : ns' = uniqI ns := rises_eq rises (uniqI_rises ns) fun k => by rw [hmem k, uniqI_mem]; simp
    subst e
    have st : Step Hb1 H1 (upd Hb1 z (SetO X.w z (fun j => decide (j ∈ ns)) c)) (upd H1 z (SetO X.w z (fun j => decide (j ∈ ns)) c)) := Step.new s1.c hz
    exact q _ _ _ (s1.trans (st.trans (Step.new st.c hp))) (is_lst_new (st.c.free hp) (of_ints _))
  · cases eg
variable {c : Expr} {fc : En → Option D}
theorem t_chain {op op' : CmpOp} {g g' : D → D → Option D} (ho : OpR X (compareOp op) (rD2 X.K g)) (ho' : OpR X (compareOp op') (rD2 X.K g')) (ha : PE X a (tD X.K fa)) (hb : PE X b (tD X.K fb)) (hc : PE X c (tD X.K fc))
    (hm : lastMarks [op, op'] [b, c] = false := by with_unfolding_all rfl) : PT X (.Compare a [op, op'] [b, c] pos) (tT X.K (fB (fChain g g' fa fb fc))) :=
  PT_weak (pt_chain ho ho' ha hb hc hm) fun σ H Q h => by
    obtain ⟨H0, env, Hb, k0, r, sm, ef, q0⟩ := h
    obtain ⟨d, ef, e0⟩ := bind1 ef
    have hd := asB_some e0
    subst hd
    have q : ∀ v Hb' H', Step Hb H Hb' H' → Is X.K Hb' (.bl k0) v → ∃ k, v = .bl k ∧ Q k H' := fun v Hb' H' s iv => ⟨k0, by simpa only [Is] using iv, q0 Hb' H' s⟩
    obtain ⟨da, ea, ef⟩ := bind1 ef
    obtain ⟨db, eb, ef⟩ := bind1 ef
    obtain ⟨z, ez, ef⟩ := bind1 ef
    obtain ⟨k, ek, eg⟩ := bind1 ef
    have hz := asB_some ek
    subst hz
    refine ⟨H0, env, Hb, da, r, sm, ea, fun x Hb1 H1 s1 ix => ⟨H0, env, Hb1, db, r.step s1, s1.c, eb, fun y Hb2 H2 s2 iy => ⟨Hb2, da, db, .bl k, s2.c, ix.mono s2.b, iy, ez, fun v Hb3 H3 s3 iv => ⟨k, by simpa only [Is] using iv, ?_⟩⟩⟩⟩
    cases k with
    | false =>
      simp at eg
      subst eg
      exact q _ Hb3 H3 (s1.trans (s2.trans s3)) (by simp only [Is])
    | true =>
      obtain ⟨dc, ec, eg⟩ := bind1 eg
      exact ⟨H0, env, Hb3, dc, ((r.step s1).step s2).step s3, s3.c, ec, fun w Hb4 H4 s4 iw => ⟨Hb4, db, dc, _, s4.c, (iy.mono s3.b).mono s4.b, iw, eg, fun v' Hb' H' s5 iv' => q v' Hb' H' (s1.trans (s2.trans (s3.trans (s4.trans s5)))) iv'⟩⟩

/-! ### argument lists, displays -/
end
end Dn
set_option Elab.async false
set_option linter.all false
set_option maxRecDepth 100000
/-! Rows: struck, laid, marks drawn. -/
namespace Dn
open PySem L2
local macro_rules | `(tactic| walk_at "dg") => `(tactic| first
  | with_reducible exact add_i _ _ | with_reducible exact sub_i _ _ | ((with_reducible refine mul_i ?_); omega) | ((with_reducible refine fdiv_i ?_); omega) | ((with_reducible refine mod_i ?_); omega) | with_reducible exact neg_i _
  | with_reducible exact lt_i _ _ | with_reducible exact le_i _ _ | with_reducible exact gt_i _ _ | with_reducible exact ge_i _ _ | with_reducible exact eq_i _ _ | with_reducible exact ne_i _ _ | with_reducible exact eq_s _ _ | with_reducible exact ne_s _ _
  | ((with_reducible refine add_s ?_); omega) | ((with_reducible refine add_t ?_); omega) | ((with_reducible refine add_l ?_); omega) | ((with_reducible refine mul_s ?_); omega) | ((with_reducible refine mul_l ?_); omega)
  | ((with_reducible refine len_s ?_); omega) | with_reducible exact len_t _ | with_reducible exact len_l _ | with_reducible exact len_c _ | with_reducible exact int_b _ | with_reducible exact int_i _ | with_reducible exact abs_i _
  | ((with_reducible refine sl_s ?_); omega) | with_reducible exact sl_t _ _ _ | with_reducible exact sl_l _ _ _ | ((with_reducible apply ix_t); (· omega); (· rfl)) | ((with_reducible apply ix_l); (· omega); (· rfl)) | with_reducible assumption)
local macro_rules | `(tactic| walk_at "dc") => `(tactic| with_reducible assumption)
local macro_rules | `(tactic| walk_at "dn") => `(tactic| first
  | with_reducible exact v_c | with_reducible exact v_nil | with_reducible exact v_no
  | ((with_reducible apply v_var); (· rfl); (· rfl))
  | ((with_reducible apply v_2); (· walk_at "dn"); (· walk_at "dn"); (· walk_at "dg"))
  | ((with_reducible apply v_1); (· walk_at "dn"); (· walk_at "dg"))
  | ((with_reducible apply v_cons); (· walk_at "dn"); (· walk_at "dn"))
  | ((with_reducible apply v_blt); (· walk_at "dn"); (· walk_at "dg"))
  | ((with_reducible apply v_call); (· walk_at "dn"); (· walk_at "dc"))
  | ((with_reducible apply v_tup); (· walk_at "dn"); (· first | decide | (simp only [List.length_cons, List.length_nil]; decide)))
  | ((with_reducible apply v_lst); (· walk_at "dn"); (· first | decide | (simp only [List.length_cons, List.length_nil]; decide)))
  | ((with_reducible apply v_po); (· walk_at "dn"))
  | ((with_reducible apply v_sl); (· walk_at "dn"); (· walk_at "dn"); (· walk_at "dn"); (· walk_at "dg"))
  | ((with_reducible apply v_m1); (· walk_at "dn"); (· walk_at "dn"); (· walk_at "dg"))
  | ((with_reducible apply v_b); (· walk_at "dn"))
  | ((with_reducible apply v_not); (· walk_at "dn"))
  | ((with_reducible apply v_notV); (· walk_at "dn"))
  | ((with_reducible apply v_rng1); (· walk_at "dn"); (· omega))
  | ((with_reducible apply v_rng2); (· walk_at "dn"); (· omega))
  | ((with_reducible apply v_it); (· walk_at "dn"))
  | ((with_reducible apply v_itl); (· walk_at "dn"))
  | ((with_reducible apply v_its); (· walk_at "dn"))
  | with_reducible assumption)
local macro_rules | `(tactic| walk_at "dt") => `(tactic| first
  | with_reducible exact v_c | with_reducible exact v_nil | with_reducible exact v_no
  | ((with_reducible apply v_var); (· rfl); (· rfl))
  | ((with_reducible apply v_2) <;> walk_at "dt")
  | ((with_reducible apply v_1) <;> walk_at "dt")
  | ((with_reducible apply v_cons) <;> walk_at "dt")
  | ((with_reducible apply v_blt) <;> walk_at "dt")
  | ((with_reducible apply v_call) <;> walk_at "dt")
  | ((with_reducible apply v_tup) <;> walk_at "dt")
  | ((with_reducible apply v_lst) <;> walk_at "dt")
  | ((with_reducible apply v_po) <;> walk_at "dt")
  | ((with_reducible apply v_sl) <;> walk_at "dt")
  | ((with_reducible apply v_m1) <;> walk_at "dt")
  | ((with_reducible apply v_b) <;> walk_at "dt")
  | ((with_reducible apply v_notV) <;> walk_at "dt")
  | ((with_reducible apply v_not) <;> walk_at "dt")
  | ((with_reducible apply v_rng1) <;> first | omega | walk_at "dt")
  | ((with_reducible apply v_rng2) <;> first | omega | walk_at "dt")
  | walk_at "dg"
  | (show List.length _ ≤ sizeLine; first | decide | (simp only [List.length_cons, List.length_nil]; decide))
  | skip)
local macro_rules | `(tactic| walk_at "ds") => `(tactic| first
  | ((with_reducible apply w_ss) <;> first | walk_at "d1" | skip)
  | ((with_reducible apply w_r) <;> first | walk_at "d1" | skip)
  | ((with_reducible apply w_sp) <;> first | walk_at "d1" | skip)
  | ((with_reducible apply w_so) <;> first | walk_at "d1" | skip)
  | (with_reducible apply w_sv)
  | (with_reducible apply w_sq))
local macro_rules | `(tactic| walk_at "dx") => `(tactic| simp only [put, jn, List.set_cons_zero, List.set_cons_succ])
noncomputable def m_struck : En → Option Fl :=
  (fRet (f1 tupD (fLc (fEnum (fV 0)) (gT (gCons' (gN 1) (gCons' (gN 2) gNil'))) (fB (f2 neD (fV 2) (fC (.str [46])))) (fV 1) [1, 2])))
noncomputable def n_struck : List D → Option D := semOf 3 1 m_struck
noncomputable def m_laid : En → Option Fl :=
  (fRet (fM1 joinD (fC (.str [])) (fLc (fZip2 (fV 0) (fV 1)) (gT (gCons' (gN 2) (gCons' (gN 3) gNil'))) fYes (f2 ixD (fC (.str [46, 120, 88])) (fBlt maxG (fCons (fM1 indexD (fC (.str [46, 120, 88])) (fV 2)) (fCons (fM1 indexD (fC (.str [46, 120, 88])) (fV 3)) fNil)))) [2, 3])))
noncomputable def n_laid : List D → Option D := semOf 4 2 m_laid
noncomputable def m__law_marks : En → Option Fl :=
  (fSeq (fSet 2 (fC (.str [])))
  (fSeq (fFor (fRng1 (fCons (fV 1) fNil)) (gN 3)
    (fSeq (fSet 4 (f2 fdivD (fCall n__law_drawn (fCons (fV 0) (fCons (fV 3) fNil))) (fC (.int 4))))
    (fSet 2 (f2 addD (fV 2) (f2 ixD (fC (.str [46, 46, 46, 120, 120, 88])) (f2 modD (fV 4) (fC (.int 6))))))))
  (fRet (fV 2))))
noncomputable def n__law_marks : List D → Option D := semOf 5 2 m__law_marks
theorem enum_at (xs : List D) : enumD xs = (List.range xs.length).map fun i => D.wk [.int (i : Nat), xs.getD i .non] := by
  unfold enumD
  refine List.ext_getElem (by simp) fun i h1 h2 => ?_
  have h3 : i < xs.length := by simpa using h2
  simp [List.getElem_zipWith, List.getD_eq_getElem?_getD, List.getElem?_eq_getElem h3]
theorem zip2_at (xs ys : List D) (h : xs.length = ys.length) : zip2D xs ys = (List.range xs.length).map fun i => D.wk [xs.getD i .non, ys.getD i .non] := by
  unfold zip2D
  refine List.ext_getElem (by simp [h]) fun i h1 h2 => ?_
  have h3 : i < xs.length := by simpa using h2
  have h4 : i < ys.length := by omega
  simp [List.getElem_zipWith, List.getD_eq_getElem?_getD, List.getElem?_eq_getElem h3, List.getElem?_eq_getElem h4]
theorem zip3_at (xs ys zs : List D) (h : xs.length = ys.length) (h' : xs.length = zs.length) : zip3D xs ys zs = (List.range xs.length).map fun i => D.wk [xs.getD i .non, ys.getD i .non, zs.getD i .non] := by
  unfold zip3D
  refine List.ext_getElem (by simp [← h, ← h']) fun i h1 h2 => ?_
  have h3 : i < xs.length := by simpa using h2
  have h4 : i < ys.length := by omega
  have h5 : i < zs.length := by omega
  simp [List.getElem_zipWith, List.getD_eq_getElem?_getD, List.getElem?_eq_getElem h3, List.getElem?_eq_getElem h4, List.getElem?_eq_getElem h5]
theorem v_enum {fa : En → Option D} {env : En} {a : D} {xs : List D} (h : fa env = some a) (h2 : itemsD a = some xs) : fEnum fa env = some (enumD xs) := by
  unfold fEnum
  rw [h]
  simp only [Option.bind_some, h2]
theorem v_zip2 {fa fb : En → Option D} {env : En} {a b : D} {xs ys : List D} (h : fa env = some a) (h1 : fb env = some b) (h2 : itemsD a = some xs) (h3 : itemsD b = some ys) : fZip2 fa fb env = some (zip2D xs ys) := by
  unfold fZip2
  rw [h, h1]
  simp only [Option.bind_some, h2, h3]
theorem v_zip3 {fa fb fc : En → Option D} {env : En} {a b c : D} {xs ys zs : List D} (h : fa env = some a) (h1 : fb env = some b) (hc : fc env = some c) (h2 : itemsD a = some xs) (h3 : itemsD b = some ys) (h4 : itemsD c = some zs) : fZip3 fa fb fc env = some (zip3D xs ys zs) := by
  unfold fZip3
  rw [h, h1, hc]
  simp only [Option.bind_some, h2, h3, h4]
theorem getD_signs {row : List Nat} {i : Nat} (h : i < row.length) : (row.map fun x => D.str [x]).getD i .non = .str [row.getD i 46] := by
  simp [List.getD_eq_getElem?_getD, List.getElem?_eq_getElem h]
def strkN (row : List Nat) : List Nat := (List.range row.length).filter fun i => !decide (row.getD i 46 = 46)
def strk (row : List Nat) : List Int := (strkN row).map fun i : Nat => (i : Int)
theorem e_struck {row : List Nat} (h : row.length ≤ 1000) : n_struck [.str row] = some (.tup ((strk row).map D.int)) := by
  refine sem_rt rfl ?_
  show m_struck [some (.str row), none, none] = _
  unfold m_struck
  refine ret_of (v_1 (a := .lst ((strk row).map D.int)) (lcw (v_enum (by walk_at "dn") rfl) ?_ ?_) rfl)
  · rw [enum_at]
    simp
    omega
  · rw [enum_at, List.length_map]
    unfold strk strkN
    rw [List.map_map]
    refine lc_filter (fun i : Nat => D.wk [.int (i : Nat), (row.map fun x => D.str [x]).getD i .non]) _ _ (List.range row.length) fun i hi => ?_
    rw [getD_signs (List.mem_range.mp hi)]
    refine ⟨[some (.str row), some (.int (i : Nat)), some (.str [row.getD i 46])], rfl, ?_, fun _ => rfl⟩
    refine v_b (v_2 (by walk_at "dn") v_c ?_)
    rw [ne_s]
    simp
def isM (c : Nat) : Prop := c = 46 ∨ c = 120 ∨ c = 88
def isRow (l : List Nat) : Prop := ∀ c ∈ l, isM c
def rk (c : Nat) : Int := if c = 88 then 2 else if c = 120 then 1 else 0
def mx (c d : Nat) : Nat := if c = 88 ∨ d = 88 then 88 else if c = 120 ∨ d = 120 then 120 else 46
theorem e_rk {c : Nat} (h : isM c) : indexD [46, 120, 88] (.str [c]) = some (.int (rk c)) := by
  rcases h with rfl | rfl | rfl <;> rfl
def layL (a b : List Nat) : List Nat := List.zipWith mx a b
theorem layL_at (a b : List Nat) (h : a.length = b.length) : layL a b = (List.range a.length).map fun i => mx (a.getD i 46) (b.getD i 46) := by
  unfold layL
  refine List.ext_getElem (by simp [h]) fun i h1 h2 => ?_
  have h3 : i < a.length := by simpa using h2
  have h4 : i < b.length := by omega
  simp [List.getElem_zipWith, List.getD_eq_getElem?_getD, List.getElem?_eq_getElem h3, List.getElem?_eq_getElem h4]
theorem isM_at {l : List Nat} (h : isRow l) (i : Nat) : isM (l.getD i 46) := by
  rw [List.getD_eq_getElem?_getD]
  cases e : l[i]? with
  | none => exact .inl rfl
  | some c => exact h c (List.mem_of_getElem? e)
theorem e_laid {a b : List Nat} (ha : isRow a) (hb : isRow b) (h : a.length = b.length) (h2 : a.length ≤ 1000) : n_laid [.str a, .str b] = some (.str (layL a b)) := by
  refine sem_rt rfl ?_
  show m_laid [some (.str a), some (.str b), none, none] = _
  unfold m_laid
  refine ret_of (v_m1 v_c (lcw (r := ((List.range a.length).map fun i => [mx (a.getD i 46) (b.getD i 46)]).map D.str) (v_zip2 (by walk_at "dn") (by walk_at "dn") rfl rfl) ?_ ?_) ?_)
  · rw [zip2_at _ _ (by simp [h])]
    simp
    omega
  · rw [zip2_at _ _ (by simp [h]), List.length_map, List.map_map]
    refine lc_map (fun i : Nat => D.wk [(a.map fun x => D.str [x]).getD i .non, (b.map fun x => D.str [x]).getD i .non]) _ _ fun i hi => ?_
    rw [getD_signs (List.mem_range.mp hi), getD_signs (by rw [← h]; exact List.mem_range.mp hi)]
    refine ⟨[some (.str a), some (.str b), some (.str [a.getD i 46]), some (.str [b.getD i 46])], rfl, ?_⟩
    refine v_2 v_c (v_blt (v_cons (v_m1 v_c (by walk_at "dn") (e_rk (isM_at ha i))) (v_cons (v_m1 v_c (by walk_at "dn") (e_rk (isM_at hb i))) v_nil)) rfl) ?_
    show _ = some (D.str [mx (a.getD i 46) (b.getD i 46)])
    rcases isM_at ha i with e | e | e <;> rcases isM_at hb i with e' | e' | e' <;> rw [e, e'] <;> rfl
  · rw [join_l, joinL_nil, flat_ones, layL_at a b h]
    rw [sum_ones _ fun _ => rfl]
    simp
    omega
theorem e_marks (n : Int) {s : Nat} (hs : s ≤ 1000) : ∃ row, n__law_marks [.int n, .int s] = some (.str row) ∧ row.length = s ∧ isRow row := by
  have key := for_inv (g := gN 3) (B := (fSeq (fSet 4 (f2 fdivD (fCall n__law_drawn (fCons (fV 0) (fCons (fV 3) fNil))) (fC (.int 4)))) (fSet 2 (f2 addD (fV 2) (f2 ixD (fC (.str [46, 46, 46, 120, 120, 88])) (f2 modD (fV 4) (fC (.int 6))))))))
    (fun i : Nat => D.int (i : Nat)) (fun p e => ∃ row x y, e = [some (.int n), some (.int s), some (.str row), x, y] ∧ row.length = p.length ∧ isRow row) (List.range s) [] [some (.int n), some (.int s), some (.str []), none, none] ⟨[], none, none, rfl, rfl, fun c h => by cases h⟩ ?_
  · obtain ⟨e', h1, row, x, y, rfl, hl, hr⟩ := key
    refine ⟨row, sem_rt rfl ?_, by simpa using hl, hr⟩
    show m__law_marks [some (.int n), some (.int s), none, none, none] = _
    unfold m__law_marks
    refine w_seq (w_set v_c rfl) (w_seq (w_for (v_rng1 (n := (s : Int)) (by walk_at "dn") (by omega)) h1) (ret_of ?_))
    walk_at "dn"
  · rintro p i q e hp ⟨row, x, y, rfl, hl, hr⟩
    have hi : i ∈ List.range s := by
      have : i ∈ ([] : List Nat) ++ List.range s := by rw [hp]; simp
      simpa using this
    have hi := List.mem_range.mp hi
    have hpl : p.length ≤ s := by
      have := congrArg List.length hp
      simp at this
      omega
    obtain ⟨m, h0, h1, em⟩ := drawn_ok n (i : Int) (by omega)
    have hx : ∃ c, isM c ∧ ixD (.str [46, 46, 46, 120, 120, 88]) (.int (m / 4 % 6)) = some (.str [c]) := by
      have h6 : m / 4 % 6 = 0 ∨ m / 4 % 6 = 1 ∨ m / 4 % 6 = 2 ∨ m / 4 % 6 = 3 ∨ m / 4 % 6 = 4 ∨ m / 4 % 6 = 5 := by omega
      rcases h6 with e | e | e | e | e | e <;> rw [e]
      · exact ⟨46, .inl rfl, rfl⟩
      · exact ⟨46, .inl rfl, rfl⟩
      · exact ⟨46, .inl rfl, rfl⟩
      · exact ⟨120, .inr (.inl rfl), rfl⟩
      · exact ⟨120, .inr (.inl rfl), rfl⟩
      · exact ⟨88, .inr (.inr rfl), rfl⟩
    obtain ⟨c, hc, hx⟩ := hx
    refine ⟨_, [some (.int n), some (.int s), some (.str (row ++ [c])), some (.int (i : Nat)), some (.int (m / 4))], rfl, ?_, row ++ [c], _, _, rfl, by simp [hl], ?_⟩
    · show fSeq _ _ [some (.int n), some (.int s), some (.str row), some (.int (i : Nat)), y] = _
      refine w_seq (w_set (v_2 (v_call (by walk_at "dn") em) v_c (fdiv_i (by omega))) rfl) ?_
      refine w_set (d := .str (row ++ [c])) (v_2 (by walk_at "dn") (v_2 v_c (by walk_at "dn") hx) (add_s ?_)) rfl
      simp
      omega
    · intro d hd
      rcases List.mem_append.mp hd with h | h
      · exact hr d h
      · rw [List.mem_singleton.mp h]
        exact hc
theorem w_nf {fa fb : En → Option D} {env : En} {x y : D} (h1 : fa env = some x) (h2 : fb env = some y) (h3 : x = y) (h4 : okN 60 x = true) : fB (f2 neD fa fb) env = some false := by
  subst h3
  exact v_b (v_2 h1 h2 (ne_same h4))
theorem okN_strs (n : Nat) (ls : List (List Nat)) : ((ls.map D.str).all fun x => okN n x) = true := by
  rw [List.all_eq_true]
  intro x hx
  obtain ⟨l, _, rfl⟩ := List.mem_map.mp hx
  cases n <;> rfl
theorem okN_ints (n : Nat) (ls : List Int) : ((ls.map D.int).all fun x => okN n x) = true := by
  rw [List.all_eq_true]
  intro x hx
  obtain ⟨l, _, rfl⟩ := List.mem_map.mp hx
  cases n <;> rfl
theorem ok_tints (ls : List Int) : okN 60 (.tup (ls.map D.int)) = true := okN_ints 59 ls
theorem ok_lints (ls : List Int) : okN 60 (.lst (ls.map D.int)) = true := okN_ints 59 ls
theorem ok_lstrs (ls : List (List Nat)) : okN 60 (.lst (ls.map D.str)) = true := okN_strs 59 ls
theorem mx_row {c d : Nat} (h : isM c) (h' : isM d) : isM (mx c d) := by
  rcases h with rfl | rfl | rfl <;> rcases h' with rfl | rfl | rfl <;> simp [mx, isM]
theorem lay_row {a b : List Nat} (ha : isRow a) (hb : isRow b) (h : a.length = b.length) : isRow (layL a b) := by
  intro c hc
  rw [layL_at a b h] at hc
  obtain ⟨i, _, rfl⟩ := List.mem_map.mp hc
  exact mx_row (isM_at ha i) (isM_at hb i)
theorem lay_len {a b : List Nat} (h : a.length = b.length) : (layL a b).length = a.length := by
  unfold layL
  rw [List.length_zipWith, ← h, Nat.min_self]
theorem lay_get {a b : List Nat} (h : a.length = b.length) {i : Nat} (hi : i < a.length) : (layL a b).getD i 46 = mx (a.getD i 46) (b.getD i 46) := by
  rw [layL_at a b h]
  simp [List.getD_eq_getElem?_getD, hi]
theorem row_ext {a b : List Nat} (h : a.length = b.length) (q : ∀ i, i < a.length → a.getD i 46 = b.getD i 46) : a = b := by
  refine List.ext_getElem h fun i h1 h2 => ?_
  have := q i h1
  simpa [List.getD_eq_getElem?_getD, List.getElem?_eq_getElem h1, List.getElem?_eq_getElem h2] using this
theorem rot_len (row : List Nat) (b : Int) : (rotL row b).length = row.length := by
  unfold rotL
  rw [List.length_append, List.length_drop, List.length_take]
  omega
theorem rot_row {row : List Nat} (h : isRow row) (b : Int) : isRow (rotL row b) := by
  intro c hc
  unfold rotL at hc
  rcases List.mem_append.mp hc with q | q
  · exact h c (List.mem_of_mem_drop q)
  · exact h c (List.mem_of_mem_take q)
theorem reps_one (c n : Nat) : reps [c] n = List.replicate n c := by
  unfold reps
  induction n with
  | zero => rfl
  | succ n ih => rw [List.replicate_succ, List.flatten_cons, ih, List.replicate_succ]; rfl
theorem strkN_rises (row : List Nat) : (strkN row).Pairwise (· < ·) := List.Pairwise.filter _ List.pairwise_lt_range
theorem strk_rises (row : List Nat) : (strk row).Pairwise (· < ·) := by
  unfold strk
  rw [List.pairwise_map]
  exact (strkN_rises row).imp fun h => by omega
theorem mem_strkN {row : List Nat} {i : Nat} : i ∈ strkN row ↔ i < row.length ∧ row.getD i 46 ≠ 46 := by
  unfold strkN
  rw [List.mem_filter, List.mem_range]
  simp
theorem mem_strk {row : List Nat} {k : Int} : k ∈ strk row ↔ ∃ i : Nat, k = (i : Int) ∧ i < row.length ∧ row.getD i 46 ≠ 46 := by
  unfold strk
  rw [List.mem_map]
  constructor
  · rintro ⟨i, h, rfl⟩
    exact ⟨i, rfl, mem_strkN.mp h⟩
  · rintro ⟨i, rfl, h⟩
    exact ⟨i, mem_strkN.mpr h, rfl⟩
theorem strk_len (row : List Nat) : (strk row).length ≤ row.length := by
  unfold strk strkN
  rw [List.length_map]
  have := List.length_filter_le (fun i => !decide (row.getD i 46 = 46)) (List.range row.length)
  simpa using this
theorem at_get {row : List Nat} {i : Nat} (h : i < row.length) : row[i]? = some (row.getD i 46) := by
  rw [List.getD_eq_getElem?_getD, List.getElem?_eq_getElem h]
  rfl
end Dn
set_option Elab.async false
set_option linter.all false
set_option maxRecDepth 100000
/-! Part I: lists that a slot owns: made, written, told as plain ones. -/
namespace Dn
open PySem L2 PySem.Spec PyProof.Rows

def tN (K : PySem.W.Frag) (f : En → Option (List D)) : TE := fun σ H Q => ∃ H0 env Hb ds, Rel K H0 Hb H σ env ∧ Same Hb H ∧ f env = some ds ∧
  ∀ a vs Hb' H', Step Hb H Hb' H' → H a = none → Hb' a = none → H' a = some (.lst vs) → IsL K Hb' ds vs → Q (.ref a) H'
section
variable {X : Cx} {a b e o : Expr} {es : List Expr} {pos apos cpos tpos : Pos} {fa fb fv : En → Option D} {fs fn : En → Option (List D)} {F : En → Option Fl} {sts : List Stmt}
def fNL (fs : En → Option (List D)) : En → Option (List D) := fun env => (fs env).bind fun ds => if ds.length ≤ sizeLine then some ds else none
theorem n_lst (h : PA X es (tA X.K fs)) : PE X (.List es pos) (tN X.K (fNL fs)) := PE_weak (pe_lst h) fun σ H Q hh => by
  obtain ⟨H0, env, Hb, d, r, sm, ef, q⟩ := hh
  obtain ⟨ds, es, eg⟩ := bind1 ef
  obtain ⟨hl, rfl⟩ := iteS eg
  exact ⟨H0, env, Hb, ds, r, sm, es, fun vs Hb1 H1 s1 ix => ⟨by rw [ix.length]; exact hl, fun p hp =>
    q p vs Hb1 _ (s1.trans (Step.hid s1.c hp (s1.c.free hp))) (s1.a.free hp) (s1.c.free hp) upd_same ix⟩⟩
def mulN : D → D → Option (List D)
  | .lst x, .int n => if x.length ≤ 1000 ∧ -1000 ≤ n ∧ n ≤ 1000 then some (reps x n.toNat) else none
  | _, _ => none
def fNM (fa fb : En → Option D) : En → Option (List D) := fun env => (fa env).bind fun a => (fb env).bind fun b => mulN a b
theorem n_mul (ha : PE X a (tD X.K fa)) (hb : PE X b (tD X.K fb)) : PE X (.BinOp a .Mult b pos) (tN X.K (fNM fa fb)) := PE_weak (pe_op op_rep ha hb) fun σ H Q hh => by
  obtain ⟨H0, env, Hb, d, r, sm, ef, q⟩ := hh
  obtain ⟨da, db, ea, eb, eg⟩ := bind2 ef
  refine ⟨H0, env, Hb, da, r, sm, ea, fun x Hb1 H1 s1 ix => ⟨H0, env, Hb1, db, r.step s1, s1.c, eb, fun y Hb2 H2 s2 iy => ?_⟩⟩
  unfold mulN at eg
  split at eg
  · obtain ⟨⟨h1, h2, h3⟩, rfl⟩ := iteS eg
    have ix' := ix.mono s2.b
    simp only [Is] at ix' iy
    obtain ⟨p, xs, rfl, hx, lx⟩ := ix'
    subst iy
    have s12 := s1.trans s2
    refine ⟨p, _, xs, rfl, rfl, s2.c _ _ hx, by omega, by omega, ?_, fun z hz => q z _ Hb2 _ (s12.trans (Step.hid s2.c hz (s2.c.free hz))) (s12.a.free hz) (s2.c.free hz) upd_same ?_⟩
    · refine Nat.le_trans ?_ size1000
      rw [lx.length]
      refine Nat.le_trans (Nat.mul_le_mul_left _ (?_ : _ ≤ 1000)) (by omega)
      omega
    · unfold reps
      generalize Int.toNat _ = m
      induction m with
      | zero => simp [IsL]
      | succ m ih =>
        rw [List.replicate_succ, List.replicate_succ, List.flatten_cons, List.flatten_cons]
        exact lx.append ih
  · cases eg

/-! ### slots that own -/
theorem Rel.own {K : PySem.W.Frag} {H0 Hb H Hb' H' : Hp} {σ : L2.St} {env : En} (r : Rel K H0 Hb H σ env) (s : Step Hb H Hb' H') (i : Nat) {p : Addr} {d : D} (hp : H p = none) (hd : IsS K H0 Hb' H' d (.ref p)) : Rel K H0 Hb' H' (σ.set i (some (.ref p))) (env.set i (some d)) := by
  have r' := r.step s
  have ownA : ∀ (j : Nat) (e : D) (q : Addr), env[j]? = some (some e) → e.isOwn = true → σ[j]? = some (some (.ref q)) → q ≠ p := fun j e q he ho hs z => by
    obtain ⟨v, h1, h2⟩ := r.val j e he
    rw [hs] at h1
    cases h1
    cases e with
    | own ds =>
      obtain ⟨a, vs, e1, e2, e3, e4, e5⟩ := h2
      cases e1
      rw [z, hp] at e4
      cases e4
    | ownd ds =>
      obtain ⟨a, vs, e1, e2, e3, e4, e5⟩ := h2
      cases e1
      rw [z, hp] at e4
      cases e4
    | _ => cases ho
  refine ⟨by rw [List.length_set, List.length_set, r.len], fun j e q => ?_, fun j k e e' a ne q1 q2 o1 o2 s1 s2 => ?_⟩
  · by_cases hj : i = j
    · subst hj
      have hi : i < env.length := by
        have := (List.getElem?_eq_some_iff.mp q).1
        rw [List.length_set] at this
        exact this
      rw [List.getElem?_set_self hi] at q
      cases q
      exact ⟨_, List.getElem?_set_self (by rw [r.len]; exact hi), hd⟩
    · rw [List.getElem?_set_ne hj] at q
      obtain ⟨w, a, b⟩ := r'.val j e q
      exact ⟨w, by rw [List.getElem?_set_ne hj]; exact a, b⟩
  · have hset : ∀ (m : Nat), i = m → (σ.set i (some (.ref p)))[m]? = some (some (.ref a)) → a = p := fun m hm hs => by
      subst hm
      have hi : i < σ.length := by
        have := (List.getElem?_eq_some_iff.mp hs).1
        rw [List.length_set] at this
        exact this
      rw [List.getElem?_set_self hi] at hs
      cases hs
      rfl
    by_cases hj : i = j
    · have := hset j hj s1
      subst this
      rw [List.getElem?_set_ne (by omega)] at q2 s2
      exact ownA k e' _ q2 o2 s2 rfl
    · by_cases hk : i = k
      · have := hset k hk s2
        subst this
        rw [List.getElem?_set_ne hj] at q1 s1
        exact ownA j e _ q1 o1 s1 rfl
      · rw [List.getElem?_set_ne hj] at q1 s1
        rw [List.getElem?_set_ne hk] at q2 s2
        exact r.sep j k e e' a ne q1 q2 o1 o2 s1 s2
def fOwn (i : Nat) (fn : En → Option (List D)) : En → Option Fl := fun env => (fn env).bind fun ds => some (.nx (env.set i (some (.own ds))))
theorem s_own (i : Nat) {x : Str} {pos' : Pos} (hN : X.N.Nodup) (he : PE X e (tN X.K fn)) (hi : X.N[i]? = some x := by rfl) (hx : Loc X.env.scope x := by first | exact Or.inl rfl | exact Or.inr rfl) (hs : swapsWith e (some (.Name x pos')) pos.line X.env = pure false := by rfl)
    (hf : X.fn x = true ∨ X.env.scope.names.lookup x = some .local := by first | exact .inl rfl | exact .inr rfl) : PS X (.Assign [.Name x pos'] e pos) (tS X.K (fOwn i fn)) := PS_weak (ps_set hN hi hx he hs hf) fun N σ H h => by
  obtain ⟨H0, Hb0, env, Hb, fl, r, sp, ef, out⟩ := h
  obtain ⟨ds, ed, ef⟩ := bind1 ef
  cases ef
  exact ⟨H0, env, Hb, ds, r, sp.c, ed, fun p vs Hb1 H1 s1 hp hb h1 il => out _ Hb1 H1 (r.own s1 i hp ⟨p, vs, rfl, sp.a.free hp, hb, h1, il⟩) (sp.trans s1)⟩
/-- an owned object is rewritten -/
theorem Rel.put {K : PySem.W.Frag} {H0 Hb H : Hp} {σ : L2.St} {env : En} (r : Rel K H0 Hb H σ env) {i : Nat} {p : Addr} {d d' : D} {ob : HO} (hi : env[i]? = some (some d)) (hd : d.isOwn = true) (hs : σ[i]? = some (some (.ref p))) (hd2 : d'.isOwn = true) (hn : IsS K H0 Hb (upd H p ob) d' (.ref p)) : Rel K H0 Hb (upd H p ob) σ (env.set i (some d')) := by
  have hlt := (List.getElem?_eq_some_iff.mp hi).1
  have other : ∀ (j : Nat) (e : D), i ≠ j → env[j]? = some (some e) → e.isOwn = true → σ[j]? ≠ some (some (.ref p)) := fun j e hne he ho hz => r.sep i j d e p hne hi he hd ho hs hz
  refine ⟨by rw [List.length_set, r.len], fun j e q => ?_, fun j k e e' a ne q1 q2 o1 o2 s1 s2 => ?_⟩
  · by_cases hj : i = j
    · subst hj
      rw [List.getElem?_set_self hlt] at q
      cases q
      exact ⟨_, hs, hn⟩
    · rw [List.getElem?_set_ne hj] at q
      obtain ⟨w, a, b⟩ := r.val j e q
      refine ⟨w, a, ?_⟩
      cases ho : e.isOwn with
      | false =>
        rw [IsS.plain ho] at b ⊢
        exact b
      | true =>
        have := other j e hj q ho
        cases e with
        | own ds =>
          obtain ⟨z, vs, e1, e2, e3, e4, e5⟩ := b
          refine ⟨z, vs, e1, e2, e3, ?_, e5⟩
          rw [upd_ne fun hz => this (by rw [a, e1, hz])]
          exact e4
        | ownd ds =>
          obtain ⟨z, vs, e1, e2, e3, e4, e5⟩ := b
          refine ⟨z, vs, e1, e2, e3, ?_, e5⟩
          rw [upd_ne fun hz => this (by rw [a, e1, hz])]
          exact e4
        | _ => cases ho
  · have key : ∀ (m : Nat) (x : D), (env.set i (some d'))[m]? = some (some x) → x.isOwn = true → ∃ y, env[m]? = some (some y) ∧ y.isOwn = true := fun m x q o => by
      by_cases hm : i = m
      · subst hm
        exact ⟨d, hi, hd⟩
      · rw [List.getElem?_set_ne hm] at q
        exact ⟨x, q, o⟩
    obtain ⟨y, y1, y2⟩ := key j e q1 o1
    obtain ⟨z, z1, z2⟩ := key k e' q2 o2
    exact r.sep j k y z a ne y1 z1 y2 z2 s1 s2
theorem Step.put {Hb0 H0 Hb H : Hp} (s : Step Hb0 H0 Hb H) {p : Addr} {ob : HO} (h0 : H0 p = none) (hb : Hb p = none) : Step Hb0 H0 Hb (upd H p ob) :=
  ⟨fun b x e => by rw [upd_ne (ne_of_none e h0)]; exact s.a b x e, s.b, fun b x e => by rw [upd_ne (ne_of_none e hb)]; exact s.c b x e, s.f, s.t⟩
/-- x[k] = v -/
def itemF (i : Nat) (k d : D) (env : En) : Option Fl := match env[i]?, k with
  | some (some (.own ds)), .int k => (ixN ds.length k).bind fun j => some (.nx (env.set i (some (.own (ds.set j d)))))
  | _, _ => none
def fItem (i : Nat) (fk fv : En → Option D) : En → Option Fl := fun env => (fv env).bind fun d => (fk env).bind fun k => itemF i k d env
theorem s_item (i : Nat) {x : Str} {xpos : Pos} {k : Expr} {fk : En → Option D} (hv : PE X e (tD X.K fv)) (hk : PE X k (tD X.K fk)) (hi : X.N[i]? = some x := by rfl) (hvis : Vis X.env.scope x := by first | exact Or.inl rfl | exact Or.inr (Or.inl rfl) | exact Or.inr (Or.inr rfl))
    (hd : (x == ("__debug__" : Str)) = false := by decide) (hcd : (x == ("__classdict__" : Str)) = false := by decide)
    (ha : ∀ v, assign (.Subscript (.Name x xpos) k tpos) X.env v = (do
      let ov ← holding [v] (eval (.Name x xpos) X.env)
      let iv ← holding [v, ov] (eval k X.env)
      standAt tpos
      holding [v, ov, iv] (setItem ov iv v)
      release [v, ov, iv] []) := by intro _; rfl)
    (hs : swapsWithSole [.Subscript (.Name x xpos) k tpos] e pos.line X.env = pure false := by rfl) (hw : swappedStores [.Subscript (.Name x xpos) k tpos] e X.env = pure none := by rfl)
    (h1 : (assignEach [.Subscript (.Name x xpos) k tpos] X.env).map (·.2) = [assign (.Subscript (.Name x xpos) k tpos) X.env] := by rfl) :
    PS X (.Assign [.Subscript (.Name x xpos) k tpos] e pos) (tS X.K (fItem i fk fv)) := PS_weak (ps_asg hv (pg_sub (pe_var hi hvis hd hcd) hk set_list ha) hs hw h1) fun N σ H h => by
  obtain ⟨H0, Hb0, env, Hb, fl, r, sp, ef, out⟩ := h
  obtain ⟨d, ed, ef⟩ := bind1 ef
  obtain ⟨kd, ek, ef⟩ := bind1 ef
  refine ⟨H0, env, Hb, d, r, sp.c, ed, fun v Hb1 H1 s1 iv => ?_⟩
  unfold itemF at ef
  split at ef
  · rename_i ds k0 hslot
    obtain ⟨j, hj, ef⟩ := bind1 ef
    cases ef
    obtain ⟨w, hσ, hown⟩ := r.val i _ hslot
    obtain ⟨p, vs, rfl, _⟩ := id hown
    refine ⟨_, hσ, H0, env, Hb1, .int k0, r.step s1, s1.c, ek, fun y Hb2 H2 s2 iy => ?_⟩
    simp only [Is] at iy
    subst iy
    have s12 := s1.trans s2
    obtain ⟨p', vs, e1, e2, e3, e4, e5⟩ := hown.step s12
    cases e1
    refine ⟨p, vs, k0, j, rfl, rfl, e4, by rw [e5.length]; exact hj, out _ Hb2 _ (((r.step s12).put (i := i) hslot rfl hσ (d' := .own (ds.set j d)) rfl ?_)) ((sp.trans s12).put e2 e3)⟩
    exact ⟨p, _, rfl, e2, e3, upd_same, IsL.set j e5 (iv.mono s2.b)⟩
  · cases ef
/-- x.append(v) -/
def appF (i : Nat) (d : D) (env : En) : Option Fl := match env[i]? with
  | some (some (.own ds)) => if ds.length < 1000000 then some (.nx (env.set i (some (.own (ds ++ [d]))))) else none
  | _ => none
def fApp (i : Nat) (fv : En → Option D) : En → Option Fl := fun env => (fv env).bind fun d => appF i d env
theorem s_app (i : Nat) {x : Str} {xpos : Pos} (hv : PE X e (tD X.K fv)) (hi : X.N[i]? = some x := by rfl) (hvis : Vis X.env.scope x := by first | exact Or.inl rfl | exact Or.inr (Or.inl rfl) | exact Or.inr (Or.inr rfl))
    (hd : (x == ("__debug__" : Str)) = false := by decide) (hcd : (x == ("__classdict__" : Str)) = false := by decide)
    (hbase : attributeBase (.Name x xpos) "append" X.env (eval (.Name x xpos) X.env) = eval (.Name x xpos) X.env := by rfl)
    (hfew : ((backTo cpos (starEach [e] X.env)).all (fun x => !x.1) && (backToKw cpos (keywordEach [] X.env)).all (fun x => x.1.isSome)
      && decide (([e] : List Expr).length + ([] : List Keyword).length + (if ([] : List Keyword).isEmpty then 0 else 1) < 30)) = true := by rfl)
    (hline : (apos.endLine == cpos.line) = true := by rfl) (hs : starEach [e] X.env = (false, eval e X.env) :: starEach [] X.env := by rfl) (hplain : (backTo cpos (starEach [] X.env)).any (·.1) = false := by rfl)
    (hsw : swapsWith (.Call (.Attribute (.Name x xpos) "append" apos) [e] [] cpos) none pos.line X.env = pure false := by rfl) :
    PS X (.Expr (.Call (.Attribute (.Name x xpos) "append" apos) [e] [] cpos) pos) (tS X.K (fApp i fv)) :=
  PS_weak (ps_expr (pe_bm F.plainAttrs_list F.slot_list_append F.type_list_append mt_append (pe_var hi hvis hd hcd) (pa_cons hv pa_nil hs) hbase hfew hline hs hplain) hsw) fun N σ H h => by
  obtain ⟨H0, Hb0, env, Hb, fl, r, sp, ef, out⟩ := h
  obtain ⟨d, ed, ef⟩ := bind1 ef
  unfold appF at ef
  split at ef
  · rename_i ds hslot
    obtain ⟨hl, hfl⟩ := iteS ef
    subst hfl
    obtain ⟨w, hσ, hown⟩ := r.val i _ hslot
    obtain ⟨p, vs, rfl, a2, a3, a4, a5⟩ := id hown
    refine ⟨_, hσ, .inl ⟨rfl, vs, .inl (.inl a4)⟩, H0, env, Hb, d, r, sp.c, ed, fun v Hb1 H1 s1 iv => ?_⟩
    obtain ⟨p', vs, e1, e2, e3, e4, e5⟩ := hown.step s1
    cases e1
    refine ⟨p, vs, v, rfl, rfl, e4, by rw [e5.length]; exact Nat.lt_of_lt_of_le hl size1000, out _ Hb1 _ ((r.step s1).put (i := i) hslot rfl hσ (d' := .own (ds ++ [d])) rfl ?_) ((sp.trans s1).put e2 e3)⟩
    refine ⟨p, _, rfl, e2, e3, upd_same, e5.append ?_⟩
    simp only [IsL]
    exact ⟨v, [], rfl, iv, rfl⟩
  · cases ef
/-- x.extend(v), v a list -/
def extF (i : Nat) (d : D) (env : En) : Option Fl := match env[i]?, d with
  | some (some (.own ds)), .lst es => if ds.length + es.length ≤ 1000000 then some (.nx (env.set i (some (.own (ds ++ es))))) else none
  | _, _ => none
def fExt (i : Nat) (fv : En → Option D) : En → Option Fl := fun env => (fv env).bind fun d => extF i d env
theorem s_ext (i : Nat) {x : Str} {xpos : Pos} (hv : PE X e (tD X.K fv)) (hi : X.N[i]? = some x := by rfl) (hvis : Vis X.env.scope x := by first | exact Or.inl rfl | exact Or.inr (Or.inl rfl) | exact Or.inr (Or.inr rfl))
    (hd : (x == ("__debug__" : Str)) = false := by decide) (hcd : (x == ("__classdict__" : Str)) = false := by decide)
    (hbase : attributeBase (.Name x xpos) "extend" X.env (eval (.Name x xpos) X.env) = eval (.Name x xpos) X.env := by rfl)
    (hfew : ((backTo cpos (starEach [e] X.env)).all (fun x => !x.1) && (backToKw cpos (keywordEach [] X.env)).all (fun x => x.1.isSome)
      && decide (([e] : List Expr).length + ([] : List Keyword).length + (if ([] : List Keyword).isEmpty then 0 else 1) < 30)) = true := by rfl)
    (hline : (apos.endLine == cpos.line) = true := by rfl) (hs : starEach [e] X.env = (false, eval e X.env) :: starEach [] X.env := by rfl) (hplain : (backTo cpos (starEach [] X.env)).any (·.1) = false := by rfl)
    (hsw : swapsWith (.Call (.Attribute (.Name x xpos) "extend" apos) [e] [] cpos) none pos.line X.env = pure false := by rfl) :
    PS X (.Expr (.Call (.Attribute (.Name x xpos) "extend" apos) [e] [] cpos) pos) (tS X.K (fExt i fv)) :=
  PS_weak (ps_expr (pe_bm F.plainAttrs_list F.slot_list_extend F.type_list_extend mt_extend (pe_var hi hvis hd hcd) (pa_cons hv pa_nil hs) hbase hfew hline hs hplain) hsw) fun N σ H h => by
  obtain ⟨H0, Hb0, env, Hb, fl, r, sp, ef, out⟩ := h
  obtain ⟨d, ed, ef⟩ := bind1 ef
  unfold extF at ef
  split at ef
  · rename_i ds es hslot
    obtain ⟨hl, hfl⟩ := iteS ef
    subst hfl
    obtain ⟨w, hσ, hown⟩ := r.val i _ hslot
    obtain ⟨p, vs, rfl, a2, a3, a4, a5⟩ := id hown
    refine ⟨_, hσ, .inl ⟨rfl, vs, .inl (.inl a4)⟩, H0, env, Hb, _, r, sp.c, ed, fun v Hb1 H1 s1 iv => ?_⟩
    simp only [Is] at iv
    obtain ⟨q, ws, rfl, hq, lq⟩ := iv
    obtain ⟨p', vs, e1, e2, e3, e4, e5⟩ := hown.step s1
    cases e1
    refine ⟨p, q, vs, ws, rfl, rfl, e4, s1.c _ _ hq, by rw [e5.length, lq.length]; exact Nat.le_trans hl size1000, out _ Hb1 _ ((r.step s1).put (i := i) hslot rfl hσ (d' := .own (ds ++ es)) rfl ?_) ((sp.trans s1).put e2 e3)⟩
    exact ⟨p, _, rfl, e2, e3, upd_same, e5.append lq⟩
  · cases ef
/-- an owned list is a plain one from here on -/
def fFrz (i : Nat) : En → Option Fl := fun env => match env[i]? with
  | some (some (.own ds)) => some (.nx (env.set i (some (.lst ds))))
  | some (some (.ownd ds)) => some (.nx (env.set i (some (.dct ds))))
  | _ => none
theorem Rel.frz {K : PySem.W.Frag} {H0 Hb H : Hp} {σ : L2.St} {env : En} (r : Rel K H0 Hb H σ env) {i : Nat} {p : Addr} {d d' : D} {ob : HO} (hi : env[i]? = some (some d)) (hd : d.isOwn = true) (hs : σ[i]? = some (some (.ref p))) (hb : Hb p = none) (hn : Is K (upd Hb p ob) d' (.ref p)) : Rel K H0 (upd Hb p ob) H σ (env.set i (some d')) := by
  have hlt := (List.getElem?_eq_some_iff.mp hi).1
  have hd' : d'.isOwn = false := by cases d' <;> first | rfl | (simp only [Is] at hn)
  refine ⟨by rw [List.length_set, r.len], fun j e q => ?_, fun j k e e' a ne q1 q2 o1 o2 s1 s2 => ?_⟩
  · by_cases hj : i = j
    · subst hj
      rw [List.getElem?_set_self hlt] at q
      cases q
      refine ⟨_, hs, ?_⟩
      rw [IsS.plain hd']
      exact hn
    · rw [List.getElem?_set_ne hj] at q
      obtain ⟨w, a, b⟩ := r.val j e q
      refine ⟨w, a, ?_⟩
      cases ho : e.isOwn with
      | false =>
        rw [IsS.plain ho] at b ⊢
        exact b.mono (same_new hb)
      | true =>
        have ne : ∀ z, w = .ref z → z ≠ p := fun z hz e2 => r.sep i j d e p hj hi q hd ho hs (by rw [a, hz, e2])
        cases e with
        | own ds =>
          obtain ⟨z, vs, e1, e2, e3, e4, e5⟩ := b
          exact ⟨z, vs, e1, e2, by rw [upd_ne (ne z e1)]; exact e3, e4, e5.mono (same_new hb)⟩
        | ownd ds =>
          obtain ⟨z, vs, e1, e2, e3, e4, e5⟩ := b
          exact ⟨z, vs, e1, e2, by rw [upd_ne (ne z e1)]; exact e3, e4, e5.mono (same_new hb)⟩
        | _ => cases ho
  · have key : ∀ (m : Nat) (x : D), (env.set i (some d'))[m]? = some (some x) → x.isOwn = true → env[m]? = some (some x) := fun m x q o => by
      by_cases hm : i = m
      · subst hm
        rw [List.getElem?_set_self hlt] at q
        cases q
        rw [hd'] at o
        cases o
      · rw [List.getElem?_set_ne hm] at q
        exact q
    exact r.sep j k e e' a ne (key j e q1 o1) (key k e' q2 o2) o1 o2 s1 s2
theorem Step.frz {Hb0 H0 Hb H : Hp} (s : Step Hb0 H0 Hb H) {p : Addr} {ob : HO} (h0 : H0 p = none) (hb : Hb p = none) (h : H p = some ob) (ht : ∀ ps, ob ≠ .tbl ps := by intro _ z; cases z) : Step Hb0 H0 (upd Hb p ob) H :=
  ⟨s.a, s.b.trans (same_new hb), fun b x e => by
    by_cases hz : b = p
    · subst hz
      rw [upd_same] at e
      rw [h, e]
    · rw [upd_ne hz] at e
      exact s.c b x e, fun q x e n => by
    rw [upd_ne (ne_of_none e h0)]
    exact s.f q x e n, fun n => (s.t n).upd ht⟩
theorem Step.frzD {Hb0 H0 Hb H : Hp} (s : Step Hb0 H0 Hb H) {p : Addr} {ob : HO} (h0 : H0 p = none) (hb : Hb p = none) (ht : ∀ ps, ob ≠ .tbl ps := by intro _ z; cases z) : Step Hb0 H0 (upd Hb p ob) (upd H p ob) :=
  ⟨fun b x e => by
    rw [upd_ne (ne_of_none e h0)]
    exact s.a b x e, s.b.trans (same_new hb), same_upd2 s.c, fun q x e n => by
    rw [upd_ne (ne_of_none e h0)]
    exact s.f q x e n, fun n => (s.t n).upd ht⟩
/-- an owned object is locked: the others stay -/
theorem Rel.lock {K : PySem.W.Frag} {H0 Hb H : Hp} {σ : L2.St} {env : En} (r : Rel K H0 Hb H σ env) {i : Nat} {p : Addr} {d d' : D} {ob : HO} (hi : env[i]? = some (some d)) (hd : d.isOwn = true) (hs : σ[i]? = some (some (.ref p))) (hb : Hb p = none) (hn : Is K (upd Hb p ob) d' (.ref p)) : Rel K H0 (upd Hb p ob) (upd H p ob) σ (env.set i (some d')) := by
  have r' := r.frz hi hd hs hb hn
  have hlt := (List.getElem?_eq_some_iff.mp hi).1
  refine ⟨r'.len, fun j e q => ?_, r'.sep⟩
  obtain ⟨w, a, b⟩ := r'.val j e q
  refine ⟨w, a, ?_⟩
  cases ho : e.isOwn with
  | false =>
    rw [IsS.plain ho] at b ⊢
    exact b
  | true =>
    have hij : i ≠ j := fun z => by
      subst z
      rw [List.getElem?_set_self hlt] at q
      cases q
      have : d'.isOwn = false := by cases d' <;> first | rfl | (simp only [Is] at hn)
      rw [this] at ho
      cases ho
    have q' := q
    rw [List.getElem?_set_ne hij] at q'
    have ne : ∀ z, w = .ref z → z ≠ p := fun z hz e2 => r.sep i j d e p hij hi q' hd ho hs (by rw [a, hz, e2])
    cases e with
    | own ds =>
      obtain ⟨z, vs, e1, e2, e3, e4, e5⟩ := b
      exact ⟨z, vs, e1, e2, e3, by rw [upd_ne (ne z e1)]; exact e4, e5⟩
    | ownd ds =>
      obtain ⟨z, vs, e1, e2, e3, e4, e5⟩ := b
      exact ⟨z, vs, e1, e2, e3, by rw [upd_ne (ne z e1)]; exact e4, e5⟩
    | _ => cases ho
theorem ss_frz (i : Nat) (h : PSs X sts (tS X.K F)) : PSs X sts (tS X.K (fSeq (fFrz i) F)) := ⟨fun pins s σ H N I h' => by
  obtain ⟨H0, Hb0, env, Hb, fl, r, sp, ef, out⟩ := h'
  obtain ⟨f1, e1, ef⟩ := bind1 ef
  unfold fFrz at e1
  split at e1
  · rename_i ds hslot
    cases e1
    obtain ⟨w, hσ, hown⟩ := r.val i _ hslot
    obtain ⟨p, vs, rfl, a2, a3, a4, a5⟩ := id hown
    exact h.run pins s σ H N I ⟨H0, Hb0, _, upd Hb p (.lst vs), fl, r.frz hslot rfl hσ a3 (is_lst_new a3 a5), sp.frz a2 a3 a4, ef, out⟩
  · rename_i ds hslot
    cases e1
    obtain ⟨w, hσ, hown⟩ := r.val i _ hslot
    obtain ⟨p, vs, rfl, a2, a3, a4, a5⟩ := id hown
    obtain ⟨o, I2⟩ := I.lock a4 (by trivial)
    refine h.run pins s σ _ N I2 ⟨H0, Hb0, _, upd Hb p (.frz o (.dK vs)), fl, r.lock hslot rfl hσ a3 ?_, sp.frzD a2 a3, ef, out⟩
    simp only [Is]
    exact ⟨p, vs, rfl, ⟨o, upd_same⟩, a5.mono (same_new a3)⟩
  · cases e1⟩
/-! ### while: fuel enough -/
theorem fuel_ex : ∃ n : Nat, 1000000 ≤ n := ⟨_, Nat.le_refl _⟩
noncomputable def fuelN : En → Nat := fun _ => Classical.choose fuel_ex
theorem fuelN_ge (env : En) : 1000000 ≤ fuelN env := Classical.choose_spec fuel_ex
theorem while_run {c : En → Option Bool} {B : En → Option Fl} (st : Nat → En) : ∀ (n i : Nat), (∀ j, i ≤ j → j < i + n → c (st j) = some true ∧ B (st j) = some (.nx (st (j + 1)))) → c (st (i + n)) = some false → ∀ f, n < f → whileF c B f (st i) = some (.nx (st (i + n)))
  | 0, i, _, h2, f, hf => by
    obtain ⟨g, rfl⟩ : ∃ g, f = g + 1 := ⟨f - 1, by omega⟩
    rw [whileF]
    rw [Nat.add_zero] at h2 ⊢
    rw [h2]
    rfl
  | n + 1, i, h1, h2, f, hf => by
    obtain ⟨g, rfl⟩ : ∃ g, f = g + 1 := ⟨f - 1, by omega⟩
    obtain ⟨a, b⟩ := h1 i (Nat.le_refl _) (by omega)
    have e : i + (n + 1) = i + 1 + n := by omega
    rw [whileF, a]
    simp only [Option.bind_some, if_true, b]
    rw [e] at h2 ⊢
    exact while_run st n (i + 1) (fun j x y => h1 j (by omega) (by omega)) h2 g (by omega)
theorem w_while {c : En → Option Bool} {B : En → Option Fl} (st : Nat → En) (n i : Nat) (h1 : ∀ j, i ≤ j → j < i + n → c (st j) = some true ∧ B (st j) = some (.nx (st (j + 1)))) (h2 : c (st (i + n)) = some false) (hn : n < 1000000) : fWhile fuelN c B (st i) = some (.nx (st (i + n))) := by
  unfold fWhile
  exact while_run st n i h1 h2 _ (Nat.lt_of_lt_of_le hn (fuelN_ge _))
/-! ### isinstance -/
def tyN : D → Option String
  | .non => some "NoneType"
  | .bl _ => some "bool"
  | .int _ => some "int"
  | .str _ => some "str"
  | .tup _ => some "tuple"
  | .wk _ => some "tuple"
  | .lst _ => some "list"
  | _ => none
def isiB (T t : String) : Bool := t == T || (t == "bool" && T == "int")
def isiD (T : String) (d : D) : Option D := (tyN d).bind fun t => some (.bl (isiB T t))
theorem ty_of {K : PySem.W.Frag} {Hb H : Hp} (sm : Same Hb H) {d : D} {v : V} {t : String} (h : Is K Hb d v) (e : tyN d = some t) : TyX K H v (.type t) := by
  have h := h.mono sm
  cases d <;> simp only [Is] at h <;> first | (cases e; done) | cases e
  · subst h; exact .base .non
  · subst h; exact .base (.bl _)
  · subst h; exact .base (.int _)
  · subst h; exact .base (.str _)
  · obtain ⟨p, xs, rfl, hx, lx⟩ := h
    rcases hx with ⟨o, _, hx⟩ | ⟨o, its, n, hk, _, hc, _⟩
    · exact .fTuple hx
    · exact .kTuple hk hc
  · obtain ⟨p, xs, rfl, hx, lx⟩ := h
    exact .base (.lst hx)
  · obtain ⟨p, xs, rfl, hx, lx⟩ := h
    rcases hx with (hx | ⟨o, hx⟩) | ⟨o, its, n, hk, hc, _⟩
    · exact .base (.tup hx)
    · exact .fTuple hx
    · exact .kTuple hk hc
theorem tyN_mem {d : D} {t : String} (e : tyN d = some t) : t ∈ ["NoneType", "bool", "int", "str", "tuple", "list"] := by
  cases d <;> cases e <;> decide
theorem e_isi (T : String) {q p : Pos} (hm : X.mg "isinstance" = none) (hmT : X.mg (Str.ofString T) = none) (ha : PE X a (tD X.K fa)) (hT : ∀ t ∈ ["NoneType", "bool", "int", "str", "tuple", "list"], kitB t T = some (isiB T t) := by decide +kernel) (hv : bootBuiltins (Str.ofString T) = some (.type T) := by decide +kernel)
    (hg : Gl X "isinstance" := by rfl) (hgT : Gl X (Str.ofString T) := by rfl) (hn : Str.ofString T ≠ "__name__" := by decide) (hdb : (Str.ofString T == ("__debug__" : Str)) = false := by decide)
    (na : starEach [a, .Name (Str.ofString T) q] X.env = (false, eval a X.env) :: starEach [.Name (Str.ofString T) q] X.env := by rfl) (na2 : starEach [.Name (Str.ofString T) q] X.env = (false, eval (.Name (Str.ofString T) q) X.env) :: starEach [] X.env := by rfl)
    (hpl : (backTo pos (starEach [.Name (Str.ofString T) q] X.env)).any (·.1) = false := by rfl) :
    PE X (.Call (.Name "isinstance" p) [a, .Name (Str.ofString T) q] [] pos) (tD X.K (f1 (isiD T) fa)) := by
  refine PE_weak (pe_callB call_isi hg hm (by decide +kernel) (pa_cons ha (pa_cons (pe_bltn (v := .ty T) hgT hmT hv rfl hn hdb) pa_nil na2) na) (he := na) (hpl := hpl)) fun σ H Q h => ?_
  obtain ⟨H0, env, Hb, d, r, sm, ef, q⟩ := h
  obtain ⟨da, ea, eg⟩ := bind1 ef
  refine ⟨H0, env, Hb, da, r, sm, ea, fun v Hb1 H1 s1 iv => ?_⟩
  obtain ⟨t, et, eg⟩ := bind1 eg
  cases eg
  exact ⟨v, .ty T, .type t, .type T, isiB T t, rfl, .ty T, ty_of s1.c iv et, kit_ty (hT t (tyN_mem et)), q _ Hb1 H1 s1 (by simp only [Is])⟩
/-- reading x[k], x owned -/
def fOIx (i : Nat) (fk : En → Option D) : En → Option D := fun env => (fk env).bind fun k => match env[i]?, k with
  | some (some (.own ds)), .int k => atI ds k
  | _, _ => none
end
end Dn
set_option Elab.async false
set_option linter.all false
set_option maxRecDepth 100000
/-! Fractions. -/
namespace Dn
open PySem L2
local macro_rules | `(tactic| walk_at "dg") => `(tactic| first
  | with_reducible exact add_i _ _ | with_reducible exact sub_i _ _ | ((with_reducible refine mul_i ?_); omega) | ((with_reducible refine fdiv_i ?_); omega) | ((with_reducible refine mod_i ?_); omega) | with_reducible exact neg_i _
  | with_reducible exact lt_i _ _ | with_reducible exact le_i _ _ | with_reducible exact gt_i _ _ | with_reducible exact ge_i _ _ | with_reducible exact eq_i _ _ | with_reducible exact ne_i _ _ | with_reducible exact eq_s _ _ | with_reducible exact ne_s _ _
  | ((with_reducible refine add_s ?_); omega) | ((with_reducible refine add_t ?_); omega) | ((with_reducible refine add_l ?_); omega) | ((with_reducible refine mul_s ?_); omega) | ((with_reducible refine mul_l ?_); omega)
  | ((with_reducible refine len_s ?_); omega) | with_reducible exact len_t _ | with_reducible exact len_l _ | with_reducible exact len_c _ | with_reducible exact int_b _ | with_reducible exact int_i _ | with_reducible exact abs_i _
  | ((with_reducible refine sl_s ?_); omega) | with_reducible exact sl_t _ _ _ | with_reducible exact sl_l _ _ _ | ((with_reducible apply ix_t); (· omega); (· rfl)) | ((with_reducible apply ix_l); (· omega); (· rfl)) | with_reducible assumption)
local macro_rules | `(tactic| walk_at "dc") => `(tactic| with_reducible assumption)
local macro_rules | `(tactic| walk_at "dn") => `(tactic| first
  | with_reducible exact v_c | with_reducible exact v_nil | with_reducible exact v_no
  | ((with_reducible apply v_var); (· rfl); (· rfl))
  | ((with_reducible apply v_2); (· walk_at "dn"); (· walk_at "dn"); (· walk_at "dg"))
  | ((with_reducible apply v_1); (· walk_at "dn"); (· walk_at "dg"))
  | ((with_reducible apply v_cons); (· walk_at "dn"); (· walk_at "dn"))
  | ((with_reducible apply v_blt); (· walk_at "dn"); (· walk_at "dg"))
  | ((with_reducible apply v_call); (· walk_at "dn"); (· walk_at "dc"))
  | ((with_reducible apply v_tup); (· walk_at "dn"); (· first | decide | (simp only [List.length_cons, List.length_nil]; decide)))
  | ((with_reducible apply v_lst); (· walk_at "dn"); (· first | decide | (simp only [List.length_cons, List.length_nil]; decide)))
  | ((with_reducible apply v_po); (· walk_at "dn"))
  | ((with_reducible apply v_sl); (· walk_at "dn"); (· walk_at "dn"); (· walk_at "dn"); (· walk_at "dg"))
  | ((with_reducible apply v_m1); (· walk_at "dn"); (· walk_at "dn"); (· walk_at "dg"))
  | ((with_reducible apply v_b); (· walk_at "dn"))
  | ((with_reducible apply v_not); (· walk_at "dn"))
  | ((with_reducible apply v_notV); (· walk_at "dn"))
  | ((with_reducible apply v_rng1); (· walk_at "dn"); (· omega))
  | ((with_reducible apply v_rng2); (· walk_at "dn"); (· omega))
  | ((with_reducible apply v_it); (· walk_at "dn"))
  | ((with_reducible apply v_itl); (· walk_at "dn"))
  | ((with_reducible apply v_its); (· walk_at "dn"))
  | with_reducible assumption)
local macro_rules | `(tactic| walk_at "dt") => `(tactic| first
  | with_reducible exact v_c | with_reducible exact v_nil | with_reducible exact v_no
  | ((with_reducible apply v_var); (· rfl); (· rfl))
  | ((with_reducible apply v_2) <;> walk_at "dt")
  | ((with_reducible apply v_1) <;> walk_at "dt")
  | ((with_reducible apply v_cons) <;> walk_at "dt")
  | ((with_reducible apply v_blt) <;> walk_at "dt")
  | ((with_reducible apply v_call) <;> walk_at "dt")
  | ((with_reducible apply v_tup) <;> walk_at "dt")
  | ((with_reducible apply v_lst) <;> walk_at "dt")
  | ((with_reducible apply v_po) <;> walk_at "dt")
  | ((with_reducible apply v_sl) <;> walk_at "dt")
  | ((with_reducible apply v_m1) <;> walk_at "dt")
  | ((with_reducible apply v_b) <;> walk_at "dt")
  | ((with_reducible apply v_notV) <;> walk_at "dt")
  | ((with_reducible apply v_not) <;> walk_at "dt")
  | ((with_reducible apply v_rng1) <;> first | omega | walk_at "dt")
  | ((with_reducible apply v_rng2) <;> first | omega | walk_at "dt")
  | walk_at "dg"
  | (show List.length _ ≤ sizeLine; first | decide | (simp only [List.length_cons, List.length_nil]; decide))
  | skip)
local macro_rules | `(tactic| walk_at "ds") => `(tactic| first
  | ((with_reducible apply w_ss) <;> first | walk_at "d1" | skip)
  | ((with_reducible apply w_r) <;> first | walk_at "d1" | skip)
  | ((with_reducible apply w_sp) <;> first | walk_at "d1" | skip)
  | ((with_reducible apply w_so) <;> first | walk_at "d1" | skip)
  | (with_reducible apply w_sv)
  | (with_reducible apply w_sq))
local macro_rules | `(tactic| walk_at "dx") => `(tactic| simp only [put, jn, List.set_cons_zero, List.set_cons_succ])
noncomputable def m_divisor : En → Option Fl :=
  (fSeq (fWhile fuelN (fB (f2 neD (fV 1) (fC (.int 0))))
    (fPar 0 1 (fCons (fV 1) (fCons (f2 modD (fV 0) (fV 1)) fNil))))
  (fRet (fV 0)))
noncomputable def n_divisor : List D → Option D := semOf 2 2 m_divisor
noncomputable def m_fraction : En → Option Fl :=
  (fSeq (fSet 2 (fCall n_divisor (fCons (fBlt absG (fCons (fV 0) fNil)) (fCons (fV 1) fNil))))
  (fRet (fTup (fCons (f2 fdivD (fV 0) (fV 2)) (fCons (f2 fdivD (fV 1) (fV 2)) fNil)))))
noncomputable def n_fraction : List D → Option D := semOf 3 2 m_fraction
noncomputable def m_beats : En → Option Fl :=
  (fRet (fCall n_fraction (fCons (f2 ixD (fV 0) (fC (.int 0))) (fCons (f2 ixD (fV 0) (fC (.int 1))) fNil))))
noncomputable def n_beats : List D → Option D := semOf 1 1 m_beats
theorem w_par {i j : Nat} {fs : En → Option (List D)} {env e : En} {d d' : D} (h : fs env = some [d, d']) (he : (env.set i (some d)).set j (some d') = e) : fPar i j fs env = some (.nx e) := by
  unfold fPar
  rw [h, ← he]
  rfl
theorem div_loop : ∀ (b a f : Nat), b < f → whileF (fB (f2 neD (fV 1) (fC (.int 0)))) (fPar 0 1 (fCons (fV 1) (fCons (f2 modD (fV 0) (fV 1)) fNil))) f [some (.int (a : Nat)), some (.int (b : Nat))] = some (.nx [some (.int ((Nat.gcd a b : Nat) : Int)), some (.int 0)]) := by
  intro b
  induction b using Nat.strongRecOn with
  | ind b ih =>
    intro a f hf
    obtain ⟨g, rfl⟩ : ∃ g, f = g + 1 := ⟨f - 1, by omega⟩
    rw [whileF]
    by_cases hb : b = 0
    · subst hb
      have c : fB (f2 neD (fV 1) (fC (.int 0))) [some (.int (a : Nat)), some (.int ((0 : Nat) : Int))] = some false := v_b (v_2 (by walk_at "dn") v_c rfl)
      rw [c, Nat.gcd_zero_right]
      rfl
    · have c : fB (f2 neD (fV 1) (fC (.int 0))) [some (.int (a : Nat)), some (.int (b : Nat))] = some true := by
        refine v_b (v_2 (by walk_at "dn") v_c ?_)
        rw [ne_i, decide_eq_false (by omega)]
        rfl
      have hm : modD (.int (a : Nat)) (.int (b : Nat)) = some (.int ((a % b : Nat) : Int)) := by
        rw [mod_i (by omega)]
        simp
      have st : fPar 0 1 (fCons (fV 1) (fCons (f2 modD (fV 0) (fV 1)) fNil)) [some (.int (a : Nat)), some (.int (b : Nat))] = some (.nx [some (.int (b : Nat)), some (.int ((a % b : Nat) : Int))]) :=
        w_par (v_cons (by walk_at "dn") (v_cons (v_2 (by walk_at "dn") (by walk_at "dn") hm) v_nil)) rfl
      rw [c]
      simp only [Option.bind_some, if_true, st]
      have hlt := Nat.mod_lt a (Nat.pos_of_ne_zero hb)
      rw [ih (a % b) hlt b g (by omega), Nat.gcd_comm b (a % b), ← Nat.gcd_rec, Nat.gcd_comm]
theorem div_fuel : ∀ (n b a f : Nat), b < 2 ^ n → 2 * n + 1 ≤ f → whileF (fB (f2 neD (fV 1) (fC (.int 0)))) (fPar 0 1 (fCons (fV 1) (fCons (f2 modD (fV 0) (fV 1)) fNil))) f [some (.int (a : Nat)), some (.int (b : Nat))] = whileF (fB (f2 neD (fV 1) (fC (.int 0)))) (fPar 0 1 (fCons (fV 1) (fCons (f2 modD (fV 0) (fV 1)) fNil))) (b + 1) [some (.int (a : Nat)), some (.int (b : Nat))] := by
  have st : ∀ a b : Nat, 0 < b → ∀ f, whileF (fB (f2 neD (fV 1) (fC (.int 0)))) (fPar 0 1 (fCons (fV 1) (fCons (f2 modD (fV 0) (fV 1)) fNil))) (f + 1) [some (.int (a : Nat)), some (.int (b : Nat))] = whileF (fB (f2 neD (fV 1) (fC (.int 0)))) (fPar 0 1 (fCons (fV 1) (fCons (f2 modD (fV 0) (fV 1)) fNil))) f [some (.int (b : Nat)), some (.int ((a % b : Nat) : Int))] := fun a b hb f => by
    have c : fB (f2 neD (fV 1) (fC (.int 0))) [some (.int (a : Nat)), some (.int (b : Nat))] = some true := by
      refine v_b (v_2 (by walk_at "dn") v_c ?_)
      rw [ne_i, decide_eq_false (by omega)]
      rfl
    have hm : modD (.int (a : Nat)) (.int (b : Nat)) = some (.int ((a % b : Nat) : Int)) := by
      rw [mod_i (by omega)]
      simp
    have st : fPar 0 1 (fCons (fV 1) (fCons (f2 modD (fV 0) (fV 1)) fNil)) [some (.int (a : Nat)), some (.int (b : Nat))] = some (.nx [some (.int (b : Nat)), some (.int ((a % b : Nat) : Int))]) :=
      w_par (v_cons (by walk_at "dn") (v_cons (v_2 (by walk_at "dn") (by walk_at "dn") hm) v_nil)) rfl
    rw [whileF, c]
    simp only [Option.bind_some, if_true, st]
  intro n
  induction n with
  | zero =>
    intro b a f hb hf
    have hb : b = 0 := by omega
    subst hb
    obtain ⟨g, rfl⟩ : ∃ g, f = g + 1 := ⟨f - 1, by omega⟩
    rw [div_loop 0 a _ (by omega), div_loop 0 a _ (by omega)]
  | succ n ih =>
    intro b a f hb hf
    rw [div_loop b a (b + 1) (by omega)]
    by_cases h0 : b = 0
    · subst h0
      rw [div_loop 0 a _ (by omega)]
    obtain ⟨g, rfl⟩ : ∃ g, f = g + 1 := ⟨f - 1, by omega⟩
    rw [st a b (by omega), show Nat.gcd a b = Nat.gcd b (a % b) by rw [Nat.gcd_comm b (a % b), ← Nat.gcd_rec, Nat.gcd_comm]]
    have hlt := Nat.mod_lt a (Nat.pos_of_ne_zero h0)
    generalize a % b = r at *
    by_cases h1 : r = 0
    · subst h1
      rw [div_loop 0 b _ (by omega)]
    obtain ⟨g, rfl⟩ : ∃ k, g = k + 1 := ⟨g - 1, by omega⟩
    have hlt2 := Nat.mod_lt b (Nat.pos_of_ne_zero h1)
    have hh : b % r < 2 ^ n := by
      have e2 : 2 ^ (n + 1) = 2 * 2 ^ n := by rw [Nat.pow_succ, Nat.mul_comm]
      by_cases hr : 2 * r ≤ b
      · omega
      · have : b % r = b - r := by
          rw [Nat.mod_eq_sub_mod (by omega), Nat.mod_eq_of_lt (by omega)]
        omega
    rw [st b r (by omega), ih (b % r) r g hh (by omega), div_loop (b % r) r _ (by omega), show Nat.gcd b r = Nat.gcd r (b % r) by rw [Nat.gcd_comm r (b % r), ← Nat.gcd_rec, Nat.gcd_comm]]
theorem e_divisor {a b : Nat} (hb : b < 1073741824) : n_divisor [.int (a : Nat), .int (b : Nat)] = some (.int ((Nat.gcd a b : Nat) : Int)) := by
  refine sem_rt rfl ?_
  show m_divisor [some (.int (a : Nat)), some (.int (b : Nat))] = _
  unfold m_divisor
  refine w_seq (e := [some (.int ((Nat.gcd a b : Nat) : Int)), some (.int 0)]) ?_ (ret_of (by walk_at "dn"))
  unfold fWhile
  rw [div_fuel 30 b a _ hb (Nat.le_trans (by decide) (fuelN_ge _)), div_loop b a _ (by omega)]
/-- a fraction told: upper and lower -/
def frD (u : Int) (l : Nat) : D := .tup [.int (u / (Nat.gcd u.natAbs l : Nat)), .int ((l / Nat.gcd u.natAbs l : Nat) : Int)]
theorem e_fraction {u : Int} {l : Nat} (h0 : 0 < l) (h : l < 1073741824) : n_fraction [.int u, .int (l : Nat)] = some (frD u l) := by
  refine sem_rt rfl ?_
  show m_fraction [some (.int u), some (.int (l : Nat)), none] = _
  unfold m_fraction
  have ha : absG [.int u] = some (.int ((u.natAbs : Nat) : Int)) := by
    rw [abs_i]
    congr 2
    by_cases q : u < 0
    · rw [if_pos q]; omega
    · rw [if_neg q]; omega
  have hg : 0 < Nat.gcd u.natAbs l := Nat.gcd_pos_of_pos_right _ h0
  have hg2 : Nat.gcd u.natAbs l ≤ l := Nat.le_of_dvd h0 (Nat.gcd_dvd_right _ _)
  refine w_seq (w_set (v_call (v_cons (v_blt (by walk_at "dn") ha) (by walk_at "dn")) (e_divisor h)) rfl) (ret_of ?_)
  unfold frD
  generalize Nat.gcd u.natAbs l = g at *
  rw [show ((l / g : Nat) : Int) = (l : Int) / (g : Int) by simp]
  refine v_tup (by walk_at "dn") (by show 2 ≤ sizeLine; decide)
theorem e_beats {s g : Nat} {ds : D} (h0 : 0 < g) (h : g < 1073741824) : n_beats [.tup [.int (s : Nat), .int (g : Nat), ds]] = some (frD s g) := by
  refine sem_rt rfl ?_
  show m_beats [some (.tup [.int (s : Nat), .int (g : Nat), ds])] = _
  unfold m_beats
  exact ret_of (v_call (v_cons (v_2 (by walk_at "dn") v_c rfl) (v_cons (v_2 (by walk_at "dn") v_c rfl) v_nil)) (e_fraction h0 h))
end Dn
set_option Elab.async false
set_option linter.all false
set_option maxRecDepth 100000
/-! Part K: steps for statements, loops with a state. -/
namespace Dn
open PySem L2

section
variable {env e e' : En} {F G : En → Option Fl} {fl : Fl} {f : En → Option D} {d : D}
theorem w_ss {i : Nat} (h1 : f env = some d) (h2 : G (env.set i (some d)) = some fl) : fSeq (fSet i f) G env = some fl := (seq_nx (set_of h1)).trans h2
theorem w_sg {g : D → En → Option En} (h1 : f env = some d) (h2 : g d env = some e) (h3 : G e = some fl) : fSeq (fAsg f g) G env = some fl := by
  refine (seq_nx ?_).trans h3
  unfold fAsg
  rw [h1]
  simp only [Option.bind_some, h2]
theorem w_sp {i j : Nat} {fs : En → Option (List D)} {d d' : D} (h : fs env = some [d, d']) (h2 : G ((env.set i (some d)).set j (some d')) = some fl) : fSeq (fPar i j fs) G env = some fl := by
  refine (seq_nx ?_).trans h2
  unfold fPar
  rw [h]
  rfl
theorem w_so {i : Nat} {fn : En → Option (List D)} {ds : List D} (h : fn env = some ds) (h2 : G (env.set i (some (.own ds))) = some fl) : fSeq (fOwn i fn) G env = some fl := by
  refine (seq_nx ?_).trans h2
  unfold fOwn
  rw [h]
  rfl
theorem w_r (h : f env = some d) : fRet f env = some (.rt d) := ret_of h
/-- an if that is passed by -/
theorem w_sf {c : En → Option Bool} {B : En → Option Fl} (h1 : c env = some false) (h2 : G env = some fl) : fSeq (fIfS c B fPass) G env = some fl := w_seq (w_iff h1 w_pass) h2
theorem w_st {c : En → Option Bool} {B C : En → Option Fl} (h1 : c env = some true) (h2 : fSeq B G env = some fl) : fSeq (fIfS c B C) G env = some fl := by
  unfold fSeq at h2 ⊢
  rw [if_t h1]
  exact h2
theorem w_se {c : En → Option Bool} {B C : En → Option Fl} (h1 : c env = some false) (h2 : fSeq C G env = some fl) : fSeq (fIfS c B C) G env = some fl := by
  unfold fSeq at h2 ⊢
  rw [if_f h1]
  exact h2
theorem w_sq {A B : En → Option Fl} (h : fSeq A (fSeq B G) env = some fl) : fSeq (fSeq A B) G env = some fl := by
  unfold fSeq at h ⊢
  cases ha : A env with
  | none => rw [ha] at h; cases h
  | some x =>
    rw [ha] at h
    cases x with
    | nx e1 => exact h
    | rt d => exact h
    | bk e1 => exact h
    | ct e1 => exact h
theorem w_sv (h : G env = some fl) : fSeq fPass G env = some fl := h
theorem w_sr (h : f env = some d) : fSeq (fRet f) G env = some (.rt d) := seq_rt (ret_of h)
theorem w_sfor {it : En → Option (List D)} {g : D → En → Option En} {B : En → Option Fl} {ds : List D} (h : it env = some ds) (h2 : forF g B ds env = some (.nx e)) (h3 : G e = some fl) : fSeq (fFor it g B) G env = some fl := w_seq (w_for h h2) h3
theorem w_last (h : fSeq F fPass env = some fl) : F env = some fl := by
  unfold fSeq at h
  cases ha : F env with
  | none => rw [ha] at h; cases h
  | some x =>
    rw [ha] at h
    cases x <;> exact h
theorem w_skip (h : F env = some (.nx env)) (h2 : G env = some fl) : fSeq F G env = some fl := w_seq h h2
theorem w_not {c : En → Option Bool} {k : Bool} (h : c env = some (!k)) : fNot c env = some k := by
  unfold fNot
  rw [h]
  simp
end

/-! ### a loop with a state -/
def put (env : En) : List (Nat × D) → En
  | [] => env
  | p :: ps => put (env.set p.1 (some p.2)) ps
def jn (env : En) (w : Nat → Option D) : List Nat → En
  | [] => env
  | j :: js => jn (env.set j (w j)) w js
def Ends (r : Option Fl) (P : En → Prop) : Prop := ∃ e, r = some (.nx e) ∧ P e
theorem en_of {r : Option Fl} {P : En → Prop} {e : En} (h : r = some (.nx e)) (h2 : P e) : Ends r P := ⟨e, h, h2⟩
/-- the body's end: the state's slots are so, of others nothing is wanted -/
def Endsw (r : Option Fl) (env : En) (js : List Nat) : Prop := Ends r fun e2 => e2 = jn env (fun j => e2.getD j none) js
theorem en_w {r : Option Fl} {env e : En} {js : List Nat} (h : r = some (.nx e)) (h2 : e = jn env (fun j => e.getD j none) js) : Endsw r env js := ⟨e, h, h2⟩
/-- st: what the slots hold that the loop writes; js: slots of which nothing is wanted -/
theorem for_st {α σ : Type} {g : D → En → Option En} {B : En → Option Fl} {env : En} (c : α → D) (st : σ → List (Nat × D)) (js : List Nat) (I : List α → σ → Prop) (xs : List α) (s0 : σ)
    (h0 : jn (put env (st s0)) (fun j => env.getD j none) js = env) (hI : I [] s0)
    (h : ∀ (p : List α) (a : α) (q : List α) (s : σ) (w : Nat → Option D), xs = p ++ a :: q → I p s → ∃ e1 s', I (p ++ [a]) s' ∧ g (c a) (jn (put env (st s)) w js) = some e1 ∧ Endsw (B e1) (put env (st s')) js) :
    ∃ s w, I xs s ∧ forF g B (xs.map c) env = some (.nx (jn (put env (st s)) w js)) := by
  obtain ⟨e', h1, s, w, h2, h3⟩ := for_inv (g := g) (B := B) c (fun p e => ∃ s w, I p s ∧ e = jn (put env (st s)) w js) xs [] env ⟨s0, _, hI, h0.symm⟩ (fun p a q e hp ⟨s, w, hi, he⟩ => by
    subst he
    obtain ⟨e1, s', a1, a2, e2, a3, a4⟩ := h p a q s w hp hi
    exact ⟨e1, e2, a2, a3, s', _, a1, a4⟩)
  subst h3
  exact ⟨s, w, h2, h1⟩
/-- the same for a plain fold -/
theorem for_fold {α σ : Type} {g : D → En → Option En} {B : En → Option Fl} {env : En} (c : α → D) (st : σ → List (Nat × D)) (js : List Nat) (step : σ → α → σ) (xs : List α) (s0 : σ)
    (h0 : jn (put env (st s0)) (fun j => env.getD j none) js = env)
    (h : ∀ (p : List α) (a : α) (q : List α) (w : Nat → Option D), xs = p ++ a :: q → ∃ e1, g (c a) (jn (put env (st (p.foldl step s0))) w js) = some e1 ∧ Endsw (B e1) (put env (st (step (p.foldl step s0) a))) js) :
    ∃ w, forF g B (xs.map c) env = some (.nx (jn (put env (st (xs.foldl step s0))) w js)) := by
  obtain ⟨s, w, e1, e2⟩ := for_st (g := g) (B := B) c st js (fun p s => s = p.foldl step s0) xs s0 h0 rfl (fun p a q s w hp hi => by
    subst hi
    obtain ⟨e1, a1, a2⟩ := h p a q w hp
    exact ⟨e1, _, by rw [List.foldl_append]; rfl, a1, a2⟩)
  subst e1
  exact ⟨w, e2⟩
theorem w_fst {α σ : Type} {it : En → Option (List D)} {g : D → En → Option En} {B G : En → Option Fl} {env : En} {fl : Fl} (c : α → D) (st : σ → List (Nat × D)) (js : List Nat) (I : List α → σ → Prop) (xs : List α) (s0 : σ)
    (hit : it env = some (xs.map c)) (h0 : jn (put env (st s0)) (fun j => env.getD j none) js = env) (hI : I [] s0)
    (h : ∀ (p : List α) (a : α) (q : List α) (s : σ) (w : Nat → Option D), xs = p ++ a :: q → I p s → ∃ e1 s', I (p ++ [a]) s' ∧ g (c a) (jn (put env (st s)) w js) = some e1 ∧ Endsw (B e1) (put env (st s')) js)
    (h3 : ∀ (s : σ) (w : Nat → Option D), I xs s → G (jn (put env (st s)) w js) = some fl) : fSeq (fFor it g B) G env = some fl := by
  obtain ⟨s, w, a1, a2⟩ := for_st c st js I xs s0 h0 hI h
  exact w_sfor hit a2 (h3 s w a1)
theorem w_ffold {α σ : Type} {it : En → Option (List D)} {g : D → En → Option En} {B G : En → Option Fl} {env : En} {fl : Fl} (c : α → D) (st : σ → List (Nat × D)) (js : List Nat) (step : σ → α → σ) (xs : List α) (s0 : σ)
    (hit : it env = some (xs.map c)) (h0 : jn (put env (st s0)) (fun j => env.getD j none) js = env)
    (h : ∀ (p : List α) (a : α) (q : List α) (w : Nat → Option D), xs = p ++ a :: q → ∃ e1, g (c a) (jn (put env (st (p.foldl step s0))) w js) = some e1 ∧ Endsw (B e1) (put env (st (step (p.foldl step s0) a))) js)
    (h3 : ∀ (w : Nat → Option D), G (jn (put env (st (xs.foldl step s0))) w js) = some fl) : fSeq (fFor it g B) G env = some fl := by
  obtain ⟨w, a2⟩ := for_fold c st js step xs s0 h0 h
  exact w_sfor hit a2 (h3 w)
/-! the same where the body's end is told by Endsw -/
section
variable {env e e2 : En} {js2 : List Nat} {F G : En → Option Fl} {f : En → Option D} {d : D}
theorem en_seq (h1 : F env = some (.nx e)) (h2 : Endsw (G e) e2 js2) : Endsw (fSeq F G env) e2 js2 := by
  obtain ⟨x, a, b⟩ := h2
  exact ⟨x, w_seq h1 a, b⟩
theorem en_ss {i : Nat} (h1 : f env = some d) (h2 : Endsw (G (env.set i (some d))) e2 js2) : Endsw (fSeq (fSet i f) G env) e2 js2 := en_seq (set_of h1) h2
theorem en_sf {c : En → Option Bool} {B : En → Option Fl} (h1 : c env = some false) (h2 : Endsw (G env) e2 js2) : Endsw (fSeq (fIfS c B fPass) G env) e2 js2 := en_seq (w_iff h1 w_pass) h2
theorem en_if {c : En → Option Bool} {B C : En → Option Fl} {k : Bool} (h1 : c env = some k) (h2 : k = true → Endsw (fSeq B G env) e2 js2) (h3 : k = false → Endsw (fSeq C G env) e2 js2) : Endsw (fSeq (fIfS c B C) G env) e2 js2 := by
  cases k with
  | true =>
    obtain ⟨x, a, b⟩ := h2 rfl
    exact ⟨x, w_st h1 a, b⟩
  | false =>
    obtain ⟨x, a, b⟩ := h3 rfl
    exact ⟨x, w_se h1 a, b⟩
theorem en_last (h : Endsw (fSeq F fPass env) e2 js2) : Endsw (F env) e2 js2 := by
  obtain ⟨x, a, b⟩ := h
  exact ⟨x, w_last a, b⟩
theorem en_sq {A B : En → Option Fl} (h : Endsw (fSeq A (fSeq B G) env) e2 js2) : Endsw (fSeq (fSeq A B) G env) e2 js2 := by
  obtain ⟨x, a, b⟩ := h
  exact ⟨x, w_sq a, b⟩
theorem en_pass (h : env = jn e2 (fun j => env.getD j none) js2) : Endsw (fPass env) e2 js2 := ⟨env, rfl, h⟩
theorem en_fst {α σ : Type} {it : En → Option (List D)} {g : D → En → Option En} {B : En → Option Fl} (c : α → D) (st : σ → List (Nat × D)) (js : List Nat) (I : List α → σ → Prop) (xs : List α) (s0 : σ)
    (hit : it env = some (xs.map c)) (h0 : jn (put env (st s0)) (fun j => env.getD j none) js = env) (hI : I [] s0)
    (h : ∀ (p : List α) (a : α) (q : List α) (s : σ) (w : Nat → Option D), xs = p ++ a :: q → I p s → ∃ e1 s', I (p ++ [a]) s' ∧ g (c a) (jn (put env (st s)) w js) = some e1 ∧ Endsw (B e1) (put env (st s')) js)
    (h3 : ∀ (s : σ) (w : Nat → Option D), I xs s → Endsw (G (jn (put env (st s)) w js)) e2 js2) : Endsw (fSeq (fFor it g B) G env) e2 js2 := by
  obtain ⟨s, w, a1, a2⟩ := for_st c st js I xs s0 h0 hI h
  exact en_seq (w_for hit a2) (h3 s w a1)
theorem en_ffold {α σ : Type} {it : En → Option (List D)} {g : D → En → Option En} {B : En → Option Fl} (c : α → D) (st : σ → List (Nat × D)) (js : List Nat) (step : σ → α → σ) (xs : List α) (s0 : σ)
    (hit : it env = some (xs.map c)) (h0 : jn (put env (st s0)) (fun j => env.getD j none) js = env)
    (h : ∀ (p : List α) (a : α) (q : List α) (w : Nat → Option D), xs = p ++ a :: q → ∃ e1, g (c a) (jn (put env (st (p.foldl step s0))) w js) = some e1 ∧ Endsw (B e1) (put env (st (step (p.foldl step s0) a))) js)
    (h3 : ∀ (w : Nat → Option D), Endsw (G (jn (put env (st (xs.foldl step s0))) w js)) e2 js2) : Endsw (fSeq (fFor it g B) G env) e2 js2 := by
  obtain ⟨w, a2⟩ := for_fold c st js step xs s0 h0 h
  exact en_seq (w_for hit a2) (h3 w)
theorem w_app {i : Nat} {ds : List D} (h : f env = some d) (hs : env[i]? = some (some (.own ds))) (hl : ds.length < 1000000) : fApp i f env = some (.nx (env.set i (some (.own (ds ++ [d]))))) := by
  unfold fApp appF
  rw [h]
  simp only [Option.bind_some, hs, if_pos hl]
theorem w_ext {i : Nat} {ds es : List D} (h : f env = some (.lst es)) (hs : env[i]? = some (some (.own ds))) (hl : ds.length + es.length ≤ 1000000) : fExt i f env = some (.nx (env.set i (some (.own (ds ++ es))))) := by
  unfold fExt extF
  rw [h]
  simp only [Option.bind_some, hs]
  first | rw [if_pos hl] | rfl
theorem w_frz {i : Nat} {ds : List D} (hs : env[i]? = some (some (.own ds))) (h2 : G (env.set i (some (.lst ds))) = some fl) : fSeq (fFrz i) G env = some fl := by
  refine w_seq ?_ h2
  unfold fFrz
  rw [hs]
theorem w_frzd {i : Nat} {ds : List (List Nat × D)} (hs : env[i]? = some (some (.ownd ds))) (h2 : G (env.set i (some (.dct ds))) = some fl) : fSeq (fFrz i) G env = some fl := by
  refine w_seq ?_ h2
  unfold fFrz
  rw [hs]
end
theorem range_at {n a : Nat} {p q : List Nat} (h : List.range n = p ++ a :: q) : a = p.length ∧ a < n ∧ p = List.range a := by
  have hl := congrArg List.length h
  simp at hl
  have h1 : (List.range n)[p.length]? = some a := by rw [h]; simp
  rw [List.getElem?_range (by omega)] at h1
  have h1 : p.length = a := by simpa using h1
  subst h1
  refine ⟨rfl, by omega, ?_⟩
  have := congrArg (List.take p.length) h
  rw [List.take_append_of_le_length (Nat.le_refl _), List.take_length, List.take_range] at this
  rw [Nat.min_eq_left (by omega)] at this
  exact this.symm
end Dn
set_option Elab.async false
set_option linter.all false
set_option maxRecDepth 100000
/-! Fractions by their values; times of steps. -/
namespace Dn
open PySem L2
local macro_rules | `(tactic| walk_at "dg") => `(tactic| first
  | with_reducible exact add_i _ _ | with_reducible exact sub_i _ _ | ((with_reducible refine mul_i ?_); omega) | ((with_reducible refine fdiv_i ?_); omega) | ((with_reducible refine mod_i ?_); omega) | with_reducible exact neg_i _
  | with_reducible exact lt_i _ _ | with_reducible exact le_i _ _ | with_reducible exact gt_i _ _ | with_reducible exact ge_i _ _ | with_reducible exact eq_i _ _ | with_reducible exact ne_i _ _ | with_reducible exact eq_s _ _ | with_reducible exact ne_s _ _
  | ((with_reducible refine add_s ?_); omega) | ((with_reducible refine add_t ?_); omega) | ((with_reducible refine add_l ?_); omega) | ((with_reducible refine mul_s ?_); omega) | ((with_reducible refine mul_l ?_); omega)
  | ((with_reducible refine len_s ?_); omega) | with_reducible exact len_t _ | with_reducible exact len_l _ | with_reducible exact len_c _ | with_reducible exact int_b _ | with_reducible exact int_i _ | with_reducible exact abs_i _
  | ((with_reducible refine sl_s ?_); omega) | with_reducible exact sl_t _ _ _ | with_reducible exact sl_l _ _ _ | ((with_reducible apply ix_t); (· omega); (· rfl)) | ((with_reducible apply ix_l); (· omega); (· rfl)) | with_reducible assumption)
local macro_rules | `(tactic| walk_at "dc") => `(tactic| with_reducible assumption)
local macro_rules | `(tactic| walk_at "dn") => `(tactic| first
  | with_reducible exact v_c | with_reducible exact v_nil | with_reducible exact v_no
  | ((with_reducible apply v_var); (· rfl); (· rfl))
  | ((with_reducible apply v_2); (· walk_at "dn"); (· walk_at "dn"); (· walk_at "dg"))
  | ((with_reducible apply v_1); (· walk_at "dn"); (· walk_at "dg"))
  | ((with_reducible apply v_cons); (· walk_at "dn"); (· walk_at "dn"))
  | ((with_reducible apply v_blt); (· walk_at "dn"); (· walk_at "dg"))
  | ((with_reducible apply v_call); (· walk_at "dn"); (· walk_at "dc"))
  | ((with_reducible apply v_tup); (· walk_at "dn"); (· first | decide | (simp only [List.length_cons, List.length_nil]; decide)))
  | ((with_reducible apply v_lst); (· walk_at "dn"); (· first | decide | (simp only [List.length_cons, List.length_nil]; decide)))
  | ((with_reducible apply v_po); (· walk_at "dn"))
  | ((with_reducible apply v_sl); (· walk_at "dn"); (· walk_at "dn"); (· walk_at "dn"); (· walk_at "dg"))
  | ((with_reducible apply v_m1); (· walk_at "dn"); (· walk_at "dn"); (· walk_at "dg"))
  | ((with_reducible apply v_b); (· walk_at "dn"))
  | ((with_reducible apply v_not); (· walk_at "dn"))
  | ((with_reducible apply v_notV); (· walk_at "dn"))
  | ((with_reducible apply v_rng1); (· walk_at "dn"); (· omega))
  | ((with_reducible apply v_rng2); (· walk_at "dn"); (· omega))
  | ((with_reducible apply v_it); (· walk_at "dn"))
  | ((with_reducible apply v_itl); (· walk_at "dn"))
  | ((with_reducible apply v_its); (· walk_at "dn"))
  | with_reducible assumption)
local macro_rules | `(tactic| walk_at "dt") => `(tactic| first
  | with_reducible exact v_c | with_reducible exact v_nil | with_reducible exact v_no
  | ((with_reducible apply v_var); (· rfl); (· rfl))
  | ((with_reducible apply v_2) <;> walk_at "dt")
  | ((with_reducible apply v_1) <;> walk_at "dt")
  | ((with_reducible apply v_cons) <;> walk_at "dt")
  | ((with_reducible apply v_blt) <;> walk_at "dt")
  | ((with_reducible apply v_call) <;> walk_at "dt")
  | ((with_reducible apply v_tup) <;> walk_at "dt")
  | ((with_reducible apply v_lst) <;> walk_at "dt")
  | ((with_reducible apply v_po) <;> walk_at "dt")
  | ((with_reducible apply v_sl) <;> walk_at "dt")
  | ((with_reducible apply v_m1) <;> walk_at "dt")
  | ((with_reducible apply v_b) <;> walk_at "dt")
  | ((with_reducible apply v_notV) <;> walk_at "dt")
  | ((with_reducible apply v_not) <;> walk_at "dt")
  | ((with_reducible apply v_rng1) <;> first | omega | walk_at "dt")
  | ((with_reducible apply v_rng2) <;> first | omega | walk_at "dt")
  | walk_at "dg"
  | (show List.length _ ≤ sizeLine; first | decide | (simp only [List.length_cons, List.length_nil]; decide))
  | skip)
local macro_rules | `(tactic| walk_at "ds") => `(tactic| first
  | ((with_reducible apply w_ss) <;> first | walk_at "d1" | skip)
  | ((with_reducible apply w_r) <;> first | walk_at "d1" | skip)
  | ((with_reducible apply w_sp) <;> first | walk_at "d1" | skip)
  | ((with_reducible apply w_so) <;> first | walk_at "d1" | skip)
  | (with_reducible apply w_sv)
  | (with_reducible apply w_sq))
local macro_rules | `(tactic| walk_at "dx") => `(tactic| simp only [put, jn, List.set_cons_zero, List.set_cons_succ])
noncomputable def m_added : En → Option Fl :=
  (fRet (fCall n_fraction (fCons (f2 addD (f2 mulD (f2 ixD (fV 0) (fC (.int 0))) (f2 ixD (fV 1) (fC (.int 1)))) (f2 mulD (f2 ixD (fV 1) (fC (.int 0))) (f2 ixD (fV 0) (fC (.int 1))))) (fCons (f2 mulD (f2 ixD (fV 0) (fC (.int 1))) (f2 ixD (fV 1) (fC (.int 1)))) fNil))))
noncomputable def n_added : List D → Option D := semOf 2 2 m_added
noncomputable def m_less : En → Option Fl :=
  (fRet (fCall n_added (fCons (fV 0) (fCons (fTup (fCons (f2 subD (fC (.int 0)) (f2 ixD (fV 1) (fC (.int 0)))) (fCons (f2 ixD (fV 1) (fC (.int 1))) fNil))) fNil))))
noncomputable def n_less : List D → Option D := semOf 2 2 m_less
noncomputable def m_times : En → Option Fl :=
  (fRet (fCall n_fraction (fCons (f2 mulD (fV 0) (f2 ixD (fV 1) (fC (.int 0)))) (fCons (f2 ixD (fV 1) (fC (.int 1))) fNil))))
noncomputable def n_times : List D → Option D := semOf 2 2 m_times
noncomputable def m_is_less : En → Option Fl :=
  (fRet (f2 ltD (f2 mulD (f2 ixD (fV 0) (fC (.int 0))) (f2 ixD (fV 1) (fC (.int 1)))) (f2 mulD (f2 ixD (fV 1) (fC (.int 0))) (f2 ixD (fV 0) (fC (.int 1))))))
noncomputable def n_is_less : List D → Option D := semOf 2 2 m_is_less
noncomputable def m_size : En → Option Fl :=
  (fRet (fTup (fCons (fBlt absG (fCons (f2 ixD (fV 0) (fC (.int 0))) fNil)) (fCons (f2 ixD (fV 0) (fC (.int 1))) fNil))))
noncomputable def n_size : List D → Option D := semOf 1 1 m_size
noncomputable def m_whole_part : En → Option Fl :=
  (fRet (f2 fdivD (f2 ixD (fV 0) (fC (.int 0))) (f2 ixD (fV 0) (fC (.int 1)))))
noncomputable def n_whole_part : List D → Option D := semOf 1 1 m_whole_part
noncomputable def m_step_time : En → Option Fl :=
  (fSeq (fAsg (fSl (fV 1) fNo (fPo (fC (.int 2)))) (gT (gCons' (gN 4) (gCons' (gN 5) gNil'))))
  (fSeq (fSet 3 (fCall n_times (fCons (f2 fdivD (fV 2) (fV 4)) (fCons (fCall n_beats (fCons (fV 1) fNil)) fNil))))
  (fSeq (fSet 2 (f2 modD (fV 2) (fV 4)))
  (fSeq (fSet 3 (fCall n_added (fCons (fV 3) (fCons (fCall n_fraction (fCons (f2 subD (fV 2) (f2 modD (fV 2) (fC (.int 2)))) (fCons (fV 5) fNil))) fNil))))
  (fSeq (fIfS (fB (f2 eqD (f2 modD (fV 2) (fC (.int 2))) (fC (.int 1))))
    (fSet 3 (fCall n_added (fCons (fV 3) (fCons (fCall n_fraction (fCons (f2 mulD (fC (.int 2)) (f2 ixD (fV 0) (fC (.int 0)))) (fCons (f2 mulD (f2 ixD (fV 0) (fC (.int 1))) (fV 5)) fNil))) fNil))))
    fPass)
  (fRet (fV 3)))))))
noncomputable def n_step_time : List D → Option D := semOf 6 3 m_step_time
noncomputable def m__law_frac : En → Option Fl :=
  (fSeq (fPar 2 3 (fCons (fBlt absG (fCons (fV 0) fNil)) (fCons (fV 1) fNil)))
  (fSeq (fWhile fuelN (fB (f2 neD (fV 3) (fC (.int 0))))
    (fPar 2 3 (fCons (fV 3) (fCons (f2 modD (fV 2) (fV 3)) fNil))))
  (fRet (fTup (fCons (f2 fdivD (fV 0) (fV 2)) (fCons (f2 fdivD (fV 1) (fV 2)) fNil))))))
noncomputable def n__law_frac : List D → Option D := semOf 4 2 m__law_frac
noncomputable def m__law_add : En → Option Fl :=
  (fRet (fCall n__law_frac (fCons (f2 addD (f2 mulD (f2 ixD (fV 0) (fC (.int 0))) (f2 ixD (fV 1) (fC (.int 1)))) (f2 mulD (f2 ixD (fV 1) (fC (.int 0))) (f2 ixD (fV 0) (fC (.int 1))))) (fCons (f2 mulD (f2 ixD (fV 0) (fC (.int 1))) (f2 ixD (fV 1) (fC (.int 1)))) fNil))))
noncomputable def n__law_add : List D → Option D := semOf 2 2 m__law_add
noncomputable def m__law_under : En → Option Fl :=
  (fRet (f2 ltD (f2 mulD (f2 ixD (fV 0) (fC (.int 0))) (f2 ixD (fV 1) (fC (.int 1)))) (f2 mulD (f2 ixD (fV 1) (fC (.int 0))) (f2 ixD (fV 0) (fC (.int 1))))))
noncomputable def n__law_under : List D → Option D := semOf 2 2 m__law_under
noncomputable def m__law_step : En → Option Fl :=
  (fSeq (fAsg (fSl (fV 1) fNo (fPo (fC (.int 2)))) (gT (gCons' (gN 6) (gCons' (gN 7) gNil'))))
  (fSeq (fSet 3 (f2 fdivD (fV 2) (fV 6)))
  (fSeq (fSet 4 (f2 modD (fV 2) (fV 6)))
  (fSeq (fSet 5 (fCall n__law_frac (fCons (f2 subD (f2 addD (f2 mulD (fV 3) (fV 6)) (fV 4)) (f2 modD (fV 4) (fC (.int 2)))) (fCons (fV 7) fNil))))
  (fSeq (fIfS (fB (f2 eqD (f2 modD (fV 4) (fC (.int 2))) (fC (.int 1))))
    (fSet 5 (fCall n__law_add (fCons (fV 5) (fCons (fCall n__law_frac (fCons (f2 mulD (fC (.int 2)) (f2 ixD (fV 0) (fC (.int 0)))) (fCons (f2 mulD (f2 ixD (fV 0) (fC (.int 1))) (fV 7)) fNil))) fNil))))
    fPass)
  (fRet (fV 5)))))))
noncomputable def n__law_step : List D → Option D := semOf 8 3 m__law_step
theorem frD_parts (u : Int) {l : Nat} (hl : 0 < l) : ∃ (a : Int) (b : Nat), frD u l = .tup [.int a, .int (b : Nat)] ∧ 0 < b ∧ b ≤ l ∧ a * l = u * b ∧ Nat.gcd a.natAbs b = 1 ∧ b ∣ l := by
  have hg : 0 < Nat.gcd u.natAbs l := Nat.gcd_pos_of_pos_right _ hl
  refine ⟨_, _, rfl, Nat.div_pos (Nat.le_of_dvd hl (Nat.gcd_dvd_right _ _)) hg, Nat.div_le_self _ _, ?_, ?_, Nat.div_dvd_of_dvd (Nat.gcd_dvd_right _ _)⟩
  · obtain ⟨b, hb⟩ := Nat.gcd_dvd_right u.natAbs l
    obtain ⟨a, ha⟩ := Int.natAbs_dvd_natAbs.mp (show ((Nat.gcd u.natAbs l : Nat) : Int).natAbs ∣ u.natAbs by rw [Int.natAbs_natCast]; exact Nat.gcd_dvd_left _ _)
    generalize Nat.gcd u.natAbs l = g at *
    subst hb ha
    rw [Int.mul_ediv_cancel_left _ (by omega), Nat.mul_div_cancel_left _ hg, Int.natCast_mul]
    rw [← Int.mul_assoc, Int.mul_comm a]
  · have h1 : (u / ((Nat.gcd u.natAbs l : Nat) : Int)).natAbs = u.natAbs / Nat.gcd u.natAbs l := by
      rw [Int.natAbs_ediv_of_dvd]
      · simp
      · exact Int.natAbs_dvd_natAbs.mp (by rw [Int.natAbs_natCast]; exact Nat.gcd_dvd_left _ _)
    rw [h1]
    exact Nat.coprime_div_gcd_div_gcd hg
theorem frD_of {u v : Int} {l m : Nat} (hl : 0 < l) (hm : 0 < m) (h : u * m = v * l) : frD u l = frD v m := by
  obtain ⟨a, b, e1, b0, b1, e2, e3, _⟩ := frD_parts u hl
  obtain ⟨c, d, e4, d0, d1, e5, e6, _⟩ := frD_parts v hm
  have key : a * d = c * b := by
    have : (a * d) * ((l : Int) * m) = (c * b) * ((l : Int) * m) := by
      have x1 : (a * d) * ((l : Int) * m) = (a * l) * (d * m) := by simp only [Int.mul_assoc, Int.mul_left_comm, Int.mul_comm]
      have x2 : (c * b) * ((l : Int) * m) = (c * m) * (b * l) := by simp only [Int.mul_assoc, Int.mul_left_comm, Int.mul_comm]
      have x3 : (u * b) * ((d : Int) * m) = (u * m) * (b * d) := by simp only [Int.mul_assoc, Int.mul_left_comm, Int.mul_comm]
      have x4 : (v * d) * ((b : Int) * l) = (v * l) * (b * d) := by simp only [Int.mul_assoc, Int.mul_left_comm, Int.mul_comm]
      rw [x1, x2, e2, e5, x3, x4, h]
    exact Int.eq_of_mul_eq_mul_right (Int.ne_of_gt (Int.mul_pos (by omega) (by omega))) this
  have k1 : a.natAbs * d = c.natAbs * b := by
    have := congrArg Int.natAbs key
    rwa [Int.natAbs_mul, Int.natAbs_mul, Int.natAbs_natCast, Int.natAbs_natCast] at this
  have q1 : b ∣ d := (Nat.Coprime.dvd_of_dvd_mul_left (Nat.Coprime.symm e3) (show b ∣ a.natAbs * d from ⟨c.natAbs, by rw [k1, Nat.mul_comm]⟩))
  have q2 : d ∣ b := (Nat.Coprime.dvd_of_dvd_mul_left (Nat.Coprime.symm e6) (show d ∣ c.natAbs * b from ⟨a.natAbs, by rw [← k1, Nat.mul_comm]⟩))
  have q3 : b = d := Nat.dvd_antisymm q1 q2
  subst q3
  have q4 : a = c := Int.eq_of_mul_eq_mul_right (by omega) key
  rw [e1, e4, q4]
theorem frD_inj {u v : Int} {l m : Nat} (hl : 0 < l) (hm : 0 < m) (h : frD u l = frD v m) : u * m = v * l := by
  obtain ⟨a, b, e1, b0, b1, e2, e3, _⟩ := frD_parts u hl
  obtain ⟨c, d, e4, d0, d1, e5, e6, _⟩ := frD_parts v hm
  rw [e1, e4] at h
  simp only [D.tup.injEq, List.cons.injEq, D.int.injEq, and_true] at h
  obtain ⟨rfl, h2⟩ := h
  have h2 : b = d := by omega
  subst h2
  have x1 : (u * m) * (b : Int) = (v * l) * b := by
    have x1 : (u * m) * (b : Int) = (u * b) * m := by simp only [Int.mul_assoc, Int.mul_left_comm, Int.mul_comm]
    have x2 : (v * l) * (b : Int) = (v * b) * l := by simp only [Int.mul_assoc, Int.mul_left_comm, Int.mul_comm]
    rw [x1, x2, ← e2, ← e5]
    simp only [Int.mul_assoc, Int.mul_left_comm, Int.mul_comm]
  exact Int.eq_of_mul_eq_mul_right (by omega) x1
theorem ok_frD (u : Int) (l n : Nat) : okN (n + 1) (frD u l) = true := by cases n <;> rfl
theorem eqv_pr (a b c d : Int) : eqv (.tup [.int a, .int b]) (.tup [.int c, .int d]) = decide (a = c ∧ b = d) := by
  unfold eqv
  simp only [toP, toPs, PyData.eqv, PyData.eqvAll]
  by_cases h : a = c
  · by_cases h' : b = d
    · simp [h, h']
    · simp [h, h']
  · simp [h]
theorem frD_pair {u v : Int} {l m : Nat} : (u / (Nat.gcd u.natAbs l : Nat) = v / (Nat.gcd v.natAbs m : Nat) ∧ ((l / Nat.gcd u.natAbs l : Nat) : Int) = ((m / Nat.gcd v.natAbs m : Nat) : Int)) ↔ frD u l = frD v m := by
  unfold frD
  simp only [D.tup.injEq, List.cons.injEq, D.int.injEq, and_true]
theorem eqv_fr (u v : Int) {l m : Nat} (hl : 0 < l) (hm : 0 < m) : eqv (frD u l) (frD v m) = decide (u * m = v * l) := by
  refine (eqv_pr _ _ _ _).trans (decide_eq_decide.mpr (frD_pair.trans ⟨frD_inj hl hm, frD_of hl hm⟩))
theorem eq_fr (u v : Int) {l m : Nat} (hl : 0 < l) (hm : 0 < m) : eqD (frD u l) (frD v m) = some (.bl (decide (u * m = v * l))) := by
  unfold eqD
  rw [if_pos ⟨ok_frD u l 59, ok_frD v m 59⟩, eqv_fr u v hl hm]
theorem ne_fr (u v : Int) {l m : Nat} (hl : 0 < l) (hm : 0 < m) : neD (frD u l) (frD v m) = some (.bl (!decide (u * m = v * l))) := by
  unfold neD
  rw [if_pos ⟨ok_frD u l 59, ok_frD v m 59⟩, eqv_fr u v hl hm]
/-! the program's own -/
abbrev pr (a : Int) (b : Nat) : D := .tup [.int a, .int (b : Nat)]
theorem e_added_raw {a c : Int} {b d : Nat} (hb : 0 < b) (hd : 0 < d) (h : b * d < 1073741824) : n_added [pr a b, pr c d] = some (frD (a * d + c * b) (b * d)) := by
  have hb' : b ≤ b * d := Nat.le_mul_of_pos_right _ hd
  have hd' : d ≤ b * d := Nat.le_mul_of_pos_left _ hb
  refine sem_rt rfl ?_
  show m_added [some (pr a b), some (pr c d)] = _
  unfold m_added
  walk_at "ds" <;> walk_at "dt"
  rw [← Int.natCast_mul]
  exact e_fraction (Nat.mul_pos hb hd) h
theorem e_added {u v : Int} {l m : Nat} (hl : 0 < l) (hm : 0 < m) (h : l * m < 1073741824) : n_added [frD u l, frD v m] = some (frD (u * m + v * l) (l * m)) := by
  obtain ⟨a, b, e1, b0, b1, e2, e3, _⟩ := frD_parts u hl
  obtain ⟨c, d, e4, d0, d1, e5, e6, _⟩ := frD_parts v hm
  have hbd : b * d ≤ l * m := Nat.mul_le_mul b1 d1
  rw [e1, e4, e_added_raw b0 d0 (by omega)]
  congr 1
  refine frD_of (Nat.mul_pos b0 d0) (Nat.mul_pos hl hm) ?_
  rw [Int.natCast_mul, Int.natCast_mul]
  grind
theorem e_add1 {u v : Int} {l : Nat} (hl : 0 < l) (h : l * l < 1073741824) : n_added [frD u l, frD v l] = some (frD (u + v) l) := by
  rw [e_added hl hl h]
  congr 1
  refine frD_of (Nat.mul_pos hl hl) hl ?_
  rw [Int.natCast_mul]
  grind
theorem e_less_raw {a c : Int} {b d : Nat} (hb : 0 < b) (hd : 0 < d) (h : b * d < 1073741824) : n_less [pr a b, pr c d] = some (frD (a * d - c * b) (b * d)) := by
  refine sem_rt rfl ?_
  show m_less [some (pr a b), some (pr c d)] = _
  unfold m_less
  walk_at "ds" <;> walk_at "dt"
  rw [e_added_raw (a := a) (c := 0 - c) hb hd h]
  congr 2
  grind
theorem e_less {u v : Int} {l m : Nat} (hl : 0 < l) (hm : 0 < m) (h : l * m < 1073741824) : n_less [frD u l, frD v m] = some (frD (u * m - v * l) (l * m)) := by
  obtain ⟨a, b, e1, b0, b1, e2, e3, _⟩ := frD_parts u hl
  obtain ⟨c, d, e4, d0, d1, e5, e6, _⟩ := frD_parts v hm
  have hbd : b * d ≤ l * m := Nat.mul_le_mul b1 d1
  rw [e1, e4, e_less_raw b0 d0 (by omega)]
  congr 1
  refine frD_of (Nat.mul_pos b0 d0) (Nat.mul_pos hl hm) ?_
  rw [Int.natCast_mul, Int.natCast_mul]
  grind
theorem e_less1 {u v : Int} {l : Nat} (hl : 0 < l) (h : l * l < 1073741824) : n_less [frD u l, frD v l] = some (frD (u - v) l) := by
  rw [e_less hl hl h]
  congr 1
  refine frD_of (Nat.mul_pos hl hl) hl ?_
  rw [Int.natCast_mul]
  grind
theorem e_times {k u : Int} {l : Nat} (hl : 0 < l) (h : l < 1073741824) (hk : -1000000 < k ∧ k < 1000000) : n_times [.int k, frD u l] = some (frD (k * u) l) := by
  obtain ⟨a, b, e1, b0, b1, e2, e3, _⟩ := frD_parts u hl
  rw [e1]
  refine sem_rt rfl ?_
  show m_times [some (.int k), some (pr a b)] = _
  unfold m_times
  walk_at "ds" <;> walk_at "dt"
  rw [e_fraction b0 (by omega)]
  congr 1
  exact frD_of b0 hl (by grind)
theorem e_isless {u v : Int} {l m : Nat} (hl : 0 < l) (hm : 0 < m) (hl2 : l < 1073741824) (hm2 : m < 1073741824) : n_is_less [frD u l, frD v m] = some (.bl (decide (u * m < v * l))) := by
  obtain ⟨a, b, e1, b0, b1, e2, e3, _⟩ := frD_parts u hl
  obtain ⟨c, d, e4, d0, d1, e5, e6, _⟩ := frD_parts v hm
  rw [e1, e4]
  refine sem_rt rfl ?_
  show m_is_less [some (pr a b), some (pr c d)] = _
  unfold m_is_less
  walk_at "ds" <;> walk_at "dt"
  rw [lt_i]
  congr 2
  refine decide_eq_decide.mpr ?_
  have p1 : (0 : Int) < (l : Int) * m := Int.mul_pos (by omega) (by omega)
  have p2 : (0 : Int) < (b : Int) * d := Int.mul_pos (by omega) (by omega)
  have x1 : (a * d) * ((l : Int) * m) = (u * m) * (b * d) := by grind
  have x2 : (c * b) * ((l : Int) * m) = (v * l) * (b * d) := by grind
  rw [← Int.mul_lt_mul_right p1, x1, x2, Int.mul_lt_mul_right p2]
theorem e_isless1 {u v : Int} {l : Nat} (hl : 0 < l) (hl2 : l < 1073741824) : n_is_less [frD u l, frD v l] = some (.bl (decide (u < v))) := by
  rw [e_isless hl hl hl2 hl2]
  congr 2
  refine decide_eq_decide.mpr ?_
  exact Int.mul_lt_mul_right (by omega)
theorem e_size {u : Int} {l : Nat} (hl : 0 < l) : n_size [frD u l] = some (frD (u.natAbs : Nat) l) := by
  obtain ⟨a, b, e1, b0, b1, e2, e3, _⟩ := frD_parts u hl
  rw [e1]
  refine sem_rt rfl ?_
  show m_size [some (pr a b)] = _
  unfold m_size
  have ha : absG [.int a] = some (.int ((a.natAbs : Nat) : Int)) := by
    rw [abs_i]
    congr 2
    by_cases q : a < 0
    · rw [if_pos q]; omega
    · rw [if_neg q]; omega
  refine (ret_of (v_tup (v_cons (v_blt (v_cons (v_2 (by walk_at "dn") v_c rfl) v_nil) ha) (v_cons (v_2 (by walk_at "dn") v_c rfl) v_nil)) (show 2 ≤ sizeLine by decide))).trans ?_
  obtain ⟨a', b', f1, f0, f2, f3, f4, _⟩ := frD_parts ((u.natAbs : Nat) : Int) hl
  have : frD ((a.natAbs : Nat) : Int) b = pr (a.natAbs : Nat) b := by
    unfold frD
    rw [Int.natAbs_natCast, e3]
    simp
  congr 2
  rw [show D.tup [.int ((a.natAbs : Nat) : Int), .int (b : Nat)] = pr (a.natAbs : Nat) b from rfl, ← this]
  refine frD_of b0 hl ?_
  have := congrArg Int.natAbs e2
  rw [Int.natAbs_mul, Int.natAbs_mul, Int.natAbs_natCast, Int.natAbs_natCast] at this
  rw [← Int.natCast_mul, ← Int.natCast_mul, this]
theorem frD_scale (u : Int) {l m : Nat} (hl : 0 < l) (hm : 0 < m) : frD (u * m) (l * m) = frD u l := frD_of (Nat.mul_pos hl hm) hl (by rw [Int.natCast_mul]; grind)
end Dn
set_option Elab.async false
set_option linter.all false
set_option maxRecDepth 100000
/-! Rows: turning, least turns, gaps; in plain lists first. -/
namespace Dn
open PySem L2
local macro_rules | `(tactic| walk_at "dg") => `(tactic| first
  | with_reducible exact add_i _ _ | with_reducible exact sub_i _ _ | ((with_reducible refine mul_i ?_); omega) | ((with_reducible refine fdiv_i ?_); omega) | ((with_reducible refine mod_i ?_); omega) | with_reducible exact neg_i _
  | with_reducible exact lt_i _ _ | with_reducible exact le_i _ _ | with_reducible exact gt_i _ _ | with_reducible exact ge_i _ _ | with_reducible exact eq_i _ _ | with_reducible exact ne_i _ _ | with_reducible exact eq_s _ _ | with_reducible exact ne_s _ _
  | ((with_reducible refine add_s ?_); omega) | ((with_reducible refine add_t ?_); omega) | ((with_reducible refine add_l ?_); omega) | ((with_reducible refine mul_s ?_); omega) | ((with_reducible refine mul_l ?_); omega)
  | ((with_reducible refine len_s ?_); omega) | with_reducible exact len_t _ | with_reducible exact len_l _ | with_reducible exact len_c _ | with_reducible exact int_b _ | with_reducible exact int_i _ | with_reducible exact abs_i _
  | ((with_reducible refine sl_s ?_); omega) | with_reducible exact sl_t _ _ _ | with_reducible exact sl_l _ _ _ | ((with_reducible apply ix_t); (· omega); (· rfl)) | ((with_reducible apply ix_l); (· omega); (· rfl)) | with_reducible assumption)
local macro_rules | `(tactic| walk_at "dc") => `(tactic| with_reducible assumption)
local macro_rules | `(tactic| walk_at "dn") => `(tactic| first
  | with_reducible exact v_c | with_reducible exact v_nil | with_reducible exact v_no
  | ((with_reducible apply v_var); (· rfl); (· rfl))
  | ((with_reducible apply v_2); (· walk_at "dn"); (· walk_at "dn"); (· walk_at "dg"))
  | ((with_reducible apply v_1); (· walk_at "dn"); (· walk_at "dg"))
  | ((with_reducible apply v_cons); (· walk_at "dn"); (· walk_at "dn"))
  | ((with_reducible apply v_blt); (· walk_at "dn"); (· walk_at "dg"))
  | ((with_reducible apply v_call); (· walk_at "dn"); (· walk_at "dc"))
  | ((with_reducible apply v_tup); (· walk_at "dn"); (· first | decide | (simp only [List.length_cons, List.length_nil]; decide)))
  | ((with_reducible apply v_lst); (· walk_at "dn"); (· first | decide | (simp only [List.length_cons, List.length_nil]; decide)))
  | ((with_reducible apply v_po); (· walk_at "dn"))
  | ((with_reducible apply v_sl); (· walk_at "dn"); (· walk_at "dn"); (· walk_at "dn"); (· walk_at "dg"))
  | ((with_reducible apply v_m1); (· walk_at "dn"); (· walk_at "dn"); (· walk_at "dg"))
  | ((with_reducible apply v_b); (· walk_at "dn"))
  | ((with_reducible apply v_not); (· walk_at "dn"))
  | ((with_reducible apply v_notV); (· walk_at "dn"))
  | ((with_reducible apply v_rng1); (· walk_at "dn"); (· omega))
  | ((with_reducible apply v_rng2); (· walk_at "dn"); (· omega))
  | ((with_reducible apply v_it); (· walk_at "dn"))
  | ((with_reducible apply v_itl); (· walk_at "dn"))
  | ((with_reducible apply v_its); (· walk_at "dn"))
  | with_reducible assumption)
local macro_rules | `(tactic| walk_at "dt") => `(tactic| first
  | with_reducible exact v_c | with_reducible exact v_nil | with_reducible exact v_no
  | ((with_reducible apply v_var); (· rfl); (· rfl))
  | ((with_reducible apply v_2) <;> walk_at "dt")
  | ((with_reducible apply v_1) <;> walk_at "dt")
  | ((with_reducible apply v_cons) <;> walk_at "dt")
  | ((with_reducible apply v_blt) <;> walk_at "dt")
  | ((with_reducible apply v_call) <;> walk_at "dt")
  | ((with_reducible apply v_tup) <;> walk_at "dt")
  | ((with_reducible apply v_lst) <;> walk_at "dt")
  | ((with_reducible apply v_po) <;> walk_at "dt")
  | ((with_reducible apply v_sl) <;> walk_at "dt")
  | ((with_reducible apply v_m1) <;> walk_at "dt")
  | ((with_reducible apply v_b) <;> walk_at "dt")
  | ((with_reducible apply v_notV) <;> walk_at "dt")
  | ((with_reducible apply v_not) <;> walk_at "dt")
  | ((with_reducible apply v_rng1) <;> first | omega | walk_at "dt")
  | ((with_reducible apply v_rng2) <;> first | omega | walk_at "dt")
  | walk_at "dg"
  | (show List.length _ ≤ sizeLine; first | decide | (simp only [List.length_cons, List.length_nil]; decide))
  | skip)
local macro_rules | `(tactic| walk_at "ds") => `(tactic| first
  | ((with_reducible apply w_ss) <;> first | walk_at "d1" | skip)
  | ((with_reducible apply w_r) <;> first | walk_at "d1" | skip)
  | ((with_reducible apply w_sp) <;> first | walk_at "d1" | skip)
  | ((with_reducible apply w_so) <;> first | walk_at "d1" | skip)
  | (with_reducible apply w_sv)
  | (with_reducible apply w_sq))
local macro_rules | `(tactic| walk_at "dx") => `(tactic| simp only [put, jn, List.set_cons_zero, List.set_cons_succ])
noncomputable def m_gaps : En → Option Fl :=
  (fSeq (fSet 1 (fCall n_struck (fCons (fV 0) fNil)))
  (fSeq (fSet 2 (fTup fNil))
  (fSeq (fFor (fZip2 (fV 1) (f2 addD (fSl (fV 1) (fPo (fC (.int 1))) fNo) (fSl (fV 1) fNo (fPo (fC (.int 1)))))) (gT (gCons' (gN 3) (gCons' (gN 4) gNil')))
    (fSeq (fSet 5 (f2 modD (f2 subD (fV 4) (fV 3)) (fBlt lenG (fCons (fV 0) fNil))))
    (fSeq (fIfS (fB (f2 eqD (fV 5) (fC (.int 0))))
      (fSet 5 (fBlt lenG (fCons (fV 0) fNil)))
      fPass)
    (fSet 2 (f2 addD (fV 2) (fTup (fCons (fV 5) fNil)))))))
  (fRet (fV 2)))))
noncomputable def n_gaps : List D → Option D := semOf 6 1 m_gaps
noncomputable def m_turns_to : En → Option Fl :=
  (fSeq (fIfS (fB (f2 neD (fBlt lenG (fCons (fV 0) fNil)) (fBlt lenG (fCons (fV 1) fNil))))
    (fRet (fC .non))
    fPass)
  (fSeq (fFor (fRng1 (fCons (fBlt lenG (fCons (fV 0) fNil)) fNil)) (gN 2)
    (fIfS (fB (f2 eqD (fCall n_turned (fCons (fV 0) (fCons (fV 2) fNil))) (fV 1)))
      (fRet (fV 2))
      fPass))
  (fRet (fC .non))))
noncomputable def n_turns_to : List D → Option D := semOf 3 2 m_turns_to
theorem mod_sub (x a n : Int) : (x % n - a) % n = (x - a) % n := by
  rw [show x % n - a = x % n + (-a) by omega, Int.emod_add_emod]
  rfl
theorem mod_add (x a n : Int) : (x % n + a) % n = (x + a) % n := Int.emod_add_emod x n a
theorem mod_at {n : Nat} (h : 0 < n) (x : Int) : ∃ k : Nat, (k : Int) = x % n ∧ k < n := by
  have h1 := Int.emod_nonneg x (show (n : Int) ≠ 0 by omega)
  have h2 := Int.emod_lt_of_pos x (show (0 : Int) < (n : Int) by omega)
  exact ⟨(x % n).toNat, by omega, by omega⟩
theorem mod_small {x n : Int} (h0 : 0 ≤ x) (h : x < n) : x % n = x := Int.emod_eq_of_lt h0 h
theorem mod_one {x n : Int} (h0 : n ≤ x) (h : x < n + n) : x % n = x - n := by
  have : x = (x - n) + n := by omega
  rw [this, Int.add_emod_right, Int.emod_eq_of_lt (by omega) (by omega)]
  omega
theorem rot_get {row : List Nat} (b : Int) {i : Nat} (hi : i < row.length) : (rotL row b).getD i 46 = row.getD (((i : Int) - b) % row.length).toNat 46 := by
  obtain ⟨g, hg, hg2⟩ := mod_at (n := row.length) (by omega) (0 - b)
  have e : ((i : Int) - b) % row.length = ((g : Int) + i) % row.length := by
    rw [hg, mod_add]
    congr 1
    omega
  unfold rotL
  rw [e, ← hg, Int.toNat_natCast, List.getD_eq_getElem?_getD, List.getD_eq_getElem?_getD, List.getElem?_append]
  by_cases h : i < row.length - g
  · rw [if_pos (by rw [List.length_drop]; exact h), List.getElem?_drop, mod_small (by omega) (by omega)]
    congr 2
  · rw [if_neg (by rw [List.length_drop]; exact h), List.length_drop, List.getElem?_take, if_pos (by omega), mod_one (by omega) (by omega)]
    congr 2
    omega
theorem rot_add (row : List Nat) (a b : Int) : rotL (rotL row a) b = rotL row (a + b) := by
  refine row_ext (by rw [rot_len, rot_len, rot_len]) fun i hi => ?_
  rw [rot_len, rot_len] at hi
  obtain ⟨k, hk, hk2⟩ := mod_at (n := row.length) (by omega) ((i : Int) - b)
  rw [rot_get b (by rw [rot_len]; exact hi), rot_len, ← hk, Int.toNat_natCast, rot_get a hk2, hk, mod_sub, rot_get (a + b) hi]
  congr 3
  omega
theorem rot_congr (row : List Nat) {a b : Int} (h : a % row.length = b % row.length) : rotL row a = rotL row b := by
  refine row_ext (by rw [rot_len, rot_len]) fun i hi => ?_
  rw [rot_len] at hi
  rw [rot_get a hi, rot_get b hi, Int.sub_emod, h, ← Int.sub_emod]
theorem rot_zero (row : List Nat) : rotL row 0 = row := by
  unfold rotL
  simp
theorem rot_full (row : List Nat) : rotL row row.length = row := by
  rw [rot_congr row (b := 0) (by simp), rot_zero]
theorem rot_back (row : List Nat) (a : Int) : rotL (rotL row a) (0 - a) = row := by
  rw [rot_add, show a + (0 - a) = 0 by omega, rot_zero]
theorem rot_perm (row : List Nat) (b : Int) : (rotL row b).Perm row := by
  unfold rotL
  exact List.perm_append_comm.trans (by rw [List.take_append_drop])
theorem mem_turns {row : List Nat} (h : 0 < row.length) {y : List Nat} : y ∈ turnsL row ↔ ∃ k : Int, y = rotL row k := by
  unfold turnsL
  rw [List.mem_map]
  constructor
  · rintro ⟨k, _, rfl⟩
    exact ⟨_, rfl⟩
  · rintro ⟨k, rfl⟩
    obtain ⟨j, hj, hj2⟩ := mod_at h k
    refine ⟨j, List.mem_range.mpr hj2, rot_congr row ?_⟩
    rw [hj, Int.emod_emod_of_dvd _ (Int.dvd_refl _)]
theorem minS_le : ∀ (xs : List (List Nat)) (x : List Nat), ∀ y ∈ x :: xs, minOf ltS x xs ≤ y
  | [], x, y, h => by
    have : y = x := by simpa using h
    subst this
    exact List.le_refl _
  | z :: zs, x, y, h => by
    show minOf ltS (if ltS z x then z else x) zs ≤ y
    have ih := minS_le zs (if ltS z x then z else x)
    have h0 := ih _ List.mem_cons_self
    have hle : (if ltS z x then z else x) ≤ x ∧ (if ltS z x then z else x) ≤ z := by
      unfold ltS
      by_cases q : z < x
      · rw [decide_eq_true q]
        exact ⟨List.le_of_lt q, List.le_refl _⟩
      · rw [decide_eq_false q]
        exact ⟨List.le_refl _, List.not_lt.mp q⟩
    rcases List.mem_cons.mp h with rfl | h
    · exact List.le_trans h0 hle.1
    · rcases List.mem_cons.mp h with rfl | h
      · exact List.le_trans h0 hle.2
      · exact ih y (List.mem_cons_of_mem _ h)
theorem least_mem {row : List Nat} (h : 0 < row.length) : leastL row ∈ turnsL row := by
  obtain ⟨x, xs, e1, e2⟩ := turnsL_ne h
  rw [e2, e1]
  exact minOf_mem ltS xs x
theorem least_le {row : List Nat} (h : 0 < row.length) {y : List Nat} (hy : y ∈ turnsL row) : leastL row ≤ y := by
  obtain ⟨x, xs, e1, e2⟩ := turnsL_ne h
  rw [e2]
  rw [e1] at hy
  exact minS_le xs x y hy
theorem least_rot {row : List Nat} (h : 0 < row.length) (b : Int) : leastL (rotL row b) = leastL row := by
  have h' : 0 < (rotL row b).length := by rw [rot_len]; exact h
  refine List.le_antisymm (least_le h' ?_) (least_le h ?_)
  · obtain ⟨k, hk⟩ := (mem_turns h).mp (least_mem h)
    exact (mem_turns h').mpr ⟨k - b, by rw [rot_add, hk]; congr 1; omega⟩
  · obtain ⟨k, hk⟩ := (mem_turns h').mp (least_mem h')
    exact (mem_turns h).mpr ⟨b + k, by rw [hk, rot_add]⟩
theorem least_turn {row : List Nat} (h : 0 < row.length) : ∃ k : Int, leastL row = rotL row k := (mem_turns h).mp (least_mem h)
theorem least_len {row : List Nat} (h : 0 < row.length) : (leastL row).length = row.length := by
  obtain ⟨k, hk⟩ := least_turn h
  rw [hk, rot_len]
theorem least_iff {a b : List Nat} (ha : 0 < a.length) (hb : 0 < b.length) : leastL a = leastL b ↔ ∃ k : Int, b = rotL a k := by
  constructor
  · intro h
    obtain ⟨k, hk⟩ := least_turn ha
    obtain ⟨j, hj⟩ := least_turn hb
    refine ⟨k - j, ?_⟩
    rw [hk, hj] at h
    have := congrArg (fun r => rotL r (0 - j)) h
    simp only [rot_back, rot_add] at this
    rw [show k + (0 - j) = k - j by omega] at this
    rw [show j + (0 - j) = 0 by omega, rot_zero] at this
    exact this.symm
  · rintro ⟨k, rfl⟩
    exact (least_rot ha k).symm

/-! turns_to -/
def ttoL (a b : List Nat) : Option Nat := if a.length = b.length then (List.range a.length).find? fun k => decide (rotL a (k : Nat) = b) else none
def optD : Option Nat → D
  | none => .non
  | some k => .int (k : Nat)
theorem for_find {α : Type} {g : D → En → Option En} {B : En → Option Fl} (c : α → D) (p : α → Bool) (r : α → D) (J : En → Prop) : ∀ (xs : List α) (env : En), J env →
    (∀ x ∈ xs, ∀ e, J e → ∃ e1, g (c x) e = some e1 ∧ (p x = true → B e1 = some (.rt (r x))) ∧ (p x = false → ∃ e2, B e1 = some (.nx e2) ∧ J e2)) →
    match xs.find? p with
    | some x => forF g B (xs.map c) env = some (.rt (r x))
    | none => ∃ e', forF g B (xs.map c) env = some (.nx e') ∧ J e'
  | [], env, h, _ => ⟨env, rfl, h⟩
  | x :: xs, env, h, q => by
    obtain ⟨e1, a1, a2, a3⟩ := q x List.mem_cons_self env h
    cases hp : p x with
    | true =>
      rw [List.find?_cons_of_pos hp]
      exact w_forr a1 (a2 hp)
    | false =>
      obtain ⟨e2, b1, b2⟩ := a3 hp
      have ih := for_find c p r J xs e2 b2 fun y hy => q y (List.mem_cons_of_mem _ hy)
      rw [List.find?_cons_of_neg (by rw [hp]; decide)]
      cases hf : xs.find? p with
      | some y =>
        rw [hf] at ih
        exact w_forc a1 b1 ih
      | none =>
        rw [hf] at ih
        obtain ⟨e', i1, i2⟩ := ih
        exact ⟨e', w_forc a1 b1 i1, i2⟩
theorem e_turns {a b : List Nat} (h : 0 < a.length) (h2 : a.length ≤ 1000) (h3 : b.length ≤ 1000) : n_turns_to [.str a, .str b] = some (optD (ttoL a b)) := by
  have w : ∀ fl : Option D, (∃ d, fl = some d ∧ m_turns_to [some (.str a), some (.str b), none] = some (.rt d)) → n_turns_to [.str a, .str b] = fl := by
    rintro fl ⟨d, rfl, q⟩
    exact sem_rt rfl q
  refine w _ ⟨_, rfl, ?_⟩
  unfold m_turns_to ttoL
  by_cases hl : a.length = b.length
  · rw [if_pos hl]
    refine w_seq (w_iff (w_nf (by walk_at "dn") (by walk_at "dn") (by rw [hl]) rfl) w_pass) ?_
    have key := for_find (g := gN 2) (B := fIfS (fB (f2 eqD (fCall n_turned (fCons (fV 0) (fCons (fV 2) fNil))) (fV 1))) (fRet (fV 2)) fPass) (fun i : Nat => D.int (i : Nat)) (fun k => decide (rotL a (k : Nat) = b)) (fun k => .int (k : Nat))
      (fun e => ∃ x, e = [some (.str a), some (.str b), x]) (List.range a.length) [some (.str a), some (.str b), none] ⟨none, rfl⟩ ?_
    · cases hf : (List.range a.length).find? fun k => decide (rotL a (k : Nat) = b) with
      | some k =>
        rw [hf] at key
        exact w_ret (w_for (v_rng1 (n := (a.length : Int)) (by walk_at "dn") (by omega)) key)
      | none =>
        rw [hf] at key
        obtain ⟨e', k1, x, rfl⟩ := key
        exact w_seq (w_for (v_rng1 (n := (a.length : Int)) (by walk_at "dn") (by omega)) k1) (ret_of v_c)
    · rintro k hk e ⟨x, rfl⟩
      refine ⟨[some (.str a), some (.str b), some (.int (k : Nat))], rfl, fun hp => ?_, fun hp => ⟨[some (.str a), some (.str b), some (.int (k : Nat))], ?_, _, rfl⟩⟩
      · refine w_ift (v_b (v_2 (v_call (by walk_at "dn") (e_turned h (by omega))) (by walk_at "dn") ?_)) (ret_of (by walk_at "dn"))
        rw [eq_s, hp]
      · refine w_iff (v_b (v_2 (v_call (by walk_at "dn") (e_turned h (by omega))) (by walk_at "dn") ?_)) w_pass
        rw [eq_s, hp]
  · rw [if_neg hl]
    refine w_ret (w_ift (v_b (v_2 (by walk_at "dn") (by walk_at "dn") ?_)) (ret_of v_c))
    rw [ne_i, decide_eq_false (by omega)]
    rfl
theorem tto_some {a b : List Nat} {k : Nat} (h : ttoL a b = some k) : k < a.length ∧ rotL a (k : Nat) = b ∧ ∀ j < k, rotL a (j : Nat) ≠ b := by
  unfold ttoL at h
  by_cases hl : a.length = b.length
  · rw [if_pos hl] at h
    rw [List.find?_range_eq_some] at h
    simp at h
    exact ⟨h.2.1, h.1, fun j hj => h.2.2 j hj⟩
  · rw [if_neg hl] at h
    cases h
theorem tto_none {a b : List Nat} (h0 : 0 < a.length) (h : ttoL a b = none) (k : Int) : rotL a k ≠ b := by
  intro q
  unfold ttoL at h
  rw [if_pos (by rw [← q, rot_len])] at h
  rw [List.find?_eq_none] at h
  obtain ⟨j, hj, hj2⟩ := mod_at h0 k
  refine h j (List.mem_range.mpr hj2) ?_
  rw [decide_eq_true_eq, ← q]
  refine rot_congr a ?_
  rw [hj, Int.emod_emod_of_dvd _ (Int.dvd_refl _)]
theorem tto_of {a b : List Nat} (h0 : 0 < a.length) {k : Int} (h : rotL a k = b) : ∃ j, ttoL a b = some j := by
  cases e : ttoL a b with
  | some j => exact ⟨j, rfl⟩
  | none => exact absurd h (tto_none h0 e k)

/-! sorted -/
def sortI (ns : List Int) : List Int := ns.mergeSort fun a b => decide (a ≤ b)
theorem sortI_perm (ns : List Int) : (sortI ns).Perm ns := List.mergeSort_perm _ _
theorem sortI_rises (ns : List Int) : (sortI ns).Pairwise (· ≤ ·) := by
  have h1 : (sortI ns).Pairwise fun a b => decide (a ≤ b) = true := List.pairwise_mergeSort (fun a b c h h' => by simp at *; omega) (fun a b => by simp; omega) _
  exact h1.imp fun h => by simpa using h
theorem sortI_of {ns ms : List Int} (h : ms.Perm ns) (hr : ms.Pairwise (· ≤ ·)) : sortI ns = ms :=
  List.Perm.eq_of_pairwise (le := fun a b : Int => a ≤ b) (fun a b _ _ h h' => by omega) (sortI_rises ns) hr ((sortI_perm ns).trans h.symm)
theorem sortI_eq {ns ms : List Int} (h : ms.Perm ns) : sortI ms = sortI ns := (sortI_of ((sortI_perm ms).trans h) (sortI_rises ms)).symm
theorem srt_ints (ns : List Int) : srtOk (ns.map D.int) = true := by
  unfold srtOk
  rw [Bool.and_eq_true, Bool.or_eq_true]
  refine ⟨?_, .inr ?_⟩
  · rw [List.all_eq_true]
    intro x hx
    obtain ⟨i, _, rfl⟩ := List.mem_map.mp hx
    rw [Bool.and_eq_true]
    refine ⟨rfl, ?_⟩
    rw [List.all_eq_true]
    intro y hy
    obtain ⟨j, _, rfl⟩ := List.mem_map.mp hy
    simp only [toP, PySem.W.alike]
  · rw [List.all_eq_true]
    intro x hx
    obtain ⟨i, _, rfl⟩ := List.mem_map.mp hx
    rfl
theorem srt_mapI (ns : List Int) : (ns.map D.int).mergeSort leP = (sortI ns).map D.int := by
  unfold sortI
  rw [List.map_mergeSort (r := fun a b => decide (a ≤ b)) (s := leP) (f := D.int)]
  intro a _ b _
  unfold leP PySem.W.dataLe
  have := congrFun (congrFun (PySem.W.dataLe_int (fun x : Int => x)) a) b
  simp only [PySem.W.dataLe] at this
  rw [← this]
  simp only [PySem.W.sortLe, toP]
theorem sort_li (ns : List Int) : sortedG [.lst (ns.map D.int)] = some (.lst ((sortI ns).map D.int)) := by
  show (if _ then _ else _) = _
  rw [if_pos (srt_ints ns), srt_mapI]
theorem sort_ti (ns : List Int) : sortedG [.tup (ns.map D.int)] = some (.lst ((sortI ns).map D.int)) := by
  show (if _ then _ else _) = _
  rw [if_pos (srt_ints ns), srt_mapI]
end Dn
set_option Elab.async false
set_option linter.all false
set_option maxRecDepth 100000
/-! Patterns. -/
namespace Dn
open PySem L2 PySem.Spec PyProof.Rows PySem.Builtin PySem.Builtin.Str
local macro_rules | `(tactic| walk_at "dg") => `(tactic| first
  | with_reducible exact add_i _ _ | with_reducible exact sub_i _ _ | ((with_reducible refine mul_i ?_); omega) | ((with_reducible refine fdiv_i ?_); omega) | ((with_reducible refine mod_i ?_); omega) | with_reducible exact neg_i _
  | with_reducible exact lt_i _ _ | with_reducible exact le_i _ _ | with_reducible exact gt_i _ _ | with_reducible exact ge_i _ _ | with_reducible exact eq_i _ _ | with_reducible exact ne_i _ _ | with_reducible exact eq_s _ _ | with_reducible exact ne_s _ _
  | ((with_reducible refine add_s ?_); omega) | ((with_reducible refine add_t ?_); omega) | ((with_reducible refine add_l ?_); omega) | ((with_reducible refine mul_s ?_); omega) | ((with_reducible refine mul_l ?_); omega)
  | ((with_reducible refine len_s ?_); omega) | with_reducible exact len_t _ | with_reducible exact len_l _ | with_reducible exact len_c _ | with_reducible exact int_b _ | with_reducible exact int_i _ | with_reducible exact abs_i _
  | ((with_reducible refine sl_s ?_); omega) | with_reducible exact sl_t _ _ _ | with_reducible exact sl_l _ _ _ | ((with_reducible apply ix_t); (· omega); (· rfl)) | ((with_reducible apply ix_l); (· omega); (· rfl)) | with_reducible assumption)
local macro_rules | `(tactic| walk_at "dc") => `(tactic| with_reducible assumption)
local macro_rules | `(tactic| walk_at "dn") => `(tactic| first
  | with_reducible exact v_c | with_reducible exact v_nil | with_reducible exact v_no
  | ((with_reducible apply v_var); (· rfl); (· rfl))
  | ((with_reducible apply v_2); (· walk_at "dn"); (· walk_at "dn"); (· walk_at "dg"))
  | ((with_reducible apply v_1); (· walk_at "dn"); (· walk_at "dg"))
  | ((with_reducible apply v_cons); (· walk_at "dn"); (· walk_at "dn"))
  | ((with_reducible apply v_blt); (· walk_at "dn"); (· walk_at "dg"))
  | ((with_reducible apply v_call); (· walk_at "dn"); (· walk_at "dc"))
  | ((with_reducible apply v_tup); (· walk_at "dn"); (· first | decide | (simp only [List.length_cons, List.length_nil]; decide)))
  | ((with_reducible apply v_lst); (· walk_at "dn"); (· first | decide | (simp only [List.length_cons, List.length_nil]; decide)))
  | ((with_reducible apply v_po); (· walk_at "dn"))
  | ((with_reducible apply v_sl); (· walk_at "dn"); (· walk_at "dn"); (· walk_at "dn"); (· walk_at "dg"))
  | ((with_reducible apply v_m1); (· walk_at "dn"); (· walk_at "dn"); (· walk_at "dg"))
  | ((with_reducible apply v_b); (· walk_at "dn"))
  | ((with_reducible apply v_not); (· walk_at "dn"))
  | ((with_reducible apply v_notV); (· walk_at "dn"))
  | ((with_reducible apply v_rng1); (· walk_at "dn"); (· omega))
  | ((with_reducible apply v_rng2); (· walk_at "dn"); (· omega))
  | ((with_reducible apply v_it); (· walk_at "dn"))
  | ((with_reducible apply v_itl); (· walk_at "dn"))
  | ((with_reducible apply v_its); (· walk_at "dn"))
  | with_reducible assumption)
local macro_rules | `(tactic| walk_at "dt") => `(tactic| first
  | with_reducible exact v_c | with_reducible exact v_nil | with_reducible exact v_no
  | ((with_reducible apply v_var); (· rfl); (· rfl))
  | ((with_reducible apply v_2) <;> walk_at "dt")
  | ((with_reducible apply v_1) <;> walk_at "dt")
  | ((with_reducible apply v_cons) <;> walk_at "dt")
  | ((with_reducible apply v_blt) <;> walk_at "dt")
  | ((with_reducible apply v_call) <;> walk_at "dt")
  | ((with_reducible apply v_tup) <;> walk_at "dt")
  | ((with_reducible apply v_lst) <;> walk_at "dt")
  | ((with_reducible apply v_po) <;> walk_at "dt")
  | ((with_reducible apply v_sl) <;> walk_at "dt")
  | ((with_reducible apply v_m1) <;> walk_at "dt")
  | ((with_reducible apply v_b) <;> walk_at "dt")
  | ((with_reducible apply v_notV) <;> walk_at "dt")
  | ((with_reducible apply v_not) <;> walk_at "dt")
  | ((with_reducible apply v_rng1) <;> first | omega | walk_at "dt")
  | ((with_reducible apply v_rng2) <;> first | omega | walk_at "dt")
  | walk_at "dg"
  | (show List.length _ ≤ sizeLine; first | decide | (simp only [List.length_cons, List.length_nil]; decide))
  | skip)
local macro_rules | `(tactic| walk_at "ds") => `(tactic| first
  | ((with_reducible apply w_ss) <;> first | walk_at "d1" | skip)
  | ((with_reducible apply w_r) <;> first | walk_at "d1" | skip)
  | ((with_reducible apply w_sp) <;> first | walk_at "d1" | skip)
  | ((with_reducible apply w_so) <;> first | walk_at "d1" | skip)
  | (with_reducible apply w_sv)
  | (with_reducible apply w_sq))
local macro_rules | `(tactic| walk_at "dx") => `(tactic| simp only [put, jn, List.set_cons_zero, List.set_cons_succ])
noncomputable def m_finer : En → Option Fl :=
  (fSeq (fAsg (fV 0) (gT (gCons' (gN 4) (gCons' (gN 5) (gCons' (gN 6) gNil')))))
  (fSeq (fSet 2 (f2 mulD (fC (.str [46])) (f2 subD (fV 1) (fC (.int 1)))))
  (fSeq (fSet 3 (f1 tupD (fLc (fIt (fV 6)) (gT (gCons' (gN 7) (gCons' (gN 8) gNil'))) fYes (fTup (fCons (fV 7) (fCons (fM1 joinD (fC (.str [])) (fLc (fIt (fV 8)) (gN 9) fYes (f2 addD (fV 9) (fV 2)) [9])) fNil))) [7, 8])))
  (fRet (fTup (fCons (f2 mulD (fV 4) (fV 1)) (fCons (f2 mulD (fV 5) (fV 1)) (fCons (fV 3) fNil))))))))
noncomputable def n_finer : List D → Option D := semOf 10 2 m_finer
noncomputable def m_is_finer : En → Option Fl :=
  (fSeq (fAsg (fV 0) (gT (gCons' (gN 2) (gCons' (gN 3) (gCons' (gN 4) gNil')))))
  (fSeq (fIfS (fOr (fB (f2 neD (f2 modD (fV 2) (fV 1)) (fC (.int 0)))) (fB (f2 neD (f2 modD (fV 3) (fV 1)) (fC (.int 0)))))
    (fRet (fC (.bl false)))
    fPass)
  (fRet (fBlt allG (fCons (fLc (fIt (fV 4)) (gT (gCons' (gN 5) (gCons' (gN 6) gNil'))) fYes (fBlt allG (fCons (fLc (fEnum (fV 6)) (gT (gCons' (gN 7) (gCons' (gN 8) gNil'))) (fB (f2 neD (f2 modD (fV 7) (fV 1)) (fC (.int 0)))) (f2 eqD (fV 8) (fC (.str [46]))) [7, 8]) fNil)) [5, 6]) fNil)))))
noncomputable def n_is_finer : List D → Option D := semOf 9 2 m_is_finer
noncomputable def m_coarser : En → Option Fl :=
  (fSeq (fAsg (fV 0) (gT (gCons' (gN 2) (gCons' (gN 3) (gCons' (gN 4) gNil')))))
  (fSeq (fSet 1 (fBlt maxG (fCons (fLc (fRng2 (fCons (fC (.int 1)) (fCons (f2 addD (fV 2) (fC (.int 1))) fNil))) (gN 1) (fB (fCall n_is_finer (fCons (fV 0) (fCons (fV 1) fNil)))) (fV 1) [1]) fNil)))
  (fRet (fTup (fCons (f2 fdivD (fV 2) (fV 1)) (fCons (f2 fdivD (fV 3) (fV 1)) (fCons (f1 tupD (fLc (fIt (fV 4)) (gT (gCons' (gN 5) (gCons' (gN 6) gNil'))) fYes (fTup (fCons (fV 5) (fCons (f2 slkD (fV 6) (fV 1)) fNil))) [5, 6])) fNil)))))))
noncomputable def n_coarser : List D → Option D := semOf 7 1 m_coarser
noncomputable def m_pattern_turned : En → Option Fl :=
  (fRet (f2 addD (fSl (fV 0) fNo (fPo (fC (.int 2)))) (fTup (fCons (f1 tupD (fLc (fIt (f2 ixD (fV 0) (fC (.int 2)))) (gT (gCons' (gN 2) (gCons' (gN 3) gNil'))) fYes (fTup (fCons (fV 2) (fCons (fCall n_turned (fCons (fV 3) (fCons (fV 1) fNil))) fNil))) [2, 3])) fNil))))
noncomputable def n_pattern_turned : List D → Option D := semOf 4 2 m_pattern_turned
noncomputable def m_only : En → Option Fl :=
  (fRet (f2 addD (fSl (fV 0) fNo (fPo (fC (.int 2)))) (fTup (fCons (f1 tupD (fLc (fIt (f2 ixD (fV 0) (fC (.int 2)))) (gN 2) (fB (f2 inD (f2 ixD (fV 2) (fC (.int 0))) (fV 1))) (fV 2) [2])) fNil))))
noncomputable def n_only : List D → Option D := semOf 3 2 m_only
noncomputable def m_loudness : En → Option Fl :=
  (fSeq (fSet 1 (fM1 joinD (fC (.str [])) (fLc (fIt (f2 ixD (fV 0) (fC (.int 2)))) (gT (gCons' (gN 3) (gCons' (gN 4) gNil'))) fYes (fV 4) [3, 4])))
  (fSeq (fSet 2 (fM1 countD (fV 1) (fC (.str [120]))))
  (fRet (fTup (fCons (fV 2) (fCons (f2 subD (f2 subD (fBlt lenG (fCons (fV 1) fNil)) (fV 2)) (fM1 countD (fV 1) (fC (.str [46])))) fNil))))))
noncomputable def n_loudness : List D → Option D := semOf 5 1 m_loudness
noncomputable def m__law_pattern : En → Option Fl :=
  (fSeq (fSet 1 (f2 ixD (fTup (fCons (f2 addD (fC (.int 1)) (f2 modD (f2 fdivD (fV 0) (fC (.int 8))) (fC (.int 16)))) (fCons (fC (.int 4)) (fCons (fC (.int 8)) (fCons (f2 addD (fC (.int 1)) (f2 modD (f2 fdivD (fV 0) (fC (.int 8))) (fC (.int 6)))) fNil))))) (f2 modD (fV 0) (fC (.int 4)))))
  (fSeq (fSet 2 (f2 addD (fC (.int 1)) (f2 modD (f2 fdivD (fV 0) (fC (.int 128))) (fC (.int 4)))))
  (fSeq (fSet 3 (fTup fNil))
  (fSeq (fFor (fEnum (fTup (fCons (fC (.str [97])) (fCons (fC (.str [104])) (fCons (fC (.str [107])) (fCons (fC (.str [115])) (fCons (fC (.str [122])) fNil))))))) (gT (gCons' (gN 4) (gCons' (gN 5) gNil')))
    (fSeq (fSet 6 (f2 fdivD (fCall n__law_drawn (fCons (fV 0) (fCons (f2 addD (fC (.int 30)) (fV 4)) fNil))) (fC (.int 4))))
    (fIfS (fB (f2 ltD (f2 modD (fV 6) (fC (.int 5))) (f2 addD (fC (.int 1)) (f2 modD (f2 fdivD (fV 0) (fC (.int 512))) (fC (.int 4))))))
      (fSet 3 (f2 addD (fV 3) (fTup (fCons (fTup (fCons (fV 5) (fCons (fCall n__law_marks (fCons (f2 fdivD (fV 6) (fC (.int 8))) (fCons (fV 1) fNil))) fNil))) fNil))))
      fPass)))
  (fRet (fTup (fCons (fV 1) (fCons (fV 2) (fCons (fV 3) fNil)))))))))
noncomputable def n__law_pattern : List D → Option D := semOf 7 1 m__law_pattern
structure Pt where
  s : Nat
  g : Nat
  ps : List (Nat × List Nat)
def padD (q : Nat × List Nat) : D := .tup [.str [q.1], .str q.2]
def ptD (p : Pt) : D := .tup [.int (p.s : Nat), .int (p.g : Nat), .tup (p.ps.map padD)]
structure Pt.Ok (p : Pt) : Prop where
  s0 : 0 < p.s
  s1 : p.s ≤ 1000
  g0 : 0 < p.g
  g1 : p.g ≤ 1000
  few : p.ps.length ≤ 5
  row : ∀ q ∈ p.ps, q.2.length = p.s ∧ isRow q.2
theorem okN_pads : ∀ (n : Nat) (ps : List (Nat × List Nat)), ((ps.map padD).all fun x => okN (n + 1) x) = true := fun n ps => by
  rw [List.all_eq_true]
  intro x hx
  obtain ⟨q, _, rfl⟩ := List.mem_map.mp hx
  show (([D.str [q.1], .str q.2] : List D).all fun x => okN n x) = true
  cases n <;> rfl
theorem ok_pt (p : Pt) : okN 60 (ptD p) = true := by
  show ([D.int (p.s : Nat), .int (p.g : Nat), .tup (p.ps.map padD)].all fun x => okN 59 x) = true
  rw [List.all_cons, List.all_cons, List.all_cons, List.all_nil]
  have : okN 59 (.tup (p.ps.map padD)) = true := okN_pads 57 p.ps
  rw [this]
  rfl
/-! finer -/
def fineL (row : List Nat) (m : Nat) : List Nat := (row.map fun c => c :: List.replicate (m - 1) 46).flatten
theorem fineL_len (row : List Nat) {m : Nat} (hm : 0 < m) : (fineL row m).length = row.length * m := by
  unfold fineL
  induction row with
  | nil => simp
  | cons c r ih =>
    rw [List.map_cons, List.flatten_cons, List.length_append, ih, List.length_cons, List.length_cons, List.length_replicate, Nat.succ_mul]
    omega
def finerP (p : Pt) (m : Nat) : Pt := ⟨p.s * m, p.g * m, p.ps.map fun q => (q.1, fineL q.2 m)⟩
theorem sum_const {α : Type} (f : α → List Nat) (n : Nat) (h : ∀ x, (f x).length = n) : ∀ xs : List α, ((xs.map f).map List.length).sum = xs.length * n
  | [] => by simp
  | x :: xs => by rw [List.map_cons, List.map_cons, List.sum_cons, h x, sum_const f n h xs, List.length_cons, Nat.succ_mul, Nat.add_comm]
theorem e_finer {p : Pt} (ok : p.Ok) {m : Nat} (h0 : 0 < m) (h1 : m ≤ 900) : n_finer [ptD p, .int (m : Nat)] = some (ptD (finerP p m)) := by
  refine sem_rt rfl ?_
  show m_finer [some (ptD p), some (.int (m : Nat)), none, none, none, none, none, none, none, none] = _
  unfold m_finer
  have hA : fAsg (fV 0) (gT (gCons' (gN 4) (gCons' (gN 5) (gCons' (gN 6) gNil')))) [some (ptD p), some (.int (m : Nat)), none, none, none, none, none, none, none, none] = some (.nx [some (ptD p), some (.int (m : Nat)), none, none, some (.int (p.s : Nat)), some (.int (p.g : Nat)), some (.tup (p.ps.map padD)), none, none, none]) := rfl
  refine w_seq hA ?_
  have hr : mulD (.str [46]) (.int ((m : Int) - 1)) = some (.str (List.replicate (m - 1) 46)) := by
    rw [← reps_one, show m - 1 = ((m : Int) - 1).toNat by omega]
    exact mul_s ⟨by decide, by omega, by omega⟩
  refine w_seq (w_set (v_2 v_c (by walk_at "dn") hr) rfl) ?_
  have hin : ∀ q ∈ p.ps, ∀ x y z : Option D, fM1 joinD (fC (.str [])) (fLc (fIt (fV 8)) (gN 9) fYes (f2 addD (fV 9) (fV 2)) [9]) [some (ptD p), some (.int (m : Nat)), some (.str (List.replicate (m - 1) 46)), none, some (.int (p.s : Nat)), some (.int (p.g : Nat)), some (.tup (p.ps.map padD)), some (.str [q.1]), some (.str q.2), none] = some (.str (fineL q.2 m)) := fun q hq x y z => by
    have hl := (ok.row q hq).1
    have := ok.s1
    refine v_m1 v_c (lcw (r := (q.2.map fun c => c :: List.replicate (m - 1) 46).map D.str) (v_its (by walk_at "dn")) (by rw [List.length_map]; omega) ?_) ?_
    · rw [List.map_map]
      refine lc_map _ _ _ fun c _ => ⟨[some (ptD p), some (.int (m : Nat)), some (.str (List.replicate (m - 1) 46)), none, some (.int (p.s : Nat)), some (.int (p.g : Nat)), some (.tup (p.ps.map padD)), some (.str [q.1]), some (.str q.2), some (.str [c])], rfl, ?_⟩
      refine v_2 (by walk_at "dn") (by walk_at "dn") (add_s ?_)
      rw [List.length_replicate]
      show 1 + (m - 1) ≤ 1000000
      omega
    · rw [join_l, joinL_nil]
      · rfl
      · rw [sum_const _ m (fun c => by rw [List.length_cons, List.length_replicate]; omega)]
        simp only [List.length_nil, Nat.mul_zero, Nat.add_zero]
        rw [hl]
        exact Nat.le_trans (Nat.mul_le_mul ok.s1 h1) (by decide)
  have hrows : fLc (fIt (fV 6)) (gT (gCons' (gN 7) (gCons' (gN 8) gNil'))) fYes (fTup (fCons (fV 7) (fCons (fM1 joinD (fC (.str [])) (fLc (fIt (fV 8)) (gN 9) fYes (f2 addD (fV 9) (fV 2)) [9])) fNil))) [7, 8] [some (ptD p), some (.int (m : Nat)), some (.str (List.replicate (m - 1) 46)), none, some (.int (p.s : Nat)), some (.int (p.g : Nat)), some (.tup (p.ps.map padD)), none, none, none] = some (.lst ((finerP p m).ps.map padD)) := by
    refine lcw (v_it (by walk_at "dn")) (by rw [List.length_map]; have := ok.few; omega) ?_
    unfold finerP
    rw [List.map_map]
    refine lc_map padD _ _ fun q hq => ⟨[some (ptD p), some (.int (m : Nat)), some (.str (List.replicate (m - 1) 46)), none, some (.int (p.s : Nat)), some (.int (p.g : Nat)), some (.tup (p.ps.map padD)), some (.str [q.1]), some (.str q.2), none], rfl, ?_⟩
    exact v_tup (ds := [.str [q.1], .str (fineL q.2 m)]) (v_cons (by walk_at "dn") (v_cons (hin q hq none none none) v_nil)) (show 2 ≤ sizeLine by decide)
  refine w_seq (w_set (v_1 hrows rfl) rfl) (ret_of ?_)
  have m1 : mulD (.int (p.s : Nat)) (.int (m : Nat)) = some (.int ((p.s * m : Nat) : Int)) := by
    have := ok.s1
    rw [mul_i (by omega)]
    simp
  have m2 : mulD (.int (p.g : Nat)) (.int (m : Nat)) = some (.int ((p.g * m : Nat) : Int)) := by
    have := ok.g1
    rw [mul_i (by omega)]
    simp
  exact v_tup (ds := [.int ((p.s * m : Nat) : Int), .int ((p.g * m : Nat) : Int), .tup ((finerP p m).ps.map padD)]) (v_cons (v_2 (by walk_at "dn") (by walk_at "dn") m1) (v_cons (v_2 (by walk_at "dn") (by walk_at "dn") m2) (by walk_at "dn"))) (show 3 ≤ sizeLine by decide)
/-! turned -/
def turnP (p : Pt) (b : Int) : Pt := ⟨p.s, p.g, p.ps.map fun q => (q.1, rotL q.2 b)⟩
theorem cut2 (p : Pt) : slD (ptD p) none (some 2) = some (.tup [.int (p.s : Nat), .int (p.g : Nat)]) := by
  unfold ptD
  rw [sl_t]
  exact congrArg (fun l => some (D.tup l)) (cut_to _ 2)
theorem e_pturned {p : Pt} (ok : p.Ok) (b : Int) : n_pattern_turned [ptD p, .int b] = some (ptD (turnP p b)) := by
  refine sem_rt rfl ?_
  show m_pattern_turned [some (ptD p), some (.int b), none, none] = _
  unfold m_pattern_turned
  have hl : fLc (fIt (f2 ixD (fV 0) (fC (.int 2)))) (gT (gCons' (gN 2) (gCons' (gN 3) gNil'))) fYes (fTup (fCons (fV 2) (fCons (fCall n_turned (fCons (fV 3) (fCons (fV 1) fNil))) fNil))) [2, 3] [some (ptD p), some (.int b), none, none] = some (.lst ((turnP p b).ps.map padD)) := by
    refine lcw (v_it (v_2 (by walk_at "dn") v_c rfl)) (by rw [List.length_map]; have := ok.few; omega) ?_
    unfold turnP
    rw [List.map_map]
    refine lc_map padD _ _ fun q hq => ⟨[some (ptD p), some (.int b), some (.str [q.1]), some (.str q.2)], rfl, ?_⟩
    obtain ⟨l1, l2⟩ := ok.row q hq
    have := ok.s0
    have := ok.s1
    exact v_tup (ds := [.str [q.1], .str (rotL q.2 b)]) (v_cons (by walk_at "dn") (v_cons (v_call (by walk_at "dn") (e_turned (by omega) (by omega))) v_nil)) (show 2 ≤ sizeLine by decide)
  exact ret_of (v_2 (v_sl (by walk_at "dn") v_no (v_po v_c) (cut2 p)) (v_tup (ds := [.tup ((turnP p b).ps.map padD)]) (v_cons (v_1 hl rfl) v_nil) (show 1 ≤ sizeLine by decide)) (add_t (show 2 + 1 ≤ 1000000 by decide)))
/-! only -/
def onlyP (p : Pt) (l : List Nat) : Pt := ⟨p.s, p.g, p.ps.filter fun q => decide (q.1 ∈ l)⟩
theorem e_only {p : Pt} (ok : p.Ok) (l : List Nat) : n_only [ptD p, .str l] = some (ptD (onlyP p l)) := by
  refine sem_rt rfl ?_
  show m_only [some (ptD p), some (.str l), none] = _
  unfold m_only
  have hl : fLc (fIt (f2 ixD (fV 0) (fC (.int 2)))) (gN 2) (fB (f2 inD (f2 ixD (fV 2) (fC (.int 0))) (fV 1))) (fV 2) [2] [some (ptD p), some (.str l), none] = some (.lst ((onlyP p l).ps.map padD)) := by
    refine lcw (v_it (v_2 (by walk_at "dn") v_c rfl)) (by rw [List.length_map]; have := ok.few; omega) ?_
    unfold onlyP
    refine lc_filter padD (fun q => decide (q.1 ∈ l)) padD p.ps fun q hq => ⟨[some (ptD p), some (.str l), some (padD q)], rfl, ?_, fun _ => rfl⟩
    exact v_b (v_2 (v_2 (by walk_at "dn") v_c rfl) (by walk_at "dn") rfl)
  exact ret_of (v_2 (v_sl (by walk_at "dn") v_no (v_po v_c) (cut2 p)) (v_tup (ds := [.tup ((onlyP p l).ps.map padD)]) (v_cons (v_1 hl rfl) v_nil) (show 1 ≤ sizeLine by decide)) (add_t (show 2 + 1 ≤ 1000000 by decide)))
/-! loudness -/
def marksP (p : Pt) : List Nat := (p.ps.map fun q => q.2).flatten
def loudD (p : Pt) : D := .tup [.int ((marksP p).count 120 : Nat), .int (((marksP p).length : Nat) - ((marksP p).count 120 : Nat) - ((marksP p).count 46 : Nat))]
theorem len_marks {p : Pt} (h : ∀ q ∈ p.ps, q.2.length = p.s) : (marksP p).length = p.ps.length * p.s := by
  unfold marksP
  rw [List.length_flatten, List.map_map]
  generalize p.s = s at *
  generalize p.ps = ps at *
  induction ps with
  | nil => simp
  | cons q r ih =>
    rw [List.map_cons, List.sum_cons, ih fun x hx => h x (List.mem_cons_of_mem _ hx), List.length_cons, Nat.succ_mul]
    have := h q List.mem_cons_self
    simp only [Function.comp]
    omega
theorem e_loud {p : Pt} (ok : p.Ok) : n_loudness [ptD p] = some (loudD p) := by
  refine sem_rt rfl ?_
  show m_loudness [some (ptD p), none, none, none, none] = _
  unfold m_loudness
  have hlen := len_marks fun q hq => (ok.row q hq).1
  have hl5 : (marksP p).length ≤ 5000 := by
    rw [hlen]
    exact Nat.mul_le_mul ok.few ok.s1
  have hl : fLc (fIt (f2 ixD (fV 0) (fC (.int 2)))) (gT (gCons' (gN 3) (gCons' (gN 4) gNil'))) fYes (fV 4) [3, 4] [some (ptD p), none, none, none, none] = some (.lst ((p.ps.map fun q => q.2).map D.str)) := by
    refine lcw (v_it (v_2 (by walk_at "dn") v_c rfl)) (by rw [List.length_map]; have := ok.few; omega) ?_
    rw [List.map_map]
    exact lc_map padD _ _ fun q hq => ⟨[some (ptD p), none, none, some (.str [q.1]), some (.str q.2)], rfl, rfl⟩
  refine w_seq (w_set (d := .str (marksP p)) (v_m1 v_c hl ?_) rfl) ?_
  · rw [join_l, joinL_nil]
    · rfl
    · have e : ((p.ps.map fun q => q.2).map List.length).sum = (marksP p).length := by
        unfold marksP
        rw [List.length_flatten]
      rw [e]
      simp
      omega
  refine w_seq (w_set (v_m1 (by walk_at "dn") v_c rfl) rfl) (ret_of ?_)
  unfold loudD
  exact v_tup (v_cons (by walk_at "dn") (v_cons (v_2 (v_2 (by walk_at "dn") (by walk_at "dn") (sub_i _ _)) (v_m1 (by walk_at "dn") v_c rfl) (sub_i _ _)) v_nil)) (show 2 ≤ sizeLine by decide)
end Dn
set_option Elab.async false
set_option linter.all false
set_option maxRecDepth 100000
/-! Patterns: those that a law draws; is_finer, coarser. -/
namespace Dn
open PySem L2 PySem.Spec PyProof.Rows PySem.Builtin PySem.Builtin.Str
local macro_rules | `(tactic| walk_at "dg") => `(tactic| first
  | with_reducible exact add_i _ _ | with_reducible exact sub_i _ _ | ((with_reducible refine mul_i ?_); omega) | ((with_reducible refine fdiv_i ?_); omega) | ((with_reducible refine mod_i ?_); omega) | with_reducible exact neg_i _
  | with_reducible exact lt_i _ _ | with_reducible exact le_i _ _ | with_reducible exact gt_i _ _ | with_reducible exact ge_i _ _ | with_reducible exact eq_i _ _ | with_reducible exact ne_i _ _ | with_reducible exact eq_s _ _ | with_reducible exact ne_s _ _
  | ((with_reducible refine add_s ?_); omega) | ((with_reducible refine add_t ?_); omega) | ((with_reducible refine add_l ?_); omega) | ((with_reducible refine mul_s ?_); omega) | ((with_reducible refine mul_l ?_); omega)
  | ((with_reducible refine len_s ?_); omega) | with_reducible exact len_t _ | with_reducible exact len_l _ | with_reducible exact len_c _ | with_reducible exact int_b _ | with_reducible exact int_i _ | with_reducible exact abs_i _
  | ((with_reducible refine sl_s ?_); omega) | with_reducible exact sl_t _ _ _ | with_reducible exact sl_l _ _ _ | ((with_reducible apply ix_t); (· omega); (· rfl)) | ((with_reducible apply ix_l); (· omega); (· rfl)) | with_reducible assumption)
local macro_rules | `(tactic| walk_at "dc") => `(tactic| with_reducible assumption)
local macro_rules | `(tactic| walk_at "dn") => `(tactic| first
  | with_reducible exact v_c | with_reducible exact v_nil | with_reducible exact v_no
  | ((with_reducible apply v_var); (· rfl); (· rfl))
  | ((with_reducible apply v_2); (· walk_at "dn"); (· walk_at "dn"); (· walk_at "dg"))
  | ((with_reducible apply v_1); (· walk_at "dn"); (· walk_at "dg"))
  | ((with_reducible apply v_cons); (· walk_at "dn"); (· walk_at "dn"))
  | ((with_reducible apply v_blt); (· walk_at "dn"); (· walk_at "dg"))
  | ((with_reducible apply v_call); (· walk_at "dn"); (· walk_at "dc"))
  | ((with_reducible apply v_tup); (· walk_at "dn"); (· first | decide | (simp only [List.length_cons, List.length_nil]; decide)))
  | ((with_reducible apply v_lst); (· walk_at "dn"); (· first | decide | (simp only [List.length_cons, List.length_nil]; decide)))
  | ((with_reducible apply v_po); (· walk_at "dn"))
  | ((with_reducible apply v_sl); (· walk_at "dn"); (· walk_at "dn"); (· walk_at "dn"); (· walk_at "dg"))
  | ((with_reducible apply v_m1); (· walk_at "dn"); (· walk_at "dn"); (· walk_at "dg"))
  | ((with_reducible apply v_b); (· walk_at "dn"))
  | ((with_reducible apply v_not); (· walk_at "dn"))
  | ((with_reducible apply v_notV); (· walk_at "dn"))
  | ((with_reducible apply v_rng1); (· walk_at "dn"); (· omega))
  | ((with_reducible apply v_rng2); (· walk_at "dn"); (· omega))
  | ((with_reducible apply v_it); (· walk_at "dn"))
  | ((with_reducible apply v_itl); (· walk_at "dn"))
  | ((with_reducible apply v_its); (· walk_at "dn"))
  | with_reducible assumption)
local macro_rules | `(tactic| walk_at "dt") => `(tactic| first
  | with_reducible exact v_c | with_reducible exact v_nil | with_reducible exact v_no
  | ((with_reducible apply v_var); (· rfl); (· rfl))
  | ((with_reducible apply v_2) <;> walk_at "dt")
  | ((with_reducible apply v_1) <;> walk_at "dt")
  | ((with_reducible apply v_cons) <;> walk_at "dt")
  | ((with_reducible apply v_blt) <;> walk_at "dt")
  | ((with_reducible apply v_call) <;> walk_at "dt")
  | ((with_reducible apply v_tup) <;> walk_at "dt")
  | ((with_reducible apply v_lst) <;> walk_at "dt")
  | ((with_reducible apply v_po) <;> walk_at "dt")
  | ((with_reducible apply v_sl) <;> walk_at "dt")
  | ((with_reducible apply v_m1) <;> walk_at "dt")
  | ((with_reducible apply v_b) <;> walk_at "dt")
  | ((with_reducible apply v_notV) <;> walk_at "dt")
  | ((with_reducible apply v_not) <;> walk_at "dt")
  | ((with_reducible apply v_rng1) <;> first | omega | walk_at "dt")
  | ((with_reducible apply v_rng2) <;> first | omega | walk_at "dt")
  | walk_at "dg"
  | (show List.length _ ≤ sizeLine; first | decide | (simp only [List.length_cons, List.length_nil]; decide))
  | skip)
local macro_rules | `(tactic| walk_at "ds") => `(tactic| first
  | ((with_reducible apply w_ss) <;> first | walk_at "d1" | skip)
  | ((with_reducible apply w_r) <;> first | walk_at "d1" | skip)
  | ((with_reducible apply w_sp) <;> first | walk_at "d1" | skip)
  | ((with_reducible apply w_so) <;> first | walk_at "d1" | skip)
  | (with_reducible apply w_sv)
  | (with_reducible apply w_sq))
local macro_rules | `(tactic| walk_at "dx") => `(tactic| simp only [put, jn, List.set_cons_zero, List.set_cons_succ])
def letters : List Nat := [97, 104, 107, 115, 122]
/-- a pattern that a law draws -/
structure Pt.Drawn (p : Pt) : Prop where
  s0 : 0 < p.s
  s1 : p.s ≤ 16
  g0 : 0 < p.g
  g1 : p.g ≤ 4
  sub : (p.ps.map Prod.fst).Sublist letters
  row : ∀ q ∈ p.ps, q.2.length = p.s ∧ isRow q.2
theorem Pt.Drawn.ok {p : Pt} (h : p.Drawn) : p.Ok := by
  have h1 := h.s1
  have h2 := h.g1
  refine ⟨h.s0, by omega, h.g0, by omega, ?_, h.row⟩
  have := h.sub.length_le
  simpa [letters] using this
theorem e_lawpat {n : Int} (h0 : 0 ≤ n) : ∃ p : Pt, p.Drawn ∧ n__law_pattern [.int n] = some (ptD p) := by
  obtain ⟨s, s0, s1, hs⟩ : ∃ s : Nat, 0 < s ∧ s ≤ 16 ∧ ixD (.tup [.int (1 + n / 8 % 16), .int 4, .int 8, .int (1 + n / 8 % 6)]) (.int (n % 4)) = some (.int (s : Nat)) := by
    have h4 : n % 4 = 0 ∨ n % 4 = 1 ∨ n % 4 = 2 ∨ n % 4 = 3 := by omega
    rcases h4 with e | e | e | e <;> rw [e]
    · exact ⟨(1 + n / 8 % 16).toNat, by omega, by omega, by rw [show (((1 + n / 8 % 16).toNat : Nat) : Int) = 1 + n / 8 % 16 by omega]; rfl⟩
    · exact ⟨4, by omega, by omega, rfl⟩
    · exact ⟨8, by omega, by omega, rfl⟩
    · exact ⟨(1 + n / 8 % 6).toNat, by omega, by omega, by rw [show (((1 + n / 8 % 6).toNat : Nat) : Int) = 1 + n / 8 % 6 by omega]; rfl⟩
  obtain ⟨g, hg, g0, g1⟩ : ∃ g : Nat, (g : Int) = 1 + n / 128 % 4 ∧ 0 < g ∧ g ≤ 4 := ⟨(1 + n / 128 % 4).toNat, by omega, by omega, by omega⟩
  have key := for_inv (g := gT (gCons' (gN 4) (gCons' (gN 5) gNil'))) (B := (fSeq (fSet 6 (f2 fdivD (fCall n__law_drawn (fCons (fV 0) (fCons (f2 addD (fC (.int 30)) (fV 4)) fNil))) (fC (.int 4))))
    (fIfS (fB (f2 ltD (f2 modD (fV 6) (fC (.int 5))) (f2 addD (fC (.int 1)) (f2 modD (f2 fdivD (fV 0) (fC (.int 512))) (fC (.int 4))))))
      (fSet 3 (f2 addD (fV 3) (fTup (fCons (fTup (fCons (fV 5) (fCons (fCall n__law_marks (fCons (f2 fdivD (fV 6) (fC (.int 8))) (fCons (fV 1) fNil))) fNil))) fNil))))
      fPass))) (fun q : Nat × Nat => D.wk [.int (q.1 : Nat), .str [q.2]])
    (fun p e => ∃ (ps : List (Nat × List Nat)) (x y z : Option D), e = [some (.int n), some (.int (s : Nat)), some (.int (g : Nat)), some (.tup (ps.map padD)), x, y, z] ∧ (ps.map Prod.fst).Sublist (p.map Prod.snd) ∧ (∀ q ∈ ps, q.2.length = s ∧ isRow q.2) ∧ ps.length ≤ p.length)
    [(0, 97), (1, 104), (2, 107), (3, 115), (4, 122)] [] [some (.int n), some (.int (s : Nat)), some (.int (g : Nat)), some (.tup []), none, none, none] ⟨[], none, none, none, rfl, List.Sublist.slnil, fun q hq => (by cases hq), Nat.le_refl _⟩ ?_
  · obtain ⟨e', k1, ps, x, y, z, rfl, a1, a2, a3⟩ := key
    refine ⟨⟨s, g, ps⟩, ⟨s0, s1, g0, g1, a1, a2⟩, sem_rt rfl ?_⟩
    show m__law_pattern [some (.int n), none, none, none, none, none, none] = _
    unfold m__law_pattern
    refine w_seq (w_set (v_2 (v_tup (by walk_at "dn") (by show 4 ≤ sizeLine; decide)) (by walk_at "dn") hs) rfl) ?_
    refine w_seq (w_set (d := .int (g : Nat)) (by rw [hg]; walk_at "dn") rfl) ?_
    refine w_seq (w_set (v_tup v_nil (by decide)) rfl) ?_
    refine w_seq (w_for (v_enum (xs := [.str [97], .str [104], .str [107], .str [115], .str [122]]) (v_tup (by walk_at "dn") (by show 5 ≤ sizeLine; decide)) rfl) k1) (ret_of ?_)
    exact v_tup (ds := [.int (s : Nat), .int (g : Nat), .tup (ps.map padD)]) (by walk_at "dn") (show 3 ≤ sizeLine by decide)
  · rintro p ⟨k, pad⟩ q e hp ⟨ps, x, y, z, rfl, a1, a2, a3⟩
    have hk : k ≤ 4 := by
      have : ((k, pad) : Nat × Nat) ∈ ([] : List (Nat × Nat)) ++ [(0, 97), (1, 104), (2, 107), (3, 115), (4, 122)] := by rw [hp]; simp
      simp at this
      omega
    have hpl : p.length ≤ 5 := by
      have := congrArg List.length hp
      simp at this
      omega
    obtain ⟨d, d0, d1, ed⟩ := drawn_ok n (30 + (k : Int)) (by omega)
    obtain ⟨row, er, lr, rr⟩ := e_marks (d / 4 / 8) (s := s) (by omega)
    by_cases hc : d / 4 % 5 < 1 + n / 512 % 4
    · refine ⟨[some (.int n), some (.int (s : Nat)), some (.int (g : Nat)), some (.tup (ps.map padD)), some (.int (k : Nat)), some (.str [pad]), z], [some (.int n), some (.int (s : Nat)), some (.int (g : Nat)), some (.tup ((ps ++ [(pad, row)]).map padD)), some (.int (k : Nat)), some (.str [pad]), some (.int (d / 4))], rfl, ?_, ps ++ [(pad, row)], _, _, _, rfl, ?_, ?_, ?_⟩
      · refine w_seq (w_set (v_2 (v_call (by walk_at "dn") ed) v_c (fdiv_i (by omega))) rfl) (w_ift (v_b (v_2 (by walk_at "dn") (by walk_at "dn") ?_)) (w_set (v_2 (by walk_at "dn") (v_tup (ds := [padD (pad, row)]) (v_cons (v_tup (ds := [.str [pad], .str row]) (v_cons (by walk_at "dn") (v_cons (v_call (by walk_at "dn") er) v_nil)) (show 2 ≤ sizeLine by decide)) v_nil) (show 1 ≤ sizeLine by decide)) (add_t ?_)) ?_))
        · rw [lt_i, decide_eq_true hc]
        · rw [List.length_map]
          show ps.length + 1 ≤ 1000000
          omega
        · rw [List.map_append]
          rfl
      · rw [List.map_append, List.map_append]
        exact a1.append (List.Sublist.refl _)
      · intro q hq
        rcases List.mem_append.mp hq with h | h
        · exact a2 q h
        · rw [List.mem_singleton.mp h]
          exact ⟨lr, rr⟩
      · rw [List.length_append, List.length_append]
        show ps.length + 1 ≤ p.length + 1
        omega
    · refine ⟨[some (.int n), some (.int (s : Nat)), some (.int (g : Nat)), some (.tup (ps.map padD)), some (.int (k : Nat)), some (.str [pad]), z], [some (.int n), some (.int (s : Nat)), some (.int (g : Nat)), some (.tup (ps.map padD)), some (.int (k : Nat)), some (.str [pad]), some (.int (d / 4))], rfl, ?_, ps, _, _, _, rfl, ?_, a2, ?_⟩
      · refine w_seq (w_set (v_2 (v_call (by walk_at "dn") ed) v_c (fdiv_i (by omega))) rfl) (w_iff (v_b (v_2 (by walk_at "dn") (by walk_at "dn") ?_)) w_pass)
        rw [lt_i, decide_eq_false hc]
      · rw [List.map_append]
        exact a1.trans (List.sublist_append_left _ _)
      · rw [List.length_append]
        omega
end Dn
set_option Elab.async false
set_option linter.all false
set_option maxRecDepth 100000
/-! Times of steps; the law's own fractions. -/
namespace Dn
open PySem L2
local macro_rules | `(tactic| walk_at "dg") => `(tactic| first
  | with_reducible exact add_i _ _ | with_reducible exact sub_i _ _ | ((with_reducible refine mul_i ?_); omega) | ((with_reducible refine fdiv_i ?_); omega) | ((with_reducible refine mod_i ?_); omega) | with_reducible exact neg_i _
  | with_reducible exact lt_i _ _ | with_reducible exact le_i _ _ | with_reducible exact gt_i _ _ | with_reducible exact ge_i _ _ | with_reducible exact eq_i _ _ | with_reducible exact ne_i _ _ | with_reducible exact eq_s _ _ | with_reducible exact ne_s _ _
  | ((with_reducible refine add_s ?_); omega) | ((with_reducible refine add_t ?_); omega) | ((with_reducible refine add_l ?_); omega) | ((with_reducible refine mul_s ?_); omega) | ((with_reducible refine mul_l ?_); omega)
  | ((with_reducible refine len_s ?_); omega) | with_reducible exact len_t _ | with_reducible exact len_l _ | with_reducible exact len_c _ | with_reducible exact int_b _ | with_reducible exact int_i _ | with_reducible exact abs_i _
  | ((with_reducible refine sl_s ?_); omega) | with_reducible exact sl_t _ _ _ | with_reducible exact sl_l _ _ _ | ((with_reducible apply ix_t); (· omega); (· rfl)) | ((with_reducible apply ix_l); (· omega); (· rfl)) | with_reducible assumption)
local macro_rules | `(tactic| walk_at "dc") => `(tactic| with_reducible assumption)
local macro_rules | `(tactic| walk_at "dn") => `(tactic| first
  | with_reducible exact v_c | with_reducible exact v_nil | with_reducible exact v_no
  | ((with_reducible apply v_var); (· rfl); (· rfl))
  | ((with_reducible apply v_2); (· walk_at "dn"); (· walk_at "dn"); (· walk_at "dg"))
  | ((with_reducible apply v_1); (· walk_at "dn"); (· walk_at "dg"))
  | ((with_reducible apply v_cons); (· walk_at "dn"); (· walk_at "dn"))
  | ((with_reducible apply v_blt); (· walk_at "dn"); (· walk_at "dg"))
  | ((with_reducible apply v_call); (· walk_at "dn"); (· walk_at "dc"))
  | ((with_reducible apply v_tup); (· walk_at "dn"); (· first | decide | (simp only [List.length_cons, List.length_nil]; decide)))
  | ((with_reducible apply v_lst); (· walk_at "dn"); (· first | decide | (simp only [List.length_cons, List.length_nil]; decide)))
  | ((with_reducible apply v_po); (· walk_at "dn"))
  | ((with_reducible apply v_sl); (· walk_at "dn"); (· walk_at "dn"); (· walk_at "dn"); (· walk_at "dg"))
  | ((with_reducible apply v_m1); (· walk_at "dn"); (· walk_at "dn"); (· walk_at "dg"))
  | ((with_reducible apply v_b); (· walk_at "dn"))
  | ((with_reducible apply v_not); (· walk_at "dn"))
  | ((with_reducible apply v_notV); (· walk_at "dn"))
  | ((with_reducible apply v_rng1); (· walk_at "dn"); (· omega))
  | ((with_reducible apply v_rng2); (· walk_at "dn"); (· omega))
  | ((with_reducible apply v_it); (· walk_at "dn"))
  | ((with_reducible apply v_itl); (· walk_at "dn"))
  | ((with_reducible apply v_its); (· walk_at "dn"))
  | with_reducible assumption)
local macro_rules | `(tactic| walk_at "dt") => `(tactic| first
  | with_reducible exact v_c | with_reducible exact v_nil | with_reducible exact v_no
  | ((with_reducible apply v_var); (· rfl); (· rfl))
  | ((with_reducible apply v_2) <;> walk_at "dt")
  | ((with_reducible apply v_1) <;> walk_at "dt")
  | ((with_reducible apply v_cons) <;> walk_at "dt")
  | ((with_reducible apply v_blt) <;> walk_at "dt")
  | ((with_reducible apply v_call) <;> walk_at "dt")
  | ((with_reducible apply v_tup) <;> walk_at "dt")
  | ((with_reducible apply v_lst) <;> walk_at "dt")
  | ((with_reducible apply v_po) <;> walk_at "dt")
  | ((with_reducible apply v_sl) <;> walk_at "dt")
  | ((with_reducible apply v_m1) <;> walk_at "dt")
  | ((with_reducible apply v_b) <;> walk_at "dt")
  | ((with_reducible apply v_notV) <;> walk_at "dt")
  | ((with_reducible apply v_not) <;> walk_at "dt")
  | ((with_reducible apply v_rng1) <;> first | omega | walk_at "dt")
  | ((with_reducible apply v_rng2) <;> first | omega | walk_at "dt")
  | walk_at "dg"
  | (show List.length _ ≤ sizeLine; first | decide | (simp only [List.length_cons, List.length_nil]; decide))
  | skip)
local macro_rules | `(tactic| walk_at "ds") => `(tactic| first
  | ((with_reducible apply w_ss) <;> first | walk_at "d1" | skip)
  | ((with_reducible apply w_r) <;> first | walk_at "d1" | skip)
  | ((with_reducible apply w_sp) <;> first | walk_at "d1" | skip)
  | ((with_reducible apply w_so) <;> first | walk_at "d1" | skip)
  | (with_reducible apply w_sv)
  | (with_reducible apply w_sq))
local macro_rules | `(tactic| walk_at "dx") => `(tactic| simp only [put, jn, List.set_cons_zero, List.set_cons_succ])
theorem div_loop4 (x y : Option D) : ∀ (f a b : Nat) (c : Nat), whileF (fB (f2 neD (fV 1) (fC (.int 0)))) (fPar 0 1 (fCons (fV 1) (fCons (f2 modD (fV 0) (fV 1)) fNil))) f [some (.int (a : Nat)), some (.int (b : Nat))] = some (.nx [some (.int (c : Nat)), some (.int 0)]) →
    whileF (fB (f2 neD (fV 3) (fC (.int 0)))) (fPar 2 3 (fCons (fV 3) (fCons (f2 modD (fV 2) (fV 3)) fNil))) f [x, y, some (.int (a : Nat)), some (.int (b : Nat))] = some (.nx [x, y, some (.int (c : Nat)), some (.int 0)])
  | 0, a, b, c, h => by cases h
  | f + 1, a, b, c, h => by
    rw [whileF] at h ⊢
    by_cases hb : b = 0
    · subst hb
      have c1 : fB (f2 neD (fV 1) (fC (.int 0))) [some (.int (a : Nat)), some (.int ((0 : Nat) : Int))] = some false := v_b (v_2 (by walk_at "dn") v_c rfl)
      have c2 : fB (f2 neD (fV 3) (fC (.int 0))) [x, y, some (.int (a : Nat)), some (.int ((0 : Nat) : Int))] = some false := v_b (v_2 (by walk_at "dn") v_c rfl)
      rw [c1] at h
      rw [c2]
      simp only [Option.bind_some, Bool.false_eq_true, if_false, Option.some.injEq, Fl.nx.injEq, List.cons.injEq] at h ⊢
      simp [h.1]
    · have c1 : fB (f2 neD (fV 1) (fC (.int 0))) [some (.int (a : Nat)), some (.int (b : Nat))] = some true := by
        refine v_b (v_2 (by walk_at "dn") v_c ?_)
        rw [ne_i, decide_eq_false (by omega)]
        rfl
      have c2 : fB (f2 neD (fV 3) (fC (.int 0))) [x, y, some (.int (a : Nat)), some (.int (b : Nat))] = some true := by
        refine v_b (v_2 (by walk_at "dn") v_c ?_)
        rw [ne_i, decide_eq_false (by omega)]
        rfl
      have hm : modD (.int (a : Nat)) (.int (b : Nat)) = some (.int ((a % b : Nat) : Int)) := by
        rw [mod_i (by omega)]
        simp
      have s1 : fPar 0 1 (fCons (fV 1) (fCons (f2 modD (fV 0) (fV 1)) fNil)) [some (.int (a : Nat)), some (.int (b : Nat))] = some (.nx [some (.int (b : Nat)), some (.int ((a % b : Nat) : Int))]) :=
        w_par (v_cons (by walk_at "dn") (v_cons (v_2 (by walk_at "dn") (by walk_at "dn") hm) v_nil)) rfl
      have s2 : fPar 2 3 (fCons (fV 3) (fCons (f2 modD (fV 2) (fV 3)) fNil)) [x, y, some (.int (a : Nat)), some (.int (b : Nat))] = some (.nx [x, y, some (.int (b : Nat)), some (.int ((a % b : Nat) : Int))]) :=
        w_par (v_cons (by walk_at "dn") (v_cons (v_2 (by walk_at "dn") (by walk_at "dn") hm) v_nil)) rfl
      rw [c1] at h
      rw [c2]
      simp only [Option.bind_some, if_true, s1, s2] at h ⊢
      exact div_loop4 x y f b (a % b) c h
theorem e_lfrac {u : Int} {l : Nat} (h0 : 0 < l) (h : l < 1073741824) : n__law_frac [.int u, .int (l : Nat)] = some (frD u l) := by
  refine sem_rt rfl ?_
  show m__law_frac [some (.int u), some (.int (l : Nat)), none, none] = _
  unfold m__law_frac
  have ha : absG [.int u] = some (.int ((u.natAbs : Nat) : Int)) := by
    rw [abs_i]
    congr 2
    by_cases q : u < 0
    · rw [if_pos q]; omega
    · rw [if_neg q]; omega
  have hg : 0 < Nat.gcd u.natAbs l := Nat.gcd_pos_of_pos_right _ h0
  have hg2 : Nat.gcd u.natAbs l ≤ l := Nat.le_of_dvd h0 (Nat.gcd_dvd_right _ _)
  refine w_sp (v_cons (v_blt (by walk_at "dn") ha) (by walk_at "dn")) ?_
  refine w_seq (e := [some (.int u), some (.int (l : Nat)), some (.int ((Nat.gcd u.natAbs l : Nat) : Int)), some (.int 0)]) ?_ ?_
  · unfold fWhile
    refine div_loop4 _ _ _ u.natAbs l _ ?_
    rw [div_fuel 30 l _ _ h (Nat.le_trans (by decide) (fuelN_ge _)), div_loop l _ _ (by omega)]
  refine ret_of ?_
  unfold frD
  generalize Nat.gcd u.natAbs l = g at *
  rw [show ((l / g : Nat) : Int) = (l : Int) / (g : Int) by simp]
  refine v_tup (by walk_at "dn") (by show 2 ≤ sizeLine; decide)
theorem e_ladd_raw {a c : Int} {b d : Nat} (hb : 0 < b) (hd : 0 < d) (h : b * d < 1073741824) : n__law_add [pr a b, pr c d] = some (frD (a * d + c * b) (b * d)) := by
  have hb' : b ≤ b * d := Nat.le_mul_of_pos_right _ hd
  have hd' : d ≤ b * d := Nat.le_mul_of_pos_left _ hb
  refine sem_rt rfl ?_
  show m__law_add [some (pr a b), some (pr c d)] = _
  unfold m__law_add
  walk_at "ds" <;> walk_at "dt"
  rw [← Int.natCast_mul]
  exact e_lfrac (Nat.mul_pos hb hd) h
theorem e_ladd {u v : Int} {l m : Nat} (hl : 0 < l) (hm : 0 < m) (h : l * m < 1073741824) : n__law_add [frD u l, frD v m] = some (frD (u * m + v * l) (l * m)) := by
  obtain ⟨a, b, e1, b0, b1, e2, e3, _⟩ := frD_parts u hl
  obtain ⟨c, d, e4, d0, d1, e5, e6, _⟩ := frD_parts v hm
  have hbd : b * d ≤ l * m := Nat.mul_le_mul b1 d1
  rw [e1, e4, e_ladd_raw b0 d0 (by omega)]
  congr 1
  refine frD_of (Nat.mul_pos b0 d0) (Nat.mul_pos hl hm) ?_
  rw [Int.natCast_mul, Int.natCast_mul]
  grind
theorem e_ladd1 {u v : Int} {l : Nat} (hl : 0 < l) (h : l * l < 1073741824) : n__law_add [frD u l, frD v l] = some (frD (u + v) l) := by
  rw [e_ladd hl hl h]
  congr 1
  refine frD_of (Nat.mul_pos hl hl) hl ?_
  rw [Int.natCast_mul]
  grind
theorem e_lunder {u v : Int} {l m : Nat} (hl : 0 < l) (hm : 0 < m) (hl2 : l < 1073741824) (hm2 : m < 1073741824) : n__law_under [frD u l, frD v m] = some (.bl (decide (u * m < v * l))) := by
  obtain ⟨a, b, e1, b0, b1, e2, e3, _⟩ := frD_parts u hl
  obtain ⟨c, d, e4, d0, d1, e5, e6, _⟩ := frD_parts v hm
  rw [e1, e4]
  refine sem_rt rfl ?_
  show m__law_under [some (pr a b), some (pr c d)] = _
  unfold m__law_under
  walk_at "ds" <;> walk_at "dt"
  rw [lt_i]
  congr 2
  refine decide_eq_decide.mpr ?_
  have p1 : (0 : Int) < (l : Int) * m := Int.mul_pos (by omega) (by omega)
  have p2 : (0 : Int) < (b : Int) * d := Int.mul_pos (by omega) (by omega)
  have x1 : (a * d) * ((l : Int) * m) = (u * m) * (b * d) := by grind
  have x2 : (c * b) * ((l : Int) * m) = (v * l) * (b * d) := by grind
  rw [← Int.mul_lt_mul_right p1, x1, x2, Int.mul_lt_mul_right p2]
theorem e_lunder1 {u v : Int} {l : Nat} (hl : 0 < l) (hl2 : l < 1073741824) : n__law_under [frD u l, frD v l] = some (.bl (decide (u < v))) := by
  rw [e_lunder hl hl hl2 hl2]
  congr 2
  refine decide_eq_decide.mpr ?_
  exact Int.mul_lt_mul_right (by omega)
/-- a pair without a common divisor is the fraction of its parts -/
theorem pr_fr {a b : Nat} (h : Nat.gcd a b = 1) : pr (a : Nat) b = frD (a : Nat) b := by
  unfold frD
  rw [Int.natAbs_natCast, h]
  simp
/-! the time of a step, in parts of 1 / (sb * grid) -/
def stT (sa sb s k : Nat) : Nat := (k / s * s + (k % s - k % s % 2)) * sb + (if k % s % 2 = 1 then 2 * sa else 0)
theorem fdiv_n {a b : Nat} (h : 0 < b) (h2 : b < 1073741824) : fdivD (.int (a : Nat)) (.int (b : Nat)) = some (.int ((a / b : Nat) : Int)) := by
  rw [fdiv_i (by omega)]
  simp
theorem mod_n {a b : Nat} (h : 0 < b) : modD (.int (a : Nat)) (.int (b : Nat)) = some (.int ((a % b : Nat) : Int)) := by
  rw [mod_i (by omega)]
  simp
theorem mod_2 {a : Nat} : modD (.int (a : Nat)) (.int 2) = some (.int ((a % 2 : Nat) : Int)) := mod_n (b := 2) (by decide)
theorem sub_n {a b : Nat} (h : b ≤ a) : subD (.int (a : Nat)) (.int (b : Nat)) = some (.int ((a - b : Nat) : Int)) := by
  rw [sub_i]
  congr 2
  omega
theorem add_n {a b : Nat} : addD (.int (a : Nat)) (.int (b : Nat)) = some (.int ((a + b : Nat) : Int)) := by
  rw [add_i]
  congr 2
theorem mul_n {a b : Nat} (h : a < 2 ^ 64 ∨ b < 2 ^ 64) : mulD (.int (a : Nat)) (.int (b : Nat)) = some (.int ((a * b : Nat) : Int)) := by
  rw [mul_i (by omega)]
  simp
theorem e_step_time {sa sb k : Nat} {p : Pt} (hb : 0 < sb) (hs : 0 < p.s) (hs2 : p.s ≤ 1000) (hg : 0 < p.g) (h : sb * p.g * (sb * p.g) < 1073741824) (hk : k < 1000000) : n_step_time [pr (sa : Nat) sb, ptD p, .int (k : Nat)] = some (frD (stT sa sb p.s k : Nat) (sb * p.g)) := by
  have g0 : p.g * (sb * p.g) ≤ sb * p.g * (sb * p.g) := Nat.mul_le_mul_right _ (Nat.le_mul_of_pos_left _ hb)
  have g1 : p.g * p.g ≤ p.g * (sb * p.g) := Nat.mul_le_mul_left _ (Nat.le_mul_of_pos_left _ hb)
  have g2 : sb * p.g ≤ p.g * (sb * p.g) := Nat.le_mul_of_pos_left _ hg
  have g3 : p.g ≤ p.g * p.g := Nat.le_mul_of_pos_left _ hg
  have g4 : sb ≤ sb * p.g := Nat.le_mul_of_pos_right _ hg
  have hbg : 0 < sb * p.g := Nat.mul_pos hb hg
  have hq2 : k / p.s ≤ k := Nat.div_le_self _ _
  have hrl : k % p.s % 2 ≤ k % p.s := Nat.mod_le _ _
  refine sem_rt rfl ?_
  show m_step_time [some (pr (sa : Nat) sb), some (ptD p), some (.int (k : Nat)), none, none, none] = _
  unfold m_step_time
  refine w_sg (v_sl (by walk_at "dn") v_no (v_po v_c) (cut2 p)) rfl ?_
  refine w_ss (v_call (v_cons (v_2 (by walk_at "dn") (by walk_at "dn") (fdiv_n hs (by omega))) (v_cons (v_call (by walk_at "dn") (e_beats (s := p.s) (g := p.g) hg (by omega))) v_nil)) (e_times hg (by omega) ⟨Int.lt_of_lt_of_le (by decide) (Int.natCast_nonneg _), by omega⟩)) ?_
  refine w_ss (v_2 (by walk_at "dn") (by walk_at "dn") (mod_n hs)) ?_
  refine w_ss (v_call (v_cons (by walk_at "dn") (v_cons (v_call (v_cons (v_2 (by walk_at "dn") (v_2 (by walk_at "dn") v_c mod_2) (sub_n hrl)) (by walk_at "dn")) (e_fraction hg (by omega))) v_nil)) (e_add1 hg (by omega))) ?_
  have eT : frD (((k / p.s : Nat) : Int) * (p.s : Nat) + ((k % p.s - k % p.s % 2 : Nat) : Int)) p.g = frD (((k / p.s * p.s + (k % p.s - k % p.s % 2)) * sb : Nat) : Int) (sb * p.g) := by
    refine frD_of hg hbg ?_
    simp only [Int.natCast_mul, Int.natCast_add]
    grind
  rw [eT]
  by_cases ho : k % p.s % 2 = 1
  · refine w_st (v_b (v_2 (v_2 (by walk_at "dn") v_c mod_2) v_c (by rw [ho]; rfl))) ?_
    refine w_ss (v_call (v_cons (by walk_at "dn") (v_cons (v_call (v_cons (v_2 v_c (v_2 (by walk_at "dn") v_c rfl) (mul_n (a := 2) (.inl (by decide)))) (v_cons (v_2 (v_2 (by walk_at "dn") v_c rfl) (by walk_at "dn") (mul_n (.inl (by omega)))) v_nil)) (e_fraction hbg (by omega))) v_nil)) (e_add1 hbg ?_)) ?_
    · exact h
    refine ret_of ?_
    unfold stT
    rw [if_pos ho]
    walk_at "dn"
  · refine w_sf (v_b (v_2 (v_2 (by walk_at "dn") v_c mod_2) v_c ?_)) ?_
    · rw [show (1 : Int) = ((1 : Nat) : Int) from rfl, eq_i, decide_eq_false (by omega)]
    refine ret_of ?_
    unfold stT
    rw [if_neg ho, Nat.add_zero]
    walk_at "dn"
end Dn
set_option Elab.async false
set_option linter.all false
set_option maxRecDepth 100000
/-! Part L: dicts of texts that are not written. -/
namespace Dn
open PySem L2 PySem.Spec PyProof.Rows

def dixD : D → D → Option D
  | .dct kvs, .str k => (kvs.find? fun p => decide (p.1 = k)).map (·.2)
  | _, _ => none
def pairOf : D → Option (List Nat × D)
  | .tup [.str k, v] => some (k, v)
  | _ => none
def pairsOf : List D → Option (List (List Nat × D))
  | [] => some []
  | d :: ds => (pairOf d).bind fun p => (pairsOf ds).bind fun r => some (p :: r)
def dictOf (ds : List D) : Option D := (pairsOf ds).bind fun kvs => if (kvs.map (·.1)).Nodup then some (.dct kvs) else none
def dictG : List D → Option D
  | [.tup ds] => dictOf ds
  | [.lst ds] => dictOf ds
  | _ => none
section
variable {X : Cx} {a b e : Expr} {pos : Pos} {fa fb : En → Option D}
theorem e_dix (hu : X.A.units + 65 < cLine) (ha : PE X a (tD X.K fa)) (hb : PE X b (tD X.K fb)) (hs : NoSl b := by exact fun _ _ => rfl) : PE X (.Subscript a b pos) (tD X.K (f2 dixD fa fb)) :=
  PE_weak (pe_dget (by omega) ha hb hs) fun σ H Q h => by
    obtain ⟨H0, env, Hb, d, r, sm, ef, q⟩ := h
    obtain ⟨da, db, ea, eb, eg⟩ := bind2 ef
    refine ⟨H0, env, Hb, da, r, sm, ea, fun x Hb1 H1 s1 ix => ⟨H0, env, Hb1, db, r.step s1, s1.c, eb, fun y Hb2 H2 s2 iy => ?_⟩⟩
    unfold dixD at eg
    split at eg
    · have ix := ix.mono s2.b
      simp only [Is] at ix iy
      obtain ⟨p, ks, rfl, ⟨o, hd⟩, hk⟩ := ix
      subst iy
      obtain ⟨v, hv, iv⟩ := (isK_val _ hk).1 d eg
      exact ⟨p, v, rfl, .inl ⟨ks, Sum.inr (S _), .inr ⟨o, s2.c _ _ hd⟩, rfl, hv.symm⟩, q v Hb2 H2 (s1.trans s2) iv⟩
    · cases eg
theorem pairs_is {K : PySem.W.Frag} {H : Hp} : ∀ {ds : List D} {kvs : List (List Nat × D)} {vs : List V}, pairsOf ds = some kvs → IsL K H ds vs →
    ∃ (ts : List Addr) (ks : List (Key × V)), vs = ts.map V.ref ∧ Paired (fun p kv => SqT K H p [kV kv.1, kv.2]) ts ks ∧ IsK K H kvs ks
  | [], kvs, vs, e, h => by
    cases e
    simp only [IsL] at h
    subst h
    exact ⟨[], [], rfl, .nil, by simp only [IsK]⟩
  | d :: ds, kvs, vs, e, h => by
    obtain ⟨p, e1, e⟩ := bind1 e
    obtain ⟨r, e2, e⟩ := bind1 e
    cases e
    simp only [IsL] at h
    obtain ⟨v, t, rfl, i1, i2⟩ := h
    obtain ⟨ts, ks, rfl, i3, i4⟩ := pairs_is e2 i2
    unfold pairOf at e1
    split at e1
    · cases e1
      simp only [Is, IsL] at i1
      obtain ⟨a, us, rfl, hq, u1, r1, rfl, rfl, u2, r2, rfl, j2, rfl⟩ := i1
      exact ⟨a :: ts, (Sum.inr (S _), u2) :: ks, rfl, .cons hq.sq i3, by simp only [IsK]; exact ⟨u2, ks, rfl, j2, i4⟩⟩
    · cases e1
theorem merge_nodup : ∀ (more acc : List (Key × V)), ((acc ++ more).map (·.1)).Nodup → mergeK acc more = acc ++ more
  | [], acc, _ => by simp [mergeK]
  | (k, v) :: more, acc, h => by
    have hn : valV acc k = none := by
      cases q : valV acc k with
      | none => rfl
      | some x =>
        exfalso
        have : k ∈ acc.map (·.1) := valV_in q
        rw [List.map_append, List.map_cons, List.nodup_append] at h
        exact h.2.2 k this k List.mem_cons_self rfl
    show mergeK (putK acc k v) more = _
    rw [putK_new v hn, merge_nodup more (acc ++ [(k, v)]) (by simpa using h)]
    simp
theorem isK_nodup {K : PySem.W.Frag} {H : Hp} {kvs : List (List Nat × D)} {ks : List (Key × V)} (h : IsK K H kvs ks) (hn : (kvs.map (·.1)).Nodup) : (ks.map (·.1)).Nodup := by
  rw [isK_keys h, show (kvs.map fun p => (Sum.inr (S p.1) : Key)) = (kvs.map (·.1)).map fun l => Sum.inr (S l) by rw [List.map_map]; rfl]
  exact List.Pairwise.map _ (fun a b hab z => hab (by
    injection z with z
    exact SX.S_inj z)) hn
/-- a tuple as it lies -/
theorem plain_of {pins : List (Addr × Obj)} {s : Shared} {σ : L2.St} {H : Hp} (I : Inv X pins σ H s) {p : Addr} {vs : List V} (h : SqP X.K H p vs) : ∃ its : List Value, Vals vs its ∧ PlainSeq "tuple" s.heap p its.toArray ∧ vs.length ≤ sizeLine := by
  rcases h with ⟨o, hd, h⟩ | ⟨o, its, n, hk, hd, hc, hs, hz, r⟩
  · obtain ⟨e, z, its, r, o', e', hc, n, hs⟩ := I.hok _ _ h
    rw [e] at e'
    cases e'
    exact ⟨its, r, ⟨o, n, e, hc, hd, hs⟩, z⟩
  · refine ⟨its.toList, r, ⟨o, n, I.kIn p o hk, hc, hd, by simpa using hs⟩, ?_⟩
    rw [r.length]
    simpa using hz
open Classical in
theorem c_dict (hc : X.calm = true) : CallR X (.type "dict") (rDA X.K dictG) := by
  intro pins s σ H xs us Q I r h
  obtain ⟨Hb, ds, d, sm, il, eg, q⟩ := h
  unfold dictG at eg
  split at eg
  · obtain ⟨v, rfl, iv⟩ := isl1 il
    simp only [Is] at iv
    obtain ⟨p, vs, rfl, hx, lx⟩ := iv
    obtain ⟨kvs, ek, eg⟩ := bind1 eg
    obtain ⟨hn, rfl⟩ := iteS eg
    obtain ⟨u, rfl, ru⟩ := vals1 r
    cases ru
    obtain ⟨ts, ks, rfl, hp, ik⟩ := pairs_is ek lx
    obtain ⟨its, rv, pl, hz⟩ := plain_of I (hx.mono sm)
    have ei := refs_at rv
    subst ei
    rw [List.length_map] at hz
    have hp' : Paired (fun p kv => SqT X.K H p [kV kv.1, kv.2]) ts ks := Paired.mapP hp fun _ _ z => sq_mono sm z
    obtain ⟨prs, rel, hl, hpr⟩ := pairs_of I hp'
    have hps : ∃ ps : List (Value × Value), ps.length = prs.length ∧ (∀ (j : Nat) (k v : Value), ps[j]? = some (k, v) → ∃ (q : Key × Value) (b : Addr), prs[j]? = some q ∧ q.2 = v ∧ ts[j]? = some b ∧ IsTup s.heap b #[k, v] ∧ keyIs q.1 k = true) := by
      refine ⟨(List.range prs.length).map fun j => match prs[j]? with
        | some q => if h : ∃ b u, ts[j]? = some b ∧ IsTup s.heap b #[u, q.2] ∧ keyIs q.1 u = true then (Classical.choose (Classical.choose_spec h), q.2) else (.none, .none)
        | none => (.none, .none), by simp, fun j k v e => ?_⟩
      rw [List.getElem?_map] at e
      obtain ⟨j', e1, e2⟩ := Option.map_eq_some_iff.mp e
      obtain ⟨hj, e3⟩ := List.getElem?_eq_some_iff.mp e1
      rw [List.getElem_range] at e3
      subst e3
      rw [List.length_range] at hj
      have hq : prs[j]? = some prs[j] := List.getElem?_eq_getElem hj
      simp only [hq] at e2
      have hex := hpr j prs[j] hq
      rw [dif_pos hex] at e2
      have hsp := Classical.choose_spec (Classical.choose_spec hex)
      cases e2
      exact ⟨prs[j], _, hq, rfl, hsp.1, hsp.2.1, hsp.2.2⟩
    obtain ⟨ps, hpl, hpp⟩ := hps
    have arg := PairArg.tuple (prog := X.prog) (w := X.w) p (ts.map Value.ref).toArray (fun j => ts.getD j 0) ps
    refine PySem.call_dict_pairs (knd := mixKind X.prog X.w) (kvs := prs) arg (I.ok.hd hc) ⟨pl, ?_, fun j k v e => ?_⟩ ⟨hpl.symm, fun i key v e => ?_⟩ (by rw [hpl, hl]; exact hz) fun h' tk hd' hk => ?_
    · simp [hpl, hl]
    · obtain ⟨q', b, e1, e2, e3, e4, e5⟩ := hpp j k v e
      have : ts.getD j 0 = b := by rw [List.getD_eq_getElem?_getD, e3]; rfl
      refine ⟨by simp [e3, this], ?_⟩
      show PairAt s.heap (ts.getD j 0) k v
      rw [this]
      exact .inl e4
    · obtain ⟨q', b, e1, e2, e3, e4, e5⟩ := hpp i key v e
      exact ⟨q'.1, by rw [e1, ← e2], e5⟩
    · have hm : mergeK [] ks = ks := by
        have := merge_nodup ks [] (by simpa using isK_nodup ik hn)
        simpa using this
      have rel2 : KV ks (merged [] prs) := by
        have := KV.merge rel (show KV ([] : List (Key × V)) [] from .nil)
        rw [hm] at this
        exact this
      obtain ⟨o, es, ep, ho, hrest⟩ := id hd'
      have hlen : ks.length ≤ sizeLine := by
        rw [rel.length, hl]
        exact hz
      have hsm : (s.heap.objs.size == sysModules) = false := beq_eq_false_iff_ne.mpr (Nat.ne_of_gt I.big)
      have I2 := I.laid (o := .frz o (.dK ks)) (t' := tk) (fun b ob e => hk b ob (by simp) e) (Nat.le_refl _) (show ObjOk X.prog X.w _ _ _ (.frz o (.dK ks)) from ⟨ho, hlen, hsm, _, rel2, hd'⟩)
      have hf : H s.heap.objs.size = none := I.hok.fresh (Nat.le_refl _)
      refine ⟨.ref s.heap.objs.size, _, I2, rfl, q _ (upd Hb s.heap.objs.size (.frz o (.dK ks))) _ (Step.new sm hf) ?_⟩
      simp only [Is]
      exact ⟨_, ks, rfl, ⟨o, upd_same⟩, ik.mono (same_new (sm.free hf))⟩
  · obtain ⟨v, rfl, iv⟩ := isl1 il
    simp only [Is] at iv
    obtain ⟨p, vs, rfl, hx, lx⟩ := iv
    obtain ⟨kvs, ek, eg⟩ := bind1 eg
    obtain ⟨hn, rfl⟩ := iteS eg
    obtain ⟨ts, ks, rfl, hp, ik⟩ := pairs_is ek lx
    have hm : mergeK [] ks = ks := by
      have := merge_nodup ks [] (by simpa using isK_nodup ik hn)
      simpa using this
    refine thn (call_dictP hc pins s σ H _ us (fun z H' => ∃ c, z = .ref c ∧ H c = none ∧ H' = upd H c (.dK ks)) I r ⟨p, ts, ks, rfl, .inl (.inl (sm _ _ hx)), Paired.mapP hp fun _ _ z => sq_mono sm z, fun c hcn => ⟨c, rfl, hcn, by rw [hm]⟩⟩) fun u s1 hz => ?_
    obtain ⟨z, H', I1, rz, c, rfl, hcn, rfl⟩ := hz
    obtain ⟨o, I2⟩ := I1.lock (d := c) upd_same (by trivial)
    have e2 : upd (upd H c (.dK ks)) c (.frz o (.dK ks)) = upd H c (.frz o (.dK ks)) := by
      funext y
      by_cases hy : y = c
      · subst hy
        rw [upd_same, upd_same]
      · rw [upd_ne hy, upd_ne hy, upd_ne hy]
    rw [e2] at I2
    refine ⟨.ref c, _, I2, rz, q _ (upd Hb c (.frz o (.dK ks))) _ (Step.new sm hcn) ?_⟩
    simp only [Is]
    exact ⟨_, ks, rfl, ⟨o, upd_same⟩, ik.mono (same_new (sm.free hcn))⟩
  · cases eg
end
end Dn
set_option Elab.async false
set_option linter.all false
set_option maxRecDepth 100000
/-! Books and chains that a law draws. -/
namespace Dn
open PySem L2
local macro_rules | `(tactic| walk_at "dg") => `(tactic| first
  | with_reducible exact add_i _ _ | with_reducible exact sub_i _ _ | ((with_reducible refine mul_i ?_); omega) | ((with_reducible refine fdiv_i ?_); omega) | ((with_reducible refine mod_i ?_); omega) | with_reducible exact neg_i _
  | with_reducible exact lt_i _ _ | with_reducible exact le_i _ _ | with_reducible exact gt_i _ _ | with_reducible exact ge_i _ _ | with_reducible exact eq_i _ _ | with_reducible exact ne_i _ _ | with_reducible exact eq_s _ _ | with_reducible exact ne_s _ _
  | ((with_reducible refine add_s ?_); omega) | ((with_reducible refine add_t ?_); omega) | ((with_reducible refine add_l ?_); omega) | ((with_reducible refine mul_s ?_); omega) | ((with_reducible refine mul_l ?_); omega)
  | ((with_reducible refine len_s ?_); omega) | with_reducible exact len_t _ | with_reducible exact len_l _ | with_reducible exact len_c _ | with_reducible exact int_b _ | with_reducible exact int_i _ | with_reducible exact abs_i _
  | ((with_reducible refine sl_s ?_); omega) | with_reducible exact sl_t _ _ _ | with_reducible exact sl_l _ _ _ | ((with_reducible apply ix_t); (· omega); (· rfl)) | ((with_reducible apply ix_l); (· omega); (· rfl)) | with_reducible assumption)
local macro_rules | `(tactic| walk_at "dc") => `(tactic| with_reducible assumption)
local macro_rules | `(tactic| walk_at "dn") => `(tactic| first
  | with_reducible exact v_c | with_reducible exact v_nil | with_reducible exact v_no
  | ((with_reducible apply v_var); (· rfl); (· rfl))
  | ((with_reducible apply v_2); (· walk_at "dn"); (· walk_at "dn"); (· walk_at "dg"))
  | ((with_reducible apply v_1); (· walk_at "dn"); (· walk_at "dg"))
  | ((with_reducible apply v_cons); (· walk_at "dn"); (· walk_at "dn"))
  | ((with_reducible apply v_blt); (· walk_at "dn"); (· walk_at "dg"))
  | ((with_reducible apply v_call); (· walk_at "dn"); (· walk_at "dc"))
  | ((with_reducible apply v_tup); (· walk_at "dn"); (· first | decide | (simp only [List.length_cons, List.length_nil]; decide)))
  | ((with_reducible apply v_lst); (· walk_at "dn"); (· first | decide | (simp only [List.length_cons, List.length_nil]; decide)))
  | ((with_reducible apply v_po); (· walk_at "dn"))
  | ((with_reducible apply v_sl); (· walk_at "dn"); (· walk_at "dn"); (· walk_at "dn"); (· walk_at "dg"))
  | ((with_reducible apply v_m1); (· walk_at "dn"); (· walk_at "dn"); (· walk_at "dg"))
  | ((with_reducible apply v_b); (· walk_at "dn"))
  | ((with_reducible apply v_not); (· walk_at "dn"))
  | ((with_reducible apply v_notV); (· walk_at "dn"))
  | ((with_reducible apply v_rng1); (· walk_at "dn"); (· omega))
  | ((with_reducible apply v_rng2); (· walk_at "dn"); (· omega))
  | ((with_reducible apply v_it); (· walk_at "dn"))
  | ((with_reducible apply v_itl); (· walk_at "dn"))
  | ((with_reducible apply v_its); (· walk_at "dn"))
  | with_reducible assumption)
local macro_rules | `(tactic| walk_at "dt") => `(tactic| first
  | with_reducible exact v_c | with_reducible exact v_nil | with_reducible exact v_no
  | ((with_reducible apply v_var); (· rfl); (· rfl))
  | ((with_reducible apply v_2) <;> walk_at "dt")
  | ((with_reducible apply v_1) <;> walk_at "dt")
  | ((with_reducible apply v_cons) <;> walk_at "dt")
  | ((with_reducible apply v_blt) <;> walk_at "dt")
  | ((with_reducible apply v_call) <;> walk_at "dt")
  | ((with_reducible apply v_tup) <;> walk_at "dt")
  | ((with_reducible apply v_lst) <;> walk_at "dt")
  | ((with_reducible apply v_po) <;> walk_at "dt")
  | ((with_reducible apply v_sl) <;> walk_at "dt")
  | ((with_reducible apply v_m1) <;> walk_at "dt")
  | ((with_reducible apply v_b) <;> walk_at "dt")
  | ((with_reducible apply v_notV) <;> walk_at "dt")
  | ((with_reducible apply v_not) <;> walk_at "dt")
  | ((with_reducible apply v_rng1) <;> first | omega | walk_at "dt")
  | ((with_reducible apply v_rng2) <;> first | omega | walk_at "dt")
  | walk_at "dg"
  | (show List.length _ ≤ sizeLine; first | decide | (simp only [List.length_cons, List.length_nil]; decide))
  | skip)
local macro_rules | `(tactic| walk_at "ds") => `(tactic| first
  | ((with_reducible apply w_ss) <;> first | walk_at "d1" | skip)
  | ((with_reducible apply w_r) <;> first | walk_at "d1" | skip)
  | ((with_reducible apply w_sp) <;> first | walk_at "d1" | skip)
  | ((with_reducible apply w_so) <;> first | walk_at "d1" | skip)
  | (with_reducible apply w_sv)
  | (with_reducible apply w_sq))
local macro_rules | `(tactic| walk_at "dx") => `(tactic| simp only [put, jn, List.set_cons_zero, List.set_cons_succ])
noncomputable def m__law_book : En → Option Fl :=
  (fSeq (fSet 1 (f2 ixD (fTup (fCons (fTup (fCons (fC (.int 1)) (fCons (fC (.int 2)) fNil))) (fCons (fTup (fCons (fC (.int 3)) (fCons (fC (.int 5)) fNil))) (fCons (fTup (fCons (fC (.int 2)) (fCons (fC (.int 3)) fNil))) (fCons (fTup (fCons (fC (.int 3)) (fCons (fC (.int 4)) fNil))) (fCons (fTup (fCons (fC (.int 5)) (fCons (fC (.int 8)) fNil))) (fCons (fTup (fCons (fC (.int 7)) (fCons (fC (.int 12)) fNil))) fNil))))))) (f2 modD (fV 0) (fC (.int 6)))))
  (fSeq (fSet 2 (fLc (fEnum (fTup (fCons (fC (.str [97])) (fCons (fC (.str [98])) (fCons (fC (.str [98, 98])) (fCons (fC (.str [102, 105, 108, 108])) (fCons (fC (.str [113])) fNil))))))) (gT (gCons' (gN 4) (gCons' (gN 5) gNil'))) (fB (f2 eqD (f2 modD (f2 fdivD (fV 0) (f2 ixD (fTup (fCons (fC (.int 8)) (fCons (fC (.int 16)) (fCons (fC (.int 32)) (fCons (fC (.int 64)) (fCons (fC (.int 128)) fNil)))))) (fV 4))) (fC (.int 2))) (fC (.int 1)))) (fV 5) [4, 5]))
  (fSeq (fSet 3 (fTup fNil))
  (fSeq (fFor (fEnum (f2 addD (fV 2) (fLst (fCons (fC (.str [122])) fNil)))) (gT (gCons' (gN 4) (gCons' (gN 5) gNil')))
    (fSet 3 (f2 addD (fV 3) (fTup (fCons (fTup (fCons (fV 5) (fCons (fCall n__law_pattern (fCons (f2 fdivD (fCall n__law_drawn (fCons (fV 0) (fCons (f2 addD (fC (.int 60)) (fV 4)) fNil))) (fC (.int 4))) fNil)) fNil))) fNil)))))
  (fRet (fTup (fCons (fV 1) (fCons (fV 3) fNil))))))))
noncomputable def n__law_book : List D → Option D := semOf 6 1 m__law_book
noncomputable def m__law_chain : En → Option Fl :=
  (fSeq (fSet 2 (fTup fNil))
  (fSeq (fFor (fRng1 (fCons (f2 addD (fC (.int 1)) (f2 modD (fV 1) (fC (.int 4)))) fNil)) (gN 3)
    (fSeq (fSet 4 (f2 fdivD (fCall n__law_drawn (fCons (fV 1) (fCons (f2 addD (fC (.int 80)) (fV 3)) fNil))) (fC (.int 4))))
    (fSeq (fSet 5 (f2 ixD (f2 ixD (f2 ixD (fV 0) (fC (.int 1))) (f2 modD (fV 4) (fBlt lenG (fCons (f2 ixD (fV 0) (fC (.int 1))) fNil)))) (fC (.int 0))))
    (fSet 2 (f2 addD (fV 2) (fTup (fCons (fTup (fCons (fV 5) (fCons (f2 addD (fC (.int 1)) (f2 modD (f2 fdivD (fV 4) (fC (.int 8))) (f2 ixD (fTup (fCons (fC (.int 1)) (fCons (fC (.int 3)) (fCons (fC (.int 9)) fNil)))) (f2 modD (f2 fdivD (fV 4) (fC (.int 256))) (fC (.int 3)))))) fNil))) fNil)))))))
  (fRet (fV 2))))
noncomputable def n__law_chain : List D → Option D := semOf 6 2 m__law_chain
structure Swg (sa sb : Nat) : Prop where
  b0 : 0 < sb
  b1 : sb ≤ 12
  lo : sb ≤ 2 * sa
  hi : 4 * sa ≤ 3 * sb
  co : Nat.gcd sa sb = 1
structure Bk where
  sa : Nat
  sb : Nat
  ps : List (List Nat × Pt)
def nmD (q : List Nat × Pt) : D := .tup [.str q.1, ptD q.2]
def bookD (b : Bk) : D := .tup [pr (b.sa : Nat) b.sb, .tup (b.ps.map nmD)]
def allN : List (List Nat) := [[97], [98], [98, 98], [102, 105, 108, 108], [113], [122]]
structure Bk.Drawn (b : Bk) : Prop where
  sw : Swg b.sa b.sb
  sub : (b.ps.map Prod.fst).Sublist allN
  ne : 0 < b.ps.length
  last : [122] ∈ b.ps.map Prod.fst
  pat : ∀ q ∈ b.ps, q.2.Drawn
theorem okN_all {α : Type} (f : α → D) (n : Nat) (h : ∀ x, okN n (f x) = true) (xs : List α) : ((xs.map f).all fun x => okN n x) = true := by
  rw [List.all_eq_true]
  intro x hx
  obtain ⟨y, _, rfl⟩ := List.mem_map.mp hx
  exact h y
theorem okN_ptn (p : Pt) (n : Nat) : okN (n + 3) (ptD p) = true := by
  show ([D.int (p.s : Nat), .int (p.g : Nat), .tup (p.ps.map padD)].all fun x => okN (n + 2) x) = true
  rw [List.all_cons, List.all_cons, List.all_cons, List.all_nil]
  have : okN (n + 2) (.tup (p.ps.map padD)) = true := okN_pads n p.ps
  rw [this]
  rfl
theorem allN_nodup : allN.Nodup := by decide
theorem Bk.Drawn.nodup {b : Bk} (h : b.Drawn) : (b.ps.map Prod.fst).Nodup := h.sub.nodup allN_nodup
theorem Bk.Drawn.few {b : Bk} (h : b.Drawn) : b.ps.length ≤ 6 := by
  have := h.sub.length_le
  simpa [allN] using this
theorem pow_at {k : Nat} (hk : k ≤ 4) : ∃ w : Int, 0 < w ∧ w ≤ 128 ∧ ixD (.tup [.int 8, .int 16, .int 32, .int 64, .int 128]) (.int (k : Nat)) = some (.int w) := by
  have : k = 0 ∨ k = 1 ∨ k = 2 ∨ k = 3 ∨ k = 4 := by omega
  rcases this with rfl | rfl | rfl | rfl | rfl
  · exact ⟨8, by omega, by omega, rfl⟩
  · exact ⟨16, by omega, by omega, rfl⟩
  · exact ⟨32, by omega, by omega, rfl⟩
  · exact ⟨64, by omega, by omega, rfl⟩
  · exact ⟨128, by omega, by omega, rfl⟩
theorem swing_at (n : Int) : ∃ sa sb : Nat, Swg sa sb ∧ ixD (.tup [.tup [.int 1, .int 2], .tup [.int 3, .int 5], .tup [.int 2, .int 3], .tup [.int 3, .int 4], .tup [.int 5, .int 8], .tup [.int 7, .int 12]]) (.int (n % 6)) = some (pr (sa : Nat) sb) := by
  have h6 : n % 6 = 0 ∨ n % 6 = 1 ∨ n % 6 = 2 ∨ n % 6 = 3 ∨ n % 6 = 4 ∨ n % 6 = 5 := by omega
  rcases h6 with e | e | e | e | e | e <;> rw [e]
  · exact ⟨1, 2, ⟨by decide, by decide, by decide, by decide, by decide⟩, rfl⟩
  · exact ⟨3, 5, ⟨by decide, by decide, by decide, by decide, by decide⟩, rfl⟩
  · exact ⟨2, 3, ⟨by decide, by decide, by decide, by decide, by decide⟩, rfl⟩
  · exact ⟨3, 4, ⟨by decide, by decide, by decide, by decide, by decide⟩, rfl⟩
  · exact ⟨5, 8, ⟨by decide, by decide, by decide, by decide, by decide⟩, rfl⟩
  · exact ⟨7, 12, ⟨by decide, by decide, by decide, by decide, by decide⟩, rfl⟩
theorem getD_strs {ls : List (List Nat)} {i : Nat} (h : i < ls.length) : (ls.map D.str).getD i .non = .str ls[i] := by
  simp [List.getD_eq_getElem?_getD, List.getElem?_eq_getElem h]
theorem e_lawbook {n : Int} (h0 : 0 ≤ n) : ∃ b : Bk, b.Drawn ∧ n__law_book [.int n] = some (bookD b) := by
  obtain ⟨sa, sb, sw, esw⟩ := swing_at n
  have hnm : ∃ ls : List (List Nat), ls.Sublist [[97], [98], [98, 98], [102, 105, 108, 108], [113]] ∧ fLc (fEnum (fTup (fCons (fC (.str [97])) (fCons (fC (.str [98])) (fCons (fC (.str [98, 98])) (fCons (fC (.str [102, 105, 108, 108])) (fCons (fC (.str [113])) fNil))))))) (gT (gCons' (gN 4) (gCons' (gN 5) gNil'))) (fB (f2 eqD (f2 modD (f2 fdivD (fV 0) (f2 ixD (fTup (fCons (fC (.int 8)) (fCons (fC (.int 16)) (fCons (fC (.int 32)) (fCons (fC (.int 64)) (fCons (fC (.int 128)) fNil)))))) (fV 4))) (fC (.int 2))) (fC (.int 1)))) (fV 5) [4, 5] [some (.int n), some (pr (sa : Nat) sb), none, none, none, none] = some (.lst (ls.map D.str)) := by
    have h5 : ∀ i : Nat, i < 5 → ∃ k : Bool, fB (f2 eqD (f2 modD (f2 fdivD (fV 0) (f2 ixD (fTup (fCons (fC (.int 8)) (fCons (fC (.int 16)) (fCons (fC (.int 32)) (fCons (fC (.int 64)) (fCons (fC (.int 128)) fNil)))))) (fV 4))) (fC (.int 2))) (fC (.int 1))) [some (.int n), some (pr (sa : Nat) sb), none, none, some (.int (i : Nat)), some (([[97], [98], [98, 98], [102, 105, 108, 108], [113]].map D.str).getD i .non)] = some k := fun i hi => by
      obtain ⟨w, w0, w1, hw⟩ := pow_at (k := i) (by omega)
      exact ⟨_, v_b (v_2 (v_2 (v_2 (by walk_at "dn") (v_2 (v_tup (by walk_at "dn") (by decide)) (by walk_at "dn") hw) (fdiv_i (by omega))) v_c (mod_i (by omega))) v_c (eq_i _ _))⟩
    have hk : ∃ kf : Nat → Bool, ∀ i, i < 5 → fB (f2 eqD (f2 modD (f2 fdivD (fV 0) (f2 ixD (fTup (fCons (fC (.int 8)) (fCons (fC (.int 16)) (fCons (fC (.int 32)) (fCons (fC (.int 64)) (fCons (fC (.int 128)) fNil)))))) (fV 4))) (fC (.int 2))) (fC (.int 1))) [some (.int n), some (pr (sa : Nat) sb), none, none, some (.int (i : Nat)), some (([[97], [98], [98, 98], [102, 105, 108, 108], [113]].map D.str).getD i .non)] = some (kf i) :=
      ⟨fun i => if h : i < 5 then Classical.choose (h5 i h) else false, fun i hi => by simp only [dif_pos hi]; exact Classical.choose_spec (h5 i hi)⟩
    obtain ⟨kf, hkf⟩ := hk
    refine ⟨((List.range 5).filter kf).map fun i => [[97], [98], [98, 98], [102, 105, 108, 108], [113]].getD i [], ?_, lcw (v_enum (a := .tup [.str [97], .str [98], .str [98, 98], .str [102, 105, 108, 108], .str [113]]) (xs := [[97], [98], [98, 98], [102, 105, 108, 108], [113]].map D.str) (v_tup (by walk_at "dn") (by decide)) rfl) (by rw [enum_at]; simp) ?_⟩
    · have : ((List.range 5).map fun i => [[97], [98], [98, 98], [102, 105, 108, 108], [113]].getD i []) = ([[97], [98], [98, 98], [102, 105, 108, 108], [113]] : List (List Nat)) := by decide
      rw [← this]
      exact List.Sublist.map _ List.filter_sublist
    · rw [enum_at, List.length_map, List.map_map]
      refine lc_filter (fun i : Nat => D.wk [.int (i : Nat), ([[97], [98], [98, 98], [102, 105, 108, 108], [113]].map D.str).getD i .non]) kf _ (List.range 5) fun i hi => ⟨_, rfl, hkf i (List.mem_range.mp hi), fun _ => ?_⟩
      have hi := List.mem_range.mp hi
      have : i = 0 ∨ i = 1 ∨ i = 2 ∨ i = 3 ∨ i = 4 := by omega
      rcases this with rfl | rfl | rfl | rfl | rfl <;> rfl
  obtain ⟨ls, hls, els⟩ := hnm
  have hls5 : ls.length ≤ 5 := by simpa using hls.length_le
  suffices key : ∃ ps : List (List Nat × Pt), ps.map Prod.fst = ls ++ [[122]] ∧ (∀ q ∈ ps, q.2.Drawn) ∧ m__law_book [some (.int n), none, none, none, none, none] = some (.rt (bookD ⟨sa, sb, ps⟩)) by
    obtain ⟨ps, k1, k2, k3⟩ := key
    refine ⟨⟨sa, sb, ps⟩, ⟨sw, ?_, ?_, ?_, k2⟩, sem_rt rfl k3⟩
    · show (ps.map Prod.fst).Sublist allN
      rw [k1]
      exact hls.append (List.Sublist.refl [[122]])
    · have := congrArg List.length k1
      simp at this
      show 0 < ps.length
      omega
    · show [122] ∈ ps.map Prod.fst
      rw [k1]
      simp
  have loop := for_st (g := gT (gCons' (gN 4) (gCons' (gN 5) gNil'))) (B := fSet 3 (f2 addD (fV 3) (fTup (fCons (fTup (fCons (fV 5) (fCons (fCall n__law_pattern (fCons (f2 fdivD (fCall n__law_drawn (fCons (fV 0) (fCons (f2 addD (fC (.int 60)) (fV 4)) fNil))) (fC (.int 4))) fNil)) fNil))) fNil))))
    (env := [some (.int n), some (pr (sa : Nat) sb), some (.lst (ls.map D.str)), some (.tup []), none, none]) (fun i : Nat => D.wk [.int (i : Nat), ((ls ++ [[122]]).map D.str).getD i .non]) (fun s : List (List Nat × Pt) => [(3, .tup (s.map nmD))]) [4, 5]
    (fun p s => s.map Prod.fst = (ls ++ [[122]]).take p.length ∧ ∀ q ∈ s, q.2.Drawn) (List.range (ls ++ [[122]]).length) [] rfl ⟨rfl, fun q hq => by cases hq⟩ ?_
  · obtain ⟨ps, w, ⟨i1, i2⟩, lp⟩ := loop
    refine ⟨ps, by rw [i1, List.length_range, List.take_length], i2, ?_⟩
    unfold m__law_book
    refine w_ss (v_2 (v_tup (by walk_at "dn") (by decide)) (by walk_at "dn") esw) ?_
    refine w_ss els ?_
    refine w_ss (v_tup v_nil (by decide)) ?_
    refine w_sfor (Eq.trans (v_enum (a := .lst ((ls ++ [[122]]).map D.str)) (xs := (ls ++ [[122]]).map D.str) (v_2 (by walk_at "dn") (by walk_at "dn") ?_) rfl) ?_) lp ?_
    · rw [List.map_append]
      exact add_l (by simp; omega)
    · rw [enum_at, List.length_map]
    · exact ret_of (v_tup (ds := [pr (sa : Nat) sb, .tup (ps.map nmD)]) (by walk_at "dn") (show 2 ≤ sizeLine by decide))
  · intro p k q s w hp ⟨i1, i2⟩
    obtain ⟨k1, k2, k3⟩ := range_at hp
    have k2' : k ≤ 5 := by simp at k2; omega
    obtain ⟨d, d0, d1, ed⟩ := drawn_ok n (60 + (k : Int)) (by omega)
    obtain ⟨pt, dr, ept⟩ := e_lawpat (n := d / 4) (by omega)
    have hs5 : s.length ≤ 6 := by
      have := congrArg List.length i1
      simp at this
      omega
    refine ⟨_, s ++ [((ls ++ [[122]])[k], pt)], ⟨?_, ?_⟩, rfl, ?_⟩
    · have k1' : p.length = k := k1.symm
      have hlt : p.length < (ls ++ [[122]]).length := by omega
      rw [List.map_append, i1, List.length_append, List.length_singleton, List.take_succ_eq_append_getElem hlt]
      congr 2
      simp [k1']
    · intro q hq
      rcases List.mem_append.mp hq with hq | hq
      · exact i2 q hq
      · have : q = ((ls ++ [[122]])[k], pt) := by simpa using hq
        rw [this]
        exact dr
    · rw [getD_strs k2]
      apply en_w
      · refine w_set (v_2 (by walk_at "dn") (v_tup (v_cons (v_tup (v_cons (by walk_at "dn") (v_cons (v_call (v_cons (v_2 (v_call (by walk_at "dn") ed) v_c (fdiv_i (by omega))) v_nil) ept) v_nil)) (show 2 ≤ sizeLine by decide)) v_nil) (show 1 ≤ sizeLine by decide)) (add_t ?_)) rfl
        rw [List.length_map]
        show s.length + 1 ≤ 1000000
        omega
      · rw [List.map_append]
        rfl
end Dn
set_option Elab.async false
set_option linter.all false
set_option maxRecDepth 100000
/-! Strikes, lengths, chains played. -/
namespace Dn
open PySem L2
local macro_rules | `(tactic| walk_at "dg") => `(tactic| first
  | with_reducible exact add_i _ _ | with_reducible exact sub_i _ _ | ((with_reducible refine mul_i ?_); omega) | ((with_reducible refine fdiv_i ?_); omega) | ((with_reducible refine mod_i ?_); omega) | with_reducible exact neg_i _
  | with_reducible exact lt_i _ _ | with_reducible exact le_i _ _ | with_reducible exact gt_i _ _ | with_reducible exact ge_i _ _ | with_reducible exact eq_i _ _ | with_reducible exact ne_i _ _ | with_reducible exact eq_s _ _ | with_reducible exact ne_s _ _
  | ((with_reducible refine add_s ?_); omega) | ((with_reducible refine add_t ?_); omega) | ((with_reducible refine add_l ?_); omega) | ((with_reducible refine mul_s ?_); omega) | ((with_reducible refine mul_l ?_); omega)
  | ((with_reducible refine len_s ?_); omega) | with_reducible exact len_t _ | with_reducible exact len_l _ | with_reducible exact len_c _ | with_reducible exact int_b _ | with_reducible exact int_i _ | with_reducible exact abs_i _
  | ((with_reducible refine sl_s ?_); omega) | with_reducible exact sl_t _ _ _ | with_reducible exact sl_l _ _ _ | ((with_reducible apply ix_t); (· omega); (· rfl)) | ((with_reducible apply ix_l); (· omega); (· rfl)) | with_reducible assumption)
local macro_rules | `(tactic| walk_at "dc") => `(tactic| with_reducible assumption)
local macro_rules | `(tactic| walk_at "dn") => `(tactic| first
  | with_reducible exact v_c | with_reducible exact v_nil | with_reducible exact v_no
  | ((with_reducible apply v_var); (· rfl); (· rfl))
  | ((with_reducible apply v_2); (· walk_at "dn"); (· walk_at "dn"); (· walk_at "dg"))
  | ((with_reducible apply v_1); (· walk_at "dn"); (· walk_at "dg"))
  | ((with_reducible apply v_cons); (· walk_at "dn"); (· walk_at "dn"))
  | ((with_reducible apply v_blt); (· walk_at "dn"); (· walk_at "dg"))
  | ((with_reducible apply v_call); (· walk_at "dn"); (· walk_at "dc"))
  | ((with_reducible apply v_tup); (· walk_at "dn"); (· first | decide | (simp only [List.length_cons, List.length_nil]; decide)))
  | ((with_reducible apply v_lst); (· walk_at "dn"); (· first | decide | (simp only [List.length_cons, List.length_nil]; decide)))
  | ((with_reducible apply v_po); (· walk_at "dn"))
  | ((with_reducible apply v_sl); (· walk_at "dn"); (· walk_at "dn"); (· walk_at "dn"); (· walk_at "dg"))
  | ((with_reducible apply v_m1); (· walk_at "dn"); (· walk_at "dn"); (· walk_at "dg"))
  | ((with_reducible apply v_b); (· walk_at "dn"))
  | ((with_reducible apply v_not); (· walk_at "dn"))
  | ((with_reducible apply v_notV); (· walk_at "dn"))
  | ((with_reducible apply v_rng1); (· walk_at "dn"); (· omega))
  | ((with_reducible apply v_rng2); (· walk_at "dn"); (· omega))
  | ((with_reducible apply v_it); (· walk_at "dn"))
  | ((with_reducible apply v_itl); (· walk_at "dn"))
  | ((with_reducible apply v_its); (· walk_at "dn"))
  | with_reducible assumption)
local macro_rules | `(tactic| walk_at "dt") => `(tactic| first
  | with_reducible exact v_c | with_reducible exact v_nil | with_reducible exact v_no
  | ((with_reducible apply v_var); (· rfl); (· rfl))
  | ((with_reducible apply v_2) <;> walk_at "dt")
  | ((with_reducible apply v_1) <;> walk_at "dt")
  | ((with_reducible apply v_cons) <;> walk_at "dt")
  | ((with_reducible apply v_blt) <;> walk_at "dt")
  | ((with_reducible apply v_call) <;> walk_at "dt")
  | ((with_reducible apply v_tup) <;> walk_at "dt")
  | ((with_reducible apply v_lst) <;> walk_at "dt")
  | ((with_reducible apply v_po) <;> walk_at "dt")
  | ((with_reducible apply v_sl) <;> walk_at "dt")
  | ((with_reducible apply v_m1) <;> walk_at "dt")
  | ((with_reducible apply v_b) <;> walk_at "dt")
  | ((with_reducible apply v_notV) <;> walk_at "dt")
  | ((with_reducible apply v_not) <;> walk_at "dt")
  | ((with_reducible apply v_rng1) <;> first | omega | walk_at "dt")
  | ((with_reducible apply v_rng2) <;> first | omega | walk_at "dt")
  | walk_at "dg"
  | (show List.length _ ≤ sizeLine; first | decide | (simp only [List.length_cons, List.length_nil]; decide))
  | skip)
local macro_rules | `(tactic| walk_at "ds") => `(tactic| first
  | ((with_reducible apply w_ss) <;> first | walk_at "d1" | skip)
  | ((with_reducible apply w_r) <;> first | walk_at "d1" | skip)
  | ((with_reducible apply w_sp) <;> first | walk_at "d1" | skip)
  | ((with_reducible apply w_so) <;> first | walk_at "d1" | skip)
  | (with_reducible apply w_sv)
  | (with_reducible apply w_sq))
local macro_rules | `(tactic| walk_at "dx") => `(tactic| simp only [put, jn, List.set_cons_zero, List.set_cons_succ])
noncomputable def m_strikes_of : En → Option Fl :=
  (fSeq (fOwn 2 (fNL fNil))
  (fSeq (fFor (fRng1 (fCons (f2 ixD (fV 1) (fC (.int 0))) fNil)) (gN 3)
    (fSeq (fSet 4 (fCall n_step_time (fCons (fV 0) (fCons (fV 1) (fCons (fV 3) fNil)))))
    (fFor (fIt (f2 ixD (fV 1) (fC (.int 2)))) (gT (gCons' (gN 5) (gCons' (gN 6) gNil')))
      (fIfS (fB (f2 neD (f2 ixD (fV 6) (fV 3)) (fC (.str [46]))))
        (fApp 2 (fTup (fCons (fV 4) (fCons (fV 5) (fCons (f2 eqD (f2 ixD (fV 6) (fV 3)) (fC (.str [88]))) fNil)))))
        fPass))))
  (fSeq (fFrz 2) (fRet (f1 tupD (fV 2))))))
noncomputable def n_strikes_of : List D → Option D := semOf 7 2 m_strikes_of
noncomputable def m_pattern_of : En → Option Fl :=
  (fSeq (fSet 2 (fBlt dictG (fCons (f2 ixD (fV 0) (fC (.int 1))) fNil)))
  (fSeq (fIfS (fB (f2 ninD (fV 1) (fV 2)))
    fStuck
    fPass)
  (fRet (f2 dixD (fV 2) (fV 1)))))
noncomputable def n_pattern_of : List D → Option D := semOf 3 2 m_pattern_of
noncomputable def m_strikes : En → Option Fl :=
  (fRet (fCall n_strikes_of (fCons (f2 ixD (fV 0) (fC (.int 0))) (fCons (fCall n_pattern_of (fCons (fV 0) (fCons (fV 1) fNil))) fNil))))
noncomputable def n_strikes : List D → Option D := semOf 2 2 m_strikes
noncomputable def m_moved : En → Option Fl :=
  (fRet (f1 tupD (fLc (fIt (fV 0)) (gT (gCons' (gN 2) (gCons' (gN 3) (gCons' (gN 4) gNil')))) fYes (fTup (fCons (fCall n_added (fCons (fV 1) (fCons (fV 2) fNil))) (fCons (fV 3) (fCons (fV 4) fNil)))) [2, 3, 4])))
noncomputable def n_moved : List D → Option D := semOf 5 2 m_moved
noncomputable def m_rounds : En → Option Fl :=
  (fSeq (fOwn 1 (fNL fNil))
  (fSeq (fFor (fIt (fV 0)) (gT (gCons' (gN 2) (gCons' (gN 3) gNil')))
    (fExt 1 (f2 mulD (fLst (fCons (fV 2) fNil)) (fV 3))))
  (fSeq (fFrz 1) (fRet (fV 1)))))
noncomputable def n_rounds : List D → Option D := semOf 4 1 m_rounds
noncomputable def m_length : En → Option Fl :=
  (fSeq (fSet 2 (fTup (fCons (fC (.int 0)) (fCons (fC (.int 1)) fNil))))
  (fSeq (fFor (fIt (fCall n_rounds (fCons (fV 1) fNil))) (gN 3)
    (fSet 2 (fCall n_added (fCons (fV 2) (fCons (fCall n_beats (fCons (fCall n_pattern_of (fCons (fV 0) (fCons (fV 3) fNil))) fNil)) fNil)))))
  (fRet (fV 2))))
noncomputable def n_length : List D → Option D := semOf 4 2 m_length
noncomputable def m_played : En → Option Fl :=
  (fSeq (fSet 2 (fTup (fCons (fC (.int 0)) (fCons (fC (.int 1)) fNil))))
  (fSeq (fSet 3 (fTup fNil))
  (fSeq (fFor (fIt (fCall n_rounds (fCons (fV 1) fNil))) (gN 4)
    (fSeq (fSet 3 (f2 addD (fV 3) (fCall n_moved (fCons (fCall n_strikes (fCons (fV 0) (fCons (fV 4) fNil))) (fCons (fV 2) fNil)))))
    (fSet 2 (fCall n_added (fCons (fV 2) (fCons (fCall n_beats (fCons (fCall n_pattern_of (fCons (fV 0) (fCons (fV 4) fNil))) fNil)) fNil))))))
  (fRet (fV 3)))))
noncomputable def n_played : List D → Option D := semOf 5 2 m_played
noncomputable def m_in_ticks : En → Option Fl :=
  (fRet (f1 tupD (fLc (fIt (fV 0)) (gT (gCons' (gN 2) (gCons' (gN 3) (gCons' (gN 4) gNil')))) fYes (fTup (fCons (f2 fdivD (f2 addD (f2 mulD (f2 mulD (fC (.int 2)) (fV 1)) (f2 ixD (fV 2) (fC (.int 0)))) (f2 ixD (fV 2) (fC (.int 1)))) (f2 mulD (fC (.int 2)) (f2 ixD (fV 2) (fC (.int 1))))) (fCons (fV 3) (fCons (fV 4) fNil)))) [2, 3, 4])))
noncomputable def n_in_ticks : List D → Option D := semOf 5 2 m_in_ticks
def lkD (q : List Nat × Nat) : D := .tup [.str q.1, .int (q.2 : Nat)]
def chD (c : List (List Nat × Nat)) : D := .tup (c.map lkD)
structure ChOk (b : Bk) (c : List (List Nat × Nat)) : Prop where
  ne : 0 < c.length
  few : c.length ≤ 8
  lk : ∀ q ∈ c, q.1 ∈ b.ps.map Prod.fst ∧ 1 ≤ q.2 ∧ q.2 ≤ 9
theorem len_tm {α : Type} (f : α → D) (xs : List α) : lenG [.tup (xs.map f)] = some (.int (xs.length : Nat)) := by
  rw [len_t, List.length_map]
theorem ix_map {α : Type} (f : α → D) {xs : List α} {i : Nat} {x : α} (h : xs[i]? = some x) : ixD (.tup (xs.map f)) (.int (i : Nat)) = some (f x) := by
  refine ix_t (by omega) ?_
  rw [Int.toNat_natCast, List.getElem?_map, h]
  rfl
theorem ix_mapl {α : Type} (f : α → D) {xs : List α} {i : Nat} {x : α} (h : xs[i]? = some x) : ixD (.lst (xs.map f)) (.int (i : Nat)) = some (f x) := by
  refine ix_l (by omega) ?_
  rw [Int.toNat_natCast, List.getElem?_map, h]
  rfl
theorem mod_ex {n : Int} {m : Nat} (hm : 0 < m) : ∃ i : Nat, (i : Int) = n % (m : Nat) ∧ i < m := by
  have h1 := Int.emod_nonneg n (show (m : Int) ≠ 0 by omega)
  have h2 := Int.emod_lt_of_pos n (show (0 : Int) < (m : Int) by omega)
  exact ⟨(n % (m : Nat)).toNat, by omega, by omega⟩
theorem e_lawchain {b : Bk} (dr : b.Drawn) {n : Int} (h0 : 0 ≤ n) : ∃ c, ChOk b c ∧ c.length ≤ 4 ∧ n__law_chain [bookD b, .int n] = some (chD c) := by
  obtain ⟨m, hm, hm0, hm1⟩ : ∃ m : Nat, (m : Int) = 1 + n % 4 ∧ 0 < m ∧ m ≤ 4 := ⟨(1 + n % 4).toNat, by omega, by omega, by omega⟩
  suffices key : ∃ c, c.length = m ∧ (∀ q ∈ c, q.1 ∈ b.ps.map Prod.fst ∧ 1 ≤ q.2 ∧ q.2 ≤ 9) ∧ m__law_chain [some (bookD b), some (.int n), none, none, none, none] = some (.rt (chD c)) by
    obtain ⟨c, k1, k2, k3⟩ := key
    exact ⟨c, ⟨by omega, by omega, k2⟩, by omega, sem_rt rfl k3⟩
  have loop := for_st (g := gN 3) (B := (fSeq (fSet 4 (f2 fdivD (fCall n__law_drawn (fCons (fV 1) (fCons (f2 addD (fC (.int 80)) (fV 3)) fNil))) (fC (.int 4))))
    (fSeq (fSet 5 (f2 ixD (f2 ixD (f2 ixD (fV 0) (fC (.int 1))) (f2 modD (fV 4) (fBlt lenG (fCons (f2 ixD (fV 0) (fC (.int 1))) fNil)))) (fC (.int 0))))
    (fSet 2 (f2 addD (fV 2) (fTup (fCons (fTup (fCons (fV 5) (fCons (f2 addD (fC (.int 1)) (f2 modD (f2 fdivD (fV 4) (fC (.int 8))) (f2 ixD (fTup (fCons (fC (.int 1)) (fCons (fC (.int 3)) (fCons (fC (.int 9)) fNil)))) (f2 modD (f2 fdivD (fV 4) (fC (.int 256))) (fC (.int 3)))))) fNil))) fNil)))))))
    (env := [some (bookD b), some (.int n), some (.tup []), none, none, none]) (fun i : Nat => D.int (i : Nat)) (fun s : List (List Nat × Nat) => [(2, chD s)]) [3, 4, 5]
    (fun p s => s.length = p.length ∧ ∀ q ∈ s, q.1 ∈ b.ps.map Prod.fst ∧ 1 ≤ q.2 ∧ q.2 ≤ 9) (List.range m) [] rfl ⟨rfl, fun q hq => by cases hq⟩ ?_
  · obtain ⟨c, w, ⟨i1, i2⟩, lp⟩ := loop
    refine ⟨c, by simpa using i1, i2, ?_⟩
    unfold m__law_chain
    refine w_ss (v_tup v_nil (by decide)) ?_
    refine w_sfor (v_rng1 (n := ((m : Nat) : Int)) (by rw [hm]; walk_at "dn") (by omega)) lp ?_
    exact ret_of (by walk_at "dn")
  · intro p k q s w hp ⟨i1, i2⟩
    obtain ⟨k1, k2, k3⟩ := range_at hp
    obtain ⟨d, d0, d1, ed⟩ := drawn_ok n (80 + (k : Int)) (by omega)
    obtain ⟨i, hi, hi2⟩ := mod_ex (n := d / 4) dr.ne
    obtain ⟨x, hx⟩ : ∃ x, b.ps[i]? = some x := ⟨b.ps[i], List.getElem?_eq_getElem hi2⟩
    obtain ⟨y, y0, y1, hy⟩ : ∃ y : Int, 0 < y ∧ y ≤ 9 ∧ ixD (.tup [.int 1, .int 3, .int 9]) (.int (d / 4 / 256 % 3)) = some (.int y) := by
      have h3 : d / 4 / 256 % 3 = 0 ∨ d / 4 / 256 % 3 = 1 ∨ d / 4 / 256 % 3 = 2 := by omega
      rcases h3 with e | e | e <;> rw [e]
      · exact ⟨1, by omega, by omega, rfl⟩
      · exact ⟨3, by omega, by omega, rfl⟩
      · exact ⟨9, by omega, by omega, rfl⟩
    have y2 := Int.emod_nonneg (d / 4 / 8) (show y ≠ 0 by omega)
    have y3 := Int.emod_lt_of_pos (d / 4 / 8) y0
    obtain ⟨z, hz⟩ : ∃ z : Nat, (z : Int) = 1 + d / 4 / 8 % y := ⟨(1 + d / 4 / 8 % y).toNat, by omega⟩
    refine ⟨_, s ++ [(x.1, z)], ⟨by simp [i1], ?_⟩, rfl, ?_⟩
    · intro q hq
      rcases List.mem_append.mp hq with hq | hq
      · exact i2 q hq
      · have : q = (x.1, z) := by simpa using hq
        rw [this]
        exact ⟨List.mem_map_of_mem (List.mem_of_getElem? hx), by show 1 ≤ z; omega, by show z ≤ 9; omega⟩
    · have ebk : ixD (bookD b) (.int 1) = some (.tup (b.ps.map nmD)) := rfl
      apply en_w
      · refine w_ss (v_2 (v_call (by walk_at "dn") ed) v_c (fdiv_i (by omega))) ?_
        refine w_ss (v_2 (v_2 (v_2 (by walk_at "dn") v_c ebk) (v_2 (by walk_at "dn") (v_blt (v_cons (v_2 (by walk_at "dn") v_c ebk) v_nil) (len_tm _ _)) (mod_i (by have := dr.ne; omega))) (by rw [← hi]; exact ix_map nmD hx)) v_c rfl) ?_
        refine w_set (v_2 (by walk_at "dn") (v_tup (v_cons (v_tup (ds := [.str x.1, .int (z : Nat)]) (v_cons (by walk_at "dn") (v_cons ?_ v_nil)) (show 2 ≤ sizeLine by decide)) v_nil) (show 1 ≤ sizeLine by decide)) (add_t ?_)) rfl
        · rw [hz]
          exact v_2 v_c (v_2 (v_2 (by walk_at "dn") v_c (fdiv_i (by omega))) (v_2 (v_tup (by walk_at "dn") (by decide)) (v_2 (v_2 (by walk_at "dn") v_c (fdiv_i (by omega))) v_c (mod_i (by omega))) hy) (mod_i y0)) (add_i _ _)
        · rw [List.length_map]
          show s.length + 1 ≤ 1000000
          omega
      · unfold chD
        rw [List.map_append]
        rfl
/-! looking up -/
def Bk.get (b : Bk) (nm : List Nat) : Option Pt := (b.ps.find? fun q => decide (q.1 = nm)).map (·.2)
theorem pairs_nm : ∀ ps : List (List Nat × Pt), pairsOf (ps.map nmD) = some (ps.map fun q => (q.1, ptD q.2))
  | [] => rfl
  | q :: ps => by
    rw [List.map_cons, pairsOf, pairs_nm ps]
    rfl
theorem find_nm (nm : List Nat) : ∀ ps : List (List Nat × Pt), ((ps.map fun q => (q.1, ptD q.2)).find? fun p => decide (p.1 = nm)).map (·.2) = ((ps.find? fun q => decide (q.1 = nm)).map (·.2)).map ptD
  | [] => rfl
  | q :: ps => by
    rw [List.map_cons]
    by_cases h : q.1 = nm
    · rw [List.find?_cons_of_pos (by simpa using h), List.find?_cons_of_pos (by simpa using h)]
      rfl
    · rw [List.find?_cons_of_neg (by simpa using h), List.find?_cons_of_neg (by simpa using h), find_nm nm ps]
theorem any_nm (nm : List Nat) : ∀ ps : List (List Nat × Pt), ((ps.map fun q => (q.1, ptD q.2)).any fun p => decide (p.1 = nm)) = ((ps.find? fun q => decide (q.1 = nm)).map (·.2)).isSome
  | [] => rfl
  | q :: ps => by
    rw [List.map_cons, List.any_cons]
    by_cases h : q.1 = nm
    · rw [List.find?_cons_of_pos (by simpa using h), decide_eq_true h]
      rfl
    · rw [List.find?_cons_of_neg (by simpa using h), decide_eq_false h, any_nm nm ps, Bool.false_or]
theorem dict_nm {b : Bk} (hn : (b.ps.map Prod.fst).Nodup) : dictG [.tup (b.ps.map nmD)] = some (.dct (b.ps.map fun q => (q.1, ptD q.2))) := by
  show dictOf (b.ps.map nmD) = _
  unfold dictOf
  rw [pairs_nm]
  simp only [Option.bind_some, List.map_map]
  rw [if_pos]
  exact hn
theorem inB_dct (nm : List Nat) (kvs : List (List Nat × D)) : inB (.str nm) (.dct kvs) = some (kvs.any fun p => decide (p.1 = nm)) := by
  rcases nm with _ | ⟨c, _ | _⟩ <;> rfl
theorem e_pattern_of {b : Bk} (hn : (b.ps.map Prod.fst).Nodup) {nm : List Nat} {p : Pt} (h : b.get nm = some p) : n_pattern_of [bookD b, .str nm] = some (ptD p) := by
  refine sem_rt rfl ?_
  show m_pattern_of [some (bookD b), some (.str nm), none] = _
  unfold m_pattern_of
  refine w_ss (v_blt (v_cons (v_2 (by walk_at "dn") v_c (show ixD (bookD b) (.int 1) = some (.tup (b.ps.map nmD)) from rfl)) v_nil) (dict_nm hn)) ?_
  unfold Bk.get at h
  refine w_sf (v_b (v_2 (by walk_at "dn") (by walk_at "dn") ?_)) (ret_of (v_2 (by walk_at "dn") (by walk_at "dn") ?_))
  · show (inB _ _).bind _ = _
    rw [inB_dct, any_nm, h]
    rfl
  · show ((b.ps.map fun q => (q.1, ptD q.2)).find? fun p => decide (p.1 = nm)).map (·.2) = _
    rw [find_nm, h]
    rfl
theorem get_of {b : Bk} {nm : List Nat} (h : nm ∈ b.ps.map Prod.fst) : ∃ p, b.get nm = some p ∧ (nm, p) ∈ b.ps := by
  obtain ⟨q, hq, rfl⟩ := List.mem_map.mp h
  cases e : b.ps.find? fun x => decide (x.1 = q.1) with
  | none =>
    have := List.find?_eq_none.mp e q hq
    simp at this
  | some x =>
    have h1 := List.mem_of_find?_eq_some e
    have h2 : x.1 = q.1 := by simpa using List.find?_some e
    exact ⟨x.2, by unfold Bk.get; rw [e]; rfl, by rw [← h2]; exact h1⟩
/-! strikes of one round -/
abbrev Stk := Nat × Nat × Bool
def skD (L : Nat) (x : Stk) : D := .tup [frD (x.1 : Nat) L, .str [x.2.1], .bl x.2.2]
def stk1 (sa sb : Nat) (p : Pt) (k : Nat) (q : Nat × List Nat) : List Stk := if q.2.getD k 46 = 46 then [] else [(stT sa sb p.s k, q.1, decide (q.2.getD k 46 = 88))]
def stkAt (sa sb : Nat) (p : Pt) (k : Nat) : List Stk := (p.ps.map (stk1 sa sb p k)).flatten
def stk0 (sa sb : Nat) (p : Pt) : List Stk := ((List.range p.s).map (stkAt sa sb p)).flatten
theorem foldl_cat {α β : Type} (f : α → List β) : ∀ (xs : List α) (acc : List β), xs.foldl (fun s a => s ++ f a) acc = acc ++ (xs.map f).flatten
  | [], acc => by simp
  | x :: xs, acc => by rw [List.foldl_cons, foldl_cat f xs, List.map_cons, List.flatten_cons, List.append_assoc]
theorem stkAt_len (sa sb : Nat) (p : Pt) (k : Nat) : ∀ ps : List (Nat × List Nat), ((ps.map (stk1 sa sb p k)).flatten).length ≤ ps.length
  | [] => by simp
  | q :: ps => by
    rw [List.map_cons, List.flatten_cons, List.length_append, List.length_cons]
    have := stkAt_len sa sb p k ps
    have : (stk1 sa sb p k q).length ≤ 1 := by unfold stk1; split <;> simp
    omega
theorem flat_len {α β : Type} (f : α → List β) (n : Nat) (h : ∀ x, (f x).length ≤ n) : ∀ xs : List α, ((xs.map f).flatten).length ≤ xs.length * n
  | [] => by simp
  | x :: xs => by
    rw [List.map_cons, List.flatten_cons, List.length_append, List.length_cons, Nat.succ_mul]
    have := flat_len f n h xs
    have := h x
    omega
theorem e_strikes_of {sa sb : Nat} {p : Pt} (ok : p.Ok) (hb : 0 < sb) (h : sb * p.g * (sb * p.g) < 1073741824) : n_strikes_of [pr (sa : Nat) sb, ptD p] = some (.tup ((stk0 sa sb p).map (skD (sb * p.g)))) := by
  refine sem_rt rfl ?_
  show m_strikes_of [some (pr (sa : Nat) sb), some (ptD p), none, none, none, none, none] = _
  have hs1 := ok.s1
  unfold m_strikes_of
  refine w_so (ds := []) (show fNL fNil _ = _ from by unfold fNL; rfl) ?_
  refine w_ffold (fun i : Nat => D.int (i : Nat)) (fun s : List Stk => [(2, .own (s.map (skD (sb * p.g))))]) [3, 4, 5, 6] (fun s k => s ++ stkAt sa sb p k) (List.range p.s) [] (v_rng1 (n := ((p.s : Nat) : Int)) (v_cons (v_2 (by walk_at "dn") v_c rfl) v_nil) (by omega)) rfl ?_ ?_
  · intro pre k q w hp
    obtain ⟨k1, k2, k3⟩ := range_at hp
    refine ⟨_, rfl, ?_⟩
    have hacc : (pre.foldl (fun s k => s ++ stkAt sa sb p k) []).length ≤ 5000 := by
      rw [foldl_cat, List.nil_append]
      refine Nat.le_trans (flat_len _ 5 (fun x => Nat.le_trans (stkAt_len sa sb p x p.ps) ok.few) pre) ?_
      have : pre.length * 5 ≤ 1000 * 5 := Nat.mul_le_mul_right _ (by omega)
      omega
    generalize pre.foldl (fun s k => s ++ stkAt sa sb p k) [] = acc at *
    walk_at "dx"
    refine en_ss (v_call (by walk_at "dn") (e_step_time hb ok.s0 ok.s1 ok.g0 h (by omega))) ?_
    walk_at "dx"
    refine en_last (en_ffold padD (fun s : List Stk => [(2, .own (s.map (skD (sb * p.g))))]) [5, 6] (fun s q => s ++ stk1 sa sb p k q) p.ps acc (v_it (v_2 (by walk_at "dn") v_c rfl)) rfl ?_ ?_)
    · intro pre2 q2 r2 w2 hp2
      have hq2 : q2 ∈ p.ps := by rw [hp2]; simp
      obtain ⟨hl, hr⟩ := ok.row q2 hq2
      have hacc2 : (pre2.foldl (fun s q => s ++ stk1 sa sb p k q) acc).length ≤ 10000 := by
        rw [foldl_cat, List.length_append]
        have := stkAt_len sa sb p k pre2
        have h5 := congrArg List.length hp2
        have := ok.few
        simp at h5
        omega
      generalize pre2.foldl (fun s q => s ++ stk1 sa sb p k q) acc = acc2 at *
      refine ⟨_, rfl, ?_⟩
      walk_at "dx"
      have eix : ixD (.str q2.2) (.int (k : Nat)) = some (.str [q2.2.getD k 46]) := ix_s (by omega) (by omega) (by rw [Int.toNat_natCast]; exact at_get (by omega))
      by_cases hm : q2.2.getD k 46 = 46
      · apply en_w
        · refine w_iff (v_b (v_2 (v_2 (by walk_at "dn") (by walk_at "dn") eix) v_c ?_)) w_pass
          rw [ne_s, hm]
          rfl
        · unfold stk1
          rw [if_pos hm, List.append_nil]
          rfl
      · apply en_w
        · refine w_ift (v_b (v_2 (v_2 (by walk_at "dn") (by walk_at "dn") eix) v_c ?_)) (w_app (d := skD (sb * p.g) (stT sa sb p.s k, q2.1, decide (q2.2.getD k 46 = 88))) (v_tup (v_cons (by walk_at "dn") (v_cons (by walk_at "dn") (v_cons (v_2 (v_2 (by walk_at "dn") (by walk_at "dn") eix) v_c ?_) v_nil))) (show 3 ≤ sizeLine by decide)) rfl (by rw [List.length_map]; omega))
          · rw [ne_s, decide_eq_false (by simpa using hm)]
            rfl
          · rw [eq_s]
            congr 2
            exact decide_eq_decide.mpr (by simp)
        · unfold stk1
          rw [if_neg hm, List.map_append]
          rfl
    · intro w2
      rw [foldl_cat]
      walk_at "dx"
      exact en_pass rfl
  · intro w
    rw [foldl_cat]
    walk_at "dx"
    exact w_frz rfl (ret_of (v_1 (by walk_at "dn") rfl))
theorem e_strikes {b : Bk} (hn : (b.ps.map Prod.fst).Nodup) {nm : List Nat} {p : Pt} (h : b.get nm = some p) (ok : p.Ok) (hb : 0 < b.sb) (hs : b.sb * p.g * (b.sb * p.g) < 1073741824) : n_strikes [bookD b, .str nm] = some (.tup ((stk0 b.sa b.sb p).map (skD (b.sb * p.g)))) := by
  refine sem_rt rfl ?_
  show m_strikes [some (bookD b), some (.str nm)] = _
  unfold m_strikes
  exact ret_of (v_call (v_cons (v_2 (by walk_at "dn") v_c rfl) (v_cons (v_call (by walk_at "dn") (e_pattern_of hn h)) v_nil)) (e_strikes_of ok hb hs))
/-! in parts of 1 / (sb * M) -/
def skM (M g : Nat) (x : Stk) : Stk := (x.1 * (M / g), x.2)
theorem skD_M {sb M g : Nat} (hb : 0 < sb) (hg : 0 < g) (hM : g ∣ M) (h0 : 0 < M) (x : Stk) : skD (sb * g) x = skD (sb * M) (skM M g x) := by
  unfold skD skM
  have : frD (x.1 : Nat) (sb * g) = frD ((x.1 * (M / g) : Nat) : Int) (sb * M) := by
    refine frD_of (Nat.mul_pos hb hg) (Nat.mul_pos hb h0) ?_
    obtain ⟨c, rfl⟩ := hM
    rw [Nat.mul_div_cancel_left _ hg]
    simp only [Int.natCast_mul]
    grind
  rw [this]
def stk (sa sb M : Nat) (p : Pt) : List Stk := (stk0 sa sb p).map (skM M p.g)
theorem stk_D {sa sb M : Nat} {p : Pt} (hb : 0 < sb) (hg : 0 < p.g) (hM : p.g ∣ M) (h0 : 0 < M) : (stk0 sa sb p).map (skD (sb * p.g)) = (stk sa sb M p).map (skD (sb * M)) := by
  unfold stk
  rw [List.map_map]
  exact List.map_congr_left fun x _ => skD_M hb hg hM h0 x
def late (u : Nat) (x : Stk) : Stk := (u + x.1, x.2)
theorem stk_len (sa sb M : Nat) (p : Pt) : (stk sa sb M p).length ≤ p.s * p.ps.length := by
  unfold stk stk0
  rw [List.length_map]
  have := flat_len (stkAt sa sb p) p.ps.length (fun x => stkAt_len sa sb p x p.ps) (List.range p.s)
  rwa [List.length_range] at this
theorem e_addn {u v l : Nat} (hl : 0 < l) (h : l * l < 1073741824) : n_added [frD (u : Nat) l, frD (v : Nat) l] = some (frD ((u + v : Nat) : Int) l) := by
  rw [e_add1 hl h, Int.natCast_add]
theorem e_moved {L u : Nat} {xs : List Stk} (hL : 0 < L) (h : L * L < 1073741824) (hx : xs.length ≤ 1000000) : n_moved [.tup (xs.map (skD L)), frD (u : Nat) L] = some (.tup ((xs.map (late u)).map (skD L))) := by
  refine sem_rt rfl ?_
  show m_moved [some (.tup (xs.map (skD L))), some (frD (u : Nat) L), none, none, none] = _
  unfold m_moved
  refine ret_of (v_1 (lcw (v_it (by walk_at "dn")) (by rw [List.length_map]; exact hx) ?_) rfl)
  rw [List.map_map]
  refine lc_map (skD L) _ _ fun x _ => ⟨[some (.tup (xs.map (skD L))), some (frD (u : Nat) L), some (frD (x.1 : Nat) L), some (.str [x.2.1]), some (.bl x.2.2)], rfl, ?_⟩
  refine v_tup (ds := [frD ((u + x.1 : Nat) : Int) L, .str [x.2.1], .bl x.2.2]) (v_cons (v_call (by walk_at "dn") ?_) (by walk_at "dn")) (show 3 ≤ sizeLine by decide)
  rw [e_add1 hL h, Int.natCast_add]
/-! rounds -/
def rnds (c : List (List Nat × Nat)) : List (List Nat) := (c.map fun q => List.replicate q.2 q.1).flatten
theorem reps_single {α : Type} (x : α) : ∀ n, reps [x] n = List.replicate n x
  | 0 => rfl
  | n + 1 => by
    unfold reps
    rw [List.replicate_succ, List.flatten_cons]
    have := reps_single x n
    unfold reps at this
    rw [this]
    rfl
theorem e_rounds {c : List (List Nat × Nat)} (h1 : c.length ≤ 100) (h2 : ∀ q ∈ c, q.2 ≤ 100) : n_rounds [chD c] = some (.lst ((rnds c).map D.str)) := by
  refine sem_rt rfl ?_
  show m_rounds [some (chD c), none, none, none] = _
  unfold m_rounds
  refine w_so (ds := []) (show fNL fNil _ = _ from by unfold fNL; rfl) ?_
  refine w_ffold lkD (fun s : List (List Nat) => [(1, .own (s.map D.str))]) [2, 3] (fun s q => s ++ List.replicate q.2 q.1) c [] (v_it (show fV 0 _ = some (.tup (c.map lkD)) from rfl)) rfl ?_ ?_
  · intro pre k q w hp
    have hk : k ∈ c := by rw [hp]; simp
    have hk2 := h2 k hk
    have hacc : (pre.foldl (fun s q => s ++ List.replicate q.2 q.1) []).length ≤ 10000 := by
      have hsub : ∀ x ∈ pre, x.2 ≤ 100 := fun x hx => h2 x (by rw [hp]; simp [hx])
      have hpl : pre.length ≤ 100 := by
        have := congrArg List.length hp
        simp at this
        omega
      rw [foldl_cat, List.nil_append]
      have : ∀ xs : List (List Nat × Nat), (∀ x ∈ xs, x.2 ≤ 100) → ((xs.map fun q => List.replicate q.2 q.1).flatten).length ≤ xs.length * 100 := by
        intro xs
        induction xs with
        | nil => intro _; simp
        | cons x xs ih =>
          intro hh
          rw [List.map_cons, List.flatten_cons, List.length_append, List.length_replicate, List.length_cons, Nat.succ_mul]
          have := ih fun y hy => hh y (List.mem_cons_of_mem _ hy)
          have := hh x List.mem_cons_self
          omega
      have := this pre hsub
      omega
    generalize pre.foldl (fun s q => s ++ List.replicate q.2 q.1) [] = acc at *
    refine ⟨_, rfl, ?_⟩
    walk_at "dx"
    apply en_w
    · refine w_ext (es := (List.replicate k.2 k.1).map D.str) (v_2 (v_lst (ds := [.str k.1]) (by walk_at "dn") (show 1 ≤ sizeLine by decide)) (by walk_at "dn") ?_) rfl (by simp; omega)
      rw [mul_l ⟨by simp, by omega, by omega⟩, Int.toNat_natCast, reps_single, List.map_replicate]
    · rw [List.map_append]
      rfl
  · intro w
    rw [foldl_cat]
    walk_at "dx"
    exact w_frz rfl (ret_of (v_var rfl rfl))
theorem rnds_mem {c : List (List Nat × Nat)} {nm : List Nat} (h : nm ∈ rnds c) : ∃ q ∈ c, q.1 = nm := by
  unfold rnds at h
  obtain ⟨l, hl, hn⟩ := List.mem_flatten.mp h
  obtain ⟨q, hq, rfl⟩ := List.mem_map.mp hl
  exact ⟨q, hq, (List.eq_of_mem_replicate hn).symm⟩
theorem rnds_len : ∀ {c : List (List Nat × Nat)} {m : Nat}, (∀ q ∈ c, q.2 ≤ m) → (rnds c).length ≤ c.length * m
  | [], m, _ => by simp [rnds]
  | x :: xs, m, h => by
    have := rnds_len (c := xs) (m := m) fun y hy => h y (List.mem_cons_of_mem _ hy)
    have := h x List.mem_cons_self
    unfold rnds at *
    rw [List.map_cons, List.flatten_cons, List.length_append, List.length_replicate, List.length_cons, Nat.succ_mul]
    omega
/-! lengths and chains -/
def rlen (sb M : Nat) (p : Pt) : Nat := p.s * (sb * (M / p.g))
theorem beats_M {sb M : Nat} {p : Pt} (hb : 0 < sb) (hg : 0 < p.g) (hM : p.g ∣ M) (h0 : 0 < M) : frD (p.s : Nat) p.g = frD (rlen sb M p : Nat) (sb * M) := by
  refine frD_of hg (Nat.mul_pos hb h0) ?_
  unfold rlen
  obtain ⟨c, hc⟩ := hM
  rw [hc, Nat.mul_div_cancel_left _ hg]
  simp only [Int.natCast_mul]
  grind
/-- the book's patterns are so that all times are parts of 1 / (sb * M) -/
structure BkM (b : Bk) (M : Nat) : Prop where
  nd : (b.ps.map Prod.fst).Nodup
  b0 : 0 < b.sb
  m0 : 0 < M
  sm : b.sb * M * (b.sb * M) < 1073741824
  ok : ∀ q ∈ b.ps, q.2.Ok ∧ q.2.g ∣ M
theorem BkM.at {b : Bk} {M : Nat} (h : BkM b M) {nm : List Nat} {p : Pt} (e : b.get nm = some p) : p.Ok ∧ p.g ∣ M := by
  unfold Bk.get at e
  obtain ⟨q, hq, rfl⟩ := Option.map_eq_some_iff.mp e
  exact h.ok q (List.mem_of_find?_eq_some hq)
theorem BkM.L0 {b : Bk} {M : Nat} (h : BkM b M) : 0 < b.sb * M := Nat.mul_pos h.b0 h.m0
theorem BkM.e_strikes {b : Bk} {M : Nat} (h : BkM b M) {nm : List Nat} {p : Pt} (e : b.get nm = some p) : n_strikes [bookD b, .str nm] = some (.tup ((stk b.sa b.sb M p).map (skD (b.sb * M)))) := by
  obtain ⟨ok, hd⟩ := h.at e
  have hle : b.sb * p.g ≤ b.sb * M := Nat.mul_le_mul_left _ (Nat.le_of_dvd h.m0 hd)
  have := Nat.mul_le_mul hle hle
  have := h.sm
  rw [Dn.e_strikes h.nd e ok h.b0 (by omega), stk_D h.b0 ok.g0 hd h.m0]
theorem BkM.e_beats {b : Bk} {M : Nat} (h : BkM b M) {nm : List Nat} {p : Pt} (e : b.get nm = some p) : n_beats [ptD p] = some (frD (rlen b.sb M p : Nat) (b.sb * M)) := by
  obtain ⟨ok, hd⟩ := h.at e
  have := ok.g1
  show n_beats [.tup [.int (p.s : Nat), .int (p.g : Nat), .tup (p.ps.map padD)]] = _
  rw [Dn.e_beats ok.g0 (by omega), beats_M h.b0 ok.g0 hd h.m0]
def tot (sb M : Nat) (ps : List Pt) : Nat := (ps.map (rlen sb M)).sum
def playL (sa sb M : Nat) : Nat → List Pt → List Stk
  | _, [] => []
  | u, p :: r => (stk sa sb M p).map (late u) ++ playL sa sb M (u + rlen sb M p) r
theorem playL_app (sa sb M : Nat) : ∀ (ps qs : List Pt) (u : Nat), playL sa sb M u (ps ++ qs) = playL sa sb M u ps ++ playL sa sb M (u + tot sb M ps) qs
  | [], qs, u => by simp [playL, tot]
  | p :: ps, qs, u => by
    rw [List.cons_append, playL, playL, playL_app sa sb M ps qs, List.append_assoc]
    congr 3
    unfold tot
    rw [List.map_cons, List.sum_cons]
    omega
theorem tot_app (sb M : Nat) (ps qs : List Pt) : tot sb M (ps ++ qs) = tot sb M ps + tot sb M qs := by
  unfold tot
  rw [List.map_append, List.sum_append]
/-- the patterns of a chain's rounds -/
def Gets (b : Bk) (ns : List (List Nat)) (ps : List Pt) : Prop := ns.map b.get = ps.map some
theorem gets_ex {b : Bk} : ∀ {ns : List (List Nat)}, (∀ n ∈ ns, n ∈ b.ps.map Prod.fst) → ∃ ps, Gets b ns ps
  | [], _ => ⟨[], rfl⟩
  | n :: ns, h => by
    obtain ⟨ps, e⟩ := gets_ex fun x hx => h x (List.mem_cons_of_mem _ hx)
    obtain ⟨p, e1, _⟩ := get_of (h n List.mem_cons_self)
    exact ⟨p :: ps, by unfold Gets at *; rw [List.map_cons, List.map_cons, e, e1]⟩
theorem gets_split {b : Bk} {p q : List (List Nat)} {n : List Nat} {ps : List Pt} (h : Gets b (p ++ n :: q) ps) : ∃ r x t, ps = r ++ x :: t ∧ Gets b p r ∧ b.get n = some x := by
  unfold Gets at h
  rw [List.map_append, List.map_cons] at h
  obtain ⟨l1, l2, h1, h2, h3⟩ := List.map_eq_append_iff.mp h.symm
  obtain ⟨x, t, rfl, h4, h5⟩ := List.map_eq_cons_iff.mp h3
  exact ⟨l1, x, t, h1, h2.symm, h4.symm⟩
theorem gets_len {b : Bk} {ns : List (List Nat)} {ps : List Pt} (h : Gets b ns ps) : ns.length = ps.length := by
  have := congrArg List.length h
  simpa using this
theorem gets_inj {b : Bk} {ns : List (List Nat)} {ps qs : List Pt} (h : Gets b ns ps) (h' : Gets b ns qs) : ps = qs := by
  unfold Gets at h h'
  rw [h] at h'
  exact (List.map_inj_right (f := some) (by simp)).mp h'
theorem e_length {b : Bk} {M : Nat} (hb : BkM b M) {c : List (List Nat × Nat)} {ps : List Pt} (h1 : c.length ≤ 100) (h2 : ∀ q ∈ c, q.2 ≤ 100) (hg : Gets b (rnds c) ps) : n_length [bookD b, chD c] = some (frD (tot b.sb M ps : Nat) (b.sb * M)) := by
  refine sem_rt rfl ?_
  show m_length [some (bookD b), some (chD c), none, none] = _
  unfold m_length
  refine w_ss (d := frD ((0 : Nat) : Int) (b.sb * M)) ?_ ?_
  · rw [frD_of (v := 0) (m := 1) hb.L0 (by decide) (by simp)]
    exact v_tup (ds := [.int 0, .int 1]) (by walk_at "dn") (show 2 ≤ sizeLine by decide)
  refine w_fst D.str (fun u : Nat => [(2, frD (u : Nat) (b.sb * M))]) [3] (fun p u => ∃ r, Gets b p r ∧ u = tot b.sb M r) (rnds c) 0 (v_itl (v_call (by walk_at "dn") (e_rounds h1 h2))) rfl ⟨[], rfl, rfl⟩ ?_ ?_
  · intro p n q u w hp ⟨r, hr, hu⟩
    rw [hp] at hg
    obtain ⟨r', x, t, e1, e2, e3⟩ := gets_split hg
    have := gets_inj hr e2
    subst this
    refine ⟨_, u + rlen b.sb M x, ⟨r ++ [x], ?_, ?_⟩, rfl, ?_⟩
    · unfold Gets at *
      rw [List.map_append, List.map_append, hr, List.map_singleton, List.map_singleton, e3]
    · rw [tot_app, hu]
      simp [tot]
    · apply en_w
      · refine w_set (v_call (v_cons (by walk_at "dn") (v_cons (v_call (v_cons (v_call (by walk_at "dn") (e_pattern_of hb.nd e3)) v_nil) (hb.e_beats e3)) v_nil)) (e_addn hb.L0 hb.sm)) rfl
      · rfl
  · intro u w ⟨r, hr, hu⟩
    have := gets_inj hg hr
    subst this hu
    exact ret_of (by walk_at "dn")
theorem playL_len {b : Bk} {M n : Nat} : ∀ {ps : List Pt} (u : Nat), (∀ p ∈ ps, (stk b.sa b.sb M p).length ≤ n) → (playL b.sa b.sb M u ps).length ≤ ps.length * n
  | [], u, _ => by simp [playL]
  | p :: ps, u, h => by
    rw [playL, List.length_append, List.length_map, List.length_cons, Nat.succ_mul]
    have := playL_len (ps := ps) (u + rlen b.sb M p) fun q hq => h q (List.mem_cons_of_mem _ hq)
    have := h p List.mem_cons_self
    omega
theorem gets_ok {b : Bk} {M : Nat} (hb : BkM b M) {ns : List (List Nat)} {ps : List Pt} (h : Gets b ns ps) : ∀ p ∈ ps, p.Ok ∧ p.g ∣ M := by
  intro p hp
  have : some p ∈ ns.map b.get := by
    rw [h]
    exact List.mem_map_of_mem hp
  obtain ⟨n, _, e⟩ := List.mem_map.mp this
  exact hb.at e
theorem e_played {b : Bk} {M : Nat} (hb : BkM b M) {c : List (List Nat × Nat)} {ps : List Pt} (h1 : c.length ≤ 100) (h2 : ∀ q ∈ c, q.2 ≤ 100) (hg : Gets b (rnds c) ps) (h3 : ps.length * 100 ≤ 100000) (h4 : ∀ p ∈ ps, p.s ≤ 16) : n_played [bookD b, chD c] = some (.tup ((playL b.sa b.sb M 0 ps).map (skD (b.sb * M)))) := by
  refine sem_rt rfl ?_
  show m_played [some (bookD b), some (chD c), none, none, none] = _
  unfold m_played
  have hbig : ∀ p : Pt, p.Ok → p.s ≤ 16 → (stk b.sa b.sb M p).length ≤ 100 := fun p ok hs => by
    have := stk_len b.sa b.sb M p
    have := Nat.mul_le_mul hs ok.few
    omega
  refine w_ss (d := frD ((0 : Nat) : Int) (b.sb * M)) ?_ ?_
  · rw [frD_of (v := 0) (m := 1) hb.L0 (by decide) (by simp)]
    exact v_tup (ds := [.int 0, .int 1]) (by walk_at "dn") (show 2 ≤ sizeLine by decide)
  refine w_ss (v_tup v_nil (by decide)) ?_
  refine w_fst D.str (fun x : Nat × List Stk => [(2, frD (x.1 : Nat) (b.sb * M)), (3, .tup (x.2.map (skD (b.sb * M))))]) [4] (fun p x => ∃ r, Gets b p r ∧ x.1 = tot b.sb M r ∧ x.2 = playL b.sa b.sb M 0 r) (rnds c) (0, []) (v_itl (v_call (by walk_at "dn") (e_rounds h1 h2))) rfl ⟨[], rfl, rfl, rfl⟩ ?_ ?_
  · rintro p n q ⟨u, acc⟩ w hp ⟨r, hr, hu, ha⟩
    simp only at hu ha
    rw [hp] at hg
    obtain ⟨r', x, t, e1, e2, e3⟩ := gets_split hg
    have := gets_inj hr e2
    subst this
    have hx : x ∈ ps := by rw [e1]; simp
    have okx := (hb.at e3).1
    have hxl := hbig x okx (h4 x hx)
    have hal : acc.length ≤ 100000 := by
      rw [ha]
      refine Nat.le_trans (playL_len (n := 100) 0 fun p hp' => ?_) ?_
      · exact hbig p ((gets_ok hb hr) p hp').1 (h4 p (by rw [e1]; simp [hp']))
      · have := congrArg List.length e1
        simp at this
        omega
    refine ⟨_, (u + rlen b.sb M x, acc ++ (stk b.sa b.sb M x).map (late u)), ⟨r ++ [x], ?_, ?_, ?_⟩, rfl, ?_⟩
    · unfold Gets at *
      rw [List.map_append, List.map_append, hr, List.map_singleton, List.map_singleton, e3]
    · show u + rlen b.sb M x = _
      rw [tot_app, hu]
      simp [tot]
    · show acc ++ _ = _
      rw [playL_app, ha, hu]
      simp [playL]
    · walk_at "dx"
      apply en_w
      · refine w_ss (v_2 (by walk_at "dn") (v_call (v_cons (v_call (by walk_at "dn") (hb.e_strikes e3)) (by walk_at "dn")) (e_moved hb.L0 hb.sm (by omega))) (add_t (by simp; omega))) ?_
        refine w_set (v_call (v_cons (by walk_at "dn") (v_cons (v_call (v_cons (v_call (by walk_at "dn") (e_pattern_of hb.nd e3)) v_nil) (hb.e_beats e3)) v_nil)) (e_addn hb.L0 hb.sm)) rfl
      · rw [List.map_append]
        rfl
  · rintro ⟨u, acc⟩ w ⟨r, hr, hu, ha⟩
    simp only at hu ha
    have := gets_inj hg hr
    subst this hu ha
    exact ret_of (by walk_at "dn")
end Dn
set_option Elab.async false
set_option linter.all false
set_option maxRecDepth 100000
/-! Patterns: is_finer, coarser. -/
namespace Dn
open PySem L2 PySem.Spec PyProof.Rows PySem.Builtin PySem.Builtin.Str
local macro_rules | `(tactic| walk_at "dg") => `(tactic| first
  | with_reducible exact add_i _ _ | with_reducible exact sub_i _ _ | ((with_reducible refine mul_i ?_); omega) | ((with_reducible refine fdiv_i ?_); omega) | ((with_reducible refine mod_i ?_); omega) | with_reducible exact neg_i _
  | with_reducible exact lt_i _ _ | with_reducible exact le_i _ _ | with_reducible exact gt_i _ _ | with_reducible exact ge_i _ _ | with_reducible exact eq_i _ _ | with_reducible exact ne_i _ _ | with_reducible exact eq_s _ _ | with_reducible exact ne_s _ _
  | ((with_reducible refine add_s ?_); omega) | ((with_reducible refine add_t ?_); omega) | ((with_reducible refine add_l ?_); omega) | ((with_reducible refine mul_s ?_); omega) | ((with_reducible refine mul_l ?_); omega)
  | ((with_reducible refine len_s ?_); omega) | with_reducible exact len_t _ | with_reducible exact len_l _ | with_reducible exact len_c _ | with_reducible exact int_b _ | with_reducible exact int_i _ | with_reducible exact abs_i _
  | ((with_reducible refine sl_s ?_); omega) | with_reducible exact sl_t _ _ _ | with_reducible exact sl_l _ _ _ | ((with_reducible apply ix_t); (· omega); (· rfl)) | ((with_reducible apply ix_l); (· omega); (· rfl)) | with_reducible assumption)
local macro_rules | `(tactic| walk_at "dc") => `(tactic| with_reducible assumption)
local macro_rules | `(tactic| walk_at "dn") => `(tactic| first
  | with_reducible exact v_c | with_reducible exact v_nil | with_reducible exact v_no
  | ((with_reducible apply v_var); (· rfl); (· rfl))
  | ((with_reducible apply v_2); (· walk_at "dn"); (· walk_at "dn"); (· walk_at "dg"))
  | ((with_reducible apply v_1); (· walk_at "dn"); (· walk_at "dg"))
  | ((with_reducible apply v_cons); (· walk_at "dn"); (· walk_at "dn"))
  | ((with_reducible apply v_blt); (· walk_at "dn"); (· walk_at "dg"))
  | ((with_reducible apply v_call); (· walk_at "dn"); (· walk_at "dc"))
  | ((with_reducible apply v_tup); (· walk_at "dn"); (· first | decide | (simp only [List.length_cons, List.length_nil]; decide)))
  | ((with_reducible apply v_lst); (· walk_at "dn"); (· first | decide | (simp only [List.length_cons, List.length_nil]; decide)))
  | ((with_reducible apply v_po); (· walk_at "dn"))
  | ((with_reducible apply v_sl); (· walk_at "dn"); (· walk_at "dn"); (· walk_at "dn"); (· walk_at "dg"))
  | ((with_reducible apply v_m1); (· walk_at "dn"); (· walk_at "dn"); (· walk_at "dg"))
  | ((with_reducible apply v_b); (· walk_at "dn"))
  | ((with_reducible apply v_not); (· walk_at "dn"))
  | ((with_reducible apply v_notV); (· walk_at "dn"))
  | ((with_reducible apply v_rng1); (· walk_at "dn"); (· omega))
  | ((with_reducible apply v_rng2); (· walk_at "dn"); (· omega))
  | ((with_reducible apply v_it); (· walk_at "dn"))
  | ((with_reducible apply v_itl); (· walk_at "dn"))
  | ((with_reducible apply v_its); (· walk_at "dn"))
  | with_reducible assumption)
local macro_rules | `(tactic| walk_at "dt") => `(tactic| first
  | with_reducible exact v_c | with_reducible exact v_nil | with_reducible exact v_no
  | ((with_reducible apply v_var); (· rfl); (· rfl))
  | ((with_reducible apply v_2) <;> walk_at "dt")
  | ((with_reducible apply v_1) <;> walk_at "dt")
  | ((with_reducible apply v_cons) <;> walk_at "dt")
  | ((with_reducible apply v_blt) <;> walk_at "dt")
  | ((with_reducible apply v_call) <;> walk_at "dt")
  | ((with_reducible apply v_tup) <;> walk_at "dt")
  | ((with_reducible apply v_lst) <;> walk_at "dt")
  | ((with_reducible apply v_po) <;> walk_at "dt")
  | ((with_reducible apply v_sl) <;> walk_at "dt")
  | ((with_reducible apply v_m1) <;> walk_at "dt")
  | ((with_reducible apply v_b) <;> walk_at "dt")
  | ((with_reducible apply v_notV) <;> walk_at "dt")
  | ((with_reducible apply v_not) <;> walk_at "dt")
  | ((with_reducible apply v_rng1) <;> first | omega | walk_at "dt")
  | ((with_reducible apply v_rng2) <;> first | omega | walk_at "dt")
  | walk_at "dg"
  | (show List.length _ ≤ sizeLine; first | decide | (simp only [List.length_cons, List.length_nil]; decide))
  | skip)
local macro_rules | `(tactic| walk_at "ds") => `(tactic| first
  | ((with_reducible apply w_ss) <;> first | walk_at "d1" | skip)
  | ((with_reducible apply w_r) <;> first | walk_at "d1" | skip)
  | ((with_reducible apply w_sp) <;> first | walk_at "d1" | skip)
  | ((with_reducible apply w_so) <;> first | walk_at "d1" | skip)
  | (with_reducible apply w_sv)
  | (with_reducible apply w_sq))
local macro_rules | `(tactic| walk_at "dx") => `(tactic| simp only [put, jn, List.set_cons_zero, List.set_cons_succ])
theorem fineL_get {m : Nat} (hm : 0 < m) : ∀ (row : List Nat) (j : Nat), (fineL row m).getD j 46 = if j % m = 0 then row.getD (j / m) 46 else 46
  | [], j => by
    show ([] : List Nat).getD j 46 = _
    simp
  | c :: r, j => by
    have e : fineL (c :: r) m = (c :: List.replicate (m - 1) 46) ++ fineL r m := by unfold fineL; rw [List.map_cons, List.flatten_cons]
    have hl : (c :: List.replicate (m - 1) 46).length = m := by rw [List.length_cons, List.length_replicate]; omega
    rw [e, List.getD_eq_getElem?_getD, List.getElem?_append, hl]
    by_cases hj : j < m
    · rw [if_pos hj, Nat.mod_eq_of_lt hj, Nat.div_eq_of_lt hj]
      cases j with
      | zero => rfl
      | succ i =>
        rw [if_neg (by omega), List.getElem?_cons_succ, List.getElem?_replicate, if_pos (by omega)]
        rfl
    · rw [if_neg hj, ← List.getD_eq_getElem?_getD, fineL_get hm r (j - m)]
      have h1 : j % m = (j - m) % m := Nat.mod_eq_sub_mod (by omega)
      have h2 : j / m = (j - m) / m + 1 := by rw [Nat.div_eq_sub_div hm (by omega)]
      rw [← h1, h2]
      rfl
/-- it is another one, m times finer -/
def Fine (p : Pt) (m : Nat) : Prop := m ∣ p.s ∧ m ∣ p.g ∧ ∀ q ∈ p.ps, ∀ i, i < q.2.length → ¬ m ∣ i → q.2.getD i 46 = 46
def fineB (p : Pt) (m : Nat) : Bool := decide (p.s % m = 0) && (decide (p.g % m = 0) && p.ps.all fun q => (List.range q.2.length).all fun i => decide (i % m = 0) || decide (q.2.getD i 46 = 46))
theorem fine_iff (p : Pt) (m : Nat) : fineB p m = true ↔ Fine p m := by
  unfold fineB Fine
  rw [Bool.and_eq_true, Bool.and_eq_true, decide_eq_true_eq, decide_eq_true_eq, List.all_eq_true, ← Nat.dvd_iff_mod_eq_zero, ← Nat.dvd_iff_mod_eq_zero]
  refine and_congr_right fun _ => and_congr_right fun _ => forall_congr' fun q => forall_congr' fun hq => ?_
  rw [List.all_eq_true]
  refine ⟨fun h i hi hn => ?_, fun h i hi => ?_⟩
  · have := h i (List.mem_range.mpr hi)
    rw [Bool.or_eq_true, decide_eq_true_eq, decide_eq_true_eq, ← Nat.dvd_iff_mod_eq_zero] at this
    exact this.resolve_left hn
  · rw [Bool.or_eq_true, decide_eq_true_eq, decide_eq_true_eq, ← Nat.dvd_iff_mod_eq_zero]
    by_cases q : m ∣ i
    · exact .inl q
    · exact .inr (h i (List.mem_range.mp hi) q)
theorem filter_all {α : Type} (k h : α → Bool) : ∀ xs : List α, ((xs.filter k).map h).all id = xs.all fun x => !k x || h x
  | [] => rfl
  | x :: xs => by
    have ih := filter_all k h xs
    cases hk : k x with
    | true => rw [List.filter_cons_of_pos hk, List.map_cons, List.all_cons, List.all_cons, ih, hk]; rfl
    | false => rw [List.filter_cons_of_neg (by rw [hk]; decide), List.all_cons, ih, hk]; rfl
theorem e_isfine {p : Pt} (ok : p.Ok) {m : Nat} (hm : 0 < m) : n_is_finer [ptD p, .int (m : Nat)] = some (.bl (fineB p m)) := by
  refine sem_rt rfl ?_
  show m_is_finer [some (ptD p), some (.int (m : Nat)), none, none, none, none, none, none, none] = _
  unfold m_is_finer
  have hA : fAsg (fV 0) (gT (gCons' (gN 2) (gCons' (gN 3) (gCons' (gN 4) gNil')))) [some (ptD p), some (.int (m : Nat)), none, none, none, none, none, none, none] = some (.nx [some (ptD p), some (.int (m : Nat)), some (.int (p.s : Nat)), some (.int (p.g : Nat)), some (.tup (p.ps.map padD)), none, none, none, none]) := rfl
  refine w_seq hA ?_
  have md : ∀ x : Nat, modD (.int (x : Nat)) (.int (m : Nat)) = some (.int ((x % m : Nat) : Int)) := fun x => by
    rw [mod_i (by omega)]
    simp
  have nz : ∀ x : Nat, neD (.int ((x % m : Nat) : Int)) (.int 0) = some (.bl (!decide (x % m = 0))) := fun x => by
    rw [ne_i]
    congr 3
    exact decide_eq_decide.mpr (by omega)
  have c1 : fB (f2 neD (f2 modD (fV 2) (fV 1)) (fC (.int 0))) [some (ptD p), some (.int (m : Nat)), some (.int (p.s : Nat)), some (.int (p.g : Nat)), some (.tup (p.ps.map padD)), none, none, none, none] = some (!decide (p.s % m = 0)) := v_b (v_2 (v_2 (by walk_at "dn") (by walk_at "dn") (md _)) v_c (nz _))
  have c2 : fB (f2 neD (f2 modD (fV 3) (fV 1)) (fC (.int 0))) [some (ptD p), some (.int (m : Nat)), some (.int (p.s : Nat)), some (.int (p.g : Nat)), some (.tup (p.ps.map padD)), none, none, none, none] = some (!decide (p.g % m = 0)) := v_b (v_2 (v_2 (by walk_at "dn") (by walk_at "dn") (md _)) v_c (nz _))
  unfold fineB
  by_cases h1 : p.s % m = 0
  · rw [decide_eq_true h1] at c1 ⊢
    by_cases h2 : p.g % m = 0
    · rw [decide_eq_true h2] at c2 ⊢
      rw [Bool.true_and, Bool.true_and]
      refine w_seq (w_iff (v_orf c1 c2) w_pass) (ret_of ?_)
      have hin : ∀ q ∈ p.ps, fBlt allG (fCons (fLc (fEnum (fV 6)) (gT (gCons' (gN 7) (gCons' (gN 8) gNil'))) (fB (f2 neD (f2 modD (fV 7) (fV 1)) (fC (.int 0)))) (f2 eqD (fV 8) (fC (.str [46]))) [7, 8]) fNil) [some (ptD p), some (.int (m : Nat)), some (.int (p.s : Nat)), some (.int (p.g : Nat)), some (.tup (p.ps.map padD)), some (.str [q.1]), some (.str q.2), none, none] = some (.bl ((List.range q.2.length).all fun i => decide (i % m = 0) || decide (q.2.getD i 46 = 46))) := fun q hq => by
        have hl := (ok.row q hq).1
        have := ok.s1
        refine v_blt (v_cons (lcw (r := (((List.range q.2.length).filter fun i => !decide (i % m = 0)).map fun i => decide (q.2.getD i 46 = 46)).map D.bl) (v_enum (by walk_at "dn") rfl) ?_ ?_) v_nil) ?_
        · rw [enum_at]
          simp
          omega
        · rw [enum_at, List.length_map, List.map_map]
          refine lc_filter (fun i : Nat => D.wk [.int (i : Nat), (q.2.map fun x => D.str [x]).getD i .non]) _ _ (List.range q.2.length) fun i hi => ?_
          rw [getD_signs (List.mem_range.mp hi)]
          refine ⟨[some (ptD p), some (.int (m : Nat)), some (.int (p.s : Nat)), some (.int (p.g : Nat)), some (.tup (p.ps.map padD)), some (.str [q.1]), some (.str q.2), some (.int (i : Nat)), some (.str [q.2.getD i 46])], rfl, v_b (v_2 (v_2 (by walk_at "dn") (by walk_at "dn") (md _)) v_c (nz _)), fun _ => v_2 (by walk_at "dn") v_c ?_⟩
          rw [eq_s]
          show _ = some (D.bl (decide (q.2.getD i 46 = 46)))
          congr 2
          exact decide_eq_decide.mpr ⟨fun h => (List.cons.inj h).1, fun h => by rw [h]⟩
        · rw [all_b, filter_all]
          simp
      refine v_blt (v_cons (lcw (r := (p.ps.map fun q => (List.range q.2.length).all fun i => decide (i % m = 0) || decide (q.2.getD i 46 = 46)).map D.bl) (v_it (by walk_at "dn")) (by rw [List.length_map]; have := ok.few; omega) ?_) v_nil) ?_
      · rw [List.map_map]
        exact lc_map padD _ _ fun q hq => ⟨[some (ptD p), some (.int (m : Nat)), some (.int (p.s : Nat)), some (.int (p.g : Nat)), some (.tup (p.ps.map padD)), some (.str [q.1]), some (.str q.2), none, none], rfl, hin q hq⟩
      · rw [all_b, List.all_map]
        rfl
    · rw [decide_eq_false h2] at c2 ⊢
      exact w_ret (w_ift (v_orf c1 c2) (ret_of v_c))
  · rw [decide_eq_false h1] at c1 ⊢
    exact w_ret (w_ift (v_ort c1) (ret_of v_c))
/-- K is the greatest one -/
def Most (p : Pt) (K : Nat) : Prop := 0 < K ∧ K ≤ p.s ∧ Fine p K ∧ ∀ m, 0 < m → m ≤ p.s → Fine p m → m ≤ K
def everyL (row : List Nat) (k : Nat) : List Nat := (List.range (row.length / k)).map fun i => row.getD (k * i) 46
theorem stride_every {row : List Nat} {k : Nat} (hk : 0 < k) (hd : k ∣ row.length) : stride row (k : Nat) = everyL row k := by
  obtain ⟨c, hc⟩ := hd
  have hpick : strSliceIndices none none (k : Int) row.length = (List.range c).map fun i => k * i := by
    unfold strSliceIndices sliceRange
    have hpos : (k : Int) > 0 := by omega
    simp only [hpos, if_true]
    have hcount : (if (0 : Int) < (row.length : Int) then ((row.length : Int) - 0 + (k : Int) - 1) / (k : Int) else 0).toNat = c := by
      by_cases h0 : (0 : Int) < (row.length : Int)
      · rw [if_pos h0]
        have : ((row.length : Int) - 0 + (k : Int) - 1) / (k : Int) = c := by
          rw [hc, Int.natCast_mul, show (k : Int) * (c : Int) - 0 + (k : Int) - 1 = ((k : Int) - 1) + (k : Int) * (c : Int) by omega, Int.add_mul_ediv_left _ _ (by omega), Int.ediv_eq_zero_of_lt (by omega) (by omega)]
          omega
        rw [this]
        simp
      · rw [if_neg h0]
        have : row.length = 0 := by omega
        rw [this] at hc
        rcases Nat.mul_eq_zero.mp hc.symm with h | h
        · omega
        · rw [h]
          rfl
    rw [hcount]
    apply List.map_congr_left
    intro i _
    have : (0 : Int) + (k : Int) * (i : Int) = ((k * i : Nat) : Int) := by simp
    rw [this, Int.toNat_natCast]
  unfold stride Txt.sliceBy slicePicked
  have hlen : (S row).length = row.length := S_len row
  show (if _ then S row else _ : Str).cps.toList = _
  have hdiv : row.length / k = c := by rw [hc, Nat.mul_div_cancel_left _ hk]
  by_cases h1 : k = 1
  · subst h1
    have hc1 : c = row.length := by omega
    rw [if_pos (by simp only [hlen]; show ((1 : Int) == 1 && (strSliceIndices none none ((1 : Nat) : Int) row.length).length == row.length) = true; rw [hpick]; simp [hc1])]
    unfold everyL
    rw [hdiv, hc1]
    refine List.ext_getElem (by simp [S]) fun i a1 a2 => ?_
    have a3 : i < row.length := by simpa using a2
    simp [S, List.getD_eq_getElem?_getD, a3]
  · rw [if_neg (by simp only [hlen]; intro q; rw [Bool.and_eq_true] at q; have := q.1; simp at this; omega)]
    simp only [hlen]
    show ((strSliceIndices none none (k : Int) row.length).filterMap ((S row).cps[·]?)).toArray.toList = _
    rw [hpick, filterMap_get, List.map_map]
    · unfold everyL
      rw [hdiv]
      show List.map _ _ = _
      apply List.map_congr_left
      intro i hi
      have hi := List.mem_range.mp hi
      have hlt : k * i < row.length := by rw [hc]; exact Nat.mul_lt_mul_of_pos_left hi hk
      simp [S, Array.getD, List.getD_eq_getElem?_getD, hlt]
    · intro x hx
      obtain ⟨i, hi, rfl⟩ := List.mem_map.mp hx
      have hi := List.mem_range.mp hi
      show k * i < (S row).cps.size
      have : (S row).cps.size = row.length := by simp [S]
      rw [this, hc]
      exact Nat.mul_lt_mul_of_pos_left hi hk
end Dn
set_option Elab.async false
set_option linter.all false
set_option maxRecDepth 100000
/-! Patterns: coarser. -/
namespace Dn
open PySem L2
local macro_rules | `(tactic| walk_at "dg") => `(tactic| first
  | with_reducible exact add_i _ _ | with_reducible exact sub_i _ _ | ((with_reducible refine mul_i ?_); omega) | ((with_reducible refine fdiv_i ?_); omega) | ((with_reducible refine mod_i ?_); omega) | with_reducible exact neg_i _
  | with_reducible exact lt_i _ _ | with_reducible exact le_i _ _ | with_reducible exact gt_i _ _ | with_reducible exact ge_i _ _ | with_reducible exact eq_i _ _ | with_reducible exact ne_i _ _ | with_reducible exact eq_s _ _ | with_reducible exact ne_s _ _
  | ((with_reducible refine add_s ?_); omega) | ((with_reducible refine add_t ?_); omega) | ((with_reducible refine add_l ?_); omega) | ((with_reducible refine mul_s ?_); omega) | ((with_reducible refine mul_l ?_); omega)
  | ((with_reducible refine len_s ?_); omega) | with_reducible exact len_t _ | with_reducible exact len_l _ | with_reducible exact len_c _ | with_reducible exact int_b _ | with_reducible exact int_i _ | with_reducible exact abs_i _
  | ((with_reducible refine sl_s ?_); omega) | with_reducible exact sl_t _ _ _ | with_reducible exact sl_l _ _ _ | ((with_reducible apply ix_t); (· omega); (· rfl)) | ((with_reducible apply ix_l); (· omega); (· rfl)) | with_reducible assumption)
local macro_rules | `(tactic| walk_at "dc") => `(tactic| with_reducible assumption)
local macro_rules | `(tactic| walk_at "dn") => `(tactic| first
  | with_reducible exact v_c | with_reducible exact v_nil | with_reducible exact v_no
  | ((with_reducible apply v_var); (· rfl); (· rfl))
  | ((with_reducible apply v_2); (· walk_at "dn"); (· walk_at "dn"); (· walk_at "dg"))
  | ((with_reducible apply v_1); (· walk_at "dn"); (· walk_at "dg"))
  | ((with_reducible apply v_cons); (· walk_at "dn"); (· walk_at "dn"))
  | ((with_reducible apply v_blt); (· walk_at "dn"); (· walk_at "dg"))
  | ((with_reducible apply v_call); (· walk_at "dn"); (· walk_at "dc"))
  | ((with_reducible apply v_tup); (· walk_at "dn"); (· first | decide | (simp only [List.length_cons, List.length_nil]; decide)))
  | ((with_reducible apply v_lst); (· walk_at "dn"); (· first | decide | (simp only [List.length_cons, List.length_nil]; decide)))
  | ((with_reducible apply v_po); (· walk_at "dn"))
  | ((with_reducible apply v_sl); (· walk_at "dn"); (· walk_at "dn"); (· walk_at "dn"); (· walk_at "dg"))
  | ((with_reducible apply v_m1); (· walk_at "dn"); (· walk_at "dn"); (· walk_at "dg"))
  | ((with_reducible apply v_b); (· walk_at "dn"))
  | ((with_reducible apply v_not); (· walk_at "dn"))
  | ((with_reducible apply v_notV); (· walk_at "dn"))
  | ((with_reducible apply v_rng1); (· walk_at "dn"); (· omega))
  | ((with_reducible apply v_rng2); (· walk_at "dn"); (· omega))
  | ((with_reducible apply v_it); (· walk_at "dn"))
  | ((with_reducible apply v_itl); (· walk_at "dn"))
  | ((with_reducible apply v_its); (· walk_at "dn"))
  | with_reducible assumption)
local macro_rules | `(tactic| walk_at "dt") => `(tactic| first
  | with_reducible exact v_c | with_reducible exact v_nil | with_reducible exact v_no
  | ((with_reducible apply v_var); (· rfl); (· rfl))
  | ((with_reducible apply v_2) <;> walk_at "dt")
  | ((with_reducible apply v_1) <;> walk_at "dt")
  | ((with_reducible apply v_cons) <;> walk_at "dt")
  | ((with_reducible apply v_blt) <;> walk_at "dt")
  | ((with_reducible apply v_call) <;> walk_at "dt")
  | ((with_reducible apply v_tup) <;> walk_at "dt")
  | ((with_reducible apply v_lst) <;> walk_at "dt")
  | ((with_reducible apply v_po) <;> walk_at "dt")
  | ((with_reducible apply v_sl) <;> walk_at "dt")
  | ((with_reducible apply v_m1) <;> walk_at "dt")
  | ((with_reducible apply v_b) <;> walk_at "dt")
  | ((with_reducible apply v_notV) <;> walk_at "dt")
  | ((with_reducible apply v_not) <;> walk_at "dt")
  | ((with_reducible apply v_rng1) <;> first | omega | walk_at "dt")
  | ((with_reducible apply v_rng2) <;> first | omega | walk_at "dt")
  | walk_at "dg"
  | (show List.length _ ≤ sizeLine; first | decide | (simp only [List.length_cons, List.length_nil]; decide))
  | skip)
local macro_rules | `(tactic| walk_at "ds") => `(tactic| first
  | ((with_reducible apply w_ss) <;> first | walk_at "d1" | skip)
  | ((with_reducible apply w_r) <;> first | walk_at "d1" | skip)
  | ((with_reducible apply w_sp) <;> first | walk_at "d1" | skip)
  | ((with_reducible apply w_so) <;> first | walk_at "d1" | skip)
  | (with_reducible apply w_sv)
  | (with_reducible apply w_sq))
local macro_rules | `(tactic| walk_at "dx") => `(tactic| simp only [put, jn, List.set_cons_zero, List.set_cons_succ])
def coarseP (p : Pt) (K : Nat) : Pt := ⟨p.s / K, p.g / K, p.ps.map fun q => (q.1, everyL q.2 K)⟩
theorem fine_one (p : Pt) : Fine p 1 := ⟨Nat.one_dvd _, Nat.one_dvd _, fun q _ i _ h => absurd (Nat.one_dvd i) h⟩
theorem fine_lcm {p : Pt} {a b : Nat} (ha : Fine p a) (hb : Fine p b) : Fine p (Nat.lcm a b) := by
  refine ⟨Nat.lcm_dvd ha.1 hb.1, Nat.lcm_dvd ha.2.1 hb.2.1, fun q hq i hi hn => ?_⟩
  by_cases h : a ∣ i
  · by_cases h' : b ∣ i
    · exact absurd (Nat.lcm_dvd h h') hn
    · exact hb.2.2 q hq i hi h'
  · exact ha.2.2 q hq i hi h
theorem most_div {p : Pt} {K m : Nat} (hs : 0 < p.s) (hK : Most p K) (hm : 0 < m) (h : Fine p m) : m ∣ K := by
  have h1 := fine_lcm hK.2.2.1 h
  have h2 : 0 < Nat.lcm K m := Nat.lcm_pos hK.1 hm
  have h3 := hK.2.2.2 _ h2 (Nat.le_of_dvd hs h1.1) h1
  have h4 : K ∣ Nat.lcm K m := Nat.dvd_lcm_left K m
  have h5 := Nat.le_of_dvd h2 h4
  have h6 : Nat.lcm K m = K := by omega
  rw [← h6]
  exact Nat.dvd_lcm_right K m
theorem most_ex {p : Pt} (hs : 0 < p.s) : ∃ K, Most p K ∧ ∀ (x : Int) (xs : List Int), (((List.range p.s).map fun i => i + 1).filter fun m => fineB p m).map (fun m : Nat => (m : Int)) = x :: xs → maxOf ltI x xs = (K : Nat) := by
  have hne : (((List.range p.s).map fun i => i + 1).filter fun m => fineB p m) ≠ [] := by
    intro q
    have : (1 : Nat) ∈ (((List.range p.s).map fun i => i + 1).filter fun m => fineB p m) := by
      rw [List.mem_filter, List.mem_map]
      exact ⟨⟨0, List.mem_range.mpr hs, rfl⟩, (fine_iff p 1).mpr (fine_one p)⟩
    rw [q] at this
    cases this
  cases e : (((List.range p.s).map fun i => i + 1).filter fun m => fineB p m).map (fun m : Nat => (m : Int)) with
  | nil =>
    rw [List.map_eq_nil_iff] at e
    exact absurd e hne
  | cons x xs =>
    have hmem := maxOf_mem ltI xs x
    have hge := maxOfI_ge xs x
    rw [← e] at hmem hge
    obtain ⟨K, hK, eK⟩ := List.mem_map.mp hmem
    rw [List.mem_filter, List.mem_map] at hK
    obtain ⟨⟨i, hi, rfl⟩, hf⟩ := hK
    have hi := List.mem_range.mp hi
    refine ⟨i + 1, ⟨by omega, by omega, (fine_iff p _).mp hf, fun m h1 h2 h3 => ?_⟩, fun x' xs' q => ?_⟩
    · have := hge (m : Int) (List.mem_map.mpr ⟨m, by
        rw [List.mem_filter, List.mem_map]
        exact ⟨⟨m - 1, List.mem_range.mpr (by omega), by omega⟩, (fine_iff p m).mpr h3⟩, rfl⟩)
      rw [← eK] at this
      omega
    · cases q
      exact eK.symm
theorem most_one {p : Pt} {K J : Nat} (h : Most p K) (h' : Most p J) : K = J := by
  have h1 := h.2.2.2 J h'.1 h'.2.1 h'.2.2.1
  have h2 := h'.2.2.2 K h.1 h.2.1 h.2.2.1
  omega
theorem e_coarser {p : Pt} (ok : p.Ok) : ∃ K, Most p K ∧ n_coarser [ptD p] = some (ptD (coarseP p K)) := by
  obtain ⟨K, hK, hmax⟩ := most_ex ok.s0
  have s0 := ok.s0
  have s1 := ok.s1
  refine ⟨K, hK, sem_rt rfl ?_⟩
  show m_coarser [some (ptD p), none, none, none, none, none, none] = _
  unfold m_coarser
  have hA : fAsg (fV 0) (gT (gCons' (gN 2) (gCons' (gN 3) (gCons' (gN 4) gNil')))) [some (ptD p), none, none, none, none, none, none] = some (.nx [some (ptD p), none, some (.int (p.s : Nat)), some (.int (p.g : Nat)), some (.tup (p.ps.map padD)), none, none]) := rfl
  refine w_seq hA ?_
  have hl : fLc (fRng2 (fCons (fC (.int 1)) (fCons (f2 addD (fV 2) (fC (.int 1))) fNil))) (gN 1) (fB (fCall n_is_finer (fCons (fV 0) (fCons (fV 1) fNil)))) (fV 1) [1] [some (ptD p), none, some (.int (p.s : Nat)), some (.int (p.g : Nat)), some (.tup (p.ps.map padD)), none, none] = some (.lst (((((List.range p.s).map fun i => i + 1).filter fun m => fineB p m).map (fun m : Nat => (m : Int))).map D.int)) := by
    refine lcw (ds := ((List.range p.s).map fun i => i + 1).map fun m : Nat => D.int (m : Nat)) ?_ (by simp; omega) ?_
    · refine Eq.trans (v_rng2 (m := 1) (n := (p.s : Int) + 1) (by walk_at "dn") (by omega)) ?_
      rw [show ((p.s : Int) + 1 - 1).toNat = p.s by omega, List.map_map]
      refine congrArg some (List.map_congr_left fun i _ => ?_)
      show D.int (1 + (i : Int)) = D.int ((i + 1 : Nat) : Int)
      congr 1
      omega
    · rw [List.map_map (f := fun m : Nat => (m : Int))]
      refine lc_filter (fun m : Nat => D.int (m : Nat)) (fun m => fineB p m) _ ((List.range p.s).map fun i => i + 1) fun m hm => ⟨[some (ptD p), some (.int (m : Nat)), some (.int (p.s : Nat)), some (.int (p.g : Nat)), some (.tup (p.ps.map padD)), none, none], rfl, ?_, fun _ => rfl⟩
      obtain ⟨i, _, rfl⟩ := List.mem_map.mp hm
      exact v_b (v_call (by walk_at "dn") (e_isfine ok (by omega)))
  have hmx : maxG [.lst (((((List.range p.s).map fun i => i + 1).filter fun m => fineB p m).map (fun m : Nat => (m : Int))).map D.int)] = some (.int (K : Nat)) := by
    cases e : (((List.range p.s).map fun i => i + 1).filter fun m => fineB p m).map (fun m : Nat => (m : Int)) with
    | nil =>
      rw [List.map_eq_nil_iff] at e
      have : K ∈ (((List.range p.s).map fun i => i + 1).filter fun m => fineB p m) := by
        rw [List.mem_filter, List.mem_map]
        exact ⟨⟨K - 1, List.mem_range.mpr (by have := hK.1; have := hK.2.1; omega), by have := hK.1; omega⟩, (fine_iff p K).mpr hK.2.2.1⟩
      rw [e] at this
      cases this
    | cons x xs => rw [max_i, hmax x xs e]
  refine w_seq (w_set (v_blt (v_cons hl v_nil) hmx) rfl) (ret_of ?_)
  have K0 := hK.1
  have Ks := hK.2.1
  have d1 : fdivD (.int (p.s : Nat)) (.int (K : Nat)) = some (.int ((p.s / K : Nat) : Int)) := by
    rw [fdiv_i (by omega)]
    simp
  have d2 : fdivD (.int (p.g : Nat)) (.int (K : Nat)) = some (.int ((p.g / K : Nat) : Int)) := by
    rw [fdiv_i (by omega)]
    simp
  have hr : fLc (fIt (fV 4)) (gT (gCons' (gN 5) (gCons' (gN 6) gNil'))) fYes (fTup (fCons (fV 5) (fCons (f2 slkD (fV 6) (fV 1)) fNil))) [5, 6] [some (ptD p), some (.int (K : Nat)), some (.int (p.s : Nat)), some (.int (p.g : Nat)), some (.tup (p.ps.map padD)), none, none] = some (.lst ((coarseP p K).ps.map padD)) := by
    refine lcw (v_it (by walk_at "dn")) (by rw [List.length_map]; have := ok.few; omega) ?_
    unfold coarseP
    rw [List.map_map]
    refine lc_map padD _ _ fun q hq => ⟨[some (ptD p), some (.int (K : Nat)), some (.int (p.s : Nat)), some (.int (p.g : Nat)), some (.tup (p.ps.map padD)), some (.str [q.1]), some (.str q.2)], rfl, ?_⟩
    obtain ⟨l1, l2⟩ := ok.row q hq
    have hs : slkD (.str q.2) (.int (K : Nat)) = some (.str (everyL q.2 K)) := by
      show (if q.2.length ≤ sizeLine ∧ (K : Int) ≠ 0 then _ else _) = _
      rw [if_pos ⟨by have := size1000; omega, by omega⟩, stride_every K0 (by rw [l1]; exact hK.2.2.1.1)]
    exact v_tup (ds := [.str [q.1], .str (everyL q.2 K)]) (v_cons (by walk_at "dn") (v_cons (v_2 (by walk_at "dn") (by walk_at "dn") hs) v_nil)) (show 2 ≤ sizeLine by decide)
  exact v_tup (ds := [.int ((p.s / K : Nat) : Int), .int ((p.g / K : Nat) : Int), .tup ((coarseP p K).ps.map padD)]) (v_cons (v_2 (by walk_at "dn") (by walk_at "dn") d1) (v_cons (v_2 (by walk_at "dn") (by walk_at "dn") d2) (v_cons (v_1 hr rfl) v_nil))) (show 3 ≤ sizeLine by decide)
theorem fine_of_fine {p : Pt} (h : ∀ q ∈ p.ps, q.2.length = p.s) {m : Nat} (hm : 0 < m) (k : Nat) : Fine (finerP p m) (m * k) ↔ Fine p k := by
  constructor
  · rintro ⟨h1, h2, h3⟩
    have e1 : m * k ∣ m * p.s := by rw [Nat.mul_comm m p.s]; exact h1
    have e2 : m * k ∣ m * p.g := by rw [Nat.mul_comm m p.g]; exact h2
    refine ⟨Nat.dvd_of_mul_dvd_mul_left hm e1, Nat.dvd_of_mul_dvd_mul_left hm e2, fun q hq i hi hn => ?_⟩
    have := h3 (q.1, fineL q.2 m) (List.mem_map.mpr ⟨q, hq, rfl⟩) (m * i) (by
      show m * i < (fineL q.2 m).length
      rw [fineL_len _ hm, Nat.mul_comm q.2.length m]
      exact Nat.mul_lt_mul_of_pos_left hi hm) (fun hd => hn (Nat.dvd_of_mul_dvd_mul_left hm hd))
    rw [show ((q.1, fineL q.2 m) : Nat × List Nat).2 = fineL q.2 m from rfl, fineL_get hm, Nat.mul_mod_right, if_pos rfl, Nat.mul_div_cancel_left _ hm] at this
    exact this
  · rintro ⟨h1, h2, h3⟩
    refine ⟨by show m * k ∣ p.s * m; rw [Nat.mul_comm p.s m]; exact Nat.mul_dvd_mul_left m h1, by show m * k ∣ p.g * m; rw [Nat.mul_comm p.g m]; exact Nat.mul_dvd_mul_left m h2, fun q hq i hi hn => ?_⟩
    obtain ⟨q', hq', rfl⟩ := List.mem_map.mp hq
    show (fineL q'.2 m).getD i 46 = 46
    rw [fineL_get hm]
    by_cases hz : i % m = 0
    · rw [if_pos hz]
      obtain ⟨j, hj⟩ := Nat.dvd_of_mod_eq_zero hz
      subst hj
      rw [Nat.mul_div_cancel_left _ hm]
      refine h3 q' hq' j ?_ fun hd => hn (Nat.mul_dvd_mul_left m hd)
      have hi : m * j < (fineL q'.2 m).length := hi
      rw [fineL_len _ hm, Nat.mul_comm q'.2.length m] at hi
      exact Nat.lt_of_mul_lt_mul_left hi
    · rw [if_neg hz]
theorem most_fine {p : Pt} (h : ∀ q ∈ p.ps, q.2.length = p.s) (hs : 0 < p.s) {m K : Nat} (hm : 0 < m) (hK : Most p K) : Most (finerP p m) (m * K) := by
  have hsm : 0 < (finerP p m).s := Nat.mul_pos hs hm
  refine ⟨Nat.mul_pos hm hK.1, ?_, (fine_of_fine h hm K).mpr hK.2.2.1, fun k k0 k1 k2 => ?_⟩
  · show m * K ≤ p.s * m
    rw [Nat.mul_comm p.s m]
    exact Nat.mul_le_mul_left m hK.2.1
  · obtain ⟨J, hJ, _⟩ := most_ex hsm
    have hmf : Fine (finerP p m) m := by
      have := (fine_of_fine h hm 1).mpr (fine_one p)
      rwa [Nat.mul_one] at this
    obtain ⟨j, hj⟩ := most_div hsm hJ hm hmf
    have hJf := hJ.2.2.1
    rw [hj] at hJf
    have hjf := (fine_of_fine h hm j).mp hJf
    have j0 : 0 < j := by
      rcases Nat.eq_zero_or_pos j with z | z
      · rw [z, Nat.mul_zero] at hj
        have := hJ.1
        omega
      · exact z
    have hjK := hK.2.2.2 j j0 (Nat.le_of_dvd hs hjf.1) hjf
    have h1 := hJ.2.2.2 k k0 k1 k2
    have h2 := Nat.mul_le_mul_left m hjK
    omega
theorem every_fine {row : List Nat} {m K : Nat} (hm : 0 < m) (hK : 0 < K) (hd : K ∣ row.length) : everyL (fineL row m) (m * K) = everyL row K := by
  obtain ⟨c, hc⟩ := hd
  unfold everyL
  have e1 : (fineL row m).length / (m * K) = c := by
    rw [fineL_len _ hm, hc, Nat.mul_comm (K * c) m, ← Nat.mul_assoc]
    exact Nat.mul_div_cancel_left c (Nat.mul_pos hm hK)
  have e2 : row.length / K = c := by rw [hc]; exact Nat.mul_div_cancel_left c hK
  rw [e1, e2]
  refine List.map_congr_left fun i _ => ?_
  rw [fineL_get hm, Nat.mul_assoc, Nat.mul_mod_right, if_pos rfl, Nat.mul_div_cancel_left _ hm]
theorem coarse_fine {p : Pt} (h : ∀ q ∈ p.ps, q.2.length = p.s) {m K : Nat} (hm : 0 < m) (hK : Most p K) : coarseP (finerP p m) (m * K) = coarseP p K := by
  unfold coarseP finerP
  have e1 : p.s * m / (m * K) = p.s / K := by rw [Nat.mul_comm p.s m, Nat.mul_div_mul_left _ _ hm]
  have e2 : p.g * m / (m * K) = p.g / K := by rw [Nat.mul_comm p.g m, Nat.mul_div_mul_left _ _ hm]
  simp only [e1, e2, List.map_map]
  congr 1
  refine List.map_congr_left fun q hq => ?_
  show (q.1, everyL (fineL q.2 m) (m * K)) = (q.1, everyL q.2 K)
  rw [every_fine hm hK.1 (by rw [h q hq]; exact hK.2.2.1.1)]
end Dn
set_option Elab.async false
set_option linter.all false
set_option maxRecDepth 100000
/-! Patterns: turning, counts. -/
namespace Dn
open PySem L2
theorem mul_mod {m n r x : Int} (hm : 0 < m) (hn : 0 < n) (h0 : 0 ≤ r) (h1 : r < m) : (m * x + r) % (m * n) = m * (x % n) + r := by
  have e : m * x + r = (m * (x % n) + r) + (m * n) * (x / n) := by
    have := Int.emod_add_mul_ediv x n
    conv => lhs; rw [← this]
    rw [Int.mul_add, Int.mul_assoc]
    omega
  have a0 := Int.emod_nonneg x (show n ≠ 0 by omega)
  have a1 := Int.emod_lt_of_pos x hn
  have b0 : 0 ≤ m * (x % n) := Int.mul_nonneg (by omega) a0
  have b1 : m * (x % n) ≤ m * (n - 1) := Int.mul_le_mul_of_nonneg_left (by omega) (by omega)
  rw [Int.mul_sub, Int.mul_one] at b1
  rw [e, Int.add_mul_emod_self_left]
  exact Int.emod_eq_of_lt (by omega) (by omega)
theorem fine_rot {row : List Nat} (h : 0 < row.length) {m : Nat} (hm : 0 < m) (b : Int) : fineL (rotL row b) m = rotL (fineL row m) (b * m) := by
  refine row_ext (by rw [fineL_len _ hm, rot_len, rot_len, fineL_len _ hm]) fun j hj => ?_
  rw [fineL_len _ hm, rot_len] at hj
  have hja : j / m < row.length := Nat.div_lt_of_lt_mul (by rw [Nat.mul_comm]; exact hj)
  rw [rot_get (b * m) (by rw [fineL_len _ hm]; exact hj), fineL_len _ hm, fineL_get hm, fineL_get hm, rot_get b hja]
  obtain ⟨k, hk, hk2⟩ := mod_at h (((j / m : Nat) : Int) - b)
  have hr := Nat.mod_lt j hm
  have ej : ((j : Int) - b * m) = (m : Int) * (((j / m : Nat) : Int) - b) + ((j % m : Nat) : Int) := by
    have := Nat.div_add_mod j m
    have h2 : (j : Int) = (m : Int) * ((j / m : Nat) : Int) + ((j % m : Nat) : Int) := by
      rw [← Int.natCast_mul, ← Int.natCast_add, this]
    conv => lhs; rw [h2]
    rw [Int.mul_sub, Int.mul_comm b m]
    omega
  have et : ((j : Int) - b * m) % ((row.length * m : Nat) : Int) = ((m * k + j % m : Nat) : Int) := by
    rw [ej, Int.natCast_mul, Int.mul_comm (row.length : Int) (m : Int), mul_mod (by omega) (by omega) (by omega) (by omega), ← hk, Int.natCast_add, Int.natCast_mul]
  rw [et, Int.toNat_natCast, Nat.mul_add_mod, Nat.mod_mod, Nat.mul_add_div hm, Nat.div_eq_of_lt hr, Nat.add_zero, ← hk, Int.toNat_natCast]
theorem fineL_row {row : List Nat} (h : isRow row) (m : Nat) : isRow (fineL row m) := by
  intro c hc
  unfold fineL at hc
  obtain ⟨l, hl, hcl⟩ := List.mem_flatten.mp hc
  obtain ⟨d, hd, rfl⟩ := List.mem_map.mp hl
  rcases List.mem_cons.mp hcl with rfl | q
  · exact h c hd
  · exact .inl (List.eq_of_mem_replicate q)
theorem fineL_count {c : Nat} (hc : c ≠ 46) (m : Nat) : ∀ row : List Nat, (fineL row m).count c = row.count c
  | [] => rfl
  | d :: r => by
    have e : fineL (d :: r) m = (d :: List.replicate (m - 1) 46) ++ fineL r m := by unfold fineL; rw [List.map_cons, List.flatten_cons]
    rw [e, List.count_append, fineL_count hc m r, List.count_cons, List.count_cons, List.count_replicate, if_neg (by simpa using fun h => hc h.symm)]
    omega
theorem row_len {l : List Nat} (h : isRow l) : (l.length : Int) - (l.count 120 : Nat) - (l.count 46 : Nat) = (l.count 88 : Nat) := by
  induction l with
  | nil => rfl
  | cons c r ih =>
    have ih := ih fun d hd => h d (List.mem_cons_of_mem _ hd)
    rcases h c List.mem_cons_self with rfl | rfl | rfl <;> simp [List.count_cons] <;> omega
def cnt (p : Pt) (c : Nat) : Nat := (p.ps.map fun q => q.2.count c).sum
theorem cnt_marks (p : Pt) (c : Nat) : (marksP p).count c = cnt p c := by
  unfold marksP cnt
  rw [List.count_flatten, List.map_map]
  rfl
theorem loud_eq {p : Pt} (h : ∀ q ∈ p.ps, isRow q.2) : loudD p = .tup [.int (cnt p 120 : Nat), .int (cnt p 88 : Nat)] := by
  have hr : isRow (marksP p) := by
    intro c hc
    unfold marksP at hc
    obtain ⟨l, hl, hcl⟩ := List.mem_flatten.mp hc
    obtain ⟨q, hq, rfl⟩ := List.mem_map.mp hl
    exact h q hq c hcl
  unfold loudD
  rw [row_len hr, cnt_marks, cnt_marks]
theorem cnt_fine (p : Pt) {c : Nat} (hc : c ≠ 46) (m : Nat) : cnt (finerP p m) c = cnt p c := by
  unfold cnt finerP
  rw [List.map_map]
  congr 1
  exact List.map_congr_left fun q _ => fineL_count hc m q.2
theorem cnt_turn (p : Pt) (c : Nat) (b : Int) : cnt (turnP p b) c = cnt p c := by
  unfold cnt turnP
  rw [List.map_map]
  congr 1
  exact List.map_congr_left fun q _ => (rot_perm q.2 b).count_eq c
theorem cnt_parts (c : Nat) (f : Nat × List Nat → Nat) : ∀ (ps : List (Nat × List Nat)), (∀ q ∈ ps, q.1 ∈ letters) → (letters.map fun l => ((ps.filter fun q => decide (q.1 ∈ [l])).map f).sum).sum = (ps.map f).sum
  | [], _ => rfl
  | q :: ps, h => by
    have ih := cnt_parts c f ps fun x hx => h x (List.mem_cons_of_mem _ hx)
    have hq := h q List.mem_cons_self
    simp only [letters, List.map_cons, List.map_nil, List.sum_cons, List.sum_nil, List.filter_cons, List.mem_singleton] at ih hq ⊢
    rw [← ih]
    simp only [List.mem_cons, List.not_mem_nil, or_false] at hq
    rcases hq with e | e | e | e | e <;> simp [e] <;> omega
end Dn
set_option Elab.async false
set_option linter.all false
set_option maxRecDepth 100000
/-! Strikes: counts, parts, equality. -/
namespace Dn
open PySem L2
local macro_rules | `(tactic| walk_at "dg") => `(tactic| first
  | with_reducible exact add_i _ _ | with_reducible exact sub_i _ _ | ((with_reducible refine mul_i ?_); omega) | ((with_reducible refine fdiv_i ?_); omega) | ((with_reducible refine mod_i ?_); omega) | with_reducible exact neg_i _
  | with_reducible exact lt_i _ _ | with_reducible exact le_i _ _ | with_reducible exact gt_i _ _ | with_reducible exact ge_i _ _ | with_reducible exact eq_i _ _ | with_reducible exact ne_i _ _ | with_reducible exact eq_s _ _ | with_reducible exact ne_s _ _
  | ((with_reducible refine add_s ?_); omega) | ((with_reducible refine add_t ?_); omega) | ((with_reducible refine add_l ?_); omega) | ((with_reducible refine mul_s ?_); omega) | ((with_reducible refine mul_l ?_); omega)
  | ((with_reducible refine len_s ?_); omega) | with_reducible exact len_t _ | with_reducible exact len_l _ | with_reducible exact len_c _ | with_reducible exact int_b _ | with_reducible exact int_i _ | with_reducible exact abs_i _
  | ((with_reducible refine sl_s ?_); omega) | with_reducible exact sl_t _ _ _ | with_reducible exact sl_l _ _ _ | ((with_reducible apply ix_t); (· omega); (· rfl)) | ((with_reducible apply ix_l); (· omega); (· rfl)) | with_reducible assumption)
local macro_rules | `(tactic| walk_at "dc") => `(tactic| with_reducible assumption)
local macro_rules | `(tactic| walk_at "dn") => `(tactic| first
  | with_reducible exact v_c | with_reducible exact v_nil | with_reducible exact v_no
  | ((with_reducible apply v_var); (· rfl); (· rfl))
  | ((with_reducible apply v_2); (· walk_at "dn"); (· walk_at "dn"); (· walk_at "dg"))
  | ((with_reducible apply v_1); (· walk_at "dn"); (· walk_at "dg"))
  | ((with_reducible apply v_cons); (· walk_at "dn"); (· walk_at "dn"))
  | ((with_reducible apply v_blt); (· walk_at "dn"); (· walk_at "dg"))
  | ((with_reducible apply v_call); (· walk_at "dn"); (· walk_at "dc"))
  | ((with_reducible apply v_tup); (· walk_at "dn"); (· first | decide | (simp only [List.length_cons, List.length_nil]; decide)))
  | ((with_reducible apply v_lst); (· walk_at "dn"); (· first | decide | (simp only [List.length_cons, List.length_nil]; decide)))
  | ((with_reducible apply v_po); (· walk_at "dn"))
  | ((with_reducible apply v_sl); (· walk_at "dn"); (· walk_at "dn"); (· walk_at "dn"); (· walk_at "dg"))
  | ((with_reducible apply v_m1); (· walk_at "dn"); (· walk_at "dn"); (· walk_at "dg"))
  | ((with_reducible apply v_b); (· walk_at "dn"))
  | ((with_reducible apply v_not); (· walk_at "dn"))
  | ((with_reducible apply v_notV); (· walk_at "dn"))
  | ((with_reducible apply v_rng1); (· walk_at "dn"); (· omega))
  | ((with_reducible apply v_rng2); (· walk_at "dn"); (· omega))
  | ((with_reducible apply v_it); (· walk_at "dn"))
  | ((with_reducible apply v_itl); (· walk_at "dn"))
  | ((with_reducible apply v_its); (· walk_at "dn"))
  | with_reducible assumption)
local macro_rules | `(tactic| walk_at "dt") => `(tactic| first
  | with_reducible exact v_c | with_reducible exact v_nil | with_reducible exact v_no
  | ((with_reducible apply v_var); (· rfl); (· rfl))
  | ((with_reducible apply v_2) <;> walk_at "dt")
  | ((with_reducible apply v_1) <;> walk_at "dt")
  | ((with_reducible apply v_cons) <;> walk_at "dt")
  | ((with_reducible apply v_blt) <;> walk_at "dt")
  | ((with_reducible apply v_call) <;> walk_at "dt")
  | ((with_reducible apply v_tup) <;> walk_at "dt")
  | ((with_reducible apply v_lst) <;> walk_at "dt")
  | ((with_reducible apply v_po) <;> walk_at "dt")
  | ((with_reducible apply v_sl) <;> walk_at "dt")
  | ((with_reducible apply v_m1) <;> walk_at "dt")
  | ((with_reducible apply v_b) <;> walk_at "dt")
  | ((with_reducible apply v_notV) <;> walk_at "dt")
  | ((with_reducible apply v_not) <;> walk_at "dt")
  | ((with_reducible apply v_rng1) <;> first | omega | walk_at "dt")
  | ((with_reducible apply v_rng2) <;> first | omega | walk_at "dt")
  | walk_at "dg"
  | (show List.length _ ≤ sizeLine; first | decide | (simp only [List.length_cons, List.length_nil]; decide))
  | skip)
local macro_rules | `(tactic| walk_at "ds") => `(tactic| first
  | ((with_reducible apply w_ss) <;> first | walk_at "d1" | skip)
  | ((with_reducible apply w_r) <;> first | walk_at "d1" | skip)
  | ((with_reducible apply w_sp) <;> first | walk_at "d1" | skip)
  | ((with_reducible apply w_so) <;> first | walk_at "d1" | skip)
  | (with_reducible apply w_sv)
  | (with_reducible apply w_sq))
local macro_rules | `(tactic| walk_at "dx") => `(tactic| simp only [put, jn, List.set_cons_zero, List.set_cons_succ])
theorem okN_sk (L n : Nat) (x : Stk) : okN (n + 2) (skD L x) = true := by
  show ([frD (x.1 : Nat) L, .str [x.2.1], .bl x.2.2].all fun y => okN (n + 1) y) = true
  rw [List.all_cons, ok_frD]
  cases n <;> rfl
theorem ok_sks (L : Nat) (xs : List Stk) : okN 60 (.tup (xs.map (skD L))) = true := okN_all (skD L) 59 (okN_sk L 57) xs
theorem ok_skl (L : Nat) (xs : List Stk) : okN 60 (.lst (xs.map (skD L))) = true := okN_all (skD L) 59 (okN_sk L 57) xs
theorem range_map {α : Type} (f : Nat → α) : ∀ row : List Nat, (List.range row.length).map (fun k => f (row.getD k 46)) = row.map f
  | [] => rfl
  | c :: r => by
    rw [List.length_cons, List.range_succ_eq_map, List.map_cons, List.map_map, List.map_cons, ← range_map f r]
    rfl
theorem sum_swap {α β : Type} (f : α → β → Nat) (ys : List β) : ∀ xs : List α, (xs.map fun x => (ys.map fun y => f x y).sum).sum = (ys.map fun y => (xs.map fun x => f x y).sum).sum
  | [] => by
    simp only [List.map_nil, List.sum_nil]
    induction ys with
    | nil => rfl
    | cons y ys ih => rw [List.map_cons, List.sum_cons, ← ih]; rfl
  | x :: xs => by
    rw [List.map_cons, List.sum_cons, sum_swap f ys xs]
    clear sum_swap
    induction ys with
    | nil => rfl
    | cons y ys ih =>
      simp only [List.map_cons, List.sum_cons] at ih ⊢
      omega
theorem count_all : ∀ {row : List Nat}, isRow row → (row.map fun c => if c = 46 then 0 else 1).sum = row.count 120 + row.count 88
  | [], _ => rfl
  | c :: r, h => by
    have ih := count_all (row := r) fun d hd => h d (List.mem_cons_of_mem _ hd)
    rw [List.map_cons, List.sum_cons, ih, List.count_cons, List.count_cons]
    rcases h c List.mem_cons_self with rfl | rfl | rfl <;> simp <;> omega
theorem count_strong : ∀ {row : List Nat}, (row.map fun c => if c = 88 then 1 else 0).sum = row.count 88
  | [] => rfl
  | c :: r => by
    rw [List.map_cons, List.sum_cons, count_strong (row := r), List.count_cons]
    by_cases h : c = 88
    · subst h; simp; omega
    · rw [if_neg h]
      have : (c == 88) = false := by simpa using h
      rw [this]
      simp
theorem flat_filter {α β : Type} (P : β → Bool) (f : α → List β) : ∀ xs : List α, (((xs.map f).flatten).filter P).length = (xs.map fun x => ((f x).filter P).length).sum
  | [] => rfl
  | x :: xs => by
    rw [List.map_cons, List.flatten_cons, List.filter_append, List.length_append, flat_filter P f xs, List.map_cons, List.sum_cons]
theorem sum_congr {α : Type} {f g : α → Nat} {xs : List α} (h : ∀ x ∈ xs, f x = g x) : (xs.map f).sum = (xs.map g).sum := by rw [List.map_congr_left h]
/-- how many strikes there are with P, if it looks at the mark alone -/
theorem stk_count {sa sb : Nat} {p : Pt} (P : Stk → Bool) (w : Nat → Nat) (hw : ∀ (t pad c : Nat), (if c = 46 then 0 else if P (t, pad, decide (c = 88)) = true then 1 else 0) = w c) (hr : ∀ q ∈ p.ps, q.2.length = p.s) : ((stk0 sa sb p).filter P).length = (p.ps.map fun q => (q.2.map w).sum).sum := by
  unfold stk0
  rw [flat_filter]
  have h1 : ∀ k ∈ List.range p.s, ((stkAt sa sb p k).filter P).length = (p.ps.map fun q => w (q.2.getD k 46)).sum := fun k _ => by
    unfold stkAt
    rw [flat_filter]
    refine sum_congr fun q _ => ?_
    rw [← hw (stT sa sb p.s k) q.1 (q.2.getD k 46)]
    unfold stk1
    by_cases h : q.2.getD k 46 = 46
    · rw [if_pos h, if_pos h]
      rfl
    · rw [if_neg h, if_neg h, List.filter_cons]
      split <;> simp
  rw [sum_congr h1, sum_swap]
  refine sum_congr fun q hq => ?_
  rw [← hr q hq, range_map]
theorem stk_len_all {sa sb : Nat} {p : Pt} (hr : ∀ q ∈ p.ps, q.2.length = p.s ∧ isRow q.2) : (stk0 sa sb p).length = cnt p 120 + cnt p 88 := by
  have := stk_count (sa := sa) (sb := sb) (p := p) (fun _ => true) (fun c => if c = 46 then 0 else 1) (fun t pad c => by simp) fun q hq => (hr q hq).1
  rw [List.filter_eq_self.mpr (fun _ _ => rfl)] at this
  rw [this]
  unfold cnt
  rw [sum_congr fun q hq => count_all (hr q hq).2]
  generalize p.ps = ps
  clear this hr
  induction ps with
  | nil => rfl
  | cons q ps ih =>
    simp only [List.map_cons, List.sum_cons] at ih ⊢
    omega
theorem stk_len_strong {sa sb : Nat} {p : Pt} (hr : ∀ q ∈ p.ps, q.2.length = p.s) : ((stk0 sa sb p).filter fun x => x.2.2).length = cnt p 88 := by
  rw [stk_count (fun x => x.2.2) (fun c => if c = 88 then 1 else 0) (fun t pad c => ?_) hr]
  · unfold cnt
    exact sum_congr fun q _ => count_strong
  · by_cases h : c = 46
    · subst h; rfl
    · rw [if_neg h]
      by_cases h2 : c = 88
      · subst h2; rfl
      · simp [h2]
/-- of some pads alone -/
theorem stk_only {sa sb : Nat} {p : Pt} (l : List Nat) : stk0 sa sb (onlyP p l) = (stk0 sa sb p).filter fun x => decide (x.2.1 ∈ l) := by
  unfold stk0
  rw [List.filter_flatten, List.map_map]
  show ((List.range p.s).map _).flatten = _
  congr 1
  refine List.map_congr_left fun k _ => ?_
  show stkAt sa sb (onlyP p l) k = (stkAt sa sb p k).filter _
  unfold stkAt onlyP
  rw [List.filter_flatten, List.map_map]
  show ((p.ps.filter fun q => decide (q.1 ∈ l)).map (stk1 sa sb _ k)).flatten = _
  generalize p.ps = ps
  induction ps with
  | nil => rfl
  | cons q ps ih =>
    rw [List.map_cons, List.flatten_cons, ← ih, List.filter_cons]
    have e : ∀ h : q.1 ∈ l, ((stk1 sa sb p k q).filter fun x => decide (x.2.1 ∈ l)) = stk1 sa sb p k q := fun h => by
      unfold stk1
      split
      · rfl
      · simp [h]
    have e' : ∀ h : ¬ q.1 ∈ l, ((stk1 sa sb p k q).filter fun x => decide (x.2.1 ∈ l)) = [] := fun h => by
      unfold stk1
      split
      · rfl
      · simp [h]
    by_cases h : q.1 ∈ l
    · rw [if_pos (by simpa using h), List.map_cons, List.flatten_cons]
      congr 1
      exact (e h).symm
    · rw [if_neg (by simpa using h)]
      show _ = (List.filter _ (stk1 sa sb p k q)) ++ _
      rw [e' h, List.nil_append]
theorem get_mem {b : Bk} (hn : (b.ps.map Prod.fst).Nodup) {q : List Nat × Pt} (h : q ∈ b.ps) : b.get q.1 = some q.2 := by
  unfold Bk.get
  generalize b.ps = ps at *
  induction ps with
  | nil => cases h
  | cons x ps ih =>
    rw [List.map_cons, List.nodup_cons] at hn
    by_cases e : x.1 = q.1
    · rw [List.find?_cons_of_pos (by simpa using e)]
      rcases List.mem_cons.mp h with rfl | h
      · rfl
      · exact absurd (by rw [e]; exact List.mem_map_of_mem h) hn.1
    · rw [List.find?_cons_of_neg (by simpa using e)]
      rcases List.mem_cons.mp h with rfl | h
      · exact absurd rfl e
      · exact ih hn.2 h
theorem Bk.Drawn.bkM {b : Bk} (d : b.Drawn) : BkM b 12 := by
  refine ⟨d.nodup, d.sw.b0, by decide, ?_, fun q hq => ⟨(d.pat q hq).ok, ?_⟩⟩
  · have := d.sw.b1
    have h : b.sb * 12 ≤ 144 := by omega
    have := Nat.mul_le_mul h h
    omega
  · have h0 := (d.pat q hq).g0
    have h1 := (d.pat q hq).g1
    have : q.2.g = 1 ∨ q.2.g = 2 ∨ q.2.g = 3 ∨ q.2.g = 4 := by omega
    rcases this with e | e | e | e <;> rw [e] <;> decide
theorem turn_full {p : Pt} (hr : ∀ q ∈ p.ps, q.2.length = p.s) (j : Int) : turnP p ((p.s : Nat) * j) = p := by
  have : (p.ps.map fun q => (q.1, rotL q.2 ((p.s : Nat) * j))) = p.ps := by
    conv => rhs; rw [← List.map_id p.ps]
    refine List.map_congr_left fun q hq => ?_
    show (q.1, rotL q.2 ((p.s : Nat) * j)) = q
    rw [rot_congr q.2 (b := 0) (by rw [hr q hq, Int.mul_emod_right, Int.zero_emod]), rot_zero]
  unfold turnP
  rw [this]
end Dn
set_option Elab.async false
set_option linter.all false
set_option maxRecDepth 100000
/-! Ticks; the order of strikes. -/
namespace Dn
open PySem L2
local macro_rules | `(tactic| walk_at "dg") => `(tactic| first
  | with_reducible exact add_i _ _ | with_reducible exact sub_i _ _ | ((with_reducible refine mul_i ?_); omega) | ((with_reducible refine fdiv_i ?_); omega) | ((with_reducible refine mod_i ?_); omega) | with_reducible exact neg_i _
  | with_reducible exact lt_i _ _ | with_reducible exact le_i _ _ | with_reducible exact gt_i _ _ | with_reducible exact ge_i _ _ | with_reducible exact eq_i _ _ | with_reducible exact ne_i _ _ | with_reducible exact eq_s _ _ | with_reducible exact ne_s _ _
  | ((with_reducible refine add_s ?_); omega) | ((with_reducible refine add_t ?_); omega) | ((with_reducible refine add_l ?_); omega) | ((with_reducible refine mul_s ?_); omega) | ((with_reducible refine mul_l ?_); omega)
  | ((with_reducible refine len_s ?_); omega) | with_reducible exact len_t _ | with_reducible exact len_l _ | with_reducible exact len_c _ | with_reducible exact int_b _ | with_reducible exact int_i _ | with_reducible exact abs_i _
  | ((with_reducible refine sl_s ?_); omega) | with_reducible exact sl_t _ _ _ | with_reducible exact sl_l _ _ _ | ((with_reducible apply ix_t); (· omega); (· rfl)) | ((with_reducible apply ix_l); (· omega); (· rfl)) | with_reducible assumption)
local macro_rules | `(tactic| walk_at "dc") => `(tactic| with_reducible assumption)
local macro_rules | `(tactic| walk_at "dn") => `(tactic| first
  | with_reducible exact v_c | with_reducible exact v_nil | with_reducible exact v_no
  | ((with_reducible apply v_var); (· rfl); (· rfl))
  | ((with_reducible apply v_2); (· walk_at "dn"); (· walk_at "dn"); (· walk_at "dg"))
  | ((with_reducible apply v_1); (· walk_at "dn"); (· walk_at "dg"))
  | ((with_reducible apply v_cons); (· walk_at "dn"); (· walk_at "dn"))
  | ((with_reducible apply v_blt); (· walk_at "dn"); (· walk_at "dg"))
  | ((with_reducible apply v_call); (· walk_at "dn"); (· walk_at "dc"))
  | ((with_reducible apply v_tup); (· walk_at "dn"); (· first | decide | (simp only [List.length_cons, List.length_nil]; decide)))
  | ((with_reducible apply v_lst); (· walk_at "dn"); (· first | decide | (simp only [List.length_cons, List.length_nil]; decide)))
  | ((with_reducible apply v_po); (· walk_at "dn"))
  | ((with_reducible apply v_sl); (· walk_at "dn"); (· walk_at "dn"); (· walk_at "dn"); (· walk_at "dg"))
  | ((with_reducible apply v_m1); (· walk_at "dn"); (· walk_at "dn"); (· walk_at "dg"))
  | ((with_reducible apply v_b); (· walk_at "dn"))
  | ((with_reducible apply v_not); (· walk_at "dn"))
  | ((with_reducible apply v_notV); (· walk_at "dn"))
  | ((with_reducible apply v_rng1); (· walk_at "dn"); (· omega))
  | ((with_reducible apply v_rng2); (· walk_at "dn"); (· omega))
  | ((with_reducible apply v_it); (· walk_at "dn"))
  | ((with_reducible apply v_itl); (· walk_at "dn"))
  | ((with_reducible apply v_its); (· walk_at "dn"))
  | with_reducible assumption)
local macro_rules | `(tactic| walk_at "dt") => `(tactic| first
  | with_reducible exact v_c | with_reducible exact v_nil | with_reducible exact v_no
  | ((with_reducible apply v_var); (· rfl); (· rfl))
  | ((with_reducible apply v_2) <;> walk_at "dt")
  | ((with_reducible apply v_1) <;> walk_at "dt")
  | ((with_reducible apply v_cons) <;> walk_at "dt")
  | ((with_reducible apply v_blt) <;> walk_at "dt")
  | ((with_reducible apply v_call) <;> walk_at "dt")
  | ((with_reducible apply v_tup) <;> walk_at "dt")
  | ((with_reducible apply v_lst) <;> walk_at "dt")
  | ((with_reducible apply v_po) <;> walk_at "dt")
  | ((with_reducible apply v_sl) <;> walk_at "dt")
  | ((with_reducible apply v_m1) <;> walk_at "dt")
  | ((with_reducible apply v_b) <;> walk_at "dt")
  | ((with_reducible apply v_notV) <;> walk_at "dt")
  | ((with_reducible apply v_not) <;> walk_at "dt")
  | ((with_reducible apply v_rng1) <;> first | omega | walk_at "dt")
  | ((with_reducible apply v_rng2) <;> first | omega | walk_at "dt")
  | walk_at "dg"
  | (show List.length _ ≤ sizeLine; first | decide | (simp only [List.length_cons, List.length_nil]; decide))
  | skip)
local macro_rules | `(tactic| walk_at "ds") => `(tactic| first
  | ((with_reducible apply w_ss) <;> first | walk_at "d1" | skip)
  | ((with_reducible apply w_r) <;> first | walk_at "d1" | skip)
  | ((with_reducible apply w_sp) <;> first | walk_at "d1" | skip)
  | ((with_reducible apply w_so) <;> first | walk_at "d1" | skip)
  | (with_reducible apply w_sv)
  | (with_reducible apply w_sq))
local macro_rules | `(tactic| walk_at "dx") => `(tactic| simp only [put, jn, List.set_cons_zero, List.set_cons_succ])
def tick (rate L t : Nat) : Nat := (2 * rate * t + L) / (2 * L)
def tkD (x : Nat × Nat × Bool) : D := .tup [.int (x.1 : Nat), .str [x.2.1], .bl x.2.2]
def tickS (rate L : Nat) (x : Stk) : Nat × Nat × Bool := (tick rate L x.1, x.2)
theorem tick_raw {a : Int} {b L t rate : Nat} (hb : 0 < b) (hL : 0 < L) (h : a * L = (t : Nat) * b) : (2 * (rate : Nat) * a + (b : Nat)) / (2 * (b : Nat)) = ((tick rate L t : Nat) : Int) := by
  unfold tick
  rw [Int.natCast_ediv]
  simp only [Int.natCast_add, Int.natCast_mul]
  have p1 : (0 : Int) < (L : Int) := by omega
  have p2 : (0 : Int) < (b : Int) := by omega
  rw [← Int.mul_ediv_mul_of_pos_left (2 * (rate : Int) * a + b) (2 * (b : Int)) p1]
  rw [← Int.mul_ediv_mul_of_pos_left (((2 : Nat) : Int) * rate * t + L) (((2 : Nat) : Int) * L) p2]
  have e1 : (2 * (rate : Int) * a + b) * L = (((2 : Nat) : Int) * rate * t + L) * b := by
    have : (2 * (rate : Int) * a + b) * L = 2 * (rate : Int) * (a * L) + b * L := by grind
    rw [this, h]
    grind
  have e2 : 2 * (b : Int) * L = ((2 : Nat) : Int) * L * b := by grind
  rw [e1, e2]
theorem e_in_ticks {L rate : Nat} {xs : List Stk} (hL : 0 < L) (hL2 : L < 536870912) (hr : rate < 1000000) (hx : xs.length ≤ 1000000) : n_in_ticks [.tup (xs.map (skD L)), .int (rate : Nat)] = some (.tup ((xs.map (tickS rate L)).map tkD)) := by
  refine sem_rt rfl ?_
  show m_in_ticks [some (.tup (xs.map (skD L))), some (.int (rate : Nat)), none, none, none] = _
  unfold m_in_ticks
  refine ret_of (v_1 (lcw (v_it (by walk_at "dn")) (by rw [List.length_map]; exact hx) ?_) rfl)
  rw [List.map_map]
  refine lc_map (skD L) _ _ fun x _ => ⟨[some (.tup (xs.map (skD L))), some (.int (rate : Nat)), some (frD (x.1 : Nat) L), some (.str [x.2.1]), some (.bl x.2.2)], rfl, ?_⟩
  obtain ⟨a, b, e1, b0, b1, e2, e3, _⟩ := frD_parts ((x.1 : Nat) : Int) hL
  rw [e1]
  refine v_tup (ds := [.int ((tick rate L x.1 : Nat) : Int), .str [x.2.1], .bl x.2.2]) (v_cons ?_ (by walk_at "dn")) (show 3 ≤ sizeLine by decide)
  rw [← tick_raw (rate := rate) b0 hL e2]
  exact v_2 (v_2 (v_2 (v_2 v_c (by walk_at "dn") (mul_i (by omega))) (v_2 (by walk_at "dn") v_c rfl) (mul_i (by omega))) (v_2 (by walk_at "dn") v_c rfl) (add_i _ _)) (v_2 v_c (v_2 (by walk_at "dn") v_c rfl) (mul_i (by omega))) (fdiv_i (by omega))
theorem okN_tk (n : Nat) (x : Nat × Nat × Bool) : okN (n + 1) (tkD x) = true := by
  show ([D.int (x.1 : Nat), .str [x.2.1], .bl x.2.2].all fun y => okN n y) = true
  cases n <;> rfl
theorem ok_tks (xs : List (Nat × Nat × Bool)) : okN 60 (.tup (xs.map tkD)) = true := okN_all tkD 59 (okN_tk 58) xs
/-! order -/
theorem stT_lt {sa sb s k : Nat} (hs : 0 < s) (w : Swg sa sb) : stT sa sb s k < stT sa sb s (k + 1) := by
  have e : ∀ k, ∃ B o, k = B + o ∧ o ≤ 1 ∧ stT sa sb s k = B * sb + o * (2 * sa) := fun k => by
    refine ⟨k / s * s + (k % s - k % s % 2), k % s % 2, ?_, by omega, ?_⟩
    · have := Nat.div_add_mod' k s
      have := Nat.mod_le (k % s) 2
      omega
    · unfold stT
      by_cases h : k % s % 2 = 1
      · rw [if_pos h, h, Nat.one_mul]
      · rw [if_neg h, show k % s % 2 = 0 by omega, Nat.zero_mul]
  obtain ⟨B, o, h1, h2, h3⟩ := e k
  obtain ⟨B', o', h1', h2', h3'⟩ := e (k + 1)
  have := w.hi
  have := w.lo
  have := w.b0
  rw [h3, h3']
  have c1 : o = 0 ∨ o = 1 := by omega
  have c2 : o' = 0 ∨ o' = 1 := by omega
  rcases c1 with rfl | rfl <;> rcases c2 with rfl | rfl
  · have : B' = B + 1 := by omega
    subst this
    rw [Nat.add_mul, Nat.one_mul]
    omega
  · have : B' = B := by omega
    subst this
    omega
  · have : B' = B + 2 := by omega
    subst this
    rw [Nat.add_mul]
    omega
  · have : B' = B + 1 := by omega
    subst this
    rw [Nat.add_mul, Nat.one_mul]
    omega
theorem stT_mono {sa sb s : Nat} (hs : 0 < s) (w : Swg sa sb) {j k : Nat} (h : j < k) : stT sa sb s j < stT sa sb s k := by
  induction k with
  | zero => omega
  | succ k ih =>
    have := stT_lt (k := k) hs w
    by_cases e : j = k
    · subst e; exact this
    · have := ih (by omega)
      omega
theorem stT_s {sa sb s : Nat} (hs : 0 < s) : stT sa sb s s = s * sb := by
  unfold stT
  rw [Nat.div_self hs, Nat.mod_self]
  simp
def SkLt (x y : Stk) : Prop := x.1 < y.1 ∨ (x.1 = y.1 ∧ x.2.1 < y.2.1)
theorem stkAt_mem {sa sb : Nat} {p : Pt} {k : Nat} {x : Stk} (h : x ∈ stkAt sa sb p k) : x.1 = stT sa sb p.s k ∧ x.2.1 ∈ p.ps.map Prod.fst := by
  unfold stkAt at h
  obtain ⟨l, hl, hx⟩ := List.mem_flatten.mp h
  obtain ⟨q, hq, rfl⟩ := List.mem_map.mp hl
  unfold stk1 at hx
  split at hx
  · cases hx
  · have : x = _ := List.mem_singleton.mp hx
    rw [this]
    exact ⟨rfl, List.mem_map_of_mem hq⟩
theorem stkAt_rises {sa sb : Nat} {p : Pt} {k : Nat} : ∀ {ps : List (Nat × List Nat)}, (ps.map Prod.fst).Pairwise (· < ·) → ((ps.map (stk1 sa sb p k)).flatten).Pairwise SkLt
  | [], _ => by simp
  | q :: ps, h => by
    rw [List.map_cons, List.pairwise_cons] at h
    rw [List.map_cons, List.flatten_cons, List.pairwise_append]
    refine ⟨?_, stkAt_rises h.2, fun x hx y hy => ?_⟩
    · unfold stk1
      split <;> simp
    · unfold stk1 at hx
      split at hx
      · cases hx
      · have ex : x = _ := List.mem_singleton.mp hx
        obtain ⟨l, hl, hy⟩ := List.mem_flatten.mp hy
        obtain ⟨q', hq', rfl⟩ := List.mem_map.mp hl
        unfold stk1 at hy
        split at hy
        · cases hy
        · have ey : y = _ := List.mem_singleton.mp hy
          rw [ex, ey]
          exact .inr ⟨rfl, h.1 q'.1 (List.mem_map_of_mem hq')⟩
theorem stk0_rises {sa sb : Nat} {p : Pt} (hs : 0 < p.s) (w : Swg sa sb) (hp : (p.ps.map Prod.fst).Pairwise (· < ·)) : (stk0 sa sb p).Pairwise SkLt := by
  unfold stk0
  generalize hn : p.s = n
  rw [hn] at hs
  have key : ∀ m, (((List.range m).map (stkAt sa sb p)).flatten).Pairwise SkLt ∧ ∀ x ∈ ((List.range m).map (stkAt sa sb p)).flatten, ∃ k, k < m ∧ x.1 = stT sa sb p.s k := by
    intro m
    induction m with
    | zero => simp
    | succ m ih =>
      rw [List.range_succ, List.map_append, List.map_singleton, List.flatten_append, List.flatten_singleton]
      refine ⟨List.pairwise_append.mpr ⟨ih.1, stkAt_rises hp, fun x hx y hy => ?_⟩, fun x hx => ?_⟩
      · obtain ⟨k, hk, ek⟩ := ih.2 x hx
        refine .inl ?_
        rw [ek, (stkAt_mem hy).1]
        exact stT_mono (by rw [hn]; exact hs) w hk
      · rcases List.mem_append.mp hx with hx | hx
        · obtain ⟨k, hk, ek⟩ := ih.2 x hx
          exact ⟨k, by omega, ek⟩
        · exact ⟨m, by omega, (stkAt_mem hx).1⟩
  exact (key n).1
theorem stk0_mem {sa sb : Nat} {p : Pt} {x : Stk} (h : x ∈ stk0 sa sb p) : ∃ k, k < p.s ∧ x.1 = stT sa sb p.s k := by
  unfold stk0 at h
  obtain ⟨l, hl, hx⟩ := List.mem_flatten.mp h
  obtain ⟨k, hk, rfl⟩ := List.mem_map.mp hl
  exact ⟨k, List.mem_range.mp hk, (stkAt_mem hx).1⟩
theorem stk_rises {sa sb M : Nat} {p : Pt} (hs : 0 < p.s) (hg : 0 < p.g) (hM : p.g ∣ M) (h0 : 0 < M) (w : Swg sa sb) (hp : (p.ps.map Prod.fst).Pairwise (· < ·)) : (stk sa sb M p).Pairwise SkLt := by
  have hc : 0 < M / p.g := Nat.div_pos (Nat.le_of_dvd h0 hM) hg
  unfold stk
  rw [List.pairwise_map]
  refine (stk0_rises hs w hp).imp fun {a b} h => ?_
  rcases h with h | ⟨h, h'⟩
  · exact .inl (Nat.mul_lt_mul_of_pos_right h hc)
  · exact .inr ⟨by show a.1 * _ = b.1 * _; rw [h], h'⟩
theorem stk_lt {sa sb M : Nat} {p : Pt} (hs : 0 < p.s) (hg : 0 < p.g) (hM : p.g ∣ M) (h0 : 0 < M) (w : Swg sa sb) {x : Stk} (hx : x ∈ stk sa sb M p) : x.1 < rlen sb M p := by
  have hc : 0 < M / p.g := Nat.div_pos (Nat.le_of_dvd h0 hM) hg
  unfold stk at hx
  obtain ⟨y, hy, rfl⟩ := List.mem_map.mp hx
  obtain ⟨k, hk, ek⟩ := stk0_mem hy
  show y.1 * (M / p.g) < _
  unfold rlen
  rw [ek, ← Nat.mul_assoc]
  refine Nat.mul_lt_mul_of_pos_right ?_ hc
  rw [← stT_s (sa := sa) (sb := sb) hs]
  exact stT_mono hs w hk
theorem playL_rises {sa sb M : Nat} (w : Swg sa sb) (h0 : 0 < M) : ∀ {ps : List Pt} (u : Nat), (∀ p ∈ ps, 0 < p.s ∧ 0 < p.g ∧ p.g ∣ M ∧ (p.ps.map Prod.fst).Pairwise (· < ·)) →
    (playL sa sb M u ps).Pairwise SkLt ∧ ∀ x ∈ playL sa sb M u ps, u ≤ x.1 ∧ x.1 < u + tot sb M ps
  | [], u, _ => by simp [playL]
  | p :: ps, u, h => by
    obtain ⟨s0, g0, gM, hp⟩ := h p List.mem_cons_self
    obtain ⟨i1, i2⟩ := playL_rises w h0 (ps := ps) (u + rlen sb M p) fun q hq => h q (List.mem_cons_of_mem _ hq)
    have et : tot sb M (p :: ps) = rlen sb M p + tot sb M ps := by unfold tot; rw [List.map_cons, List.sum_cons]
    have hl : ∀ x ∈ (stk sa sb M p).map (late u), u ≤ x.1 ∧ x.1 < u + rlen sb M p := fun x hx => by
      obtain ⟨y, hy, rfl⟩ := List.mem_map.mp hx
      have := stk_lt s0 g0 gM h0 w hy
      show u ≤ u + y.1 ∧ u + y.1 < _
      omega
    rw [playL, et]
    refine ⟨List.pairwise_append.mpr ⟨?_, i1, fun x hx y hy => .inl ?_⟩, fun x hx => ?_⟩
    · rw [List.pairwise_map]
      refine (stk_rises s0 g0 gM h0 w hp).imp fun {a b} q => ?_
      rcases q with q | ⟨q, q'⟩
      · exact .inl (by show u + a.1 < u + b.1; omega)
      · exact .inr ⟨by show u + a.1 = u + b.1; omega, q'⟩
    · have := (hl x hx).2
      have := (i2 y hy).1
      omega
    · rcases List.mem_append.mp hx with hx | hx
      · have := hl x hx
        omega
      · have := i2 x hx
        omega
theorem playL_late {sa sb M : Nat} : ∀ (ps : List Pt) (u v : Nat), (playL sa sb M u ps).map (late v) = playL sa sb M (v + u) ps
  | [], u, v => rfl
  | p :: ps, u, v => by
    rw [playL, playL, List.map_append, playL_late ps, List.map_map, Nat.add_assoc]
    congr 1
    refine List.map_congr_left fun x _ => ?_
    show (v + (u + x.1), x.2) = (v + u + x.1, x.2)
    rw [Nat.add_assoc]
theorem late_zero (xs : List Stk) : xs.map (late 0) = xs := by
  conv => rhs; rw [← List.map_id xs]
  refine List.map_congr_left fun x _ => ?_
  show (0 + x.1, x.2) = x
  rw [Nat.zero_add]
theorem letters_rise : letters.Pairwise (· < ·) := by decide
theorem Pt.Drawn.rise {p : Pt} (h : p.Drawn) : (p.ps.map Prod.fst).Pairwise (· < ·) := List.Pairwise.sublist h.sub letters_rise
end Dn
set_option Elab.async false
set_option linter.all false
set_option maxRecDepth 100000
/-! Chains cut, strikes side by side. -/
namespace Dn
open PySem L2
local macro_rules | `(tactic| walk_at "dg") => `(tactic| first
  | with_reducible exact add_i _ _ | with_reducible exact sub_i _ _ | ((with_reducible refine mul_i ?_); omega) | ((with_reducible refine fdiv_i ?_); omega) | ((with_reducible refine mod_i ?_); omega) | with_reducible exact neg_i _
  | with_reducible exact lt_i _ _ | with_reducible exact le_i _ _ | with_reducible exact gt_i _ _ | with_reducible exact ge_i _ _ | with_reducible exact eq_i _ _ | with_reducible exact ne_i _ _ | with_reducible exact eq_s _ _ | with_reducible exact ne_s _ _
  | ((with_reducible refine add_s ?_); omega) | ((with_reducible refine add_t ?_); omega) | ((with_reducible refine add_l ?_); omega) | ((with_reducible refine mul_s ?_); omega) | ((with_reducible refine mul_l ?_); omega)
  | ((with_reducible refine len_s ?_); omega) | with_reducible exact len_t _ | with_reducible exact len_l _ | with_reducible exact len_c _ | with_reducible exact int_b _ | with_reducible exact int_i _ | with_reducible exact abs_i _
  | ((with_reducible refine sl_s ?_); omega) | with_reducible exact sl_t _ _ _ | with_reducible exact sl_l _ _ _ | ((with_reducible apply ix_t); (· omega); (· rfl)) | ((with_reducible apply ix_l); (· omega); (· rfl)) | with_reducible assumption)
local macro_rules | `(tactic| walk_at "dc") => `(tactic| with_reducible assumption)
local macro_rules | `(tactic| walk_at "dn") => `(tactic| first
  | with_reducible exact v_c | with_reducible exact v_nil | with_reducible exact v_no
  | ((with_reducible apply v_var); (· rfl); (· rfl))
  | ((with_reducible apply v_2); (· walk_at "dn"); (· walk_at "dn"); (· walk_at "dg"))
  | ((with_reducible apply v_1); (· walk_at "dn"); (· walk_at "dg"))
  | ((with_reducible apply v_cons); (· walk_at "dn"); (· walk_at "dn"))
  | ((with_reducible apply v_blt); (· walk_at "dn"); (· walk_at "dg"))
  | ((with_reducible apply v_call); (· walk_at "dn"); (· walk_at "dc"))
  | ((with_reducible apply v_tup); (· walk_at "dn"); (· first | decide | (simp only [List.length_cons, List.length_nil]; decide)))
  | ((with_reducible apply v_lst); (· walk_at "dn"); (· first | decide | (simp only [List.length_cons, List.length_nil]; decide)))
  | ((with_reducible apply v_po); (· walk_at "dn"))
  | ((with_reducible apply v_sl); (· walk_at "dn"); (· walk_at "dn"); (· walk_at "dn"); (· walk_at "dg"))
  | ((with_reducible apply v_m1); (· walk_at "dn"); (· walk_at "dn"); (· walk_at "dg"))
  | ((with_reducible apply v_b); (· walk_at "dn"))
  | ((with_reducible apply v_not); (· walk_at "dn"))
  | ((with_reducible apply v_notV); (· walk_at "dn"))
  | ((with_reducible apply v_rng1); (· walk_at "dn"); (· omega))
  | ((with_reducible apply v_rng2); (· walk_at "dn"); (· omega))
  | ((with_reducible apply v_it); (· walk_at "dn"))
  | ((with_reducible apply v_itl); (· walk_at "dn"))
  | ((with_reducible apply v_its); (· walk_at "dn"))
  | with_reducible assumption)
local macro_rules | `(tactic| walk_at "dt") => `(tactic| first
  | with_reducible exact v_c | with_reducible exact v_nil | with_reducible exact v_no
  | ((with_reducible apply v_var); (· rfl); (· rfl))
  | ((with_reducible apply v_2) <;> walk_at "dt")
  | ((with_reducible apply v_1) <;> walk_at "dt")
  | ((with_reducible apply v_cons) <;> walk_at "dt")
  | ((with_reducible apply v_blt) <;> walk_at "dt")
  | ((with_reducible apply v_call) <;> walk_at "dt")
  | ((with_reducible apply v_tup) <;> walk_at "dt")
  | ((with_reducible apply v_lst) <;> walk_at "dt")
  | ((with_reducible apply v_po) <;> walk_at "dt")
  | ((with_reducible apply v_sl) <;> walk_at "dt")
  | ((with_reducible apply v_m1) <;> walk_at "dt")
  | ((with_reducible apply v_b) <;> walk_at "dt")
  | ((with_reducible apply v_notV) <;> walk_at "dt")
  | ((with_reducible apply v_not) <;> walk_at "dt")
  | ((with_reducible apply v_rng1) <;> first | omega | walk_at "dt")
  | ((with_reducible apply v_rng2) <;> first | omega | walk_at "dt")
  | walk_at "dg"
  | (show List.length _ ≤ sizeLine; first | decide | (simp only [List.length_cons, List.length_nil]; decide))
  | skip)
local macro_rules | `(tactic| walk_at "ds") => `(tactic| first
  | ((with_reducible apply w_ss) <;> first | walk_at "d1" | skip)
  | ((with_reducible apply w_r) <;> first | walk_at "d1" | skip)
  | ((with_reducible apply w_sp) <;> first | walk_at "d1" | skip)
  | ((with_reducible apply w_so) <;> first | walk_at "d1" | skip)
  | (with_reducible apply w_sv)
  | (with_reducible apply w_sq))
local macro_rules | `(tactic| walk_at "dx") => `(tactic| simp only [put, jn, List.set_cons_zero, List.set_cons_succ])
theorem e_laddn {u v l : Nat} (hl : 0 < l) (h : l * l < 1073741824) : n__law_add [frD (u : Nat) l, frD (v : Nat) l] = some (frD ((u + v : Nat) : Int) l) := by
  rw [e_ladd1 hl h, Int.natCast_add]
theorem e_lundern {u v l : Nat} (hl : 0 < l) (h : l < 1073741824) : n__law_under [frD (u : Nat) l, frD (v : Nat) l] = some (.bl (decide (u < v))) := by
  rw [e_lunder1 hl h]
  congr 2
  exact decide_eq_decide.mpr (by omega)
theorem eq_frn {u v l : Nat} (hl : 0 < l) : eqD (frD (u : Nat) l) (frD (v : Nat) l) = some (.bl (decide (u = v))) := by
  rw [eq_fr _ _ hl hl]
  congr 2
  refine decide_eq_decide.mpr ⟨fun h => ?_, fun h => by rw [h]⟩
  have := Int.eq_of_mul_eq_mul_right (show (l : Int) ≠ 0 by omega) h
  omega
theorem sl_to {α : Type} (f : α → D) (xs : List α) (n : Nat) : slD (.tup (xs.map f)) none (some (n : Int)) = some (.tup ((xs.take n).map f)) := by
  rw [sl_t, cut_to, List.map_take]
theorem sl_from {α : Type} (f : α → D) (xs : List α) (n : Nat) : slD (.tup (xs.map f)) (some (n : Int)) none = some (.tup ((xs.drop n).map f)) := by
  rw [sl_t, cut_from, List.map_drop]
theorem cut_last {α : Type} (xs : List α) : cut xs none (some (-1)) = xs.take (xs.length - 1) := by
  unfold cut
  rw [HT.sIx_none, List.drop_zero, Nat.sub_zero]
  congr 1
  unfold HT.sIx
  cases xs with
  | nil => rfl
  | cons x xs =>
    simp
    try omega
theorem sl_last {α : Type} (f : α → D) (xs : List α) : slD (.tup (xs.map f)) none (some (-1)) = some (.tup ((xs.take (xs.length - 1)).map f)) := by
  rw [sl_t, cut_last, List.map_take, List.length_map]
theorem zip_maps {α β : Type} (f : α → D) (g : β → D) : ∀ (xs : List α) (ys : List β), zip2D (xs.map f) (ys.map g) = (xs.zip ys).map fun p => D.wk [f p.1, g p.2]
  | [], ys => by simp [zip2D]
  | x :: xs, [] => by simp [zip2D]
  | x :: xs, y :: ys => by
    have ih := zip_maps f g xs ys
    unfold zip2D at ih ⊢
    rw [List.map_cons, List.map_cons, List.zipWith_cons_cons, ih]
    rfl
theorem zip_next {α : Type} {R : α → α → Prop} {xs : List α} (h : xs.Pairwise R) {x y : α} (hm : (x, y) ∈ (xs.take (xs.length - 1)).zip (xs.drop 1)) : R x y ∧ x ∈ xs ∧ y ∈ xs := by
  obtain ⟨i, hi, e⟩ := List.getElem_of_mem hm
  rw [List.getElem_zip] at e
  simp at e hi
  obtain ⟨e1, e2⟩ := e
  have := List.pairwise_iff_getElem.mp h i (i + 1) (by omega) (by omega) (by omega)
  rw [e1, e2] at this
  exact ⟨this, by rw [← e1]; exact List.getElem_mem _, by rw [← e2]; exact List.getElem_mem _⟩
theorem rnds_app (c d : List (List Nat × Nat)) : rnds (c ++ d) = rnds c ++ rnds d := by
  unfold rnds
  rw [List.map_append, List.flatten_append]
theorem gets_app {b : Bk} {ns ms : List (List Nat)} {ps qs : List Pt} (h : Gets b ns ps) (h' : Gets b ms qs) : Gets b (ns ++ ms) (ps ++ qs) := by
  unfold Gets at *
  rw [List.map_append, List.map_append, h, h']
theorem gets_rep {b : Bk} {nm : List Nat} {p : Pt} (h : b.get nm = some p) (n : Nat) : Gets b (List.replicate n nm) (List.replicate n p) := by
  unfold Gets
  rw [List.map_replicate, List.map_replicate, h]
theorem gets_one {b : Bk} {nm : List Nat} {p : Pt} (h : b.get nm = some p) : Gets b [nm] [p] := gets_rep h 1
theorem chain_gets {b : Bk} {c : List (List Nat × Nat)} (h : ChOk b c) : ∃ ps, Gets b (rnds c) ps := gets_ex fun n hn => by
  obtain ⟨q, hq, rfl⟩ := rnds_mem hn
  exact (h.lk q hq).1
theorem gets_drawn {b : Bk} (d : b.Drawn) {ns : List (List Nat)} {ps : List Pt} (h : Gets b ns ps) : ∀ p ∈ ps, p.Drawn := by
  intro p hp
  have : some p ∈ ns.map b.get := by
    rw [h]
    exact List.mem_map_of_mem hp
  obtain ⟨n, _, e⟩ := List.mem_map.mp this
  unfold Bk.get at e
  obtain ⟨q, hq, rfl⟩ := Option.map_eq_some_iff.mp e
  exact d.pat q (List.mem_of_find?_eq_some hq)
/-- a chain of a drawn book, played -/
theorem Bk.Drawn.e_played {b : Bk} (d : b.Drawn) {c : List (List Nat × Nat)} {ps : List Pt} (h1 : c.length ≤ 8) (h2 : ∀ q ∈ c, q.2 ≤ 100) (hg : Gets b (rnds c) ps) : n_played [bookD b, chD c] = some (.tup ((playL b.sa b.sb 12 0 ps).map (skD (b.sb * 12)))) := by
  refine Dn.e_played d.bkM (by omega) h2 hg ?_ fun p hp => (gets_drawn d hg p hp).s1
  rw [← gets_len hg]
  have := rnds_len h2
  have : c.length * 100 ≤ 8 * 100 := Nat.mul_le_mul_right _ h1
  omega
theorem Bk.Drawn.e_length {b : Bk} (d : b.Drawn) {c : List (List Nat × Nat)} {ps : List Pt} (h1 : c.length ≤ 8) (h2 : ∀ q ∈ c, q.2 ≤ 100) (hg : Gets b (rnds c) ps) : n_length [bookD b, chD c] = some (frD (tot b.sb 12 ps : Nat) (b.sb * 12)) :=
  Dn.e_length d.bkM (by omega) h2 hg
theorem Bk.Drawn.play {b : Bk} (d : b.Drawn) {ns : List (List Nat)} {ps : List Pt} (hg : Gets b ns ps) (u : Nat) : (playL b.sa b.sb 12 u ps).Pairwise SkLt ∧ ∀ x ∈ playL b.sa b.sb 12 u ps, u ≤ x.1 ∧ x.1 < u + tot b.sb 12 ps :=
  playL_rises d.sw (by decide) u fun p hp => ⟨(gets_drawn d hg p hp).s0, (gets_drawn d hg p hp).g0, (gets_ok d.bkM hg p hp).2, (gets_drawn d hg p hp).rise⟩
theorem Bk.Drawn.play_len {b : Bk} (d : b.Drawn) {ns : List (List Nat)} {ps : List Pt} (hg : Gets b ns ps) (u : Nat) : (playL b.sa b.sb 12 u ps).length ≤ ns.length * 80 := by
  rw [gets_len hg]
  refine playL_len u fun p hp => Nat.le_trans (stk_len _ _ _ p) ?_
  have h1 := (gets_drawn d hg p hp).s1
  have h2 := (gets_drawn d hg p hp).ok.few
  exact Nat.le_trans (Nat.mul_le_mul h1 h2) (by decide)
end Dn
set_option Elab.async false
set_option linter.all false
set_option maxRecDepth 100000
/-! Part M: range with a step. -/
namespace Dn
open PySem L2 PySem.Spec PyProof.Rows

def rng3D (i j c : Int) : Option (List D) :=
  if c = -1 ∧ -(2 ^ 62) ≤ i ∧ i < 2 ^ 62 ∧ -(2 ^ 62) ≤ j ∧ j < 2 ^ 62 then some ((List.range (i - j).toNat).map fun k => .int (i + (k : Nat) * c))
  else if 0 < c ∧ c < 1000000 ∧ i = 0 ∧ 0 ≤ j ∧ j < 1000000 then some ((List.range (Builtin.Range.rangeSize 0 j c).toNat).map fun k => .int (i + (k : Nat) * c))
  else none
def fRng3 (fs : En → Option (List D)) : En → Option (List D) := fun env => (fs env).bind fun ds => match ds with
  | [.int i, .int j, .int c] => rng3D i j c
  | _ => none
theorem v_rng3 {fs : En → Option (List D)} {env : En} {i j c : Int} {l : List D} (h : fs env = some [.int i, .int j, .int c]) (h2 : rng3D i j c = some l) : fRng3 fs env = some l := by
  unfold fRng3
  rw [h]
  exact h2
theorem rng3_up {j c : Int} (h : 0 < c ∧ c < 1000000 ∧ 0 ≤ j ∧ j < 1000000) : rng3D 0 j c = some ((List.range (Builtin.Range.rangeSize 0 j c).toNat).map fun k => .int (0 + (k : Nat) * c)) := by
  unfold rng3D
  rw [if_neg (by omega), if_pos (by omega)]
theorem rng3_down {i j : Int} (h : -1000000 ≤ i ∧ i < 1000000 ∧ -1000000 ≤ j ∧ j < 1000000) : rng3D i j (-1) = some ((List.range (i - j).toNat).map fun k => .int (i + (k : Nat) * (-1))) := by
  unfold rng3D
  rw [if_pos (by omega)]
theorem walk_rc {K : PySem.W.Frag} {Hb : Hp} (lo c : Int) (n : Nat) : WalkD K (Itc lo c n) ((List.range n).map fun i => .int (lo + (i : Nat) * c)) Hb := fun Hb1 H1 s1 s2 => by
  refine ⟨fun i d e => ?_, by show n ≤ (List.map _ _).length; simp⟩
  rw [List.getElem?_map] at e
  cases e1 : (List.range n)[i]? with
  | none => rw [e1] at e; cases e
  | some z =>
    rw [e1] at e
    cases e
    obtain ⟨h1, h2⟩ := List.getElem?_eq_some_iff.mp e1
    rw [List.getElem_range] at h2
    subst h2
    refine ⟨by show i < n; simpa using h1, fun x H' hy => ?_⟩
    obtain ⟨rfl, rfl⟩ := hy
    exact ⟨Hb1, Step.refl s2, by simp only [Is]⟩
theorem size_nn {j c : Int} (hc : 0 < c) (hj : 0 ≤ j) (hj2 : j < 1000000) : 0 ≤ Builtin.Range.rangeSize 0 j c ∧ Builtin.Range.rangeSize 0 j c ≤ 1000000 := by
  unfold Builtin.Range.rangeSize
  rw [if_pos hc]
  split
  · have h1 : (j - 0 - 1) / c ≤ (j - 0 - 1) := Int.ediv_le_self _ (by omega)
    have h2 := Int.ediv_nonneg (show 0 ≤ j - 0 - 1 by omega) (show 0 ≤ c by omega)
    omega
  · omega
theorem rgc_up {j c : Int} (hc : 0 < c) (hc2 : c < 1000000) (hj : 0 ≤ j) (hj2 : j < 1000000) : RgC 0 j c (Builtin.Range.rangeSize 0 j c).toNat := by
  obtain ⟨h1, h2⟩ := size_nn hc hj hj2
  refine ⟨by omega, by omega, ?_, by omega⟩
  unfold Builtin.Range.small
  have h3 : Builtin.Range.rangeSize 0 j c * c ≤ 1000000 * 1000000 := Int.mul_le_mul h2 (by omega) (by omega) (by decide)
  have h4 : 0 ≤ Builtin.Range.rangeSize 0 j c * c := Int.mul_nonneg h1 (by omega)
  generalize Builtin.Range.rangeSize 0 j c = n at *
  simp only [Builtin.Range.rangeFitsLong, Bool.and_eq_true, Bool.or_eq_true, decide_eq_true_eq, beq_iff_eq]
  repeat (first | constructor | split)
  all_goals try omega
  refine .inr ?_
  rw [if_pos hc, Bool.and_eq_true, decide_eq_true_eq, decide_eq_true_eq]
  omega
section
variable {X : Cx} {tg a b c : Expr} {p pos : Pos} {fs : En → Option (List D)}
theorem i_range3 (hm : X.mg "range" = none) (ha : PA X [a, b, c] (tA X.K fs)) (hg : Gl X "range" := by rfl) (hs : starEach [a, b, c] X.env = (false, eval a X.env) :: starEach [b, c] X.env := by rfl) (hpl : (backTo pos (starEach [b, c] X.env)).any (·.1) = false := by rfl) : PI X tg (.Call (.Name "range" p) [a, b, c] [] pos) (tI X.K (fRng3 fs)) := ⟨fun pins s σ H R I h => by
  obtain ⟨H0, env, Hb, ds, r, sm, ef, q⟩ := h
  obtain ⟨xs, ed, ef⟩ := bind1 ef
  refine (pi_range3 hg hm ha hs hpl).run pins s σ H R I ⟨H0, env, Hb, xs, r, sm, ed, fun vs Hb1 H1 s1 iv => ?_⟩
  split at ef
  · simp only [IsL, Is] at iv
    obtain ⟨v, r1, rfl, rfl, v2, r2, rfl, rfl, v3, r3, rfl, rfl, rfl⟩ := iv
    unfold rng3D at ef
    split at ef
    · rename_i hc
      obtain ⟨rfl, h1, h2, h3, h4⟩ := hc
      cases ef
      exact ⟨_, _, _, _, rfl, RgC.neg h1 h2 h3 h4, q _ Hb1 H1 s1 (walk_rc (K := X.K) (Hb := Hb1) _ _ _)⟩
    · obtain ⟨⟨h1, h2, rfl, h3, h4⟩, rfl⟩ := iteS ef
      exact ⟨_, _, _, _, rfl, rgc_up h1 h2 h3 h4, q _ Hb1 H1 s1 (walk_rc (K := X.K) (Hb := Hb1) _ _ _)⟩
  · cases ef⟩
end
end Dn
set_option Elab.async false
set_option linter.all false
set_option maxRecDepth 100000
/-! Part N: split, str of a number. -/
namespace Dn
open PySem L2 PySem.Spec PyProof.Rows

def splitL (c : Nat) : List Nat → List (List Nat)
  | [] => [[]]
  | x :: r => if x = c then [] :: splitL c r else match splitL c r with
    | h :: t => (x :: h) :: t
    | [] => [[x]]
theorem splitL_ne (c : Nat) : ∀ l, ∃ h t, splitL c l = h :: t
  | [] => ⟨[], [], rfl⟩
  | x :: r => by
    obtain ⟨h, t, e⟩ := splitL_ne c r
    unfold splitL
    rw [e]
    split
    · exact ⟨_, _, rfl⟩
    · exact ⟨_, _, rfl⟩
theorem splitL_free {c : Nat} {l : List Nat} (h : c ∉ l) : splitL c l = [l] := by
  induction l with
  | nil => rfl
  | cons x r ih =>
    unfold splitL
    rw [if_neg (fun e => h (by rw [e]; exact List.mem_cons_self)), ih fun z => h (List.mem_cons_of_mem _ z)]
theorem splitL_app {c : Nat} {a b : List Nat} (h : c ∉ a) : splitL c (a ++ c :: b) = a :: splitL c b := by
  induction a with
  | nil =>
    rw [List.nil_append]
    conv => lhs; unfold splitL
    rw [if_pos rfl]
  | cons x r ih =>
    rw [List.cons_append]
    conv => lhs; unfold splitL
    rw [if_neg (fun e => h (by rw [e]; exact List.mem_cons_self)), ih fun z => h (List.mem_cons_of_mem _ z)]
/-- words without the sign, put together and parted again -/
theorem splitL_join {c : Nat} : ∀ {ws : List (List Nat)}, ws ≠ [] → (∀ w ∈ ws, c ∉ w) → splitL c (joinL [c] ws) = ws
  | [], h, _ => absurd rfl h
  | [w], _, h => splitL_free (h w List.mem_cons_self)
  | w :: v :: r, _, h => by
    show splitL c (w ++ [c] ++ joinL [c] (v :: r)) = _
    rw [List.append_assoc]
    show splitL c (w ++ c :: joinL [c] (v :: r)) = _
    rw [splitL_app (h w List.mem_cons_self), splitL_join (by simp) fun x hx => h x (List.mem_cons_of_mem _ hx)]
theorem S_of (x : Str) : S x.cps.toList = x := by
  apply Str.ext'
  simp [S]
theorem split_S (l : List Nat) (c : Nat) : Txt.split (S l) (S [c]) = (splitL c l).map S := by
  have h1 := StrLaws.join_split (S l) (S [c])
  have h2 := StrLaws.split_free (S l) c
  have hp := split_pos (S l) (S [c])
  have e : Txt.split (S l) (S [c]) = ((Txt.split (S l) (S [c])).map fun x => x.cps.toList).map S := by
    rw [List.map_map]
    conv => lhs; rw [← List.map_id (Txt.split (S l) (S [c]))]
    exact List.map_congr_left fun x _ => (S_of x).symm
  have h2' : ∀ p ∈ Txt.split (S l) (S [c]), c ∉ p.cps.toList := h2
  generalize hw : (Txt.split (S l) (S [c])).map (fun x => x.cps.toList) = ws at *
  have h3 : joinL [c] ws = l := by
    rw [e, join_S] at h1
    exact SX.S_inj h1
  have h4 : ∀ w ∈ ws, c ∉ w := fun w hm => by
    rw [← hw] at hm
    obtain ⟨x, hx, rfl⟩ := List.mem_map.mp hm
    exact h2' x hx
  have h5 : ws ≠ [] := fun z => by
    rw [z, List.map_nil] at e
    rw [e] at hp
    simp at hp
  rw [e, ← h3, splitL_join h5 h4]
def splitD (l : List Nat) : D → Option D
  | .str [c] => if l.length ≤ 1000000 then some (.lst ((splitL c l).map D.str)) else none
  | _ => none
section
variable {X : Cx} {o e : Expr} {pos apos : Pos} {fo fa : En → Option D}
theorem m_split : MtR X "str.split" (rDM X.K splitD) := by
  intro pins s σ H x xs v us Q I rx rs h
  obtain ⟨Hb, l, y, b, d, sm, rfl, rfl, ib, eg, q⟩ := h
  unfold splitD at eg
  split at eg
  · rename_i c
    simp only [Is] at ib
    subst ib
    obtain ⟨hl, rfl⟩ := iteS eg
    refine mt_split pins s σ H _ _ v us Q I rx rs ⟨_, _, rfl, rfl, rfl, ?_, fun p hp => q _ _ _ (Step.new sm hp) (is_lst_new (sm.free hp) ?_)⟩
    · rw [S_len, sizeLine_eq]
      omega
    · rw [split_S]
      exact of_strs _
  · cases eg
theorem e_split (ho : PE X o (tD X.K fo)) (he : PE X e (tD X.K fa)) (hs : starEach [e] X.env = [(false, eval e X.env)] := by rfl) (hbase : attributeBase o "split" X.env (eval o X.env) = eval o X.env := by rfl) (hline : (apos.endLine == pos.line) = true := by rfl) :
    PE X (.Call (.Attribute o "split" apos) [e] [] pos) (tD X.K (fM1 splitD fo fa)) := e_m1 F.slot_str_split F.type_str_split m_split ho he hs hbase hline
/-! str(n) -/
def dig (n : Nat) : List Nat := if n < 10 then [48 + n] else [48 + n / 10, 48 + n % 10]
def strG : List D → Option D
  | [.int i] => if 0 ≤ i ∧ i < 100 then some (.str (dig i.toNat)) else none
  | _ => none
theorem dig_eq : ∀ n : Nat, n < 100 → Str.ofString (toString ((n : Nat) : Int)) = S (dig n) := by
  have : ∀ n : Fin 100, Str.ofString (toString ((n.val : Nat) : Int)) = S (dig n.val) := by decide +kernel
  exact fun n h => this ⟨n, h⟩
theorem c_str : CallR X (.type "str") (rDA X.K strG) := by
  intro pins s σ H xs us Q I r h
  obtain ⟨Hb, ds, d, sm, il, eg, q⟩ := h
  unfold strG at eg
  split at eg
  · rename_i i
    obtain ⟨v, rfl, iv⟩ := isl1 il
    simp only [Is] at iv
    subst iv
    obtain ⟨⟨h0, h1⟩, rfl⟩ := iteS eg
    refine call_str_int pins s σ H _ us Q I r ⟨i, rfl, ?_, q _ Hb H (Step.refl sm) ?_⟩
    · have : i.natAbs < 2 ^ 7 := by omega
      rcases Nat.eq_zero_or_pos i.natAbs with z | z
      · rw [z]; decide
      · have := (Nat.log2_lt (by omega)).mpr ‹i.natAbs < 2 ^ 7›
        omega
    · simp only [Is]
      obtain ⟨n, rfl⟩ : ∃ n : Nat, i = (n : Int) := ⟨i.toNat, by omega⟩
      rw [Int.toNat_natCast, ← dig_eq n (by omega)]
  · cases eg
end
end Dn
set_option Elab.async false
set_option linter.all false
set_option maxRecDepth 100000
/-! Texts of patterns and chains; good things are told good. -/
namespace Dn
open PySem L2
local macro_rules | `(tactic| walk_at "dg") => `(tactic| first
  | with_reducible exact add_i _ _ | with_reducible exact sub_i _ _ | ((with_reducible refine mul_i ?_); omega) | ((with_reducible refine fdiv_i ?_); omega) | ((with_reducible refine mod_i ?_); omega) | with_reducible exact neg_i _
  | with_reducible exact lt_i _ _ | with_reducible exact le_i _ _ | with_reducible exact gt_i _ _ | with_reducible exact ge_i _ _ | with_reducible exact eq_i _ _ | with_reducible exact ne_i _ _ | with_reducible exact eq_s _ _ | with_reducible exact ne_s _ _
  | ((with_reducible refine add_s ?_); omega) | ((with_reducible refine add_t ?_); omega) | ((with_reducible refine add_l ?_); omega) | ((with_reducible refine mul_s ?_); omega) | ((with_reducible refine mul_l ?_); omega)
  | ((with_reducible refine len_s ?_); omega) | with_reducible exact len_t _ | with_reducible exact len_l _ | with_reducible exact len_c _ | with_reducible exact int_b _ | with_reducible exact int_i _ | with_reducible exact abs_i _
  | ((with_reducible refine sl_s ?_); omega) | with_reducible exact sl_t _ _ _ | with_reducible exact sl_l _ _ _ | ((with_reducible apply ix_t); (· omega); (· rfl)) | ((with_reducible apply ix_l); (· omega); (· rfl)) | with_reducible assumption)
local macro_rules | `(tactic| walk_at "dc") => `(tactic| with_reducible assumption)
local macro_rules | `(tactic| walk_at "dn") => `(tactic| first
  | with_reducible exact v_c | with_reducible exact v_nil | with_reducible exact v_no
  | ((with_reducible apply v_var); (· rfl); (· rfl))
  | ((with_reducible apply v_2); (· walk_at "dn"); (· walk_at "dn"); (· walk_at "dg"))
  | ((with_reducible apply v_1); (· walk_at "dn"); (· walk_at "dg"))
  | ((with_reducible apply v_cons); (· walk_at "dn"); (· walk_at "dn"))
  | ((with_reducible apply v_blt); (· walk_at "dn"); (· walk_at "dg"))
  | ((with_reducible apply v_call); (· walk_at "dn"); (· walk_at "dc"))
  | ((with_reducible apply v_tup); (· walk_at "dn"); (· first | decide | (simp only [List.length_cons, List.length_nil]; decide)))
  | ((with_reducible apply v_lst); (· walk_at "dn"); (· first | decide | (simp only [List.length_cons, List.length_nil]; decide)))
  | ((with_reducible apply v_po); (· walk_at "dn"))
  | ((with_reducible apply v_sl); (· walk_at "dn"); (· walk_at "dn"); (· walk_at "dn"); (· walk_at "dg"))
  | ((with_reducible apply v_m1); (· walk_at "dn"); (· walk_at "dn"); (· walk_at "dg"))
  | ((with_reducible apply v_b); (· walk_at "dn"))
  | ((with_reducible apply v_not); (· walk_at "dn"))
  | ((with_reducible apply v_notV); (· walk_at "dn"))
  | ((with_reducible apply v_rng1); (· walk_at "dn"); (· omega))
  | ((with_reducible apply v_rng2); (· walk_at "dn"); (· omega))
  | ((with_reducible apply v_it); (· walk_at "dn"))
  | ((with_reducible apply v_itl); (· walk_at "dn"))
  | ((with_reducible apply v_its); (· walk_at "dn"))
  | with_reducible assumption)
local macro_rules | `(tactic| walk_at "dt") => `(tactic| first
  | with_reducible exact v_c | with_reducible exact v_nil | with_reducible exact v_no
  | ((with_reducible apply v_var); (· rfl); (· rfl))
  | ((with_reducible apply v_2) <;> walk_at "dt")
  | ((with_reducible apply v_1) <;> walk_at "dt")
  | ((with_reducible apply v_cons) <;> walk_at "dt")
  | ((with_reducible apply v_blt) <;> walk_at "dt")
  | ((with_reducible apply v_call) <;> walk_at "dt")
  | ((with_reducible apply v_tup) <;> walk_at "dt")
  | ((with_reducible apply v_lst) <;> walk_at "dt")
  | ((with_reducible apply v_po) <;> walk_at "dt")
  | ((with_reducible apply v_sl) <;> walk_at "dt")
  | ((with_reducible apply v_m1) <;> walk_at "dt")
  | ((with_reducible apply v_b) <;> walk_at "dt")
  | ((with_reducible apply v_notV) <;> walk_at "dt")
  | ((with_reducible apply v_not) <;> walk_at "dt")
  | ((with_reducible apply v_rng1) <;> first | omega | walk_at "dt")
  | ((with_reducible apply v_rng2) <;> first | omega | walk_at "dt")
  | walk_at "dg"
  | (show List.length _ ≤ sizeLine; first | decide | (simp only [List.length_cons, List.length_nil]; decide))
  | skip)
local macro_rules | `(tactic| walk_at "ds") => `(tactic| first
  | ((with_reducible apply w_ss) <;> first | walk_at "d1" | skip)
  | ((with_reducible apply w_r) <;> first | walk_at "d1" | skip)
  | ((with_reducible apply w_sp) <;> first | walk_at "d1" | skip)
  | ((with_reducible apply w_so) <;> first | walk_at "d1" | skip)
  | (with_reducible apply w_sv)
  | (with_reducible apply w_sq))
local macro_rules | `(tactic| walk_at "dx") => `(tactic| simp only [put, jn, List.set_cons_zero, List.set_cons_succ])
noncomputable def m_is_whole : En → Option Fl :=
  (fRet (fAndV (f1 (isiD "int") (fV 0)) (fAndV (fNotV (f1 (isiD "bool") (fV 0))) (fChain leD leD (fV 1) (fV 0) (fV 2)))))
noncomputable def n_is_whole : List D → Option D := semOf 3 3 m_is_whole
noncomputable def m_is_row : En → Option Fl :=
  (fSeq (fIfS (fOr (fNot (fB (f1 (isiD "str") (fV 0)))) (fNot (fB (fChain leD leD (fC (.int 1)) (fBlt lenG (fCons (fV 0) fNil)) (fC (.int 16))))))
    (fRet (fC (.bl false)))
    fPass)
  (fRet (fBlt allG (fCons (fLc (fIt (fV 0)) (gN 1) fYes (f2 inD (fV 1) (fC (.str [46, 120, 88]))) [1]) fNil))))
noncomputable def n_is_row : List D → Option D := semOf 2 1 m_is_row
noncomputable def m_rises : En → Option Fl :=
  (fRet (fBlt allG (fCons (fLc (fZip2 (fSl (fV 0) fNo (fPo (f1 negD (fC (.int 1))))) (fSl (fV 0) (fPo (fC (.int 1))) fNo)) (gT (gCons' (gN 1) (gCons' (gN 2) gNil'))) fYes (f2 ltD (fV 1) (fV 2)) [1, 2]) fNil)))
noncomputable def n_rises : List D → Option D := semOf 3 1 m_rises
noncomputable def m_is_pad : En → Option Fl :=
  (fSeq (fIfS (fOr (fNot (fB (f1 (isiD "tuple") (fV 0)))) (fOr (fB (f2 neD (fBlt lenG (fCons (fV 0) fNil)) (fC (.int 2)))) (fOr (fNot (fB (f1 (isiD "str") (f2 ixD (fV 0) (fC (.int 0)))))) (fB (f2 neD (fBlt lenG (fCons (f2 ixD (fV 0) (fC (.int 0))) fNil)) (fC (.int 1)))))))
    (fRet (fC (.bl false)))
    fPass)
  (fRet (fAndV (f2 inD (f2 ixD (fV 0) (fC (.int 0))) (fC (.str [97, 98, 99, 100, 101, 102, 103, 104, 105, 106, 107, 108, 109, 110, 111, 112, 113, 114, 115, 116, 117, 118, 119, 120, 121, 122]))) (fAndV (fCall n_is_row (fCons (f2 ixD (fV 0) (fC (.int 1))) fNil)) (f2 eqD (fBlt lenG (fCons (f2 ixD (fV 0) (fC (.int 1))) fNil)) (fV 1))))))
noncomputable def n_is_pad : List D → Option D := semOf 2 2 m_is_pad
noncomputable def m_is_pattern : En → Option Fl :=
  (fSeq (fIfS (fOr (fNot (fB (f1 (isiD "tuple") (fV 0)))) (fOr (fB (f2 neD (fBlt lenG (fCons (fV 0) fNil)) (fC (.int 3)))) (fNot (fB (fCall n_is_whole (fCons (f2 ixD (fV 0) (fC (.int 0))) (fCons (fC (.int 1)) (fCons (fC (.int 16)) fNil))))))))
    (fRet (fC (.bl false)))
    fPass)
  (fSeq (fIfS (fOr (fNot (fB (fCall n_is_whole (fCons (f2 ixD (fV 0) (fC (.int 1))) (fCons (fC (.int 1)) (fCons (fC (.int 4)) fNil)))))) (fOr (fNot (fB (f1 (isiD "tuple") (f2 ixD (fV 0) (fC (.int 2)))))) (fB (f2 gtD (fBlt lenG (fCons (f2 ixD (fV 0) (fC (.int 2))) fNil)) (fC (.int 5))))))
    (fRet (fC (.bl false)))
    fPass)
  (fRet (fAndV (fBlt allG (fCons (fLc (fIt (f2 ixD (fV 0) (fC (.int 2)))) (gN 1) fYes (fCall n_is_pad (fCons (fV 1) (fCons (f2 ixD (fV 0) (fC (.int 0))) fNil))) [1]) fNil)) (fCall n_rises (fCons (fLc (fIt (f2 ixD (fV 0) (fC (.int 2)))) (gN 1) fYes (f2 ixD (fV 1) (fC (.int 0))) [1]) fNil))))))
noncomputable def n_is_pattern : List D → Option D := semOf 2 1 m_is_pattern
noncomputable def m_is_chain : En → Option Fl :=
  (fSeq (fIfS (fOr (fNot (fB (f1 (isiD "tuple") (fV 1)))) (fNot (fB (fChain leD leD (fC (.int 1)) (fBlt lenG (fCons (fV 1) fNil)) (fC (.int 8))))))
    (fRet (fC (.bl false)))
    fPass)
  (fSeq (fFor (fIt (fV 1)) (gN 2)
    (fSeq (fIfS (fOr (fNot (fB (f1 (isiD "tuple") (fV 2)))) (fOr (fB (f2 neD (fBlt lenG (fCons (fV 2) fNil)) (fC (.int 2)))) (fNot (fB (f1 (isiD "str") (f2 ixD (fV 2) (fC (.int 0))))))))
      (fRet (fC (.bl false)))
      fPass)
    (fIfS (fOr (fB (f2 ninD (f2 ixD (fV 2) (fC (.int 0))) (fBlt dictG (fCons (f2 ixD (fV 0) (fC (.int 1))) fNil)))) (fNot (fB (fCall n_is_whole (fCons (f2 ixD (fV 2) (fC (.int 1))) (fCons (fC (.int 1)) (fCons (fC (.int 9)) fNil)))))))
      (fRet (fC (.bl false)))
      fPass)))
  (fRet (fC (.bl true)))))
noncomputable def n_is_chain : List D → Option D := semOf 3 2 m_is_chain
noncomputable def m_pattern_text : En → Option Fl :=
  (fSeq (fSet 1 (f2 addD (fLst (fCons (fBlt strG (fCons (f2 ixD (fV 0) (fC (.int 0))) fNil)) (fCons (fC (.str [98, 121])) (fCons (fBlt strG (fCons (f2 ixD (fV 0) (fC (.int 1))) fNil)) fNil)))) (fLc (fIt (f2 ixD (fV 0) (fC (.int 2)))) (gT (gCons' (gN 2) (gCons' (gN 3) gNil'))) fYes (f2 addD (f2 addD (fV 2) (fC (.str [61]))) (fV 3)) [2, 3])))
  (fRet (fM1 joinD (fC (.str [32])) (fV 1))))
noncomputable def n_pattern_text : List D → Option D := semOf 4 1 m_pattern_text
noncomputable def m_chain_text : En → Option Fl :=
  (fRet (fM1 joinD (fC (.str [32])) (fLc (fIt (fV 0)) (gT (gCons' (gN 1) (gCons' (gN 2) gNil'))) fYes (f2 addD (fV 1) (f2 mulD (fBlt strG (fCons (fV 2) fNil)) (fBlt intG (fCons (f2 gtD (fV 2) (fC (.int 1))) fNil)))) [1, 2])))
noncomputable def n_chain_text : List D → Option D := semOf 3 1 m_chain_text
noncomputable def m_number_of : En → Option Fl :=
  (fSeq (fIfS (fOr (fNot (fB (fChain leD leD (fC (.int 1)) (fBlt lenG (fCons (fV 0) fNil)) (fC (.int 2))))) (fNot (fB (fBlt allG (fCons (fLc (fIt (fV 0)) (gN 1) fYes (f2 inD (fV 1) (fC (.str [48, 49, 50, 51, 52, 53, 54, 55, 56, 57]))) [1]) fNil)))))
    fStuck
    fPass)
  (fRet (fBlt intG (fCons (fV 0) fNil))))
noncomputable def n_number_of : List D → Option D := semOf 2 1 m_number_of
noncomputable def m_read_pattern : En → Option Fl :=
  (fSeq (fSet 1 (fM1 splitD (fV 0) (fC (.str [32]))))
  (fSeq (fIfS (fB (f2 ltD (fBlt lenG (fCons (fV 1) fNil)) (fC (.int 3))))
    fStuck
    fPass)
  (fSeq (fSet 2 (f1 tupD (fLc (fIt (fSl (fV 1) (fPo (fC (.int 3))) fNo)) (gN 4) fYes (fTup (fCons (fSl (fV 4) fNo (fPo (fC (.int 1)))) (fCons (fSl (fV 4) (fPo (fC (.int 2))) fNo) fNil))) [4])))
  (fSeq (fSet 3 (fTup (fCons (fCall n_number_of (fCons (f2 ixD (fV 1) (fC (.int 0))) fNil)) (fCons (fCall n_number_of (fCons (f2 ixD (fV 1) (fC (.int 2))) fNil)) (fCons (fV 2) fNil)))))
  (fSeq (fIfS (fOr (fNot (fB (fCall n_is_pattern (fCons (fV 3) fNil)))) (fB (f2 neD (fCall n_pattern_text (fCons (fV 3) fNil)) (fV 0))))
    fStuck
    fPass)
  (fRet (fV 3)))))))
noncomputable def n_read_pattern : List D → Option D := semOf 5 1 m_read_pattern
noncomputable def m_link_of : En → Option Fl :=
  (fSeq (fIfS (fAnd (fB (f2 neD (fSl (fV 0) (fPo (f1 negD (fC (.int 1)))) fNo) (fC (.str [])))) (fB (f2 inD (f2 ixD (fV 0) (f1 negD (fC (.int 1)))) (fC (.str [48, 49, 50, 51, 52, 53, 54, 55, 56, 57])))))
    (fRet (fTup (fCons (fSl (fV 0) fNo (fPo (f1 negD (fC (.int 1))))) (fCons (fBlt intG (fCons (f2 ixD (fV 0) (f1 negD (fC (.int 1)))) fNil)) fNil))))
    fPass)
  (fRet (fTup (fCons (fV 0) (fCons (fC (.int 1)) fNil)))))
noncomputable def n_link_of : List D → Option D := semOf 1 1 m_link_of
noncomputable def m_read_chain : En → Option Fl :=
  (fSeq (fSet 2 (f1 tupD (fLc (fIt (fM1 splitD (fV 1) (fC (.str [32])))) (gN 3) fYes (fCall n_link_of (fCons (fV 3) fNil)) [3])))
  (fSeq (fIfS (fOr (fNot (fB (fCall n_is_chain (fCons (fV 0) (fCons (fV 2) fNil))))) (fB (f2 neD (fCall n_chain_text (fCons (fV 2) fNil)) (fV 1))))
    fStuck
    fPass)
  (fRet (fV 2))))
noncomputable def n_read_chain : List D → Option D := semOf 4 2 m_read_chain
theorem isi_int_i (i : Int) : isiD "int" (.int i) = some (.bl true) := by simp [isiD, tyN, isiB]
theorem isi_bool_i (i : Int) : isiD "bool" (.int i) = some (.bl false) := by simp [isiD, tyN, isiB]
theorem isi_str_s (l : List Nat) : isiD "str" (.str l) = some (.bl true) := by simp [isiD, tyN, isiB]
theorem isi_tup_t (l : List D) : isiD "tuple" (.tup l) = some (.bl true) := by simp [isiD, tyN, isiB]
theorem v_chain {g g' : D → D → Option D} {fa fb fc : En → Option D} {env : En} {a b c d : D} (h1 : fa env = some a) (h2 : fb env = some b) (h3 : g a b = some (.bl true)) (h4 : fc env = some c) (h5 : g' b c = some d) : fChain g g' fa fb fc env = some d := by
  unfold fChain
  rw [h1]
  simp only [Option.bind_some, h2, h3, asB, if_true, h4, h5]
theorem v_chainf {g g' : D → D → Option D} {fa fb fc : En → Option D} {env : En} {a b : D} (h1 : fa env = some a) (h2 : fb env = some b) (h3 : g a b = some (.bl false)) : fChain g g' fa fb fc env = some (.bl false) := by
  unfold fChain
  rw [h1]
  simp [h2, h3, asB]
theorem e_is_whole (i lo hi : Int) : n_is_whole [.int i, .int lo, .int hi] = some (.bl (decide (lo ≤ i) && decide (i ≤ hi))) := by
  refine sem_rt rfl ?_
  show m_is_whole [some (.int i), some (.int lo), some (.int hi)] = _
  unfold m_is_whole
  refine ret_of (v_andVt (v_1 (by walk_at "dn") (isi_int_i i)) (v_andVt (v_notV (v_1 (by walk_at "dn") (isi_bool_i i))) ?_))
  by_cases h : lo ≤ i
  · rw [decide_eq_true h, Bool.true_and]
    exact v_chain (by walk_at "dn") (by walk_at "dn") (by rw [le_i, decide_eq_true h]) (by walk_at "dn") (le_i _ _)
  · rw [decide_eq_false h, Bool.false_and]
    exact v_chainf (by walk_at "dn") (by walk_at "dn") (by rw [le_i, decide_eq_false h])
theorem all_true {α : Type} (xs : List α) : allG [.lst (xs.map fun _ => D.bl true)] = some (.bl true) := by
  rw [show (xs.map fun _ => D.bl true) = (xs.map fun _ => true).map D.bl by rw [List.map_map]; rfl, all_b]
  congr 2
  simp
theorem e_is_row {row : List Nat} (h : isRow row) (h0 : 1 ≤ row.length) (h1 : row.length ≤ 16) : n_is_row [.str row] = some (.bl true) := by
  refine sem_rt rfl ?_
  show m_is_row [some (.str row), none] = _
  unfold m_is_row
  refine w_sf (v_orf (w_not (v_b (v_1 (by walk_at "dn") (isi_str_s _)))) (w_not (v_b (v_chain v_c (v_blt (by walk_at "dn") (len_s (by omega))) (by rw [le_i, decide_eq_true (by omega)]) v_c (by rw [le_i, decide_eq_true (by omega)]; rfl))))) (ret_of (v_blt (v_cons (lcw (v_its (by walk_at "dn")) (by rw [List.length_map]; omega) (lc_map (fun c => D.str [c]) (fun _ => D.bl true) row fun c hc => ⟨[some (.str row), some (.str [c])], rfl, v_2 (by walk_at "dn") v_c ?_⟩)) v_nil) (all_true row)))
  rcases h c hc with rfl | rfl | rfl <;> rfl
theorem e_rises {ls : List (List Nat)} (hl : ls.length ≤ 1000) (h : ls.Pairwise (· < ·)) : n_rises [.lst (ls.map D.str)] = some (.bl true) := by
  refine sem_rt rfl ?_
  show m_rises [some (.lst (ls.map D.str)), none, none] = _
  unfold m_rises
  have s1 : slD (.lst (ls.map D.str)) none (some (-1)) = some (.lst ((ls.take (ls.length - 1)).map D.str)) := by
    rw [sl_l, cut_last, List.map_take, List.length_map]
  have s2 : slD (.lst (ls.map D.str)) (some 1) none = some (.lst ((ls.drop 1).map D.str)) := by
    rw [sl_l, show (1 : Int) = ((1 : Nat) : Int) from rfl, cut_from, List.map_drop]
  refine ret_of (v_blt (v_cons (lcw (Eq.trans (v_zip2 (v_sl (by walk_at "dn") v_no (v_po (v_1 v_c (neg_i 1))) s1) (v_sl (by walk_at "dn") (v_po v_c) v_no s2) rfl rfl) (congrArg some (zip_maps D.str D.str _ _))) (by simp; omega) (lc_map (fun p : List Nat × List Nat => D.wk [.str p.1, .str p.2]) (fun _ => D.bl true) _ fun p hp => ⟨[some (.lst (ls.map D.str)), some (.str p.1), some (.str p.2)], rfl, v_2 (by walk_at "dn") (by walk_at "dn") ?_⟩)) v_nil) (all_true _))
  obtain ⟨x, y⟩ := p
  have := (zip_next h hp).1
  show some (D.bl (decide (x < y))) = _
  rw [decide_eq_true this]
structure Pt.Good (p : Pt) : Prop where
  s0 : 0 < p.s
  s1 : p.s ≤ 16
  g0 : 0 < p.g
  g1 : p.g ≤ 4
  few : p.ps.length ≤ 5
  pad : ∀ q ∈ p.ps, 97 ≤ q.1 ∧ q.1 ≤ 122
  rise : (p.ps.map Prod.fst).Pairwise (· < ·)
  row : ∀ q ∈ p.ps, q.2.length = p.s ∧ isRow q.2
theorem Pt.Drawn.good {p : Pt} (h : p.Drawn) : p.Good := ⟨h.s0, h.s1, h.g0, h.g1, h.ok.few, fun q hq => by
  have : q.1 ∈ letters := h.sub.subset (List.mem_map_of_mem hq)
  simp [letters] at this
  omega, h.rise, h.row⟩
theorem in_letters {c : Nat} (h0 : 97 ≤ c) (h1 : c ≤ 122) : inD (.str [c]) (.str [97, 98, 99, 100, 101, 102, 103, 104, 105, 106, 107, 108, 109, 110, 111, 112, 113, 114, 115, 116, 117, 118, 119, 120, 121, 122]) = some (.bl true) := by
  show some (D.bl (decide (c ∈ _))) = _
  rw [decide_eq_true]
  have : c = 97 ∨ c = 98 ∨ c = 99 ∨ c = 100 ∨ c = 101 ∨ c = 102 ∨ c = 103 ∨ c = 104 ∨ c = 105 ∨ c = 106 ∨ c = 107 ∨ c = 108 ∨ c = 109 ∨ c = 110 ∨ c = 111 ∨ c = 112 ∨ c = 113 ∨ c = 114 ∨ c = 115 ∨ c = 116 ∨ c = 117 ∨ c = 118 ∨ c = 119 ∨ c = 120 ∨ c = 121 ∨ c = 122 := by omega
  simpa using this
theorem e_is_pad {q : Nat × List Nat} {s : Nat} (h0 : 97 ≤ q.1) (h1 : q.1 ≤ 122) (hl : q.2.length = s) (hs : 1 ≤ s) (hs2 : s ≤ 16) (hr : isRow q.2) : n_is_pad [padD q, .int (s : Nat)] = some (.bl true) := by
  refine sem_rt rfl ?_
  show m_is_pad [some (padD q), some (.int (s : Nat))] = _
  unfold m_is_pad
  refine w_sf (v_orf (w_not (v_b (v_1 (by walk_at "dn") (isi_tup_t _)))) (v_orf (v_b (v_2 (v_blt (by walk_at "dn") (len_t _)) v_c rfl)) (v_orf (w_not (v_b (v_1 (v_2 (by walk_at "dn") v_c rfl) (isi_str_s _)))) (v_b (v_2 (v_blt (v_cons (v_2 (by walk_at "dn") v_c rfl) v_nil) (len_s (by simp))) v_c rfl))))) (ret_of (v_andVt (v_2 (v_2 (by walk_at "dn") v_c rfl) v_c (in_letters h0 h1)) (v_andVt (v_call (v_cons (v_2 (by walk_at "dn") v_c rfl) v_nil) (e_is_row hr (by omega) (by omega))) (v_2 (v_blt (v_cons (v_2 (by walk_at "dn") v_c rfl) v_nil) (len_s (by omega))) (by walk_at "dn") ?_))))
  rw [eq_i, hl, decide_eq_true rfl]
theorem e_is_pattern {p : Pt} (h : p.Good) : n_is_pattern [ptD p] = some (.bl true) := by
  have h1 := h.s0
  have h2 := h.s1
  have h3 := h.g0
  have h4 := h.g1
  have h5 := h.few
  refine sem_rt rfl ?_
  show m_is_pattern [some (ptD p), none] = _
  unfold m_is_pattern
  refine w_sf (v_orf (w_not (v_b (v_1 (by walk_at "dn") (isi_tup_t _)))) (v_orf (v_b (v_2 (v_blt (by walk_at "dn") (len_t _)) v_c rfl)) (w_not (v_b (v_call (v_cons (v_2 (by walk_at "dn") v_c rfl) (v_cons v_c (v_cons v_c v_nil))) ?_))))) ?_
  · rw [e_is_whole, decide_eq_true (by omega), decide_eq_true (by omega)]
    rfl
  refine w_sf (v_orf (w_not (v_b (v_call (v_cons (v_2 (by walk_at "dn") v_c rfl) (v_cons v_c (v_cons v_c v_nil))) ?_))) (v_orf (w_not (v_b (v_1 (v_2 (by walk_at "dn") v_c rfl) (isi_tup_t _)))) (v_b (v_2 (v_blt (v_cons (v_2 (by walk_at "dn") v_c rfl) v_nil) (len_tm padD p.ps)) v_c ?_)))) ?_
  · rw [e_is_whole, decide_eq_true (by omega), decide_eq_true (by omega)]
    rfl
  · rw [gt_i, decide_eq_false (by omega)]
  refine ret_of (v_andVt (v_blt (v_cons (lcw (v_it (v_2 (by walk_at "dn") v_c rfl)) (by rw [List.length_map]; omega) (lc_map padD (fun _ => D.bl true) p.ps fun q hq => ⟨[some (ptD p), some (padD q)], rfl, v_call (v_cons (by walk_at "dn") (v_cons (v_2 (by walk_at "dn") v_c rfl) v_nil)) (e_is_pad (h.pad q hq).1 (h.pad q hq).2 (h.row q hq).1 (by omega) (by omega) (h.row q hq).2)⟩)) v_nil) (all_true p.ps)) (v_call (v_cons (lcw (r := ((p.ps.map Prod.fst).map fun c => [c]).map D.str) (v_it (v_2 (by walk_at "dn") v_c rfl)) (by rw [List.length_map]; omega) ?_) v_nil) (e_rises (by simp; omega) ?_)))
  · rw [List.map_map, List.map_map]
    exact lc_map padD _ p.ps fun q hq => ⟨[some (ptD p), some (padD q)], rfl, v_2 (by walk_at "dn") v_c rfl⟩
  · rw [List.pairwise_map]
    exact h.rise.imp fun {a b} hab => List.Lex.rel hab
theorem in_dict {b : Bk} (hn : (b.ps.map Prod.fst).Nodup) {nm : List Nat} (h : nm ∈ b.ps.map Prod.fst) : ninD (.str nm) (.dct (b.ps.map fun q => (q.1, ptD q.2))) = some (.bl false) := by
  show (inB _ _).bind _ = _
  rw [inB_dct, any_nm]
  obtain ⟨p, hp, _⟩ := get_of h
  unfold Bk.get at hp
  rw [hp]
  rfl
theorem e_is_chain {b : Bk} (hn : (b.ps.map Prod.fst).Nodup) {c : List (List Nat × Nat)} (h : ChOk b c) : n_is_chain [bookD b, chD c] = some (.bl true) := by
  have h1 := h.ne
  have h2 := h.few
  refine sem_rt rfl ?_
  show m_is_chain [some (bookD b), some (chD c), none] = _
  unfold m_is_chain
  refine w_sf (v_orf (w_not (v_b (v_1 (by walk_at "dn") (isi_tup_t _)))) (w_not (v_b (v_chain v_c (v_blt (by walk_at "dn") (len_tm lkD c)) (by rw [le_i, decide_eq_true (by omega)]) v_c (by rw [le_i, decide_eq_true (by omega)]; rfl))))) ?_
  refine w_ffold lkD (fun _ : Unit => []) [2] (fun _ _ => ()) c () (v_it (show fV 1 _ = some (.tup (c.map lkD)) from rfl)) rfl ?_ ?_
  · intro pre q r w hp
    have hq : q ∈ c := by rw [hp]; simp
    obtain ⟨k1, k2, k3⟩ := h.lk q hq
    refine ⟨_, rfl, ?_⟩
    walk_at "dx"
    apply en_w
    · refine w_sf (v_orf (w_not (v_b (v_1 (by walk_at "dn") (isi_tup_t _)))) (v_orf (v_b (v_2 (v_blt (by walk_at "dn") (len_t _)) v_c rfl)) (w_not (v_b (v_1 (v_2 (by walk_at "dn") v_c rfl) (isi_str_s _)))))) (w_iff (v_orf (v_b (v_2 (v_2 (by walk_at "dn") v_c rfl) (v_blt (v_cons (v_2 (by walk_at "dn") v_c rfl) v_nil) (dict_nm hn)) (in_dict hn k1))) (w_not (v_b (v_call (v_cons (v_2 (by walk_at "dn") v_c rfl) (v_cons v_c (v_cons v_c v_nil))) ?_)))) w_pass)
      rw [e_is_whole, decide_eq_true (by omega), decide_eq_true (by omega)]
      rfl
    · rfl
  · intro w
    exact ret_of v_c
/-! texts -/
def ptWords (p : Pt) : List (List Nat) := [dig p.s, [98, 121], dig p.g] ++ p.ps.map fun q => q.1 :: 61 :: q.2
def ptText (p : Pt) : List Nat := joinL [32] (ptWords p)
theorem str_n {n : Nat} (h : n < 100) : strG [.int (n : Nat)] = some (.str (dig n)) := by
  show (if _ then _ else _) = _
  rw [if_pos (by omega), Int.toNat_natCast]
theorem dig_len (n : Nat) : 1 ≤ (dig n).length ∧ (dig n).length ≤ 2 := by unfold dig; split <;> simp
theorem joinL_len (sep : List Nat) : ∀ ws : List (List Nat), (joinL sep ws).length ≤ (ws.map List.length).sum + ws.length * sep.length
  | [] => by simp [joinL]
  | [w] => by simp [joinL]
  | w :: v :: r => by
    have ih := joinL_len sep (v :: r)
    show (w ++ sep ++ joinL sep (v :: r)).length ≤ _
    rw [List.length_append, List.length_append]
    simp only [List.map_cons, List.sum_cons, List.length_cons, Nat.succ_mul] at ih ⊢
    omega
theorem sum_le {α : Type} (f : α → Nat) (n : Nat) : ∀ xs : List α, (∀ x ∈ xs, f x ≤ n) → (xs.map f).sum ≤ xs.length * n
  | [], _ => by simp
  | x :: xs, h => by
    rw [List.map_cons, List.sum_cons, List.length_cons, Nat.succ_mul]
    have := sum_le f n xs fun y hy => h y (List.mem_cons_of_mem _ hy)
    have := h x List.mem_cons_self
    omega
theorem e_ptext {p : Pt} (hs : p.s < 100) (hg : p.g < 100) (hf : p.ps.length ≤ 100) (hr : ∀ q ∈ p.ps, q.2.length ≤ 1000) : n_pattern_text [ptD p] = some (.str (ptText p)) ∧ (ptText p).length ≤ 200000 := by
  have hsum : (((ptWords p).map List.length).sum + (ptWords p).length * [32].length) ≤ 200000 := by
    unfold ptWords
    rw [List.map_append, List.sum_append, List.length_append, List.map_map, List.length_map]
    have := sum_le (List.length ∘ fun q : Nat × List Nat => q.1 :: 61 :: q.2) 1002 p.ps fun q hq => by
      have := hr q hq
      simp
      omega
    have h1 := (dig_len p.s).2
    have h2 := (dig_len p.g).2
    have : p.ps.length * 1002 ≤ 100 * 1002 := Nat.mul_le_mul_right _ hf
    simp
    omega
  refine ⟨sem_rt rfl ?_, Nat.le_trans (joinL_len _ _) hsum⟩
  show m_pattern_text [some (ptD p), none, none, none] = _
  unfold m_pattern_text
  refine w_ss (d := .lst ((ptWords p).map D.str)) (v_2 (v_lst (v_cons (v_blt (v_cons (v_2 (by walk_at "dn") v_c rfl) v_nil) (str_n hs)) (v_cons v_c (v_cons (v_blt (v_cons (v_2 (by walk_at "dn") v_c rfl) v_nil) (str_n hg)) v_nil))) (show 3 ≤ sizeLine by decide)) (lcw (r := (p.ps.map fun q => q.1 :: 61 :: q.2).map D.str) (v_it (v_2 (by walk_at "dn") v_c rfl)) (by rw [List.length_map]; omega) ?_) ?_) ?_
  · rw [List.map_map]
    refine lc_map padD _ p.ps fun q hq => ⟨[some (ptD p), none, some (.str [q.1]), some (.str q.2)], rfl, v_2 (v_2 (by walk_at "dn") v_c (add_s (by simp))) (by walk_at "dn") (add_s ?_)⟩
    have := hr q hq
    simp
    omega
  · unfold ptWords
    rw [List.map_append]
    exact add_l (by simp; omega)
  · refine ret_of (v_m1 v_c (by walk_at "dn") (join_l (by omega)))
def lkW (q : List Nat × Nat) : List Nat := q.1 ++ (if q.2 > 1 then dig q.2 else [])
def chText (c : List (List Nat × Nat)) : List Nat := joinL [32] (c.map lkW)
theorem e_ctext {c : List (List Nat × Nat)} (hc : c.length ≤ 100) (h : ∀ q ∈ c, q.1.length ≤ 1000 ∧ q.2 < 100) : n_chain_text [chD c] = some (.str (chText c)) ∧ (chText c).length ≤ 200000 := by
  have hlw : ∀ q ∈ c, (lkW q).length ≤ 1002 := fun q hq => by
    have := (h q hq).1
    have := (dig_len q.2).2
    unfold lkW
    rw [List.length_append]
    split
    · omega
    · simp; omega
  have hsum : ((c.map lkW).map List.length).sum + (c.map lkW).length * [32].length ≤ 200000 := by
    rw [List.map_map, List.length_map]
    have := sum_le (List.length ∘ lkW) 1002 c hlw
    have : c.length * 1002 ≤ 100 * 1002 := Nat.mul_le_mul_right _ hc
    simp
    omega
  refine ⟨sem_rt rfl ?_, Nat.le_trans (joinL_len _ _) hsum⟩
  show m_chain_text [some (chD c), none, none] = _
  unfold m_chain_text
  refine ret_of (v_m1 v_c (lcw (r := (c.map lkW).map D.str) (v_it (show fV 0 _ = some (.tup (c.map lkD)) from rfl)) (by rw [List.length_map]; omega) ?_) (join_l (by omega)))
  rw [List.map_map]
  refine lc_map lkD _ c fun q hq => ⟨[some (chD c), some (.str q.1), some (.int (q.2 : Nat))], rfl, ?_⟩
  have h1 := (h q hq).1
  have h2 := (dig_len q.2).2
  have hd : fBlt intG (fCons (f2 gtD (fV 2) (fC (.int 1))) fNil) [some (chD c), some (.str q.1), some (.int (q.2 : Nat))] = some (.int (if q.2 > 1 then 1 else 0)) := by
    refine v_blt (v_cons (v_2 (by walk_at "dn") v_c (gt_i _ _)) v_nil) ?_
    rw [int_b]
    congr 2
    by_cases hq : q.2 > 1
    · rw [if_pos hq, decide_eq_true (by omega)]; rfl
    · rw [if_neg hq, decide_eq_false (by omega)]; rfl
  have hm : mulD (.str (dig q.2)) (.int (if q.2 > 1 then 1 else 0)) = some (.str (if q.2 > 1 then dig q.2 else [])) := by
    by_cases hq : q.2 > 1
    · rw [if_pos hq, if_pos hq, mul_s ⟨by omega, by omega, by omega⟩]
      simp [reps]
    · rw [if_neg hq, if_neg hq, mul_s ⟨by omega, by omega, by omega⟩]
      rfl
  refine v_2 (by walk_at "dn") (v_2 (v_blt (by walk_at "dn") (str_n (h q hq).2)) hd hm) (add_s ?_)
  split
  · omega
  · simp; omega
end Dn
set_option Elab.async false
set_option linter.all false
set_option maxRecDepth 100000
/-! Texts read again. -/
namespace Dn
open PySem L2
local macro_rules | `(tactic| walk_at "dg") => `(tactic| first
  | with_reducible exact add_i _ _ | with_reducible exact sub_i _ _ | ((with_reducible refine mul_i ?_); omega) | ((with_reducible refine fdiv_i ?_); omega) | ((with_reducible refine mod_i ?_); omega) | with_reducible exact neg_i _
  | with_reducible exact lt_i _ _ | with_reducible exact le_i _ _ | with_reducible exact gt_i _ _ | with_reducible exact ge_i _ _ | with_reducible exact eq_i _ _ | with_reducible exact ne_i _ _ | with_reducible exact eq_s _ _ | with_reducible exact ne_s _ _
  | ((with_reducible refine add_s ?_); omega) | ((with_reducible refine add_t ?_); omega) | ((with_reducible refine add_l ?_); omega) | ((with_reducible refine mul_s ?_); omega) | ((with_reducible refine mul_l ?_); omega)
  | ((with_reducible refine len_s ?_); omega) | with_reducible exact len_t _ | with_reducible exact len_l _ | with_reducible exact len_c _ | with_reducible exact int_b _ | with_reducible exact int_i _ | with_reducible exact abs_i _
  | ((with_reducible refine sl_s ?_); omega) | with_reducible exact sl_t _ _ _ | with_reducible exact sl_l _ _ _ | ((with_reducible apply ix_t); (· omega); (· rfl)) | ((with_reducible apply ix_l); (· omega); (· rfl)) | with_reducible assumption)
local macro_rules | `(tactic| walk_at "dc") => `(tactic| with_reducible assumption)
local macro_rules | `(tactic| walk_at "dn") => `(tactic| first
  | with_reducible exact v_c | with_reducible exact v_nil | with_reducible exact v_no
  | ((with_reducible apply v_var); (· rfl); (· rfl))
  | ((with_reducible apply v_2); (· walk_at "dn"); (· walk_at "dn"); (· walk_at "dg"))
  | ((with_reducible apply v_1); (· walk_at "dn"); (· walk_at "dg"))
  | ((with_reducible apply v_cons); (· walk_at "dn"); (· walk_at "dn"))
  | ((with_reducible apply v_blt); (· walk_at "dn"); (· walk_at "dg"))
  | ((with_reducible apply v_call); (· walk_at "dn"); (· walk_at "dc"))
  | ((with_reducible apply v_tup); (· walk_at "dn"); (· first | decide | (simp only [List.length_cons, List.length_nil]; decide)))
  | ((with_reducible apply v_lst); (· walk_at "dn"); (· first | decide | (simp only [List.length_cons, List.length_nil]; decide)))
  | ((with_reducible apply v_po); (· walk_at "dn"))
  | ((with_reducible apply v_sl); (· walk_at "dn"); (· walk_at "dn"); (· walk_at "dn"); (· walk_at "dg"))
  | ((with_reducible apply v_m1); (· walk_at "dn"); (· walk_at "dn"); (· walk_at "dg"))
  | ((with_reducible apply v_b); (· walk_at "dn"))
  | ((with_reducible apply v_not); (· walk_at "dn"))
  | ((with_reducible apply v_notV); (· walk_at "dn"))
  | ((with_reducible apply v_rng1); (· walk_at "dn"); (· omega))
  | ((with_reducible apply v_rng2); (· walk_at "dn"); (· omega))
  | ((with_reducible apply v_it); (· walk_at "dn"))
  | ((with_reducible apply v_itl); (· walk_at "dn"))
  | ((with_reducible apply v_its); (· walk_at "dn"))
  | with_reducible assumption)
local macro_rules | `(tactic| walk_at "dt") => `(tactic| first
  | with_reducible exact v_c | with_reducible exact v_nil | with_reducible exact v_no
  | ((with_reducible apply v_var); (· rfl); (· rfl))
  | ((with_reducible apply v_2) <;> walk_at "dt")
  | ((with_reducible apply v_1) <;> walk_at "dt")
  | ((with_reducible apply v_cons) <;> walk_at "dt")
  | ((with_reducible apply v_blt) <;> walk_at "dt")
  | ((with_reducible apply v_call) <;> walk_at "dt")
  | ((with_reducible apply v_tup) <;> walk_at "dt")
  | ((with_reducible apply v_lst) <;> walk_at "dt")
  | ((with_reducible apply v_po) <;> walk_at "dt")
  | ((with_reducible apply v_sl) <;> walk_at "dt")
  | ((with_reducible apply v_m1) <;> walk_at "dt")
  | ((with_reducible apply v_b) <;> walk_at "dt")
  | ((with_reducible apply v_notV) <;> walk_at "dt")
  | ((with_reducible apply v_not) <;> walk_at "dt")
  | ((with_reducible apply v_rng1) <;> first | omega | walk_at "dt")
  | ((with_reducible apply v_rng2) <;> first | omega | walk_at "dt")
  | walk_at "dg"
  | (show List.length _ ≤ sizeLine; first | decide | (simp only [List.length_cons, List.length_nil]; decide))
  | skip)
local macro_rules | `(tactic| walk_at "ds") => `(tactic| first
  | ((with_reducible apply w_ss) <;> first | walk_at "d1" | skip)
  | ((with_reducible apply w_r) <;> first | walk_at "d1" | skip)
  | ((with_reducible apply w_sp) <;> first | walk_at "d1" | skip)
  | ((with_reducible apply w_so) <;> first | walk_at "d1" | skip)
  | (with_reducible apply w_sv)
  | (with_reducible apply w_sq))
local macro_rules | `(tactic| walk_at "dx") => `(tactic| simp only [put, jn, List.set_cons_zero, List.set_cons_succ])
theorem int_dig : ∀ n : Nat, n < 100 → PySem.intText? (S (dig n)) = some (n : Int) := by
  have : ∀ n : Fin 100, PySem.intText? (S (dig n.val)) = some ((n.val : Nat) : Int) := by decide +kernel
  exact fun n h => this ⟨n, h⟩
theorem dig_all {n : Nat} (h : n < 100) : ∀ c ∈ dig n, 48 ≤ c ∧ c ≤ 57 := by
  intro c hc
  unfold dig at hc
  split at hc
  · simp at hc; omega
  · simp at hc; omega
theorem in_figs {c : Nat} (h0 : 48 ≤ c) (h1 : c ≤ 57) : inD (.str [c]) (.str [48, 49, 50, 51, 52, 53, 54, 55, 56, 57]) = some (.bl true) := by
  show some (D.bl (decide (c ∈ _))) = _
  rw [decide_eq_true]
  have : c = 48 ∨ c = 49 ∨ c = 50 ∨ c = 51 ∨ c = 52 ∨ c = 53 ∨ c = 54 ∨ c = 55 ∨ c = 56 ∨ c = 57 := by omega
  simpa using this
theorem not_figs {c : Nat} (h : c < 48 ∨ 57 < c) : inD (.str [c]) (.str [48, 49, 50, 51, 52, 53, 54, 55, 56, 57]) = some (.bl false) := by
  show some (D.bl (decide (c ∈ _))) = _
  rw [decide_eq_false]
  simp
  omega
theorem int_s {l : List Nat} (h : l.length ≤ 640) : intG [.str l] = (PySem.intText? (S l)).bind fun n => some (.int n) := if_pos h
theorem e_number {n : Nat} (h : n < 100) : n_number_of [.str (dig n)] = some (.int (n : Nat)) := by
  obtain ⟨l1, l2⟩ := dig_len n
  refine sem_rt rfl ?_
  show m_number_of [some (.str (dig n)), none] = _
  unfold m_number_of
  refine w_sf (v_orf (w_not (v_b (v_chain v_c (v_blt (by walk_at "dn") (len_s (by omega))) (by rw [le_i, decide_eq_true (by omega)]) v_c (by rw [le_i, decide_eq_true (by omega)]; rfl)))) (w_not (v_b (v_blt (v_cons (lcw (v_its (by walk_at "dn")) (by rw [List.length_map]; omega) (lc_map (fun c => D.str [c]) (fun _ => D.bl true) (dig n) fun c hc => ⟨[some (.str (dig n)), some (.str [c])], rfl, v_2 (by walk_at "dn") v_c (in_figs (dig_all h c hc).1 (dig_all h c hc).2)⟩)) v_nil) (all_true _))))) (ret_of (v_blt (by walk_at "dn") ?_))
  rw [int_s (by omega), int_dig n h]
  rfl
theorem words_free {p : Pt} (h : p.Good) : ∀ w ∈ ptWords p, 32 ∉ w := by
  have h1 := h.s1
  have h2 := h.g1
  intro w hw hc
  unfold ptWords at hw
  rcases List.mem_append.mp hw with hw | hw
  · simp at hw
    rcases hw with rfl | rfl | rfl
    · have := dig_all (n := p.s) (by omega) 32 hc
      omega
    · simp at hc
    · have := dig_all (n := p.g) (by omega) 32 hc
      omega
  · obtain ⟨q, hq, rfl⟩ := List.mem_map.mp hw
    have := h.pad q hq
    simp at hc
    rcases hc with hc | hc
    · omega
    · rcases (h.row q hq).2 32 hc with e | e | e <;> omega
theorem split_ok {l : List Nat} (h : l.length ≤ 1000000) : splitD l (.str [32]) = some (.lst ((splitL 32 l).map D.str)) := if_pos h
theorem e_readp {p : Pt} (h : p.Good) : n_read_pattern [.str (ptText p)] = some (ptD p) := by
  have h1 := h.s1
  have h2 := h.g1
  have h3 := h.few
  have hrl : ∀ q ∈ p.ps, q.2.length ≤ 1000 := fun q hq => by have := (h.row q hq).1; omega
  obtain ⟨ept, elen⟩ := e_ptext (p := p) (by omega) (by omega) (by omega) hrl
  have hsp : splitL 32 (ptText p) = ptWords p := splitL_join (by unfold ptWords; simp) (words_free h)
  have hwl : (ptWords p).length = 3 + p.ps.length := by unfold ptWords; simp; omega
  refine sem_rt rfl ?_
  show m_read_pattern [some (.str (ptText p)), none, none, none, none] = _
  unfold m_read_pattern
  refine w_ss (v_m1 (by walk_at "dn") v_c (split_ok (by omega))) ?_
  rw [hsp]
  walk_at "dx"
  refine w_sf (v_b (v_2 (v_blt (by walk_at "dn") (len_l _)) v_c ?_)) ?_
  · rw [lt_i, List.length_map, decide_eq_false (by omega)]
  have hsl : slD (.lst ((ptWords p).map D.str)) (some 3) none = some (.lst ((p.ps.map fun q => q.1 :: 61 :: q.2).map D.str)) := by
    rw [sl_l, show (3 : Int) = ((3 : Nat) : Int) from rfl, cut_from, ← List.map_drop]
    rfl
  refine w_ss (d := .tup (p.ps.map padD)) (v_1 (lcw (v_itl (v_sl (by walk_at "dn") (v_po v_c) v_no hsl)) (by simp; omega) ?_) rfl) ?_
  · rw [List.map_map]
    refine lc_map (fun q : Nat × List Nat => D.str (q.1 :: 61 :: q.2)) padD p.ps fun q hq => ⟨_, rfl, ?_⟩
    have := hrl q hq
    have c1 : cut (q.1 :: 61 :: q.2) none (some 1) = [q.1] := cut_to (q.1 :: 61 :: q.2) 1
    have c2 : cut (q.1 :: 61 :: q.2) (some 2) none = q.2 := cut_from (q.1 :: 61 :: q.2) 2
    refine v_tup (ds := [.str [q.1], .str q.2]) (v_cons (v_sl (v_var rfl rfl) v_no (v_po v_c) ?_) (v_cons (v_sl (v_var rfl rfl) (v_po v_c) v_no ?_) v_nil)) (show 2 ≤ sizeLine by decide)
    · rw [sl_s (by simp; omega), c1]
    · rw [sl_s (by simp; omega), c2]
  have w0 : ixD (.lst ((ptWords p).map D.str)) (.int 0) = some (.str (dig p.s)) := ix_l (by omega) rfl
  have w2 : ixD (.lst ((ptWords p).map D.str)) (.int 2) = some (.str (dig p.g)) := ix_l (by omega) rfl
  refine w_ss (d := ptD p) (v_tup (v_cons (v_call (v_cons (v_2 (by walk_at "dn") v_c w0) v_nil) (e_number (by omega))) (v_cons (v_call (v_cons (v_2 (by walk_at "dn") v_c w2) v_nil) (e_number (by omega))) (by walk_at "dn"))) (show 3 ≤ sizeLine by decide)) ?_
  walk_at "dx"
  refine w_sf (v_orf (w_not (v_b (v_call (by walk_at "dn") (e_is_pattern h)))) (w_nf (v_call (by walk_at "dn") ept) (by walk_at "dn") rfl rfl)) (ret_of (by walk_at "dn"))
/-! chains -/
def isName (l : List Nat) : Prop := 1 ≤ l.length ∧ l.length ≤ 4 ∧ ∀ c ∈ l, 97 ≤ c ∧ c ≤ 122
theorem last_get {α : Type} {l : List α} {x : α} : atI (l ++ [x]) (-1) = some x := by
  unfold atI ixN
  rw [if_neg (by decide), if_pos (by simp; omega)]
  simp
  have : ((-1 : Int) + ((l.length : Nat) + 1)).toNat = l.length := by omega
  rw [this]
  simp
theorem cut_l1 {α : Type} (l : List α) (x : α) : cut (l ++ [x]) (some (-1)) none = [x] := by
  unfold cut HT.sIx
  simp
  have : ((-1 : Int) + ((l.length : Nat) + 1)).toNat = l.length := by omega
  rw [this]
  simp
theorem cut_i1 {α : Type} (l : List α) (x : α) : cut (l ++ [x]) none (some (-1)) = l := by
  rw [cut_last]
  simp
theorem e_link {q : List Nat × Nat} (h : isName q.1) (h0 : 1 ≤ q.2) (h1 : q.2 ≤ 9) : n_link_of [.str (lkW q)] = some (lkD q) := by
  obtain ⟨n1, n2, n3⟩ := h
  refine sem_rt rfl ?_
  show m_link_of [some (.str (lkW q))] = _
  unfold m_link_of
  have e1 : slD (.str (lkW q)) (some (-1)) none = some (.str (cut (lkW q) (some (-1)) none)) := sl_s (by unfold lkW; rw [List.length_append]; have := (dig_len q.2).2; split <;> simp <;> omega)
  by_cases hq : q.2 > 1
  · have hd : dig q.2 = [48 + q.2] := by unfold dig; rw [if_pos (by omega)]
    have hw : lkW q = q.1 ++ [48 + q.2] := by unfold lkW; rw [if_pos hq, hd]
    have hl : (q.1 ++ [48 + q.2]).length ≤ 1000000 := by simp; omega
    have e3 : ixD (.str (lkW q)) (.int (-1)) = some (.str [48 + q.2]) := by
      rw [hw]
      show (if _ then _ else _) = _
      rw [if_pos (Nat.le_trans hl size1000), last_get]
      rfl
    rw [hw, cut_l1] at e1
    rw [hw] at e3 ⊢
    refine w_ret (w_ift (v_andt (v_b (v_2 (v_sl (by walk_at "dn") (v_po (v_1 v_c (neg_i 1))) v_no e1) v_c ?_)) (v_b (v_2 (v_2 (by walk_at "dn") (v_1 v_c (neg_i 1)) e3) v_c (in_figs (by omega) (by omega))))) (ret_of (v_tup (ds := [.str q.1, .int (q.2 : Nat)]) (v_cons (v_sl (by walk_at "dn") v_no (v_po (v_1 v_c (neg_i 1))) ?_) (v_cons (v_blt (v_cons (v_2 (by walk_at "dn") (v_1 v_c (neg_i 1)) e3) v_nil) ?_) v_nil)) (show 2 ≤ sizeLine by decide))))
    · rw [ne_s, decide_eq_false (by simp)]
      rfl
    · rw [sl_s hl, cut_i1]
    · rw [← hd, int_s (by have := (dig_len q.2).2; omega), int_dig q.2 (by omega)]
      rfl
  · have hw : lkW q = q.1 := by unfold lkW; rw [if_neg hq, List.append_nil]
    have hq1 : q.2 = 1 := by omega
    have hne : q.1 ≠ [] := fun z => by rw [z] at n1; simp at n1
    have hsp := (List.dropLast_concat_getLast hne).symm
    generalize q.1.dropLast = a at *
    generalize hz : q.1.getLast hne = z at *
    have hzm : 97 ≤ z ∧ z ≤ 122 := n3 z (by rw [hsp]; simp)
    rw [hw, hsp, cut_l1] at e1
    have hl : (a ++ [z]).length ≤ 1000000 := by rw [← hsp]; omega
    have e3 : ixD (.str (a ++ [z])) (.int (-1)) = some (.str [z]) := by
      show (if _ then _ else _) = _
      rw [if_pos (Nat.le_trans hl size1000), last_get]
      rfl
    rw [hw, hsp]
    refine w_sf (v_andt (v_b (v_2 (v_sl (by walk_at "dn") (v_po (v_1 v_c (neg_i 1))) v_no e1) v_c ?_)) (v_b (v_2 (v_2 (by walk_at "dn") (v_1 v_c (neg_i 1)) e3) v_c (not_figs (by omega))))) (ret_of ?_)
    · rw [ne_s, decide_eq_false (by simp)]
      rfl
    · unfold lkD
      rw [hsp, hq1]
      exact v_tup (ds := [.str (a ++ [z]), .int 1]) (by walk_at "dn") (show 2 ≤ sizeLine by decide)
theorem lk_free {q : List Nat × Nat} (h : isName q.1) (h1 : q.2 ≤ 9) : 32 ∉ lkW q := by
  intro hc
  unfold lkW at hc
  rcases List.mem_append.mp hc with hc | hc
  · have := h.2.2 32 hc
    omega
  · split at hc
    · have := dig_all (n := q.2) (by omega) 32 hc
      omega
    · cases hc
theorem e_readc {b : Bk} (hn : (b.ps.map Prod.fst).Nodup) {c : List (List Nat × Nat)} (hc : ChOk b c) (hnm : ∀ q ∈ c, isName q.1) : n_read_chain [bookD b, .str (chText c)] = some (chD c) := by
  obtain ⟨ect, elen⟩ := e_ctext (c := c) (by have := hc.few; omega) fun q hq => ⟨by have := (hnm q hq).2.1; omega, by have := (hc.lk q hq).2.2; omega⟩
  have hne : c.map lkW ≠ [] := fun z => by have := hc.ne; rw [List.map_eq_nil_iff] at z; rw [z] at this; simp at this
  have hsp : splitL 32 (chText c) = c.map lkW := splitL_join hne fun w hw => by
    obtain ⟨q, hq, rfl⟩ := List.mem_map.mp hw
    exact lk_free (hnm q hq) (hc.lk q hq).2.2
  refine sem_rt rfl ?_
  show m_read_chain [some (bookD b), some (.str (chText c)), none, none] = _
  unfold m_read_chain
  refine w_ss (d := chD c) (v_1 (lcw (v_itl (v_m1 (by walk_at "dn") v_c (split_ok (by omega)))) (by rw [hsp]; have := hc.few; simp; omega) ?_) rfl) ?_
  · rw [hsp, List.map_map]
    exact lc_map (fun q => D.str (lkW q)) lkD c fun q hq => ⟨_, rfl, v_call (v_cons (v_var rfl rfl) v_nil) (e_link (hnm q hq) (hc.lk q hq).2.1 (hc.lk q hq).2.2)⟩
  walk_at "dx"
  exact w_sf (v_orf (w_not (v_b (v_call (by walk_at "dn") (e_is_chain hn hc)))) (w_nf (v_call (by walk_at "dn") ect) (by walk_at "dn") rfl rfl)) (ret_of (by walk_at "dn"))
/-! equality of plain data -/
theorem eqv_tups {α : Type} [DecidableEq α] (f : α → D) (h : ∀ x y, eqv (f x) (f y) = decide (x = y)) : ∀ xs ys : List α, eqv (.tup (xs.map f)) (.tup (ys.map f)) = decide (xs = ys) := by
  have key : ∀ xs ys : List α, PyData.eqvAll (toPs (xs.map f)) (toPs (ys.map f)) = decide (xs = ys) := by
    intro xs
    induction xs with
    | nil =>
      intro ys
      cases ys with
      | nil => simp [toPs, PyData.eqvAll]
      | cons y ys => simp [toPs, PyData.eqvAll]
    | cons x xs ih =>
      intro ys
      cases ys with
      | nil => simp [toPs, PyData.eqvAll]
      | cons y ys =>
        rw [List.map_cons, List.map_cons, toPs, toPs, PyData.eqvAll, ih]
        have := h x y
        unfold eqv at this
        rw [this]
        by_cases h1 : x = y <;> by_cases h2 : xs = ys <;> simp [h1, h2]
  intro xs ys
  unfold eqv
  simp only [toP, PyData.eqv]
  exact key xs ys
theorem eqv_pad (p q : Nat × List Nat) : eqv (padD p) (padD q) = decide (p = q) := by
  have h1 := eqv_s [p.1] [q.1]
  have h2 := eqv_s p.2 q.2
  unfold eqv at h1 h2 ⊢
  unfold padD
  simp only [toP, toPs, PyData.eqv, PyData.eqvAll] at h1 h2 ⊢
  rw [h1, h2]
  obtain ⟨a, b⟩ := p
  obtain ⟨c, d⟩ := q
  by_cases e1 : a = c <;> by_cases e2 : b = d <;> simp [e1, e2]
instance : DecidableEq Pt := fun a b => decidable_of_iff (a.s = b.s ∧ a.g = b.g ∧ a.ps = b.ps) ⟨fun h => by
  cases a
  cases b
  obtain ⟨h1, h2, h3⟩ := h
  cases h1
  cases h2
  cases h3
  rfl, fun h => by rw [h]; exact ⟨rfl, rfl, rfl⟩⟩
theorem eqv_pt (p q : Pt) : eqv (ptD p) (ptD q) = decide (p = q) := by
  have h1 := eqv_i (p.s : Nat) (q.s : Nat)
  have h2 := eqv_i (p.g : Nat) (q.g : Nat)
  have h3 := eqv_tups padD eqv_pad p.ps q.ps
  obtain ⟨a, b, c⟩ := p
  obtain ⟨a', b', c'⟩ := q
  unfold eqv ptD at *
  simp only [toP, toPs, PyData.eqv, PyData.eqvAll] at h1 h2 h3 ⊢
  rw [h1, h2, h3]
  have e : (Pt.mk a b c = Pt.mk a' b' c') ↔ a = a' ∧ b = b' ∧ c = c' := by simp
  have hdec : decide (Pt.mk a b c = Pt.mk a' b' c') = decide (a = a' ∧ b = b' ∧ c = c') := decide_eq_decide.mpr e
  rw [hdec]
  by_cases e1 : a = a' <;> by_cases e2 : b = b' <;> by_cases e3 : c = c' <;> simp_all <;> omega
theorem ptD_inj {p q : Pt} (h : ptD p = ptD q) : p = q := by
  have := eqv_pt p q
  rw [h, eqv_refl] at this
  exact of_decide_eq_true this.symm
theorem eqv_lk (p q : List Nat × Nat) : eqv (lkD p) (lkD q) = decide (p = q) := by
  have h1 := eqv_s p.1 q.1
  have h2 := eqv_i (p.2 : Nat) (q.2 : Nat)
  unfold eqv at h1 h2 ⊢
  unfold lkD
  simp only [toP, toPs, PyData.eqv, PyData.eqvAll] at h1 h2 ⊢
  rw [h1, h2]
  obtain ⟨a, b⟩ := p
  obtain ⟨c, d⟩ := q
  by_cases e1 : a = c <;> by_cases e2 : b = d <;> simp [e1, e2] <;> omega
theorem eqv_ch (c d : List (List Nat × Nat)) : eqv (chD c) (chD d) = decide (c = d) := eqv_tups lkD eqv_lk c d
theorem chD_inj {c d : List (List Nat × Nat)} (h : chD c = chD d) : c = d := by
  have := eqv_ch c d
  rw [h, eqv_refl] at this
  exact of_decide_eq_true this.symm
theorem okN_lk (n : Nat) (q : List Nat × Nat) : okN (n + 1) (lkD q) = true := by
  show ([D.str q.1, .int (q.2 : Nat)].all fun y => okN n y) = true
  cases n <;> rfl
theorem ok_ch (c : List (List Nat × Nat)) : okN 60 (chD c) = true := okN_all lkD 59 (okN_lk 58) c
/-! more of joins -/
theorem joinL_cons (c : Nat) : ∀ (x : List Nat) (xs : List (List Nat)), joinL [c] (x :: xs) = x ++ (xs.map fun w => c :: w).flatten
  | x, [] => by simp [joinL]
  | x, y :: ys => by
    show x ++ [c] ++ joinL [c] (y :: ys) = _
    rw [joinL_cons c y ys, List.map_cons, List.flatten_cons]
    simp
theorem joinL_app (c : Nat) : ∀ {xs ys : List (List Nat)}, xs ≠ [] → ys ≠ [] → joinL [c] (xs ++ ys) = joinL [c] xs ++ [c] ++ joinL [c] ys
  | [], ys, h, _ => absurd rfl h
  | x :: xs, [], _, h => absurd rfl h
  | x :: xs, y :: ys, _, _ => by
    rw [List.cons_append, joinL_cons, joinL_cons, joinL_cons, List.map_append, List.flatten_append, List.map_cons, List.flatten_cons]
    simp
theorem ptText_inj {p q : Pt} (hp : p.Good) (hq : q.Good) : ptText p = ptText q ↔ p = q := by
  refine ⟨fun h => ?_, fun h => by rw [h]⟩
  have h1 := e_readp hp
  rw [h, e_readp hq] at h1
  exact (ptD_inj (Option.some.inj h1)).symm
theorem chText_inj {b : Bk} (hn : (b.ps.map Prod.fst).Nodup) {c d : List (List Nat × Nat)} (hc : ChOk b c) (hd : ChOk b d) (nc : ∀ q ∈ c, isName q.1) (nd : ∀ q ∈ d, isName q.1) : chText c = chText d ↔ c = d := by
  refine ⟨fun h => ?_, fun h => by rw [h]⟩
  have h1 := e_readc hn hc nc
  rw [h, e_readc hn hd nd] at h1
  exact (chD_inj (Option.some.inj h1)).symm
theorem allN_name : ∀ l ∈ allN, isName l := by
  intro l hl
  simp [allN] at hl
  rcases hl with rfl | rfl | rfl | rfl | rfl | rfl <;> refine ⟨by decide, by decide, fun c hc => ?_⟩ <;> simp at hc <;> omega
theorem Bk.Drawn.name {b : Bk} (d : b.Drawn) {nm : List Nat} (h : nm ∈ b.ps.map Prod.fst) : isName nm := allN_name nm (d.sub.subset h)
theorem ChOk.names {b : Bk} (d : b.Drawn) {c : List (List Nat × Nat)} (h : ChOk b c) : ∀ q ∈ c, isName q.1 := fun q hq => d.name (h.lk q hq).1
theorem Pt.Good.ept {p : Pt} (h : p.Good) : n_pattern_text [ptD p] = some (.str (ptText p)) := (e_ptext (by have := h.s1; omega) (by have := h.g1; omega) (by have := h.few; omega) fun q hq => by have := (h.row q hq).1; have := h.s1; omega).1
theorem Pt.Good.len {p : Pt} (h : p.Good) : (ptText p).length ≤ 200000 := (e_ptext (by have := h.s1; omega) (by have := h.g1; omega) (by have := h.few; omega) fun q hq => by have := (h.row q hq).1; have := h.s1; omega).2
theorem ChOk.ect {b : Bk} {c : List (List Nat × Nat)} (h : ChOk b c) (hn : ∀ q ∈ c, isName q.1) : n_chain_text [chD c] = some (.str (chText c)) := (e_ctext (by have := h.few; omega) fun q hq => ⟨by have := (hn q hq).2.1; omega, by have := (h.lk q hq).2.2; omega⟩).1
theorem ChOk.len {b : Bk} {c : List (List Nat × Nat)} (h : ChOk b c) (hn : ∀ q ∈ c, isName q.1) : (chText c).length ≤ 200000 := (e_ctext (by have := h.few; omega) fun q hq => ⟨by have := (hn q hq).2.1; omega, by have := (h.lk q hq).2.2; omega⟩).2
end Dn
set_option Elab.async false
set_option linter.all false
set_option maxRecDepth 100000
/-! Part P: what changes. A store of lists, dicts and objects; statements as wishes. -/
namespace Dn
open PySem L2 PySem.Spec PyProof.Rows

inductive Cell where
  | lst (xs : List D) | dct (kvs : List (List Nat × D)) | obj (fs : List (Str × D))
abbrev Sto := Addr → Option Cell
def Sto.put (st : Sto) (a : Addr) (c : Cell) : Sto := fun b => if b = a then some c else st b
theorem Sto.put_same (st : Sto) (a : Addr) (c : Cell) : st.put a c a = some c := if_pos rfl
theorem Sto.put_ne {st : Sto} {a b : Addr} {c : Cell} (h : b ≠ a) : st.put a c b = st b := if_neg h
abbrev WX := Value → Option Addr → L2.St → Hp → Prop
/-- where the program's classes stand -/
structure Wd where
  C : Addr
  cl : Str → Addr
  T : List (Addr × Str) := []
def IsF (K : PySem.W.Frag) (H : Hp) : List (Str × D) → List (Str × V) → Prop
  | [], vs => vs = []
  | (f, d) :: fs, vs => ∃ v r, vs = (f, v) :: r ∧ Is K H d v ∧ IsF K H fs r
theorem IsF.mono {K : PySem.W.Frag} {H H' : Hp} (e : Same H H') : ∀ {fs : List (Str × D)} {vs : List (Str × V)}, IsF K H fs vs → IsF K H' fs vs
  | [], _, h => h
  | (f, d) :: fs, vs, h => by
    obtain ⟨v, r, e1, e2, e3⟩ := h
    exact ⟨v, r, e1, e2.mono e, e3.mono e⟩
theorem IsF.length {K : PySem.W.Frag} {H : Hp} : ∀ {fs : List (Str × D)} {vs : List (Str × V)}, IsF K H fs vs → vs.length = fs.length
  | [], _, h => by rw [show _ = [] from h]; rfl
  | (f, d) :: fs, vs, h => by
    obtain ⟨v, r, rfl, e2, e3⟩ := h
    rw [List.length_cons, List.length_cons, e3.length]
theorem IsF.look {K : PySem.W.Frag} {H : Hp} {x : Str} : ∀ {fs : List (Str × D)} {vs : List (Str × V)}, IsF K H fs vs → (∀ d, fs.lookup x = some d → ∃ v, vs.lookup x = some v ∧ Is K H d v) ∧ (fs.lookup x = none → vs.lookup x = none)
  | [], _, h => by rw [show _ = [] from h]; exact ⟨fun d e => by simp at e, fun _ => rfl⟩
  | (f, d) :: fs, vs, h => by
    obtain ⟨v, r, rfl, e2, e3⟩ := h
    obtain ⟨i1, i2⟩ := e3.look (x := x)
    simp only [List.lookup_cons]
    cases hq : x == f with
    | true => exact ⟨fun d' e => by cases e; exact ⟨v, rfl, e2⟩, fun e => by cases e⟩
    | false => exact ⟨i1, i2⟩
def CellIs (K : PySem.W.Frag) (Z : Wd) (Hb H : Hp) (a : Addr) : Cell → Prop
  | .lst ds => ∃ vs, H a = some (.lst vs) ∧ IsL K Hb ds vs
  | .dct kvs => ∃ ks, H a = some (.dK ks) ∧ IsK K Hb kvs ks
  | .obj fs => ∃ dx vs, H a = some (.ins Z.C dx vs) ∧ IsF K Hb fs vs
structure RelSt (K : PySem.W.Frag) (Z : Wd) (Hb H : Hp) (st : Sto) : Prop where
  c : Same Hb H
  cell : ∀ a x, st a = some x → Hb a = none ∧ CellIs K Z Hb H a x
  tabs : LamX.Tabs Z.T H
  nt : NoT Hb
structure StepW (Hb H : Hp) (st : Sto) (Hb' H' : Hp) (st' : Sto) : Prop where
  b : Same Hb Hb'
  f : ∀ p o, H p = some o → Hb p = none → st p = none → (∀ ps, o ≠ .tbl ps) → H' p = some o ∧ Hb' p = none ∧ st' p = none
structure Rel0 (K : PySem.W.Frag) (Hb : Hp) (σ : L2.St) (env : En) : Prop where
  len : σ.length = env.length
  val : ∀ (i : Nat) (d : D), env[i]? = some (some d) → ∃ v, σ[i]? = some (some v) ∧ Is K Hb d v
section
variable {K : PySem.W.Frag} {Z : Wd} {Hb H Hb' H' Hb2 H2 : Hp} {st st' st2 : Sto} {σ : L2.St} {env : En}
theorem StepW.refl : StepW Hb H st Hb H st := ⟨Same.refl _, fun _ _ h n z _ => ⟨h, n, z⟩⟩
theorem StepW.trans (x : StepW Hb H st Hb' H' st') (y : StepW Hb' H' st' Hb2 H2 st2) : StepW Hb H st Hb2 H2 st2 :=
  ⟨x.b.trans y.b, fun p o h n z t => let ⟨h1, n1, z1⟩ := x.f p o h n z t; y.f p o h1 n1 z1 t⟩
theorem CellIs.there {a : Addr} {x : Cell} (h : CellIs K Z Hb H a x) : ∃ o, H a = some o := by
  cases x with
  | lst ds => exact ⟨_, h.choose_spec.1⟩
  | dct ds => exact ⟨_, h.choose_spec.1⟩
  | obj ds => exact ⟨_, h.choose_spec.choose_spec.1⟩
theorem CellIs.kind {a : Addr} {x : Cell} (h : CellIs K Z Hb H a x) : (∀ ps, H a ≠ some (.tbl ps)) ∧ ∀ f, H a ≠ some (.ext f) := by
  cases x with
  | lst ds =>
    obtain ⟨vs, e, _⟩ := h
    refine ⟨fun ps z => ?_, fun ps z => ?_⟩ <;> (rw [e] at z; cases z)
  | dct ds =>
    obtain ⟨vs, e, _⟩ := h
    refine ⟨fun ps z => ?_, fun ps z => ?_⟩ <;> (rw [e] at z; cases z)
  | obj ds =>
    obtain ⟨dx, vs, e, _⟩ := h
    refine ⟨fun ps z => ?_, fun ps z => ?_⟩ <;> (rw [e] at z; cases z)
theorem tabs_write {T : List (Addr × Str)} {a : Addr} {ob : HO} (t : LamX.Tabs T H) (h1 : ∀ ps, H a ≠ some (.tbl ps)) (h2 : ∀ f, H a ≠ some (.ext f)) : LamX.Tabs T (upd H a ob) := fun p hp => by
  obtain ⟨ps, e1, e2, e3⟩ := t p hp
  refine ⟨ps, ?_, e2, fun pos cv hc => ?_⟩
  · rw [upd_ne (fun z => h1 ps (by rw [← z]; exact e1))]
    exact e1
  · obtain ⟨c, c1, c2⟩ := e3 pos cv hc
    refine ⟨c, c1, ?_⟩
    rw [upd_ne (fun z => h2 _ (by rw [← z]; exact c2))]
    exact c2
theorem CellIs.keep {a : Addr} {x : Cell} (h : CellIs K Z Hb H a x) (e : ∀ o, H a = some o → H' a = some o) (s : Same Hb Hb') : CellIs K Z Hb' H' a x := by
  cases x with
  | lst ds =>
    obtain ⟨vs, h1, h2⟩ := h
    exact ⟨vs, e _ h1, h2.mono s⟩
  | dct ds =>
    obtain ⟨vs, h1, h2⟩ := h
    exact ⟨vs, e _ h1, h2.mono s⟩
  | obj ds =>
    obtain ⟨dx, vs, h1, h2⟩ := h
    exact ⟨dx, vs, e _ h1, h2.mono s⟩
/-- a lambda is made: tables may grow -/
theorem RelSt.lam (r : RelSt K Z Hb H st) (e : LamX.ExtN H H') (t : LamX.Tabs Z.T H') : RelSt K Z Hb H' st ∧ StepW Hb H st Hb H' st := by
  have sm : Same Hb H' := fun b o h => e b o (r.c b o h) fun ps z => r.nt b ps (by rw [h, z])
  refine ⟨⟨sm, fun a x h => ?_, t, r.nt⟩, Same.refl _, fun p o h n z q => ⟨e p o h q, n, z⟩⟩
  obtain ⟨h1, h2⟩ := r.cell a x h
  refine ⟨h1, CellIs.keep h2 (fun o ho => e a o ho fun ps z => (CellIs.kind h2).1 ps (by rw [ho, z])) (Same.refl _)⟩
/-- all that there was, and one more thing that plain data lies in -/
theorem RelSt.ext (r : RelSt K Z Hb H st) {p : Addr} {ob : HO} (e : Same H H') (hp : H p = none) (hp' : H' p = some ob) (ht : ∀ ps, ob ≠ .tbl ps) : RelSt K Z (upd Hb p ob) H' st ∧ StepW Hb H st (upd Hb p ob) H' st := by
  have hb : Hb p = none := r.c.free hp
  refine ⟨⟨fun b o h => ?_, fun a x h => ?_, r.tabs.ext e, r.nt.upd ht⟩, same_new hb, fun b o h n z _ => ⟨e b o h, ?_, z⟩⟩
  · by_cases q : b = p
    · subst q
      rw [upd_same] at h
      rw [hp', h]
    · rw [upd_ne q] at h
      exact e b o (r.c b o h)
  · obtain ⟨h1, h2⟩ := r.cell a x h
    obtain ⟨o, ho⟩ := CellIs.there h2
    refine ⟨by rw [upd_ne (ne_of_none ho hp)]; exact h1, CellIs.keep h2 (fun o ho => e a o ho) (same_new hb)⟩
  · rw [upd_ne (ne_of_none h hp)]
    exact n
theorem RelSt.free (r : RelSt K Z Hb H st) {p : Addr} (h : H p = none) : st p = none := by
  cases e : st p with
  | none => rfl
  | some x =>
    obtain ⟨o, ho⟩ := (r.cell p x e).2.there
    rw [h] at ho
    cases ho
/-- a pure step -/
theorem Step.w (s : Step Hb H Hb' H') (r : RelSt K Z Hb H st) : StepW Hb H st Hb' H' st ∧ RelSt K Z Hb' H' st := by
  refine ⟨⟨s.b, fun p o h n z _ => ⟨s.a p o h, s.f p o h n, z⟩⟩, s.c, fun a x e => ?_, r.tabs.ext s.a, s.t r.nt⟩
  obtain ⟨n, c⟩ := r.cell a x e
  obtain ⟨o, ho⟩ := CellIs.there c
  exact ⟨s.f a o ho n, CellIs.keep c (fun o h => s.a a o h) s.b⟩
theorem Rel0.rel (r : Rel0 K Hb σ env) (H0 H : Hp) : Rel K H0 Hb H σ env := by
  have own : ∀ (i : Nat) (d : D), env[i]? = some (some d) → d.isOwn = false := fun i d e => by
    obtain ⟨v, _, h⟩ := r.val i d e
    cases d <;> first | rfl | (simp only [Is] at h)
  refine ⟨r.len, fun i d e => ?_, fun i j d e a _ e1 _ o1 _ _ _ => ?_⟩
  · obtain ⟨v, h1, h2⟩ := r.val i d e
    exact ⟨v, h1, by rw [IsS.plain (own i d e)]; exact h2⟩
  · rw [own i d e1] at o1
    cases o1
theorem Rel0.mono (s : Same Hb Hb') (r : Rel0 K Hb σ env) : Rel0 K Hb' σ env := ⟨r.len, fun i d e => let ⟨v, a, b⟩ := r.val i d e; ⟨v, a, b.mono s⟩⟩
theorem Rel0.set (r : Rel0 K Hb σ env) (i : Nat) {d : D} {v : V} (h : Is K Hb d v) : Rel0 K Hb (σ.set i (some v)) (env.set i (some d)) := by
  refine ⟨by rw [List.length_set, List.length_set, r.len], fun j e q => ?_⟩
  by_cases hj : i = j
  · subst hj
    have hi : i < env.length := by
      have := (List.getElem?_eq_some_iff.mp q).1
      rw [List.length_set] at this
      exact this
    rw [List.getElem?_set_self hi] at q
    cases q
    exact ⟨v, List.getElem?_set_self (by rw [r.len]; exact hi), h⟩
  · rw [List.getElem?_set_ne hj] at q
    obtain ⟨w, a, b⟩ := r.val j e q
    exact ⟨w, by rw [List.getElem?_set_ne hj]; exact a, b⟩
end

/-! ### wishes -/
structure WE where
  run : En → Sto → (D → Sto → Prop) → (Str → Sto → Prop) → Prop
  mono : ∀ {env st} {K K' : D → Sto → Prop} {E E' : Str → Sto → Prop}, (∀ d s, K d s → K' d s) → (∀ c s, E c s → E' c s) → run env st K E → run env st K' E'
structure WT where
  run : En → Sto → (Bool → Sto → Prop) → (Str → Sto → Prop) → Prop
  mono : ∀ {env st} {K K' : Bool → Sto → Prop} {E E' : Str → Sto → Prop}, (∀ d s, K d s → K' d s) → (∀ c s, E c s → E' c s) → run env st K E → run env st K' E'
structure WA where
  run : En → Sto → (List D → Sto → Prop) → (Str → Sto → Prop) → Prop
  mono : ∀ {env st} {K K' : List D → Sto → Prop} {E E' : Str → Sto → Prop}, (∀ d s, K d s → K' d s) → (∀ c s, E c s → E' c s) → run env st K E → run env st K' E'
structure WN where
  nx : En → Sto → Prop
  rt : D → Sto → Prop
  bk : En → Sto → Prop := fun _ _ => False
  ct : En → Sto → Prop := fun _ _ => False
  ex : Str → Sto → Prop := fun _ _ => False
structure WN.le (N N' : WN) : Prop where
  nx : ∀ e s, N.nx e s → N'.nx e s
  rt : ∀ e s, N.rt e s → N'.rt e s
  bk : ∀ e s, N.bk e s → N'.bk e s
  ct : ∀ e s, N.ct e s → N'.ct e s
  ex : ∀ e s, N.ex e s → N'.ex e s
structure WS where
  run : En → Sto → WN → Prop
  mono : ∀ {env st} {N N' : WN}, N.le N' → run env st N → run env st N'
/-- what a def does -/
structure WF where
  run : List D → Sto → (D → Sto → Prop) → (Str → Sto → Prop) → Prop
  mono : ∀ {ds st} {K K' : D → Sto → Prop} {E E' : Str → Sto → Prop}, (∀ d s, K d s → K' d s) → (∀ c s, E c s → E' c s) → run ds st K E → run ds st K' E'

def tWE (K : PySem.W.Frag) (Z : Wd) (W : Dn.WX) (M : WE) : TE := fun σ H Q => ∃ Hb env st, Rel0 K Hb σ env ∧ RelSt K Z Hb H st ∧
  M.run env st (fun d st' => ∀ v Hb' H', StepW Hb H st Hb' H' st' → RelSt K Z Hb' H' st' → Is K Hb' d v → Q v H') (fun c st' => ∀ Hb' H', StepW Hb H st Hb' H' st' → RelSt K Z Hb' H' st' → W (.ref (Z.cl c)) none σ H')
def tWT (K : PySem.W.Frag) (Z : Wd) (W : Dn.WX) (M : WT) : TT := fun σ H Q => ∃ Hb env st, Rel0 K Hb σ env ∧ RelSt K Z Hb H st ∧
  M.run env st (fun k st' => ∀ Hb' H', StepW Hb H st Hb' H' st' → RelSt K Z Hb' H' st' → Q k H') (fun c st' => ∀ Hb' H', StepW Hb H st Hb' H' st' → RelSt K Z Hb' H' st' → W (.ref (Z.cl c)) none σ H')
def tWA (K : PySem.W.Frag) (Z : Wd) (W : Dn.WX) (M : WA) : TA := fun σ H Q => ∃ Hb env st, Rel0 K Hb σ env ∧ RelSt K Z Hb H st ∧
  M.run env st (fun ds st' => ∀ vs Hb' H', StepW Hb H st Hb' H' st' → RelSt K Z Hb' H' st' → IsL K Hb' ds vs → Q vs H') (fun c st' => ∀ Hb' H', StepW Hb H st Hb' H' st' → RelSt K Z Hb' H' st' → W (.ref (Z.cl c)) none σ H')
/-- the wishes behind a statement, seen from where the def began -/
def liftN (K : PySem.W.Frag) (Z : Wd) (W : Dn.WX) (Hb0 H0 : Hp) (st0 : Sto) (N : L2.Ends) : WN where
  nx := fun env st => ∀ σ Hb H, Rel0 K Hb σ env → RelSt K Z Hb H st → StepW Hb0 H0 st0 Hb H st → N.nx σ H
  rt := fun d st => ∀ v Hb H, RelSt K Z Hb H st → StepW Hb0 H0 st0 Hb H st → Is K Hb d v → N.rt v H
  bk := fun env st => ∀ σ Hb H, Rel0 K Hb σ env → RelSt K Z Hb H st → StepW Hb0 H0 st0 Hb H st → N.bk σ H
  ct := fun env st => ∀ σ Hb H, Rel0 K Hb σ env → RelSt K Z Hb H st → StepW Hb0 H0 st0 Hb H st → N.ct σ H
  ex := fun c st => ∀ σ Hb H, RelSt K Z Hb H st → StepW Hb0 H0 st0 Hb H st → W (.ref (Z.cl c)) none σ H
def tWS (K : PySem.W.Frag) (Z : Wd) (W : Dn.WX) (M : WS) : TS := fun N σ H => ∃ Hb0 H0 st0 Hb env st, Rel0 K Hb σ env ∧ RelSt K Z Hb H st ∧ StepW Hb0 H0 st0 Hb H st ∧ M.run env st (liftN K Z W Hb0 H0 st0 N)

/-! ### pure ones lifted -/
def wP (f : En → Option D) : WE := ⟨fun env st K _ => ∃ d, f env = some d ∧ K d st, fun h _ ⟨d, e, k⟩ => ⟨d, e, h _ _ k⟩⟩
def wPT (f : En → Option Bool) : WT := ⟨fun env st K _ => ∃ d, f env = some d ∧ K d st, fun h _ ⟨d, e, k⟩ => ⟨d, e, h _ _ k⟩⟩
def wPA (f : En → Option (List D)) : WA := ⟨fun env st K _ => ∃ d, f env = some d ∧ K d st, fun h _ ⟨d, e, k⟩ => ⟨d, e, h _ _ k⟩⟩
section
variable {X : Cx} {Z : Wd} {W : Dn.WX} {a b e : Expr} {es : List Expr} {pos : Pos} {f : En → Option D} {Ma Mb : WE} {Ms : WA}
theorem wp_pure (h : PE X e (tD X.K f)) : PE X e (tWE X.K Z W (wP f)) := PE_weak h fun σ H Q hh => by
  obtain ⟨Hb, env, st, r, rs, d, ed, k⟩ := hh
  refine ⟨H, env, Hb, d, r.rel H H, rs.c, ed, fun v Hb' H' s iv => ?_⟩
  obtain ⟨s1, s2⟩ := s.w rs
  exact k v Hb' H' s1 s2 iv
theorem wt_pure {f : En → Option Bool} (h : PT X e (tT X.K f)) : PT X e (tWT X.K Z W (wPT f)) := PT_weak h fun σ H Q hh => by
  obtain ⟨Hb, env, st, r, rs, d, ed, k⟩ := hh
  refine ⟨H, env, Hb, d, r.rel H H, rs.c, ed, fun Hb' H' s => ?_⟩
  obtain ⟨s1, s2⟩ := s.w rs
  exact k Hb' H' s1 s2
theorem wa_pure {f : En → Option (List D)} (h : PA X es (tA X.K f)) : PA X es (tWA X.K Z W (wPA f)) := PA_weak h fun σ H Q hh => by
  obtain ⟨Hb, env, st, r, rs, d, ed, k⟩ := hh
  refine ⟨H, env, Hb, d, r.rel H H, rs.c, ed, fun vs Hb' H' s iv => ?_⟩
  obtain ⟨s1, s2⟩ := s.w rs
  exact k vs Hb' H' s1 s2 iv
/-! ### values -/
def w2 (g : D → D → Option D) (A B : WE) : WE := ⟨fun env st K E => A.run env st (fun a st1 => B.run env st1 (fun b st2 => ∃ d, g a b = some d ∧ K d st2) E) E,
  fun h h' x => A.mono (fun a s1 y => B.mono (fun b s2 ⟨d, e, k⟩ => ⟨d, e, h _ _ k⟩) h' y) h' x⟩
theorem wE_2 {K : PySem.W.Frag} {g : D → D → Option D} {σ : L2.St} {H : Hp} {Q : VK} (hh : tWE K Z W (w2 g Ma Mb) σ H Q) : tOp (rD2 K g) (tWE K Z W Ma) (tWE K Z W Mb) σ H Q := by
  obtain ⟨Hb, env, st, r, rs, m⟩ := hh
  refine ⟨Hb, env, st, r, rs, Ma.mono (fun da st1 m1 v Hb1 H1 s1 rs1 iv => ?_) (fun c s h => h) m⟩
  refine ⟨Hb1, env, st1, r.mono s1.b, rs1, Mb.mono (fun db st2 hd u Hb2 H2 s2 rs2 iu => ?_) (fun c s2 h Hb2 H2 x y => h Hb2 H2 (s1.trans x) y) m1⟩
  obtain ⟨d, ed, k⟩ := hd
  refine ⟨Hb2, da, db, d, rs2.c, iv.mono s2.b, iu, ed, fun w Hb3 H3 s3 iw => ?_⟩
  obtain ⟨x1, x2⟩ := s3.w rs2
  exact k w Hb3 H3 (s1.trans (s2.trans x1)) x2 iw
theorem wp_op {op : Operator} {g : D → D → Option D} (ho : OpR X (binaryOp op) (rD2 X.K g)) (ha : PE X a (tWE X.K Z W Ma)) (hb : PE X b (tWE X.K Z W Mb)) : PE X (.BinOp a op b pos) (tWE X.K Z W (w2 g Ma Mb)) :=
  PE_weak (pe_op ho ha hb) fun _ _ _ h => wE_2 h
theorem wp_cmp {op : CmpOp} {g : D → D → Option D} (ho : OpR X (compareOp op) (rD2 X.K g)) (ha : PE X a (tWE X.K Z W Ma)) (hb : PE X b (tWE X.K Z W Mb)) (hm : behindInMarks op b = false := by first | exact nobehind _ (by decide) (by decide) | rfl) :
    PE X (.Compare a [op] [b] pos) (tWE X.K Z W (w2 g Ma Mb)) := PE_weak (pe_cmpR ho ha hb hm) fun _ _ _ h => wE_2 h
def wB (A : WE) : WT := ⟨fun env st K E => A.run env st (fun d st1 => ∃ k, d = .bl k ∧ K k st1) E, fun h h' x => A.mono (fun d s ⟨k, e, q⟩ => ⟨k, e, h _ _ q⟩) h' x⟩
theorem wt_cmp {op : CmpOp} {g : D → D → Option D} (ho : OpR X (compareOp op) (rD2 X.K g)) (ha : PE X a (tWE X.K Z W Ma)) (hb : PE X b (tWE X.K Z W Mb)) (hm : behindInMarks op b = false := by first | exact nobehind _ (by decide) (by decide) | rfl) :
    PT X (.Compare a [op] [b] pos) (tWT X.K Z W (wB (w2 g Ma Mb))) := PT_weak (pt_cmpR ho ha hb hm) fun σ H Q h => by
  obtain ⟨Hb, env, st, r, rs, m⟩ := h
  refine wE_2 ⟨Hb, env, st, r, rs, (w2 g Ma Mb).mono (fun d st1 hd v Hb' H' s rs' iv => ?_) (fun _ _ h => h) m⟩
  obtain ⟨k, rfl, q⟩ := hd
  exact ⟨k, by simpa only [Is] using iv, q Hb' H' s rs'⟩
theorem wt_val (h : PE X e (tWE X.K Z W Ma)) (he : ∀ whole, isTrue e X.env whole = (do let v ← whole; standAt e.pos; holding [v] (truthy v)) := by intro _; rfl) : PT X e (tWT X.K Z W (wB Ma)) :=
  PT_weak (pt_val h he) fun σ H Q hh => by
    obtain ⟨Hb, env, st, r, rs, m⟩ := hh
    refine ⟨Hb, env, st, r, rs, Ma.mono (fun d st1 hd v Hb' H' s rs' iv => ?_) (fun _ _ h => h) m⟩
    obtain ⟨k, rfl, q⟩ := hd
    exact ⟨k, by simpa only [Is] using iv, q Hb' H' s rs'⟩
def wNot (A : WT) : WT := ⟨fun env st K E => A.run env st (fun k s => K (!k) s) E, fun h h' x => A.mono (fun k s q => h _ _ q) h' x⟩
def wAnd (A B : WT) : WT := ⟨fun env st K E => A.run env st (fun k s => if k then B.run env s K E else K false s) E, fun h h' x => A.mono (fun k s q => by
  cases k with
  | true => exact B.mono h h' q
  | false => exact h _ _ q) h' x⟩
def wOr (A B : WT) : WT := ⟨fun env st K E => A.run env st (fun k s => if k then K true s else B.run env s K E) E, fun h h' x => A.mono (fun k s q => by
  cases k with
  | false => exact B.mono h h' q
  | true => exact h _ _ q) h' x⟩
variable {Ta Tb : WT} {rest : List Expr}
theorem wt_not (ha : PT X a (tWT X.K Z W Ta)) : PT X (.UnaryOp .Not a pos) (tWT X.K Z W (wNot Ta)) := PT_weak (pt_not ha) fun σ H Q h => by
  obtain ⟨Hb, env, st, r, rs, m⟩ := h
  exact ⟨Hb, env, st, r, rs, m⟩
theorem wt_and1 (ha : PT X a (tWT X.K Z W Ta)) : PW X (.BoolOp .And [a] pos) (tWT X.K Z W Ta) := pw_and1 ha
theorem wt_or1 (ha : PT X a (tWT X.K Z W Ta)) : PW X (.BoolOp .Or [a] pos) (tWT X.K Z W Ta) := pw_or1 ha
theorem wt_and (ha : PT X a (tWT X.K Z W Ta)) (hb : PW X (.BoolOp .And (b :: rest) pos) (tWT X.K Z W Tb)) : PW X (.BoolOp .And (a :: b :: rest) pos) (tWT X.K Z W (wAnd Ta Tb)) := PW_weak (pw_and ha hb) fun σ H Q h => by
  obtain ⟨Hb, env, st, r, rs, m⟩ := h
  refine ⟨Hb, env, st, r, rs, Ta.mono (fun k st1 q Hb1 H1 s1 rs1 => ?_) (fun _ _ h => h) m⟩
  cases k with
  | false => exact q Hb1 H1 s1 rs1
  | true => exact ⟨Hb1, env, st1, r.mono s1.b, rs1, Tb.mono (fun k2 st2 q2 Hb2 H2 s2 rs2 => q2 Hb2 H2 (s1.trans s2) rs2) (fun c s2 h Hb2 H2 x y => h Hb2 H2 (s1.trans x) y) q⟩
theorem wt_or (ha : PT X a (tWT X.K Z W Ta)) (hb : PW X (.BoolOp .Or (b :: rest) pos) (tWT X.K Z W Tb)) : PW X (.BoolOp .Or (a :: b :: rest) pos) (tWT X.K Z W (wOr Ta Tb)) := PW_weak (pw_or ha hb) fun σ H Q h => by
  obtain ⟨Hb, env, st, r, rs, m⟩ := h
  refine ⟨Hb, env, st, r, rs, Ta.mono (fun k st1 q Hb1 H1 s1 rs1 => ?_) (fun _ _ h => h) m⟩
  cases k with
  | true => exact q Hb1 H1 s1 rs1
  | false => exact ⟨Hb1, env, st1, r.mono s1.b, rs1, Tb.mono (fun k2 st2 q2 Hb2 H2 s2 rs2 => q2 Hb2 H2 (s1.trans s2) rs2) (fun c s2 h Hb2 H2 x y => h Hb2 H2 (s1.trans x) y) q⟩
/-! argument lists, displays -/
def wNil : WA := wPA fNil
def wCons (A : WE) (B : WA) : WA := ⟨fun env st K E => A.run env st (fun a s => B.run env s (fun ds s2 => K (a :: ds) s2) E) E, fun h h' x => A.mono (fun _ _ y => B.mono (fun _ _ k => h _ _ k) h' y) h' x⟩
theorem wa_nil : PA X [] (tWA X.K Z W wNil) := wa_pure a_nil
theorem wa_cons (ha : PE X e (tWE X.K Z W Ma)) (hr : PA X es (tWA X.K Z W Ms)) (hs : starEach (e :: es) X.env = (false, eval e X.env) :: starEach es X.env := by rfl) : PA X (e :: es) (tWA X.K Z W (wCons Ma Ms)) :=
  PA_weak (pa_cons ha hr hs) fun σ H Q h => by
    obtain ⟨Hb, env, st, r, rs, m⟩ := h
    refine ⟨Hb, env, st, r, rs, Ma.mono (fun d st1 q v Hb1 H1 s1 rs1 iv => ?_) (fun _ _ h => h) m⟩
    refine ⟨Hb1, env, st1, r.mono s1.b, rs1, Ms.mono (fun ds st2 q2 vs Hb2 H2 s2 rs2 ivs => ?_) (fun c s2 h Hb2 H2 x y => h Hb2 H2 (s1.trans x) y) q⟩
    exact q2 (v :: vs) Hb2 H2 (s1.trans s2) rs2 (by simp only [IsL]; exact ⟨v, vs, rfl, iv.mono s2.b, ivs⟩)
def wTup (A : WA) : WE := ⟨fun env st K E => A.run env st (fun ds s => ds.length ≤ sizeLine ∧ K (.tup ds) s) E, fun h h' x => A.mono (fun _ _ ⟨a, b⟩ => ⟨a, h _ _ b⟩) h' x⟩
theorem wp_tup {x1} (h : PA X es (tWA X.K Z W Ms)) : PE X (.Tuple es x1 pos) (tWE X.K Z W (wTup Ms)) := PE_weak (pe_tupN h) fun σ H Q hh => by
  obtain ⟨Hb, env, st, r, rs, m⟩ := hh
  refine ⟨Hb, env, st, r, rs, Ms.mono (fun ds st1 q vs Hb1 H1 s1 rs1 iv => ?_) (fun _ _ h => h) m⟩
  refine ⟨by rw [iv.length]; exact q.1, fun p o hp ho => ?_⟩
  obtain ⟨x1, x2⟩ := (Step.new rs1.c hp (o := .frz o (.tup vs))).w rs1
  exact q.2 _ _ _ (s1.trans x1) x2 (is_tup_new ho (rs1.c.free hp) iv)
/-! built-ins and defs of the old layer, of values that change on the way -/
def wBlt (g : List D → Option D) (A : WA) : WE := ⟨fun env st K E => A.run env st (fun ds s => ∃ d, g ds = some d ∧ K d s) E, fun h h' x => A.mono (fun _ _ ⟨d, e, k⟩ => ⟨d, e, h _ _ k⟩) h' x⟩
theorem wp_blt {x : Str} {id : String} {p : Pos} {g : List D → Option D} (hc : CallR X (.builtin id) (rDA X.K g)) (hm : X.mg x = none) (hv : bootBuiltins x = some (.builtin id)) (ha : PA X (e :: es) (tWA X.K Z W Ms)) (hg : Gl X x := by rfl) (hn : x ≠ "__name__" := by decide) (hdb : (x == ("__debug__" : Str)) = false := by decide)
    (he : starEach (e :: es) X.env = (false, eval e X.env) :: starEach es X.env := by rfl) (hpl : (backTo pos (starEach es X.env)).any (·.1) = false := by rfl) : PE X (.Call (.Name x p) (e :: es) [] pos) (tWE X.K Z W (wBlt g Ms)) := PE_weak (pe_callB hc hg hm hv ha hn hdb he hpl) fun σ H Q hh => by
  obtain ⟨Hb, env, st, r, rs, m⟩ := hh
  refine ⟨Hb, env, st, r, rs, Ms.mono (fun ds st1 q vs Hb1 H1 s1 rs1 iv => ?_) (fun _ _ h => h) m⟩
  obtain ⟨d, ed, k⟩ := q
  refine ⟨Hb1, ds, d, rs1.c, iv, ed, fun v Hb2 H2 s2 i2 => ?_⟩
  obtain ⟨x1, x2⟩ := s2.w rs1
  exact k v Hb2 H2 (s1.trans x1) x2 i2
theorem wp_def {x : Str} {ps : List Str} {k j : Nat} {p : Pos} {sem : List D → Option D} (h : Def X.prog X.w X.K X.mg X.base k x ps sem) (hr : Room j X.A) (ha : PA X (e :: es) (tWA X.K Z W Ms)) (hkj : k ≤ j := by decide) (hg : Gl X x := by rfl) (hdb : (x == ("__debug__" : Str)) = false := by decide)
    (he : starEach (e :: es) X.env = (false, eval e X.env) :: starEach es X.env := by rfl) (hpl : (backTo pos (starEach es X.env)).any (·.1) = false := by rfl) :
    PE X (.Call (.Name x p) (e :: es) [] pos) (tWE X.K Z W (wBlt sem Ms)) := by
  obtain ⟨f, fd, Fo, hm, hk, hb⟩ := h
  refine PE_weak (pe_call (E := fun _ _ _ => False) Fo (hr.mono hkj) hg hm hk hb .nil pass0 ha hdb he hpl) fun σ H Q hh => ?_
  obtain ⟨Hb, env, st, r, rs, m⟩ := hh
  refine ⟨Hb, env, st, r, rs, Ms.mono (fun ds st1 q vs Hb1 H1 s1 rs1 iv => ?_) (fun _ _ h => h) m⟩
  obtain ⟨d, ed, k⟩ := q
  show spD X.K sem (vs ++ []) H1 Q _
  rw [List.append_nil]
  refine ⟨Hb1, ds, d, rs1.c, iv, ed, fun v Hb2 H2 s2 i2 => ?_⟩
  obtain ⟨x1, x2⟩ := s2.w rs1
  exact k v Hb2 H2 (s1.trans x1) x2 i2
end
end Dn
set_option Elab.async false
set_option linter.all false
set_option maxRecDepth 100000
/-! Part Q: statements of the store's layer; defs. -/
namespace Dn
open PySem L2 PySem.Spec PyProof.Rows

theorem WS.imp (M : WS) {env : En} {st : Sto} {N N' : WN} (x : M.run env st N) (h : N.le N') : M.run env st N' := M.mono h x
/-- a heap that lacks nothing: no slot owns -/
def full : Hp := fun _ => some (.lst [])
theorem Rel.rel0 {K : PySem.W.Frag} {Hb H : Hp} {σ : L2.St} {env : En} (r : Rel K full Hb H σ env) : Rel0 K Hb σ env := ⟨r.len, fun i d e => by
  obtain ⟨v, h1, h2⟩ := r.val i d e
  refine ⟨v, h1, ?_⟩
  cases d with
  | own ds =>
    obtain ⟨a, vs, _, z, _⟩ := h2
    cases z
  | ownd ds =>
    obtain ⟨a, vs, _, z, _⟩ := h2
    cases z
  | _ => exact h2⟩
section
variable {X : Cx} {Z : Wd} {W : Dn.WX} {a b e : Expr} {es : List Expr} {st' : Stmt} {sts rest : List Stmt} {pos : Pos} {A : WE} {T : WT} {F G : WS}
def wSet (i : Nat) (A : WE) : WS := ⟨fun env st N => A.run env st (fun d s => N.nx (env.set i (some d)) s) N.ex, fun h x => A.mono (fun _ _ k => h.nx _ _ k) (fun _ _ k => h.ex _ _ k) x⟩
def wAsg (A : WE) (g : D → En → Option En) : WS := ⟨fun env st N => A.run env st (fun d s => ∃ e, g d env = some e ∧ N.nx e s) N.ex, fun h x => A.mono (fun _ _ ⟨e, q, k⟩ => ⟨e, q, h.nx _ _ k⟩) (fun _ _ k => h.ex _ _ k) x⟩
def wRet (A : WE) : WS := ⟨fun env st N => A.run env st N.rt N.ex, fun h x => A.mono h.rt h.ex x⟩
def wDrop (A : WE) : WS := ⟨fun env st N => A.run env st (fun _ s => N.nx env s) N.ex, fun h x => A.mono (fun _ _ k => h.nx _ _ k) h.ex x⟩
def wPass : WS := ⟨fun env st N => N.nx env st, fun h x => h.nx _ _ x⟩
def wSeq (F G : WS) : WS := ⟨fun env st N => F.run env st { N with nx := fun e s => G.run e s N }, fun h x => F.imp x ⟨fun _ _ k => G.mono h k, h.rt, h.bk, h.ct, h.ex⟩⟩
def wIf (T : WT) (F G : WS) : WS := ⟨fun env st N => T.run env st (fun k s => if k then F.run env s N else G.run env s N) N.ex, fun h x => T.mono (fun k s q => by
  cases k with
  | true => exact F.mono h q
  | false => exact G.mono h q) h.ex x⟩
theorem ws_set (i : Nat) {x : Str} {pos' : Pos} (hN : X.N.Nodup) (he : PE X e (tWE X.K Z W A)) (hi : X.N[i]? = some x := by rfl) (hx : Loc X.env.scope x := by first | exact Or.inl rfl | exact Or.inr rfl) (hs : swapsWith e (some (.Name x pos')) pos.line X.env = pure false := by rfl)
    (hf : X.fn x = true ∨ X.env.scope.names.lookup x = some .local := by first | exact .inl rfl | exact .inr rfl) : PS X (.Assign [.Name x pos'] e pos) (tWS X.K Z W (wSet i A)) := PS_weak (ps_set hN hi hx he hs hf) fun N σ H h => by
  obtain ⟨Hb0, H0, st0, Hb, env, st, r, rs, sp, m⟩ := h
  exact ⟨Hb, env, st, r, rs, A.mono (fun d s1 k v Hb1 H1 s rs1 iv => k _ Hb1 H1 ((r.mono s.b).set i iv) rs1 (sp.trans s)) (fun c s1 k Hb1 H1 s rs1 => k σ Hb1 H1 rs1 (sp.trans s)) m⟩
theorem ws_asg {tg : Expr} {ts : List Nat} {g : D → En → Option En} (he : PE X e (tWE X.K Z W A)) (hg : PG X tg (tG X.K ts g)) (hs : swapsWithSole [tg] e pos.line X.env = pure false := by rfl) (hw : swappedStores [tg] e X.env = pure none := by rfl)
    (h1 : (assignEach [tg] X.env).map (·.2) = [assign tg X.env] := by rfl) : PS X (.Assign [tg] e pos) (tWS X.K Z W (wAsg A g)) := PS_weak (ps_asg he hg hs hw h1) fun N σ H h => by
  obtain ⟨Hb0, H0, st0, Hb, env, st, r, rs, sp, m⟩ := h
  refine ⟨Hb, env, st, r, rs, A.mono (fun d s1 k v Hb1 H1 s rs1 iv => ?_) (fun c s1 k Hb1 H1 s rs1 => k σ Hb1 H1 rs1 (sp.trans s)) m⟩
  obtain ⟨e2, eg, k⟩ := k
  exact ⟨full, Hb1, env, d, e2, (r.mono s.b).rel full H1, rs1.c, iv, eg, fun σ' r' _ => k σ' Hb1 H1 r'.rel0 rs1 (sp.trans s)⟩
/-- a, b = x, y -/
def wPar (i j : Nat) (A : WA) : WS := ⟨fun env st N => A.run env st (fun ds s => ∃ d d', ds = [d, d'] ∧ N.nx ((env.set i (some d)).set j (some d')) s) N.ex, fun h x => A.mono (fun _ _ ⟨d, d', q, k⟩ => ⟨d, d', q, h.nx _ _ k⟩) (fun _ _ k => h.ex _ _ k) x⟩
theorem ws_par (i j : Nat) {Ms : WA} {x y : Str} {px py pt : Pos} {kt k2 pt2} (hc : X.calm = true) (hN : X.N.Nodup) (ha : PA X [a, b] (tWA X.K Z W Ms)) (hi : X.N[i]? = some x := by rfl) (hj : X.N[j]? = some y := by rfl) (hij : i ≠ j := by decide)
    (hx : X.env.scope.names.lookup x = some .local := by rfl) (hy : X.env.scope.names.lookup y = some .local := by rfl)
    (hw : swappedStores [.Tuple [.Name x px, .Name y py] kt pt] (.Tuple [a, b] k2 pt2) X.env = pure (some [x, y]) := by rfl)
    (hs : swapsWithSole [.Tuple [.Name x px, .Name y py] kt pt] (.Tuple [a, b] k2 pt2) pos.line X.env = pure false := by rfl) :
    PS X (.Assign [.Tuple [.Name x px, .Name y py] kt pt] (.Tuple [a, b] k2 pt2) pos) (tWS X.K Z W (wPar i j Ms)) := PS_weak (ps_par hc hN hi hj hij hx hy ha hw hs) fun N σ H h => by
  obtain ⟨Hb0, H0, st0, Hb, env, st, r, rs, sp, m⟩ := h
  refine ⟨Hb, env, st, r, rs, Ms.mono (fun ds s1 k vs Hb1 H1 s rs1 iv => ?_) (fun c s1 k Hb1 H1 s rs1 => k σ Hb1 H1 rs1 (sp.trans s)) m⟩
  obtain ⟨d, d', rfl, k⟩ := k
  simp only [IsL] at iv
  obtain ⟨v, r1, rfl, i1, v', r2, rfl, i2, rfl⟩ := iv
  exact ⟨v, v', rfl, k _ Hb1 H1 (((r.mono s.b).set i i1).set j i2) rs1 (sp.trans s)⟩
theorem ws_ret (he : PE X e (tWE X.K Z W A)) : PS X (.Return (some e) pos) (tWS X.K Z W (wRet A)) := PS_weak (ps_ret he) fun N σ H h => by
  obtain ⟨Hb0, H0, st0, Hb, env, st, r, rs, sp, m⟩ := h
  exact ⟨Hb, env, st, r, rs, A.mono (fun d s1 k v Hb1 H1 s rs1 iv => k v Hb1 H1 rs1 (sp.trans s) iv) (fun c s1 k Hb1 H1 s rs1 => k σ Hb1 H1 rs1 (sp.trans s)) m⟩
theorem ws_expr (he : PE X e (tWE X.K Z W A)) (hs : swapsWith e none pos.line X.env = pure false := by rfl) : PS X (.Expr e pos) (tWS X.K Z W (wDrop A)) := PS_weak (ps_expr he hs) fun N σ H h => by
  obtain ⟨Hb0, H0, st0, Hb, env, st, r, rs, sp, m⟩ := h
  exact ⟨Hb, env, st, r, rs, A.mono (fun d s1 k v Hb1 H1 s rs1 iv => k σ Hb1 H1 (r.mono s.b) rs1 (sp.trans s)) (fun c s1 k Hb1 H1 s rs1 => k σ Hb1 H1 rs1 (sp.trans s)) m⟩
theorem wss_nil : PSs X [] (tWS X.K Z W wPass) := PSs_weak pss_nil fun N σ H h => by
  obtain ⟨Hb0, H0, st0, Hb, env, st, r, rs, sp, m⟩ := h
  exact m σ Hb H r rs sp
theorem ws_pass : PS X (.Pass pos) (tWS X.K Z W wPass) := PS_weak ps_pass fun N σ H h => by
  obtain ⟨Hb0, H0, st0, Hb, env, st, r, rs, sp, m⟩ := h
  exact m σ Hb H r rs sp
theorem wss_one (h : PS X st' (tWS X.K Z W F)) : PSs X [st'] (tWS X.K Z W F) := pss_one h
theorem wss_cons (h1 : PS X st' (tWS X.K Z W F)) (h2 : PSs X rest (tWS X.K Z W G)) : PSs X (st' :: rest) (tWS X.K Z W (wSeq F G)) := PSs_weak (pss_cons h1 h2) fun N σ H h => by
  obtain ⟨Hb0, H0, st0, Hb, env, st, r, rs, sp, m⟩ := h
  exact ⟨Hb0, H0, st0, Hb, env, st, r, rs, sp, F.imp (show F.run env st { (liftN X.K Z W Hb0 H0 st0 N) with nx := fun e s => G.run e s (liftN X.K Z W Hb0 H0 st0 N) } from m) ⟨fun e2 s2 k σ' Hb' H' r' rs' sp' => ⟨Hb0, H0, st0, Hb', e2, s2, r', rs', sp', k⟩, fun _ _ k => k, fun _ _ k => k, fun _ _ k => k, fun _ _ k => k⟩⟩
theorem ws_if {p q : List Stmt} {c : Expr} (hc : PT X c (tWT X.K Z W T)) (hp : PSs X p (tWS X.K Z W F)) (hq : PSs X q (tWS X.K Z W G)) : PS X (.If c p q pos) (tWS X.K Z W (wIf T F G)) := PS_weak (ps_if hc hp hq) fun N σ H h => by
  obtain ⟨Hb0, H0, st0, Hb, env, st, r, rs, sp, m⟩ := h
  refine ⟨Hb, env, st, r, rs, T.mono (fun k s1 q Hb1 H1 s rs1 => ?_) (fun c s1 k Hb1 H1 s rs1 => k σ Hb1 H1 rs1 (sp.trans s)) m⟩
  cases k with
  | true => exact ⟨Hb0, H0, st0, Hb1, env, s1, r.mono s.b, rs1, sp.trans s, q⟩
  | false => exact ⟨Hb0, H0, st0, Hb1, env, s1, r.mono s.b, rs1, sp.trans s, q⟩
/-! ### loops -/
def forW (g : D → En → Option En) (B : WS) : List D → En → Sto → WN → Prop
  | [], env, st, N => N.nx env st
  | d :: ds, env, st, N => ∃ e1, g d env = some e1 ∧ B.run e1 st { nx := fun e s => forW g B ds e s N, ct := fun e s => forW g B ds e s N, bk := N.nx, rt := N.rt, ex := N.ex }
theorem forW_mono {g : D → En → Option En} {B : WS} {N N' : WN} (h : N.le N') : ∀ {ds : List D} {env : En} {st : Sto}, forW g B ds env st N → forW g B ds env st N'
  | [], _, _, x => h.nx _ _ x
  | d :: ds, env, st, ⟨e1, q, x⟩ => ⟨e1, q, B.imp x ⟨fun _ _ k => forW_mono h k, h.rt, h.nx, fun _ _ k => forW_mono h k, h.ex⟩⟩
def wFor (it : En → Option (List D)) (g : D → En → Option En) (B : WS) : WS := ⟨fun env st N => ∃ ds, it env = some ds ∧ forW g B ds env st N, fun h ⟨ds, q, x⟩ => ⟨ds, q, forW_mono h x⟩⟩
theorem ws_for {tg iter : Expr} {ts : List Nat} {g : D → En → Option En} {body : List Stmt} {it : En → Option (List D)} (hp : PassesOwn (model X.prog X.w) X.A X.env X.xe) (hc : X.calm = true) (hi : PI X tg iter (tI X.K it)) (hg : PG X tg (tG X.K ts g)) (hb : PSs X body (tWS X.K Z W F))
    (hs : ∀ x, foldedSetIterable iter X.env x = pure x := by intro _; rfl) : PS X (.For tg iter body [] pos) (tWS X.K Z W (wFor it g F)) := PS_weak (ps_for hp hc hi hg hb hs) fun N σ H h => by
  obtain ⟨Hb0, H0, st0, Hb, env, st, r, rs, sp, ds, ed, m⟩ := h
  refine ⟨full, env, Hb, ds, r.rel full H, rs.c, ed, fun J Hb1 H1 s1 wk => ?_⟩
  obtain ⟨x1, x2⟩ := s1.w rs
  refine ⟨fun i n σ' H' => ∃ Hb' env' st', Rel0 X.K Hb' σ' env' ∧ RelSt X.K Z Hb' H' st' ∧ StepW Hb0 H0 st0 Hb' H' st' ∧ Same Hb1 Hb' ∧ i + n = ds.length ∧ forW g F (ds.drop i) env' st' (liftN X.K Z W Hb0 H0 st0 N), ⟨ds.length, Hb1, env, st, r.mono s1.b, x2, sp.trans x1, Same.refl _, by omega, m⟩, fun i n σ2 H2 hW => ?_⟩
  obtain ⟨Hb2, e2, st2, r2, rs2, sp2, sm2, im, q2⟩ := hW
  obtain ⟨wi, ws⟩ := wk Hb2 H2 sm2 rs2.c
  by_cases hn : n = 0
  · subst hn
    have hi : i = ds.length := by omega
    subst hi
    rw [List.drop_length] at q2
    exact .inl ⟨ws, q2 σ2 Hb2 H2 r2 rs2 sp2⟩
  · have hi : i < ds.length := by omega
    obtain ⟨go, yld⟩ := wi i ds[i] (List.getElem?_eq_getElem hi)
    rw [List.drop_eq_getElem_cons hi] at q2
    obtain ⟨e3, eg, q2⟩ := q2
    refine .inr ⟨go, fun σ' H' => ∃ Hb' env' st', Rel0 X.K Hb' σ' env' ∧ RelSt X.K Z Hb' H' st' ∧ StepW Hb0 H0 st0 Hb' H' st' ∧ Same Hb1 Hb' ∧ forW g F (ds.drop (i + 1)) env' st' (liftN X.K Z W Hb0 H0 st0 N), fun σ' H' hN => ?_, fun x H' hy => ?_⟩
    · obtain ⟨Hb', e', s', a1, a2, a3, a4, a5⟩ := hN
      exact ⟨n - 1, by omega, Hb', e', s', a1, a2, a3, a4, by omega, a5⟩
    · obtain ⟨Hb3, s3, iv⟩ := yld x H' hy
      obtain ⟨y1, y2⟩ := s3.w rs2
      refine ⟨full, Hb3, e2, ds[i], e3, (r2.mono s3.b).rel full H', s3.c, iv, eg, fun σ' r' _ => ⟨Hb3, H', st2, Hb3, e3, st2, r'.rel0, y2, StepW.refl, F.imp q2 ?_⟩⟩
      have sp3 := sp2.trans y1
      have sm3 := sm2.trans s3.b
      exact ⟨fun e s k σ' Hb' H'' r' rs' sp' => ⟨Hb', e, s, r', rs', sp3.trans sp', sm3.trans sp'.b, k⟩, fun d s k v Hb' H'' rs' sp' iv => k v Hb' H'' rs' (sp3.trans sp') iv, fun e s k σ' Hb' H'' r' rs' sp' => k σ' Hb' H'' r' rs' (sp3.trans sp'),
        fun e s k σ' Hb' H'' r' rs' sp' => ⟨Hb', e, s, r', rs', sp3.trans sp', sm3.trans sp'.b, k⟩, fun c s k σ' Hb' H'' rs' sp' => k σ' Hb' H'' rs' (sp3.trans sp')⟩
def whileW (T : WT) (B : WS) : Nat → En → Sto → WN → Prop
  | 0, _, _, _ => False
  | n + 1, env, st, N => T.run env st (fun k s => if k then B.run env s { nx := fun e s => whileW T B n e s N, ct := fun e s => whileW T B n e s N, bk := N.nx, rt := N.rt, ex := N.ex } else N.nx env s) N.ex
theorem whileW_mono {T : WT} {B : WS} {N N' : WN} (h : N.le N') : ∀ {n : Nat} {env : En} {st : Sto}, whileW T B n env st N → whileW T B n env st N'
  | 0, _, _, x => x
  | n + 1, env, st, x => T.mono (fun k s q => by
    cases k with
    | true => exact B.imp q ⟨fun _ _ k => whileW_mono h k, h.rt, h.nx, fun _ _ k => whileW_mono h k, h.ex⟩
    | false => exact h.nx _ _ q) h.ex x
def wWhile (T : WT) (B : WS) : WS := ⟨fun env st N => ∃ n, whileW T B n env st N, fun h ⟨n, x⟩ => ⟨n, whileW_mono h x⟩⟩
theorem ws_while {c : Expr} {body : List Stmt} (hp : PassesOwn (model X.prog X.w) X.A X.env X.xe) (hc : PT X c (tWT X.K Z W T)) (hb : PSs X body (tWS X.K Z W F)) : PS X (.While c body [] pos) (tWS X.K Z W (wWhile T F)) :=
  PS_weak (ps_while hp hc hb) fun N σ H h => by
    obtain ⟨Hb0, H0, st0, Hb, env, st, r, rs, sp, n, m⟩ := h
    refine ⟨fun n σ' H' => ∃ Hb' env' st', Rel0 X.K Hb' σ' env' ∧ RelSt X.K Z Hb' H' st' ∧ StepW Hb0 H0 st0 Hb' H' st' ∧ whileW T F n env' st' (liftN X.K Z W Hb0 H0 st0 N), ⟨n, Hb, env, st, r, rs, sp, m⟩, fun n σ1 H1 hW => ?_⟩
    obtain ⟨Hb1, e1, st1, r1, rs1, sp1, q1⟩ := hW
    cases n with
    | zero => exact q1.elim
    | succ n =>
      refine ⟨Hb1, e1, st1, r1, rs1, T.mono (fun k s2 q Hb2 H2 s rs2 => ?_) (fun c s2 k Hb2 H2 s rs2 => k σ1 Hb2 H2 rs2 (sp1.trans s)) q1⟩
      cases k with
      | false => exact q σ1 Hb2 H2 (r1.mono s.b) rs2 (sp1.trans s)
      | true =>
        refine ⟨fun σ' H' => ∃ Hb' env' st', Rel0 X.K Hb' σ' env' ∧ RelSt X.K Z Hb' H' st' ∧ StepW Hb0 H0 st0 Hb' H' st' ∧ whileW T F n env' st' (liftN X.K Z W Hb0 H0 st0 N), fun σ' H' hN => ⟨n, Nat.lt_succ_self n, hN⟩, Hb0, H0, st0, Hb2, e1, s2, r1.mono s.b, rs2, sp1.trans s, F.imp q ?_⟩
        exact ⟨fun e s k σ' Hb' H'' r' rs' sp' => ⟨Hb', e, s, r', rs', sp', k⟩, fun d s k => k, fun e s k => k, fun e s k σ' Hb' H'' r' rs' sp' => ⟨Hb', e, s, r', rs', sp', k⟩, fun c s k => k⟩
/-! ### calls of defs that change things -/
def spW (K : PySem.W.Frag) (Z : Wd) (sem : WF) : Sp := fun vs H Q E => ∃ Hb st ds, RelSt K Z Hb H st ∧ IsL K Hb ds vs ∧ sem.run ds st (fun d st' => ∀ v Hb' H', StepW Hb H st Hb' H' st' → RelSt K Z Hb' H' st' → Is K Hb' d v → Q v H') (fun c st' => ∀ Hb' H', StepW Hb H st Hb' H' st' → RelSt K Z Hb' H' st' → E (.ref (Z.cl c)) none H')
def wCall (sem : WF) (Ms : WA) : WE := ⟨fun env st K E => Ms.run env st (fun ds s => sem.run ds s K E) E, fun h h' x => Ms.mono (fun _ _ y => sem.mono h h' y) h' x⟩
theorem wE_call {K : PySem.W.Frag} {Ms : WA} {sem : WF} {σ : L2.St} {H : Hp} {Q : VK} (hh : tWE K Z W (wCall sem Ms) σ H Q) : tCallS (spW K Z sem) (L2.WE W) (tWA K Z W Ms) σ H Q := by
  obtain ⟨Hb, env, st, r, rs, m⟩ := hh
  refine ⟨Hb, env, st, r, rs, Ms.mono (fun ds st1 q vs Hb1 H1 s1 rs1 iv => ?_) (fun _ _ h => h) m⟩
  exact ⟨Hb1, st1, ds, rs1, iv, sem.mono (fun d s2 k v Hb2 H2 x y z => k v Hb2 H2 (s1.trans x) y z) (fun c s2 k Hb2 H2 x y => k Hb2 H2 (s1.trans x) y) q⟩
theorem wp_call {Ms : WA} {x : Str} {f : Addr} {fd : FuncData} {ps : List Str} {k j : Nat} {p : Pos} {sem : WF} (tk : Takes X W) (Fo : FnOk X.prog X.w X.K X.mg X.base (L2.CX X.prog X.w) k f fd ps (spW X.K Z sem)) (hr : Room j X.A) (hm : X.mg x = some (.ref f)) (hk : PySem.W.keepIn X.K (.ref f) = true) (hb : Binds X.K fd ps []) (ha : PA X (e :: es) (tWA X.K Z W Ms)) (hkj : k ≤ j := by decide)
    (hg : Gl X x := by rfl) (hdb : (x == ("__debug__" : Str)) = false := by decide) (he : starEach (e :: es) X.env = (false, eval e X.env) :: starEach es X.env := by rfl) (hpl : (backTo pos (starEach es X.env)).any (·.1) = false := by rfl) :
    PE X (.Call (.Name x p) (e :: es) [] pos) (tWE X.K Z W (wCall sem Ms)) := PE_weak (pe_callS Fo (hr.mono hkj) hg hm hk hb (fun σ => passAt tk σ) ha hdb he hpl) fun _ _ _ h => wE_call h
end
/-- what a def's body does -/
def semW (n m : Nat) (M : WS) : WF := ⟨fun ds st K E => ds.length = m ∧ M.run (startE n ds) st { nx := fun _ s => K .non s, rt := K, ex := E }, fun h h' ⟨a, x⟩ => ⟨a, M.imp x ⟨fun _ _ k => h _ _ k, h, fun _ _ k => k, fun _ _ k => k, h'⟩⟩⟩
theorem rel0_start {K : PySem.W.Frag} {Hb : Hp} {N : List Str} {ds : List D} {vs : List V} (h : IsL K Hb ds vs) : Rel0 K Hb (L2.start N vs) (startE N.length ds) := by
  have r := rel_start (H := full) (N := N) h
  exact Rel.rel0 r
section
variable {P : Program} {w : World} {K : PySem.W.Frag} {mg : Str → Option Value} {base : Heap}
theorem fn_w {Z : Wd} {x qual : Str} {st : Stmt} {f : Addr} {fd : FuncData} {N ps : List Str} {k : Nat} {M : WS} (Fu : Fun K x qual st f fd) (S : FnScope N ps (defScope st))
    (hb : ∀ (cdv : Value) (A : Around) (outer : List Env) (s : Shared) (H : Hp) (E : XK), Room k (A.deeper (envOfC qual (defScope st) s.heap.objs.size f cdv)) → PSs (cxOf (L2.CX P w) P w K mg base N qual (defScope st) f cdv A outer s H E) (defBody st) (tWS K Z (fun c d _ H' => E c d H') M)) :
    FnOk P w K mg base (L2.CX P w) (k + 1) f fd ps (spW K Z (semW N.length ps.length M)) := by
  refine Fu.okX S (fun vs H Q E h => ?_) (fun cdv A outer s H vs Q E hr h => ⟨_, hb cdv A outer s H E hr, ?_⟩)
  · obtain ⟨Hb, st, ds, rs, il, hl, _⟩ := h
    rw [il.length, hl]
  · obtain ⟨Hb, st, ds, rs, il, hl, m⟩ := h
    refine ⟨Hb, H, st, Hb, startE N.length ds, st, rel0_start il, rs, StepW.refl, M.imp m ?_⟩
    exact ⟨fun e s k σ Hb' H' r' rs' sp' => k .non Hb' H' sp' rs' (by simp only [Is]), fun d s k v Hb' H' rs' sp' iv => k v Hb' H' sp' rs' iv, fun _ _ k => k.elim, fun _ _ k => k.elim, fun c s k σ Hb' H' rs' sp' => k Hb' H' sp' rs'⟩
/-- a heap without its tables -/
def noT (H : Hp) : Hp := fun b => match H b with
  | some (.tbl _) => none
  | x => x
theorem noT_nt (H : Hp) : NoT (noT H) := fun b ps z => by
  unfold noT at z
  split at z
  · cases z
  · rename_i h
    exact h ps z
theorem noT_same (H : Hp) : Same (noT H) H := fun b o z => by
  unfold noT at z
  split at z
  · cases z
  · exact z
theorem noT_get {H : Hp} {b : Addr} {o : HO} (h : H b = some o) (n : ∀ ps, o ≠ .tbl ps) : noT H b = some o := by
  unfold noT
  split
  · rename_i ps z
    rw [h] at z
    exact absurd (Option.some.inj z) (n ps)
  · exact h
/-- the law's own promise; T: tables of code objects -/
theorem law_sp {Z : Wd} {sem : WF} (q : ∀ ns : List Int, ns.length ≤ 63 → sem.run [.scr ns] (fun _ => none) (fun d _ => d = .bl true) (fun _ _ => False)) (H : Hp) (a : Addr) (ns : List Int) (hl : ns.length ≤ 63) (hT : ∀ p ∈ Z.T, H p.1 = some (.tbl #[])) (hs : SqL K H a (ns.map V.int)) :
    spW K Z sem [.ref a] H (fun v _ => v = .bl true) fun _ _ _ => False := by
  have hs' : SqL K (noT H) a (ns.map V.int) := by
    rcases hs with (h | ⟨o, h⟩) | h
    · exact .inl (.inl (noT_get h (fun ps z => by cases z)))
    · exact .inl (.inr ⟨o, noT_get h (fun ps z => by cases z)⟩)
    · exact .inr h
  refine ⟨noT H, fun _ => none, [.scr ns], ⟨noT_same H, fun a x z => (by cases z), fun p hp => LamX.TabS.nil (hT p hp), noT_nt H⟩, ?_, sem.mono (fun d s z v Hb' H' _ _ iv => ?_) (fun c s z => z.elim) (q ns hl)⟩
  · simp only [IsL, Is]
    exact ⟨_, _, rfl, ⟨a, rfl, hs'⟩, rfl⟩
  · subst z
    simpa only [Is] using iv
theorem fnw_law {Z : Wd} (hT : Z.T = []) {CX : CXT} {f : Addr} {fd : FuncData} {k : Nat} {sem : WF} (h : FnOk P w K mg base CX k f fd ["script"] (spW K Z sem)) (q : ∀ ns : List Int, ns.length ≤ 63 → sem.run [.scr ns] (fun _ => none) (fun d _ => d = .bl true) (fun _ _ => False)) : FnOk P w K mg base CX k f fd ["script"] (spLaw K) :=
  h.imp fun vs H Q E ⟨a, ns, e, hs, hl, hq⟩ => by
    subst e
    obtain ⟨Hb, st, ds, r, il, m⟩ := law_sp (Z := Z) q H a ns hl (by rw [hT]; intro p hp; cases hp) hs
    exact ⟨Hb, st, ds, r, il, sem.mono (fun d s z v Hb' H' s1 r1 iv => by rw [show v = .bl true from z v Hb' H' s1 r1 iv]; exact hq H') (fun c s z Hb' H' s1 r1 => (z Hb' H' s1 r1).elim) m⟩
end
end Dn
set_option Elab.async false
set_option linter.all false
set_option maxRecDepth 100000
/-! Part R: objects, lists and dicts of the store. -/
namespace Dn
open PySem L2 PySem.Spec PyProof.Rows

def putFD (f : Str) (v : D) : List (Str × D) → List (Str × D)
  | [] => [(f, v)]
  | (g, x) :: r => if g = f then (g, v) :: r else (g, x) :: putFD f v r
theorem isF_put {K : PySem.W.Frag} {H : Hp} {f : Str} {d : D} {v : V} (h : Is K H d v) : ∀ {fs : List (Str × D)} {vs : List (Str × V)}, IsF K H fs vs → IsF K H (putFD f d fs) (putF f v vs)
  | [], _, e => by
    rw [show _ = [] from e]
    exact ⟨v, [], rfl, h, rfl⟩
  | (g, x) :: fs, vs, e => by
    obtain ⟨u, r, rfl, e2, e3⟩ := e
    unfold putFD putF
    by_cases q : g = f
    · rw [if_pos q, if_pos q]
      exact ⟨v, r, rfl, h, e3⟩
    · rw [if_neg q, if_neg q]
      exact ⟨u, _, rfl, e2, isF_put h e3⟩
section
variable {K : PySem.W.Frag} {Z : Wd} {Hb H : Hp} {st : Sto}
theorem CellIs.other {a p : Addr} {x : Cell} {ob : HO} (h : CellIs K Z Hb H a x) (n : a ≠ p) : CellIs K Z Hb (upd H p ob) a x := CellIs.keep h (fun o e => by rw [upd_ne n]; exact e) (Same.refl _)
/-- an object of the store is written -/
theorem RelSt.write (r : RelSt K Z Hb H st) {a : Addr} {x x' : Cell} {ob : HO} (h : st a = some x) (hc : CellIs K Z Hb (upd H a ob) a x') : RelSt K Z Hb (upd H a ob) (st.put a x') ∧ StepW Hb H st Hb (upd H a ob) (st.put a x') := by
  have hn := (r.cell a x h).1
  refine ⟨⟨fun b o e => ?_, fun b y e => ?_, tabs_write r.tabs (CellIs.kind (r.cell a x h).2).1 (CellIs.kind (r.cell a x h).2).2, r.nt⟩, Same.refl _, fun p o e n z _ => ?_⟩
  · rw [upd_ne (ne_of_none e hn)]
    exact r.c b o e
  · by_cases q : b = a
    · subst q
      rw [Sto.put_same] at e
      cases e
      exact ⟨hn, hc⟩
    · rw [Sto.put_ne q] at e
      exact ⟨(r.cell b y e).1, CellIs.other (r.cell b y e).2 q⟩
  · have q : p ≠ a := fun q => by
      rw [q, h] at z
      cases z
    exact ⟨by rw [upd_ne q]; exact e, n, by rw [Sto.put_ne q]; exact z⟩
/-- a new object of the store -/
theorem RelSt.new (r : RelSt K Z Hb H st) {a : Addr} {x : Cell} {ob : HO} (h : H a = none) (hc : CellIs K Z Hb (upd H a ob) a x) : RelSt K Z Hb (upd H a ob) (st.put a x) ∧ StepW Hb H st Hb (upd H a ob) (st.put a x) := by
  have hn := r.c.free h
  refine ⟨⟨fun b o e => ?_, fun b y e => ?_, r.tabs.ext (same_new h), r.nt⟩, Same.refl _, fun p o e n z _ => ?_⟩
  · rw [upd_ne (ne_of_none e hn)]
    exact r.c b o e
  · by_cases q : b = a
    · subst q
      rw [Sto.put_same] at e
      cases e
      exact ⟨hn, hc⟩
    · rw [Sto.put_ne q] at e
      exact ⟨(r.cell b y e).1, CellIs.other (r.cell b y e).2 q⟩
  · have q : p ≠ a := ne_of_none e h
    exact ⟨by rw [upd_ne q]; exact e, n, by rw [Sto.put_ne q]; exact z⟩
/-- something hidden is laid -/
theorem RelSt.hid (r : RelSt K Z Hb H st) {a : Addr} {ob : HO} (h : H a = none) : RelSt K Z Hb (upd H a ob) st ∧ StepW Hb H st Hb (upd H a ob) st := by
  have hn := r.c.free h
  refine ⟨⟨fun b o e => ?_, fun b y e => ?_, r.tabs.ext (same_new h), r.nt⟩, Same.refl _, fun p o e n z _ => ?_⟩
  · rw [upd_ne (ne_of_none e hn)]
    exact r.c b o e
  · have q : b ≠ a := fun q => by
      rw [q, r.free h] at e
      cases e
    exact ⟨(r.cell b y e).1, CellIs.other (r.cell b y e).2 q⟩
  · have q : p ≠ a := ne_of_none e h
    exact ⟨by rw [upd_ne q]; exact e, n, z⟩
end
section
variable {X : Cx} {Z : Wd} {W : Dn.WX} {a b e o value : Expr} {es : List Expr} {pos pos' apos p : Pos} {A B V' : WE} {Ms : WA} {f x m : Str}
theorem adr_is {K : PySem.W.Frag} {H : Hp} {a : Addr} {v : V} (h : Is K H (.adr a) v) : v = .ref a := by simpa only [Is] using h
/-! ### fields -/
def wFld (f : Str) (A : WE) : WE := ⟨fun env st K E => A.run env st (fun d s => ∃ a fs v, d = .adr a ∧ s a = some (.obj fs) ∧ fs.lookup f = some v ∧ K v s) E, fun h h' x => A.mono (fun _ _ ⟨a, fs, v, e1, e2, e3, k⟩ => ⟨a, fs, v, e1, e2, e3, h _ _ k⟩) h' x⟩
theorem wp_fld (c : Cls X.K Z.C) (n : NoAttr X.K Z.C f) (he : PE X e (tWE X.K Z W A)) (hb : attributeBase e f X.env (eval e X.env) = eval e X.env := by rfl) : PE X (.Attribute e f pos) (tWE X.K Z W (wFld f A)) :=
  PE_weak (pe_fld he hb) fun σ H Q h => by
    obtain ⟨Hb, env, st, r, rs, m⟩ := h
    refine ⟨Hb, env, st, r, rs, A.mono (fun d s1 q v Hb1 H1 s rs1 iv => ?_) (fun _ _ h => h) m⟩
    obtain ⟨a, fs, w, rfl, e2, e3, k⟩ := q
    have hv := adr_is iv
    subst hv
    obtain ⟨_, dx, vs, h1, h2⟩ := rs1.cell a _ e2
    obtain ⟨u, h3, h4⟩ := (h2.look (x := f)).1 w e3
    exact ⟨a, Z.C, dx, vs, u, rfl, h1, c, n, h3, k u Hb1 H1 s rs1 h4⟩
def wSFld (f : Str) (A V' : WE) : WS := ⟨fun env st N => V'.run env st (fun y s => A.run env s (fun d s2 => ∃ a fs, d = .adr a ∧ s2 a = some (.obj fs) ∧ fs.length < 1000 ∧ N.nx env (s2.put a (.obj (putFD f y fs)))) N.ex) N.ex,
  fun h x => V'.mono (fun _ _ y => A.mono (fun _ _ ⟨a, fs, e1, e2, e3, k⟩ => ⟨a, fs, e1, e2, e3, h.nx _ _ k⟩) h.ex y) h.ex x⟩
theorem ws_fld (c : Cls X.K Z.C) (n : NoAttr X.K Z.C f) (ha : PE X o (tWE X.K Z W A)) (hv : PE X value (tWE X.K Z W V')) (hs : swapsWith value (some (.Attribute o f pos')) pos.line X.env = pure false := by rfl) : PS X (.Assign [.Attribute o f pos'] value pos) (tWS X.K Z W (wSFld f A V')) :=
  PS_weak (ps_fld ha hv hs) fun N σ H h => by
    obtain ⟨Hb0, H0, st0, Hb, env, st, r, rs, sp, m⟩ := h
    refine ⟨Hb, env, st, r, rs, V'.mono (fun y s1 q v Hb1 H1 s rs1 iv => ?_) (fun c s1 k Hb1 H1 s rs1 => k σ Hb1 H1 rs1 (sp.trans s)) m⟩
    refine ⟨Hb1, env, s1, r.mono s.b, rs1, A.mono (fun d s2 q2 u Hb2 H2 t rs2 iu => ?_) (fun c s2 k Hb2 H2 t rs2 => k σ Hb2 H2 rs2 (sp.trans (s.trans t))) q⟩
    obtain ⟨a, fs, rfl, e2, e3, k⟩ := q2
    have hu := adr_is iu
    subst hu
    obtain ⟨_, dx, vs, h1, h2⟩ := rs2.cell a _ e2
    refine ⟨a, Z.C, dx, vs, rfl, h1, c, n, by rw [h2.length]; exact e3, ?_⟩
    obtain ⟨y1, y2⟩ := rs2.write (ob := .ins Z.C dx (putF f v vs)) (x' := .obj (putFD f y fs)) e2 ⟨dx, putF f v vs, upd_same, isF_put (iv.mono t.b) h2⟩
    exact k σ Hb2 _ (r.mono (s.trans t).b) y1 (sp.trans (s.trans (t.trans y2)))
/-! ### methods, new objects -/
def wMeth (sem : WF) (m : Str) (A : WE) (Ms : WA) : WE := ⟨fun env st K E => A.run env st (fun d s => ∃ a fs, d = .adr a ∧ s a = some (.obj fs) ∧ fs.lookup m = none ∧ Ms.run env s (fun ds s2 => sem.run (.adr a :: ds) s2 K E) E) E,
  fun h h' x => A.mono (fun _ _ ⟨a, fs, e1, e2, e3, y⟩ => ⟨a, fs, e1, e2, e3, Ms.mono (fun _ _ z => sem.mono h h' z) h' y⟩) h' x⟩
theorem wE_meth {K : PySem.W.Frag} {E : XK} {sem : WF} (hE : ∀ c d σ H, W c d σ H → E c d H) {σ : L2.St} {H : Hp} {Q : VK} (hh : tWE K Z W (wMeth sem m A Ms) σ H Q) : tMeth Z.C m (spW K Z sem) [] E (tWE K Z W A) (tWA K Z W Ms) σ H Q := by
  obtain ⟨Hb, env, st, r, rs, q⟩ := hh
  refine ⟨Hb, env, st, r, rs, A.mono (fun d s1 q v Hb1 H1 s rs1 iv => ?_) (fun _ _ h => h) q⟩
  obtain ⟨a, fs, rfl, e2, e3, k⟩ := q
  have hv := adr_is iv
  subst hv
  obtain ⟨_, dx, vs, h1, h2⟩ := rs1.cell a _ e2
  refine ⟨a, dx, vs, rfl, h1, (h2.look (x := m)).2 e3, Hb1, env, s1, r.mono s.b, rs1, Ms.mono (fun ds s2 q2 us Hb2 H2 t rs2 ius => ?_) (fun c s2 k Hb2 H2 t rs2 => k Hb2 H2 (s.trans t) rs2) k⟩
  show spW K Z sem (.ref a :: (us ++ [])) H2 Q E
  rw [List.append_nil]
  refine ⟨Hb2, s2, .adr a :: ds, rs2, ?_, sem.mono (fun d s3 k v Hb3 H3 x y z => k v Hb3 H3 (s.trans (t.trans x)) y z) (fun c s3 k Hb3 H3 x y => hE _ _ σ _ (k Hb3 H3 (s.trans (t.trans x)) y)) q2⟩
  simp only [IsL, Is]
  exact ⟨_, _, rfl, rfl, ius⟩
theorem passE {E : XK} (tk : Takes X (fun c d _ H => E c d H)) : Passes (L2.CX X.prog X.w) X E := fun pins σ H s e s' I c => passAt tk σ pins H s e s' I c
theorem wp_meth {E : XK} {sem : WF} {g : Addr} {fd : FuncData} {ps : List Str} {k j : Nat} {pl : Sem Bool} (tk : Takes X (fun c d _ H => E c d H)) (he : PE X o (tWE X.K Z (fun c d _ H => E c d H) A)) (c : Cls X.K Z.C) (hm : Meth X.K Z.C m g) (Fo : FnOk X.prog X.w X.K X.mg X.base (L2.CX X.prog X.w) k g fd ps (spW X.K Z sem)) (hr : Room j X.A) (hb : Binds X.K fd ps []) (ha : PA X (e :: es) (tWA X.K Z (fun c d _ H => E c d H) Ms)) (hkj : k ≤ j := by decide)
    (hst : starEach (e :: es) X.env = (false, eval e X.env) :: starEach es X.env := by rfl) (hpl : (backTo pos (starEach es X.env)).any (·.1) = false := by rfl)
    (ht : eval (.Call (.Attribute o m apos) (e :: es) [] pos) X.env = (do
      let ov ← eval o X.env
      standAt apos.atName
      let (f, first) ← holding [ov] (getMethod ov m pl)
      callWith pos f first (backTo pos (starEach (e :: es) X.env)) (backToKw pos (keywordEach [] X.env))) := by rfl) :
    PE X (.Call (.Attribute o m apos) (e :: es) [] pos) (tWE X.K Z (fun c d _ H => E c d H) (wMeth sem m A Ms)) :=
  PE_weak (pe_meth he c hm Fo (hr.mono hkj) hb .nil (passE tk) ha hst hpl ht) fun _ _ _ h => wE_meth (W := fun c d _ H => E c d H) (E := E) (fun _ _ _ _ h => h) h
theorem wp_meth0 {E : XK} {sem : WF} {g : Addr} {fd : FuncData} {ps : List Str} {k j : Nat} {pl : Sem Bool} (tk : Takes X (fun c d _ H => E c d H)) (he : PE X o (tWE X.K Z (fun c d _ H => E c d H) A)) (c : Cls X.K Z.C) (hm : Meth X.K Z.C m g) (Fo : FnOk X.prog X.w X.K X.mg X.base (L2.CX X.prog X.w) k g fd ps (spW X.K Z sem)) (hr : Room j X.A) (hb : Binds X.K fd ps []) (hkj : k ≤ j := by decide)
    (ht : eval (.Call (.Attribute o m apos) [] [] pos) X.env = (do
      let ov ← eval o X.env
      standAt apos.atName
      let (f, first) ← holding [ov] (getMethod ov m pl)
      callWith pos f first (backTo pos (starEach [] X.env)) (backToKw pos (keywordEach [] X.env))) := by rfl) :
    PE X (.Call (.Attribute o m apos) [] [] pos) (tWE X.K Z (fun c d _ H => E c d H) (wMeth sem m A wNil)) :=
  PE_weak (pe_meth0 he c hm Fo (hr.mono hkj) hb .nil (passE tk) ht) fun σ H Q hh => by
    obtain ⟨Hb, env, st, r, rs, q⟩ := hh
    refine ⟨Hb, env, st, r, rs, A.mono (fun d s1 q v Hb1 H1 s rs1 iv => ?_) (fun _ _ h => h) q⟩
    obtain ⟨a, fs, rfl, e2, e3, ds, eds, k⟩ := q
    cases eds
    have hv := adr_is iv
    subst hv
    obtain ⟨_, dx, vs, h1, h2⟩ := rs1.cell a _ e2
    refine ⟨a, dx, vs, rfl, h1, (h2.look (x := m)).2 e3, ?_⟩
    show spW X.K Z sem [.ref a] H1 Q E
    refine ⟨Hb1, s1, [.adr a], rs1, ?_, sem.mono (fun d s3 k v Hb3 H3 x y z => k v Hb3 H3 (s.trans x) y z) (fun c s3 k Hb3 H3 x y => k Hb3 H3 (s.trans x) y) k⟩
    simp only [IsL, Is]
    exact ⟨_, _, rfl, rfl, rfl⟩
def wMake (sem : WF) (Ms : WA) : WE := ⟨fun env st K E => Ms.run env st (fun ds s => ∀ a, s a = none → sem.run (.adr a :: ds) (s.put a (.obj [])) (fun d s2 => d = .non ∧ K (.adr a) s2) E) E,
  fun h h' x => Ms.mono (fun _ _ y a n => sem.mono (fun _ _ ⟨e, k⟩ => ⟨e, h _ _ k⟩) h' (y a n)) h' x⟩
theorem wp_make {E : XK} {sem : WF} {g : Addr} {fd : FuncData} {ps : List Str} {k j : Nat} (tk : Takes X (fun c d _ H => E c d H)) (M : Mk X.K Z.C g) (Fo : FnOk X.prog X.w X.K X.mg X.base (L2.CX X.prog X.w) k g fd ps (spW X.K Z sem)) (hr : Room j X.A) (hm : X.mg x = some (.ref Z.C)) (hb : Binds X.K fd ps []) (ha : PA X (e :: es) (tWA X.K Z (fun c d _ H => E c d H) Ms)) (hkj : k + 1 ≤ j := by decide) (hg : Gl X x := by rfl)
    (hdb : (x == ("__debug__" : Str)) = false := by decide) (he : starEach (e :: es) X.env = (false, eval e X.env) :: starEach es X.env := by rfl) (hpl : (backTo pos (starEach es X.env)).any (·.1) = false := by rfl) :
    PE X (.Call (.Name x p) (e :: es) [] pos) (tWE X.K Z (fun c d _ H => E c d H) (wMake sem Ms)) :=
  PE_weak (pe_make M Fo (hr.mono hkj) hg hm hb .nil (passE tk) ha hdb he hpl) fun σ H Q hh => by
    obtain ⟨Hb, env, st, r, rs, q⟩ := hh
    refine ⟨Hb, env, st, r, rs, Ms.mono (fun ds s1 q us Hb1 H1 s rs1 ius a dx ha hdx hne => ?_) (fun _ _ h => h) q⟩
    obtain ⟨y1, y2⟩ := rs1.hid (ob := .own a) hdx
    have ha' : upd H1 dx (.own a) a = none := by rw [upd_ne (Ne.symm hne)]; exact ha
    obtain ⟨z1, z2⟩ := y1.new (ob := .ins Z.C dx []) (x := .obj []) ha' ⟨dx, [], upd_same, rfl⟩
    show spW X.K Z sem (.ref a :: (us ++ [])) _ _ E
    rw [List.append_nil]
    refine ⟨Hb1, s1.put a (.obj []), .adr a :: ds, z1, ?_, sem.mono (fun d s3 k v Hb3 H3 x y z => ?_) (fun c s3 k Hb3 H3 x y => k Hb3 H3 (s.trans (y2.trans (z2.trans x))) y) (q a (rs1.free ha))⟩
    · simp only [IsL, Is]
      exact ⟨_, _, rfl, rfl, ius⟩
    · obtain ⟨rfl, k⟩ := k
      exact ⟨by simpa only [Is] using z, k (.ref a) Hb3 H3 (s.trans (y2.trans (z2.trans x))) y (by simp only [Is])⟩
/-! ### dicts of the store -/
def wNewD : WE := ⟨fun env st K E => ∀ a, st a = none → K (.adr a) (st.put a (.dct [])), fun h _ x a n => h _ _ (x a n)⟩
theorem wp_newD : PE X (.Dict [] [] pos) (tWE X.K Z W wNewD) := PE_weak pe_dnewK fun σ H Q h => by
  obtain ⟨Hb, env, st, r, rs, q⟩ := h
  intro a ha
  obtain ⟨y1, y2⟩ := rs.new (ob := .dK []) (x := .dct []) ha ⟨[], upd_same, by simp only [IsK]⟩
  exact q a (rs.free ha) _ _ _ y2 y1 (by simp only [Is])
def putKD (k : List Nat) (d : D) (kvs : List (List Nat × D)) : List (List Nat × D) := if (kvs.any fun p => decide (p.1 = k)) = true then kvs.map (fun p => if p.1 = k then (p.1, d) else p) else kvs ++ [(k, d)]
theorem isK_app {K : PySem.W.Frag} {H : Hp} : ∀ {ks : List (List Nat × D)} {vs : List (Key × V)} {k : List Nat} {d : D} {v : V}, IsK K H ks vs → Is K H d v → IsK K H (ks ++ [(k, d)]) (vs ++ [(Sum.inr (S k), v)])
  | [], _, _, _, v, h, q => by
    simp only [IsK] at h
    subst h
    simp only [List.nil_append, IsK]
    exact ⟨v, [], rfl, q, rfl⟩
  | (j, x) :: ks, vs, k, d, v, h, q => by
    simp only [IsK] at h
    obtain ⟨u, r, rfl, h2, h3⟩ := h
    simp only [List.cons_append, IsK]
    exact ⟨u, _, rfl, h2, isK_app h3 q⟩
theorem isK_map {K : PySem.W.Frag} {H : Hp} {k : List Nat} {d : D} {v : V} (q : Is K H d v) : ∀ {ks : List (List Nat × D)} {vs : List (Key × V)}, IsK K H ks vs → IsK K H (ks.map fun p => if p.1 = k then (p.1, d) else p) (vs.map fun kv => if kv.1 = Sum.inr (S k) then (kv.1, v) else kv)
  | [], _, h => by
    simp only [IsK] at h
    subst h
    simp only [List.map_nil, IsK]
  | (j, x) :: ks, vs, h => by
    simp only [IsK] at h
    obtain ⟨u, r, rfl, h2, h3⟩ := h
    have ih := isK_map (k := k) q h3
    rw [List.map_cons, List.map_cons]
    by_cases e : j = k
    · subst e
      simp only [if_pos, IsK]
      exact ⟨v, _, rfl, q, ih⟩
    · have e' : ¬ (Sum.inr (S j) : Key) = Sum.inr (S k) := fun z => e (by
        injection z with z
        exact SX.S_inj z)
      simp only [if_neg e, if_neg e', IsK]
      exact ⟨u, _, rfl, h2, ih⟩
theorem isK_put {K : PySem.W.Frag} {H : Hp} {k : List Nat} {d : D} {v : V} {ks : List (List Nat × D)} {vs : List (Key × V)} (h : IsK K H ks vs) (q : Is K H d v) : IsK K H (putKD k d ks) (putK vs (Sum.inr (S k)) v) := by
  unfold putKD putK
  have e : (vs.any fun kv => decide (kv.1 = Sum.inr (S k))) = ks.any fun p => decide (p.1 = k) := by rw [valV_any, (isK_val k h).2]
  rw [e]
  split
  · exact isK_map q h
  · exact isK_app h q
theorem isK_len {K : PySem.W.Frag} {H : Hp} : ∀ {ks : List (List Nat × D)} {vs : List (Key × V)}, IsK K H ks vs → vs.length = ks.length
  | [], _, h => by simp only [IsK] at h; subst h; rfl
  | (j, x) :: ks, vs, h => by
    simp only [IsK] at h
    obtain ⟨u, r, rfl, h2, h3⟩ := h
    rw [List.length_cons, List.length_cons, isK_len h3]
/-- d[k] = v -/
def wDPut (O A V' : WE) : WS := ⟨fun env st N => V'.run env st (fun y s => O.run env s (fun d s2 => A.run env s2 (fun k s3 => ∃ a l kvs, d = .adr a ∧ k = .str l ∧ s3 a = some (.dct kvs) ∧ kvs.length < 1000000 ∧ N.nx env (s3.put a (.dct (putKD l y kvs)))) N.ex) N.ex) N.ex,
  fun h x => V'.mono (fun _ _ y => O.mono (fun _ _ z => A.mono (fun _ _ ⟨a, l, kvs, e1, e2, e3, e4, k⟩ => ⟨a, l, kvs, e1, e2, e3, e4, h.nx _ _ k⟩) h.ex z) h.ex y) h.ex x⟩
theorem ws_dput {i : Expr} (hu : X.A.units + 65 < cLine) (ho : PE X o (tWE X.K Z W A)) (hi : PE X i (tWE X.K Z W B)) (hv : PE X value (tWE X.K Z W V')) (hs : swapsWith value (some (.Subscript o i pos')) pos.line X.env = pure false := by rfl) : PS X (.Assign [.Subscript o i pos'] value pos) (tWS X.K Z W (wDPut A B V')) :=
  PS_weak (ps_dput (by omega) ho hi hv hs) fun N σ H h => by
    obtain ⟨Hb0, H0, st0, Hb, env, st, r, rs, sp, m⟩ := h
    refine ⟨Hb, env, st, r, rs, V'.mono (fun y s1 q v Hb1 H1 s rs1 iv => ?_) (fun c s1 k Hb1 H1 s rs1 => k σ Hb1 H1 rs1 (sp.trans s)) m⟩
    refine ⟨Hb1, env, s1, r.mono s.b, rs1, A.mono (fun d s2 q2 u Hb2 H2 t rs2 iu => ?_) (fun c s2 k Hb2 H2 t rs2 => k σ Hb2 H2 rs2 (sp.trans (s.trans t))) q⟩
    refine ⟨Hb2, env, s2, r.mono (s.trans t).b, rs2, B.mono (fun kk s3 q3 u3 Hb3 H3 t3 rs3 iu3 => ?_) (fun c s3 k Hb3 H3 t3 rs3 => k σ Hb3 H3 rs3 (sp.trans (s.trans (t.trans t3)))) q2⟩
    obtain ⟨a, l, kvs, rfl, rfl, e3, e4, k⟩ := q3
    have hu := adr_is iu
    subst hu
    simp only [Is] at iu3
    subst iu3
    obtain ⟨_, ks, h1, h2⟩ := rs3.cell a _ e3
    obtain ⟨y1, y2⟩ := rs3.write (ob := .dK (putK ks (Sum.inr (S l)) v)) (x' := .dct (putKD l y kvs)) e3 ⟨_, upd_same, isK_put h2 (iv.mono (t.trans t3).b)⟩
    refine ⟨a, _, rfl, DPut.k (k := Sum.inr (S l)) h1 (by rw [isK_len h2]; have := size1000; omega), k σ Hb3 _ (r.mono (s.trans (t.trans t3)).b) y1 (sp.trans (s.trans (t.trans (t3.trans y2))))⟩
/-- d[k] -/
def wDIx (O A : WE) : WE := ⟨fun env st K E => O.run env st (fun d s2 => A.run env s2 (fun k s3 => ∃ a l kvs v, d = .adr a ∧ k = .str l ∧ s3 a = some (.dct kvs) ∧ (kvs.find? fun p => decide (p.1 = l)).map (·.2) = some v ∧ K v s3) E) E,
  fun h h' x => O.mono (fun _ _ z => A.mono (fun _ _ ⟨a, l, kvs, v, e1, e2, e3, e4, k⟩ => ⟨a, l, kvs, v, e1, e2, e3, e4, h _ _ k⟩) h' z) h' x⟩
theorem wp_dix (hu : X.A.units + 65 < cLine) (ha : PE X a (tWE X.K Z W A)) (hb : PE X b (tWE X.K Z W B)) (hs : NoSl b := by exact fun _ _ => rfl) : PE X (.Subscript a b pos) (tWE X.K Z W (wDIx A B)) :=
  PE_weak (pe_dget (by omega) ha hb hs) fun σ H Q h => by
    obtain ⟨Hb, env, st, r, rs, m⟩ := h
    refine ⟨Hb, env, st, r, rs, A.mono (fun d s2 q2 u Hb2 H2 t rs2 iu => ?_) (fun _ _ h => h) m⟩
    refine ⟨Hb2, env, s2, r.mono t.b, rs2, B.mono (fun kk s3 q3 u3 Hb3 H3 t3 rs3 iu3 => ?_) (fun c s3 k Hb3 H3 t3 rs3 => k Hb3 H3 (t.trans t3) rs3) q2⟩
    obtain ⟨a, l, kvs, w, rfl, rfl, e3, e4, k⟩ := q3
    have hu := adr_is iu
    subst hu
    simp only [Is] at iu3
    subst iu3
    obtain ⟨_, ks, h1, h2⟩ := rs3.cell a _ e3
    obtain ⟨v, hv, iv⟩ := (isK_val l h2).1 w e4
    exact ⟨a, v, rfl, .inl ⟨ks, Sum.inr (S l), .inl h1, rfl, hv.symm⟩, k v Hb3 H3 (t.trans t3) rs3 iv⟩
/-- sorted(d): its keys -/
def wSortD (A : WE) : WE := ⟨fun env st K E => A.run env st (fun d s => ∃ a kvs, d = .adr a ∧ s a = some (.dct kvs) ∧ kvs.length < 64 ∧ ∀ ys : List (List Nat), ys.Perm (kvs.map (·.1)) → sortedS (ys.map S) = true → K (.lst (ys.map D.str)) s) E,
  fun h h' x => A.mono (fun _ _ ⟨a, kvs, e1, e2, e3, k⟩ => ⟨a, kvs, e1, e2, e3, fun ys p q => h _ _ (k ys p q)⟩) h' x⟩
theorem wp_sortD (hc : X.calm = true) (hm : X.mg "sorted" = none) (ha : PE X a (tWE X.K Z W A)) (hg : Gl X "sorted" := by rfl) (he : starEach [a] X.env = (false, eval a X.env) :: starEach [] X.env := by rfl) (hpl : (backTo pos (starEach [] X.env)).any (·.1) = false := by rfl) :
    PE X (.Call (.Name "sorted" p) [a] [] pos) (tWE X.K Z W (wSortD A)) := PE_weak (pe_callB (call_sortedD hc) hg hm (by decide +kernel) (wa_cons (Ms := wNil) ha wa_nil he) (by decide) (by decide) he hpl) fun σ H Q h => by
  obtain ⟨Hb, env, st, r, rs, m⟩ := h
  refine ⟨Hb, env, st, r, rs, A.mono (fun d s1 q => ⟨[], rfl, fun vs Hb1 H1 t rs1 iv => ?_⟩) (fun _ _ h => h) m⟩
  obtain ⟨a, kvs, rfl, e2, e3, k⟩ := q
  obtain ⟨v, rfl, iv2⟩ := isl1 iv
  have hv := adr_is iv2
  subst hv
  obtain ⟨_, ks, h1, h2⟩ := rs1.cell a _ e2
  refine ⟨a, ks, (kvs.map (·.1)).map S, rfl, .inl h1, ?_, by simpa using e3, fun ys p hp hs hn => ?_⟩
  · rw [isK_keys h2, List.map_map, List.map_map]
    rfl
  · have hys : ys = (ys.map fun z => z.cps.toList).map S := by
      rw [List.map_map]
      conv => lhs; rw [← List.map_id ys]
      exact List.map_congr_left fun z _ => (S_of z).symm
    have hperm : (ys.map fun z => z.cps.toList).Perm (kvs.map (·.1)) := by
      have := hp.map fun z : Str => z.cps.toList
      rw [List.map_map] at this
      have e : (kvs.map (·.1)).map ((fun z : Str => z.cps.toList) ∘ S) = kvs.map (·.1) := by
        conv => rhs; rw [← List.map_id (kvs.map (·.1))]
        exact List.map_congr_left fun z _ => by simp [S]
      rw [e] at this
      exact this
    generalize hz : ys.map (fun z => z.cps.toList) = zs at *
    obtain ⟨y1, y2⟩ := (Step.new rs1.c hn (o := .lst (ys.map V.str))).w rs1
    refine k zs hperm (by rw [← hys]; exact hs) _ _ _ (t.trans y1) y2 (is_lst_new (rs1.c.free hn) ?_)
    rw [hys]
    exact of_strs zs
/-! ### iterating over what an expression tells -/
def tWI (K : PySem.W.Frag) (Z : Wd) (W : Dn.WX) (M : WA) : TI := fun σ H R => ∃ Hb env st, Rel0 K Hb σ env ∧ RelSt K Z Hb H st ∧
  M.run env st (fun ds st' => ∀ J Hb' H', StepW Hb H st Hb' H' st' → RelSt K Z Hb' H' st' → WalkD K J ds Hb' → R J H') (fun c st' => ∀ Hb' H', StepW Hb H st Hb' H' st' → RelSt K Z Hb' H' st' → W (.ref (Z.cl c)) none σ H')
def wIt (A : WE) : WA := ⟨fun env st K E => A.run env st (fun d s => ∃ ds, itemsD d = some ds ∧ K ds s) E, fun h h' x => A.mono (fun _ _ ⟨ds, e, k⟩ => ⟨ds, e, h _ _ k⟩) h' x⟩
end
end Dn
set_option Elab.async false
set_option linter.all false
set_option maxRecDepth 100000
/-! Part S: exceptions of own classes, a deed handed in as a lambda, lists of the store. -/
namespace Dn
open PySem L2 PySem.Spec PyProof.Rows

/-! ### xs.count(y), flat items -/
def rCountF (K : PySem.W.Frag) : V → List V → Hp → VK → Prop := fun x xs H Q => ∃ (a : Addr) (ys : List V) (y : V), x = V.ref a ∧ xs = [y] ∧ SqL K H a ys ∧ flatV y = true ∧ ys.all flatV = true ∧ Q (.int (ys.countP (fun z => eqV z y) : Nat)) H
theorem count_eqU {y : V} : ∀ {ys : List V} {us : List Value}, Vals ys us → ys.all flatV = true → us.countP (eqU y) = ys.countP fun z => eqV z y := by
  intro ys us h
  induction h with
  | nil => intro _; rfl
  | cons r _ ih =>
    intro f
    rw [List.all_cons, Bool.and_eq_true] at f
    rw [List.countP_cons, List.countP_cons, ih f.2, eqU_of r f.1]
theorem mt_countF {X : Cx} : MtR X "list.count" (rCountF X.K) := by
  intro pins s σ H x xs v us Q I rx rxs h
  obtain ⟨p, ys, y, rfl, rfl, hs, fy, fys, q⟩ := h
  cases rx
  cases rxs with
  | cons ry rt =>
    rename_i uy ut
    cases rt
    obtain ⟨its, rv, ⟨⟨cls, dd, data, sl⟩, n, ho, hc, hdn, hd⟩, hlen⟩ := I.list hs
    simp only at hc hd
    subst hc hd
    refine call_meets PySem.F.slot_list_count ⟨_, ho, rfl⟩ PySem.F.entry_list_count (PySem.F.args_list_count_2 _ _)
      (SeqAt.list_countAt p its.toArray n dd sl uy (eqU y)) ⟨ho, fun u' hu' => mem_eqAt ry fy rv fys u' (by simpa using hu'), ?_⟩
    have ec : its.toArray.toList.countP (eqU y) = ys.countP fun z => eqV z y := count_eqU rv fys
    refine ⟨.int (ys.countP (fun z => eqV z y) : Nat), H, I.tok _, ⟨s.toks, ?_⟩, q⟩
    show Value.int ((its.toArray.toList.countP (eqU y) : Nat) : Int) s.toks = _
    rw [ec]
section
variable {X : Cx} {Z : Wd} {W : Dn.WX} {a b e o value : Expr} {es : List Expr} {pos pos' apos p : Pos} {A B V' : WE} {Ms : WA} {f x m : Str}
/-! ### raise -/
def wRaise (c : Str) : WS := ⟨fun env st N => N.ex c st, fun h x => h.ex _ _ x⟩
/-- what is known of a class of exceptions -/
structure ExcK (K : PySem.W.Frag) (mg : Str → Option Value) (Z : Wd) (c : Str) : Prop where
  g : mg c = some (.ref (Z.cl c))
  x : PySem.W.excIn K (Z.cl c) [.type "ValueError", .type "Exception", .type "BaseException", .type "object"] "ValueError.__new__" = true
  k : PySem.W.keepIn K (.ref (Z.cl c)) = true
  b : PySem.W.subIn K (.ref (Z.cl c)) (.type "BaseException") = some true
  t : PySem.W.typeIn K (.ref (Z.cl c)) = some (.type "type")
theorem ws_raise {c : Str} {m : Str} {j : Nat} {p1 p2 p3 pos : Pos} (hc : X.calm = true) (tk : Takes X W) (k : ExcK X.K X.mg Z c) (hg : Gl X c := by rfl) (hdb : (c == ("__debug__" : Str)) = false := by decide) :
    PS X (.Raise (some (.Call (.Name c p1) [.Constant (.str m) j p2] [] p3)) none pos) (tWS X.K Z W (wRaise c)) := PS_weak (ps_raise hc tk (pmk_own PySem.F.excBase_ValueError k.x k.g k.k (raises_own k.b k.t) hg hdb)) fun N σ H h => by
  obtain ⟨Hb0, H0, st0, Hb, env, st, r, rs, sp, m⟩ := h
  exact m σ Hb H rs sp
end
/-! ### told: a deed that may be refused -/
/-- what is known of a class that is caught; i: which of two it is -/
structure ToldK (K : PySem.W.Frag) (cB cN cT D : Addr) (i : Nat) : Prop where
  e : ExcC K D
  m : PySem.W.exmOne K (.ref D) (.ref cB) = some true
  n : PySem.W.kitOne K (.ref D) (.ref cN) = some (decide (i = 0))
  t : PySem.W.kitOne K (.ref D) (.ref cT) = some (decide (i = 1))
  v : PySem.W.kitOne K (.ref D) (.type "ValueError") = some true
  i : i < 2
/-- all that there was, and a new tuple -/
def NewTup (H : Hp) (vs : List V) (p : Addr) (o : Obj) (H' : Hp) : Prop := Same H H' ∧ H p = none ∧ H' p = some (.frz o (.tup vs)) ∧ o.dict = none
def TTold2 (K : PySem.W.Frag) (cB cN cT : Addr) : (XK → Hp → VK → Prop) → Hp → VK → Prop := fun tl H Q =>
  ∃ (E : XK) (Q' : VK), tl E H Q' ∧ (∀ v H', Q' v H' → ∀ p o H2, NewTup H' [.str "told", v] p o H2 → Q (.ref p) H2) ∧
    ∀ cls d H', E cls d H' → ∃ D i, cls = .ref D ∧ d = none ∧ ToldK K cB cN cT D i ∧ ∀ p o H2, NewTup H' [.str "refused", .int (i : Nat)] p o H2 → Q (.ref p) H2
theorem PE_mono {X : Cx} {e : Expr} {t : TE} (h : PE X e t) : PE X e (fun σ H Q => ∃ Q', t σ H Q' ∧ ∀ v H', Q' v H' → Q v H') := ⟨fun pins s σ H Q I ⟨Q', h1, h2⟩ => wpAny_mono (h.run pins s σ H Q' I h1) (fun u s' ⟨v, H', a, b, c⟩ => ⟨v, H', a, b, h2 v H' c⟩) fun _ _ z => z⟩
theorem eqV_bl (b : Bool) : eqV (.bl b) (.bl true) = b := by cases b <;> decide
section
variable {X : Cx}
theorem suite_told {Y : Cx} {cB cN cT D a : Addr} {i : Nat} {oe : Obj} {pn : List (Addr × Obj)} {p1 p2 p3 p4 p5 p6 p7 p8 p9 p10 p11 p12 p13 p14 p15 p16 p17 p18 p19 p20 p21 p22 p23 p24 p25 p26 p27 p28 p29 p30 p31 p32 p33 p34 p35 p36 p37 : Pos} {j1 j2 j3 j4 j5 j6 j7 j8 : Nat}
    (k : ToldK Y.K cB cN cT D i) (hz : Zc (.ref D) none oe) (hf : ∃ vs, oe.data = .fields vs) (hN : Y.N = [("deed" : Str), "found", "e", "kinds"])
    (le : Y.env.scope.names.lookup ("e" : Str) = some .local) (lf : Y.env.scope.names.lookup ("found" : Str) = some .local) (lk : Y.env.scope.names.lookup ("kinds" : Str) = some .local)
    (gi : Y.env.scope.names.lookup ("isinstance" : Str) = some .globalImplicit) (gn : Y.env.scope.names.lookup ("NoName" : Str) = some .globalImplicit) (gt : Y.env.scope.names.lookup ("NoText" : Str) = some .globalImplicit) (gv : Y.env.scope.names.lookup ("ValueError" : Str) = some .globalImplicit)
    (mi : Y.mg "isinstance" = none) (mn : Y.mg "NoName" = some (.ref cN)) (mt : Y.mg "NoText" = some (.ref cT)) (mv : Y.mg "ValueError" = none)
    (l1 : (p21.endLine == p23.line) = true) (l2 : (p29.endLine == p31.line) = true) :
    PSs (Y.suite a ((a, oe) :: pn)) [
      .Assign [.Name "kinds" p1] (.List [.Call (.Name "isinstance" p2) [.Name "e" p3, .Name "NoName" p4] [] p5, .Call (.Name "isinstance" p6) [.Name "e" p7, .Name "NoText" p8] [] p9] p10) p11,
      .Assign [.Name "found" p12] (.Tuple [.Constant (.str "refused") j1 p13, .UnaryOp .USub (.Constant (.int 1) j2 p14) p15] j3 p16) p17,
      .If (.BoolOp .And [.Call (.Name "isinstance" p18) [.Name "e" p19, .Name "ValueError" p20] [] p32, .Compare (.Call (.Attribute (.Name "kinds" p22) "count" p21) [.Constant (.bool true) j4 p24] [] p23) [.Eq] [.Constant (.int 1) j5 p25] p26] p33)
        [.Assign [.Name "found" p27] (.Tuple [.Constant (.str "refused") j6 p28, .Call (.Attribute (.Name "kinds" p30) "index" p29) [.Constant (.bool true) j7 p34] [] p31] j8 p35) p36] [] p37]
      (fun E σ H => σ.length = 4 ∧ σ[2]? = some (some (.ref a)) ∧ ∀ p o H2 x, NewTup H [.str "refused", .int (i : Nat)] p o H2 → E.nx ((σ.set 3 (some x)).set 1 (some (.ref p))) H2) := by
  have nd : (Y.suite a ((a, oe) :: pn)).N.Nodup := by show Y.N.Nodup; rw [hN]; decide
  have n1 : (Y.suite a ((a, oe) :: pn)).N[1]? = some (("found" : Str)) := by show Y.N[1]? = _; rw [hN]; rfl
  have n2 : (Y.suite a ((a, oe) :: pn)).N[2]? = some (("e" : Str)) := by show Y.N[2]? = _; rw [hN]; rfl
  have n3 : (Y.suite a ((a, oe) :: pn)).N[3]? = some (("kinds" : Str)) := by show Y.N[3]? = _; rw [hN]; rfl
  have ci := call_isE (X := Y) (a := a) (pn := pn) k.e hz hf
  have ve : ∀ {p : Pos}, PE (Y.suite a ((a, oe) :: pn)) (.Name "e" p) (tVar 2) := fun {p} => pe_var n2 (.inl le)
  have vk : ∀ {p : Pos}, PE (Y.suite a ((a, oe) :: pn)) (.Name "kinds" p) (tVar 3) := fun {p} => pe_var n3 (.inl lk)
  have s1 := ps_set (X := Y.suite a ((a, oe) :: pn)) (pos := p11) (pos' := p1) nd n3 (.inl lk) (pe_lst (pos := p10) (pa_cons (pe_callB (p := p2) (pos := p5) ci gi mi (by decide +kernel) (pa_cons (ve (p := p3)) (pa_cons (pe_glob (pos := p4) gn mn (v := .ref cN) rfl) pa_nil))) (pa_cons (pe_callB (p := p6) (pos := p9) ci gi mi (by decide +kernel) (pa_cons (ve (p := p7)) (pa_cons (pe_glob (pos := p8) gt mt (v := .ref cT) rfl) pa_nil))) pa_nil))) (by rfl) (.inr lk)
  have s2 := ps_set (X := Y.suite a ((a, oe) :: pn)) (pos := p17) (pos' := p12) nd n1 (.inl lf) (pe_tupN (x1 := j3) (pos := p16) (pa_cons (pe_str (x := "refused") (j := j1) (pos := p13)) (pa_cons (pe_un (pos := p15) un_neg (pe_int (i := 1) (j := j2) (pos := p14))) pa_nil))) (by rfl) (.inr lf)
  have t1 := pw_and (pos := p33) (pt_val (pe_callB (p := p18) (pos := p32) ci gi mi (by decide +kernel) (pa_cons (ve (p := p19)) (pa_cons (pe_bltn (pos := p20) (v := .ty "ValueError") gv mv (by decide +kernel) rfl) pa_nil))))
    (pw_and1 (pos := p33) (pt_cmpR (pos := p26) op_eq (pe_bm (apos := p21) (cpos := p23) PySem.F.plainAttrs_list PySem.F.slot_list_count PySem.F.type_list_count mt_countF (vk (p := p22)) (pa_cons (pe_bl (b := true) (j := j4) (pos := p24)) pa_nil) (hline := l1)) (pe_int (i := 1) (j := j5) (pos := p25)) (by first | exact nobehind _ (by decide) (by decide) | rfl)))
  have s3 := ps_if (pos := p37) (PW.pt t1) (pss_one (ps_set (X := Y.suite a ((a, oe) :: pn)) (pos := p36) (pos' := p27) nd n1 (.inl lf) (pe_tupN (x1 := j8) (pos := p35) (pa_cons (pe_str (x := "refused") (j := j6) (pos := p28))
    (pa_cons (pe_bm (apos := p29) (cpos := p31) PySem.F.plainAttrs_list PySem.F.slot_list_index PySem.F.type_list_index mt_index (vk (p := p30)) (pa_cons (pe_bl (b := true) (j := j7) (pos := p34)) pa_nil) (hline := l2)) pa_nil))) (by rfl) (.inr lf))) pss_nil
  refine PSs_weak (pss_cons s1 (pss_cons s2 (pss_one s3))) fun E σ H h => ?_
  obtain ⟨hl, h2, q⟩ := h
  have hi := k.i
  refine ⟨.ref a, h2, .ref cN, .ref cN, _, rfl, (fun u hu => hu), k.n, .ref a, h2, .ref cT, .ref cT, _, rfl, (fun u hu => hu), k.t, by show 2 ≤ sizeLine; decide, fun l hl' => ?_⟩
  refine ⟨1, rfl, by show 2 ≤ sizeLine; decide, fun p o hp ho => ?_⟩
  have g1 : ((σ.set 3 (some (.ref l))).set 1 (some (.ref p)))[2]? = some (some (.ref a)) := by
    rw [List.getElem?_set_ne (by decide), List.getElem?_set_ne (by decide)]; exact h2
  have g3 : ((σ.set 3 (some (.ref l))).set 1 (some (.ref p)))[3]? = some (some (.ref l)) := by
    rw [List.getElem?_set_ne (by decide), List.getElem?_set_self (by omega)]
  have hlp : l ≠ p := ne_of_none (upd_same (H := H) (a := l)) hp
  have ll : upd (upd H l (.lst [.bl (decide (i = 0)), .bl (decide (i = 1))])) p (.frz o (.tup [.str "refused", .int (-1)])) l = some (.lst [.bl (decide (i = 0)), .bl (decide (i = 1))]) := by rw [upd_ne hlp, upd_same]
  refine ⟨.ref a, g1, .ty "ValueError", .type "ValueError", _, rfl, (fun u hu => hu), k.v, true, rfl, ?_⟩
  refine ⟨.ref l, g3, .inl ⟨rfl, _, SqL.of ll⟩, l, _, .bl true, rfl, rfl, SqL.of ll, rfl, rfl, ?_⟩
  have hc : List.countP (fun z => eqV z (V.bl true)) [V.bl (decide (i = 0)), V.bl (decide (i = 1))] = 1 := by
    have : i = 0 ∨ i = 1 := by omega
    rcases this with rfl | rfl <;> decide
  have hx : ([V.bl (decide (i = 0)), V.bl (decide (i = 1))] : List V)[i]? = some (.bl true) := by
    have : i = 0 ∨ i = 1 := by omega
    rcases this with rfl | rfl <;> rfl
  have hno : ∀ (m : Nat) (z' : V), m < i → ([V.bl (decide (i = 0)), V.bl (decide (i = 1))] : List V)[m]? = some z' → eqV z' (.bl true) = false := fun m z' hm e => by
    have : i = 1 ∧ m = 0 := by omega
    obtain ⟨rfl, rfl⟩ := this
    cases e
    decide
  rw [hc]
  refine ⟨rfl, true, congrArg V.bl (decide_eq_true rfl), ?_⟩
  refine (show ∀ {P Q : Prop}, P → (if true = true then P else Q) from fun h => by rw [if_pos rfl]; exact h) ?_
  refine ⟨.ref l, g3, .inl ⟨rfl, _, SqL.of ll⟩, l, _, .bl true, i, .bl true, rfl, rfl, SqL.of ll, rfl, rfl, hx, by decide, hno, by show 2 ≤ sizeLine; decide, fun p' o' hp' ho' => ?_⟩
  have e : (((σ.set 3 (some (V.ref l))).set 1 (some (V.ref p))).set 1 (some (V.ref p'))) = ((σ.set 3 (some (V.ref l))).set 1 (some (V.ref p'))) := by rw [List.set_set]
  show E.nx (((σ.set 3 (some (V.ref l))).set 1 (some (V.ref p))).set 1 (some (V.ref p'))) _
  rw [e]
  refine q p' o' _ (.ref l) ⟨fun b x hb => ?_, ?_, upd_same, ho'⟩
  · have z1 : upd H l (.lst [.bl (decide (i = 0)), .bl (decide (i = 1))]) b = some x := by rw [upd_ne (ne_of_none hb hl')]; exact hb
    have z2 : upd (upd H l (.lst [.bl (decide (i = 0)), .bl (decide (i = 1))])) p (.frz o (.tup [.str "refused", .int (-1)])) b = some x := by rw [upd_ne (ne_of_none z1 hp)]; exact z1
    rw [upd_ne (ne_of_none z2 hp')]
    exact z2
  · cases z : H p' with
    | none => rfl
    | some x =>
      have z1 : upd H l (.lst [.bl (decide (i = 0)), .bl (decide (i = 1))]) p' = some x := by rw [upd_ne (ne_of_none z hl')]; exact z
      have z2 : upd (upd H l (.lst [.bl (decide (i = 0)), .bl (decide (i = 1))])) p (.frz o (.tup [.str "refused", .int (-1)])) p' = some x := by rw [upd_ne (ne_of_none z1 hp)]; exact z1
      exact absurd (hp'.symm.trans z2) (by simp)
theorem PSs_len {Y : Cx} {ss : List Stmt} {t t' : TS} (h : PSs Y ss t) (w : ∀ E σ H, σ.length = Y.N.length → t' E σ H → t E σ H) : PSs Y ss t' := ⟨fun pins s σ H E I q => h.run pins s σ H E I (w E σ H I.len q)⟩
theorem told_gives2 {Ng : List Str} {x q : Str} {sg : Scope} {g cB cN cT : Addr} {cdg : Value} {p1 p2 p3 p4 p5 p6 p7 p8 p9 p10 p11 p12 p13 p14 p15 p16 p17 p18 p19 p20 p21 p22 p23 p24 p25 p26 p27 p28 p29 p30 p31 p32 p33 p34 p35 p36 p37 q1 q2 q3 q4 q5 q6 q7 q8 q9 q10 q11 : Pos} {j1 j2 j3 j4 j5 j6 j7 j8 j9 j10 : Nat}
    (hN : Ng = [("deed" : Str), "found", "e", "kinds"])
    (le : sg.names.lookup ("e" : Str) = some .local) (lf : sg.names.lookup ("found" : Str) = some .local) (lk : sg.names.lookup ("kinds" : Str) = some .local)
    (gb : sg.names.lookup ("BeatError" : Str) = some .globalImplicit) (gi : sg.names.lookup ("isinstance" : Str) = some .globalImplicit) (gn : sg.names.lookup ("NoName" : Str) = some .globalImplicit) (gt : sg.names.lookup ("NoText" : Str) = some .globalImplicit) (gv : sg.names.lookup ("ValueError" : Str) = some .globalImplicit)
    (mb : X.mg "BeatError" = some (.ref cB)) (mi : X.mg "isinstance" = none) (mn : X.mg "NoName" = some (.ref cN)) (mt : X.mg "NoText" = some (.ref cT)) (mv : X.mg "ValueError" = none)
    (l1 : (p21.endLine == p23.line) = true) (l2 : (p29.endLine == p31.line) = true) :
    LamX.GivesTo X Ng x sg g cdg [
      .Try [.Assign [.Name "found" q1] (.Tuple [.Constant (.str "told") j9 q2, .Call (.Name "deed" q3) [] [] q4] j10 q5) q6]
       [.ExceptHandler (some (.Name "BeatError" q7)) (some "e") [
      .Assign [.Name "kinds" p1] (.List [.Call (.Name "isinstance" p2) [.Name "e" p3, .Name "NoName" p4] [] p5, .Call (.Name "isinstance" p6) [.Name "e" p7, .Name "NoText" p8] [] p9] p10) p11,
      .Assign [.Name "found" p12] (.Tuple [.Constant (.str "refused") j1 p13, .UnaryOp .USub (.Constant (.int 1) j2 p14) p15] j3 p16) p17,
      .If (.BoolOp .And [.Call (.Name "isinstance" p18) [.Name "e" p19, .Name "ValueError" p20] [] p32, .Compare (.Call (.Attribute (.Name "kinds" p22) "count" p21) [.Constant (.bool true) j4 p24] [] p23) [.Eq] [.Constant (.int 1) j5 p25] p26] p33)
        [.Assign [.Name "found" p27] (.Tuple [.Constant (.str "refused") j6 p28, .Call (.Attribute (.Name "kinds" p30) "index" p29) [.Constant (.bool true) j7 p34] [] p31] j8 p35) p36] [] p37] q8] [] [] q9,
      .Return (some (.Name "found" q10)) q11] "deed" q (TTold2 X.K cB cN cT) := by
  intro f c' s H Q tl act hc h
  have nd : (cxOf C8.CX0 X.prog X.w X.K X.mg X.base Ng x sg g cdg X.A X.stack s H C8.E0).nox.N.Nodup := by show Ng.Nodup; rw [hN]; decide
  have n1 : (cxOf C8.CX0 X.prog X.w X.K X.mg X.base Ng x sg g cdg X.A X.stack s H C8.E0).nox.N[1]? = some (("found" : Str)) := by show Ng[1]? = _; rw [hN]; rfl
  have n2 : (cxOf C8.CX0 X.prog X.w X.K X.mg X.base Ng x sg g cdg X.A X.stack s H C8.E0).nox.N[2]? = some (("e" : Str)) := by show Ng[2]? = _; rw [hN]; rfl
  have hgl : Gl (cxOf C8.CX0 X.prog X.w X.K X.mg X.base Ng x sg g cdg X.A X.stack s H C8.E0).nox "BeatError" := gb
  have lenN : (cxOf C8.CX0 X.prog X.w X.K X.mg X.base Ng x sg g cdg X.A X.stack s H C8.E0).nox.N.length = 4 := by show Ng.length = 4; rw [hN]; rfl
  have ret : PSs (cxOf C8.CX0 X.prog X.w X.K X.mg X.base Ng x sg g cdg X.A X.stack s H C8.E0).nox [.Return (some (.Name "found" q10)) q11] (fun E σ H => ∃ v, (4 ≤ σ.length → σ[1]? = some (some v)) ∧ E.rt v H) :=
    PSs_len (pss_one (ps_ret (pe_var n1 (.inl lf)))) fun E σ H hl h => by
      obtain ⟨v, h1, h2⟩ := h
      exact ⟨v, h1 (by rw [hl, lenN]; exact Nat.le_refl 4), h2⟩
  refine ⟨_, pss_cons (ps_try_as (X := (cxOf C8.CX0 X.prog X.w X.K X.mg X.base Ng x sg g cdg X.A X.stack s H C8.E0).nox) (x := "BeatError") (n := "e") (np := q7) (pos := q9) (pos' := q8) (c := .ref cB) (i := 2) (Wout := fun _ _ _ _ => False)
      (body := [.Assign [.Name "found" q1] (.Tuple [.Constant (.str "told") j9 q2, .Call (.Name "deed" q3) [] [] q4] j10 q5) q6])
      (tb := fun W D σ H => ∃ (Ech : XK) (Q' : VK), (∀ (cls : Value) (d : Option Addr) (σ' : L2.St) (H' : Hp), Ech cls d H' → W cls d σ' H') ∧ σ[0]? = some (some (.ref f)) ∧ H c' = some (LamX.CodeO c' q) ∧ tl Ech H Q' ∧ ∀ v H', Q' v H' → ∀ p o H2, NewTup H' [.str "told", v] p o H2 → D.nx (σ.set 1 (some (.ref p))) H2)
      (ts := fun a cls d E σ H => ∃ D i, cls = .ref D ∧ d = none ∧ ToldK X.K cB cN cT D i ∧ (4 ≤ σ.length → σ[2]? = some (some (.ref a))) ∧ ∀ p o H2 x, NewTup H [.str "refused", .int (i : Nat)] p o H2 → E.nx ((σ.set 3 (some x)).set 1 (some (.ref p))) H2)
      rfl rfl nd n2 le ⟨hgl, by decide, .inl mb⟩ LamX.takes0 (fun W pn xe tk _ => ?_) (fun a oe cls d pn hz hf => ?_)) ret, ?_⟩
  · have n1' : ((cxOf C8.CX0 X.prog X.w X.K X.mg X.base Ng x sg g cdg X.A X.stack s H C8.E0).nox.tr pn xe).N[1]? = some (("found" : Str)) := n1
    refine ⟨fun pins s' σ H' D I h' => ?_⟩
    obtain ⟨Ech, Q', hW, h1, h2, h3, h4⟩ := h'
    have hp := PE_mono (act W pn xe Ech q3 q4 tk hW)
    have hq := pss_one (ps_set (X := (cxOf C8.CX0 X.prog X.w X.K X.mg X.base Ng x sg g cdg X.A X.stack s H C8.E0).tr pn xe) (pos := q6) (pos' := q1) nd n1 (.inl lf) (pe_tupN (x1 := j10) (pos := q5) (pa_cons (pe_str (x := "told") (j := j9) (pos := q2)) (pa_cons hp pa_nil))) (by rfl) (.inr lf))
    refine hq.run pins s' σ H' D I ⟨Q', ⟨h1, h2, h3⟩, fun v H1 hv => ⟨by show 2 ≤ sizeLine; decide, fun p o hn ho => ?_⟩⟩
    exact h4 v H1 hv p o _ ⟨same_new hn, hn, upd_same, ho⟩
  · by_cases hk : ∃ D i, cls = .ref D ∧ d = none ∧ ToldK X.K cB cN cT D i
    · obtain ⟨D, i, rfl, rfl, k⟩ := hk
      refine PSs_len (suite_told (Y := (cxOf C8.CX0 X.prog X.w X.K X.mg X.base Ng x sg g cdg X.A X.stack s H C8.E0).nox) k hz hf hN le lf lk gi gn gt gv mi mn mt mv l1 l2) fun E σ H' hl h' => ?_
      obtain ⟨D', i', e1, _, k', h2, h3⟩ := h'
      cases e1
      have hii : i' = i := by
        have a1 := k.n.symm.trans k'.n
        have a2 := k.i
        have a3 := k'.i
        simp only [Option.some.injEq, decide_eq_decide] at a1
        omega
      subst hii
      have hl4 : σ.length = 4 := hl.trans lenN
      exact ⟨hl4, h2 (by omega), h3⟩
    · exact PSs_len (t := fun _ _ _ => False) ⟨fun _ _ _ _ _ _ z => z.elim⟩ fun E σ H' _ ⟨D, i, e1, e2, k, _⟩ => hk ⟨D, i, e1, e2, k⟩
  · obtain ⟨E, Q', h1, h2, h3⟩ := h
    have h0 : (L2.start Ng [V.ref f])[0]? = some (some (V.ref f)) := by rw [hN]; rfl
    refine ⟨E, Q', fun cls d σ' H' he => ?_, h0, hc, h1, fun v H' hv p o H2 hn => ⟨.ref p, fun hl => ?_, h2 v H' hv p o H2 hn⟩⟩
    · obtain ⟨D, i, rfl, rfl, k, hq⟩ := h3 cls d H' he
      refine ⟨true, k.m, fun _ a ha => ⟨D, i, rfl, rfl, k, fun hl => ?_, fun p o H2 x hn => ⟨.ref p, fun hl => ?_, hq p o H2 hn⟩⟩, fun z => by cases z⟩
      · exact List.getElem?_set_self (by rw [List.length_set] at hl; omega)
      · rw [List.getElem?_set_ne (by decide)]
        exact List.getElem?_set_self (by simp only [List.length_set] at hl ⊢; omega)
    · exact List.getElem?_set_self (by rw [List.length_set] at hl; omega)
/-- _law_told(lambda: body) -/
def wTold (kd : Str → Option Nat) (M : WE) : WE := ⟨fun env st K E => M.run env st (fun d s => K (.tup [.str [116, 111, 108, 100], d]) s) (fun c s => ∃ i, kd c = some i ∧ K (.tup [.str [114, 101, 102, 117, 115, 101, 100], .int (i : Nat)]) s),
  fun h h' x => M.mono (fun _ _ k => h _ _ k) (fun _ _ ⟨i, e, k⟩ => ⟨i, e, h _ _ k⟩) x⟩
theorem told_new {K : PySem.W.Frag} {Z : Wd} {Hb H H2 : Hp} {st : Sto} {p : Addr} {o : Obj} {vs : List V} {ds : List D} (r : RelSt K Z Hb H st) (n : NewTup H vs p o H2) (il : IsL K Hb ds vs) : ∃ Hb2, StepW Hb H st Hb2 H2 st ∧ RelSt K Z Hb2 H2 st ∧ Is K Hb2 (.tup ds) (.ref p) := by
  obtain ⟨n1, n2, n3, n4⟩ := n
  obtain ⟨a, b⟩ := r.ext n1 n2 n3 (fun ps z => by cases z)
  exact ⟨_, b, a, is_tup_new n4 (r.c.free n2) il⟩
theorem wp_told {Z : Wd} {W : Dn.WX} {M : WE} {kd : Str → Option Nat} {x : Str} {g c P cB cN cT : Addr} {k j : Nat} {pg : Arguments} {bg : List Stmt} {sg : Scope} {dV kV doc pm cdv ct oc : Value} {an od : Option Addr} {osl : Array (Option Value)} {Ng : List Str}
    {params : Arguments} {body : Expr} {scope : Scope} {p lpos pos : Pos} (hm : X.mg x = some (.ref g)) (hk : PySem.W.keepIn X.K (.ref g) = true)
    (lk : X.K.lookup g = some ⟨oc, od, .func (PySem.W.fnOf x x pg bg sg dV kV doc pm an cdv ct), osl⟩) (hcg : PySem.W.codeIn X.K cdv x = true) (hb : L2.Binds X.K (PySem.W.fnOf x x pg bg sg dV kV doc pm an cdv ct) ["deed"] []) (Sg : FnScope Ng ["deed"] sg) (hNg : Ng[0]? = some (("deed" : Str))) (hva : Vis sg "deed")
    (hG : LamX.GivesTo X Ng x sg g cdv bg "deed" (X.env.qual ++ "<lambda>") (TTold2 X.K cB cN cT)) (hkd : ∀ c i, kd c = some i → ToldK X.K cB cN cT (Z.cl c) i)
    (TB : LamX.TabB X.base X.mg c P) (hcode : X.env.code = .ref c) (hmT : (P, X.env.qual ++ "<lambda>") ∈ Z.T) (hu : ∀ p ∈ Z.T, p.1 = P → p.2 = X.env.qual ++ "<lambda>") (hr : Room j X.A) (L : LamX.LamS X.env.scope scope) (hdef : defaultsOf params X.env = ([], []))
    (hbind : ∀ (q : Str) (cl : List (Str × Addr)) (pm cv ctv : Value), bindArgs (PySem.W.kla_fn "<lambda>" q params body scope cl pm cv ctv) ⟨[], []⟩ = pure [])
    (hbody : ∀ (A : Around) (outer : List Env) (s : Shared) (H : Hp) (E : XK) (f c' : Addr), Room k (A.deeper (LamX.lamEnv X scope s.heap.objs.size f c')) → PE (LamX.lamCx X A outer s H E scope f c') body (tWE X.K Z (fun c d _ H => E c d H) M))
    (hkj : k + 2 ≤ j := by decide) (hg : Gl X x := by rfl) (hdb : (x == ("__debug__" : Str)) = false := by decide) :
    PE X (.Call (.Name x p) [.Lambda params body scope lpos] [] pos) (tWE X.K Z W (wTold kd M)) := by
  refine PE_weak (LamX.pe_lamcall (T := Z.T) (t := fun E => tWE X.K Z (fun c d _ H => E c d H) M) hg hm hk lk hcg hb Sg hNg hva hG TB hcode hmT hu (hr.mono hkj) L hdef hbind hbody hdb (by decide) (by decide)) fun σ H Q h => ?_
  obtain ⟨Hb, env, st, r, rs, m⟩ := h
  refine ⟨rs.tabs, fun H1 eN T1 => ?_⟩
  obtain ⟨rs1, sp1⟩ := rs.lam eN T1
  refine ⟨fun cls d H' => ∃ D i, cls = .ref D ∧ d = none ∧ ToldK X.K cB cN cT D i ∧ ∀ p o H2, NewTup H' [.str "refused", .int (i : Nat)] p o H2 → Q (.ref p) H2, fun v H' => ∀ p o H2, NewTup H' [.str "told", v] p o H2 → Q (.ref p) H2, ?_, fun v H' h => h, fun cls d H' h => h⟩
  refine ⟨Hb, env, st, r, rs1, M.mono (fun d s1 q v Hb2 H2 s rs2 iv p o H3 hn => ?_) (fun c s1 q Hb2 H2 s rs2 => ?_) m⟩
  · obtain ⟨Hb3, a1, a2, a3⟩ := told_new (ds := [.str [116, 111, 108, 100], d]) rs2 hn (by
      simp only [IsL, Is]
      exact ⟨_, _, rfl, rfl, v, [], rfl, iv, rfl⟩)
    exact q _ Hb3 H3 (sp1.trans (s.trans a1)) a2 a3
  · obtain ⟨i, e, q⟩ := q
    refine ⟨Z.cl c, i, rfl, rfl, hkd c i e, fun p o H3 hn => ?_⟩
    obtain ⟨Hb3, a1, a2, a3⟩ := told_new (ds := [.str [114, 101, 102, 117, 115, 101, 100], .int (i : Nat)]) rs2 hn (by
      simp only [IsL, Is]
      exact ⟨_, _, rfl, rfl, _, [], rfl, rfl, rfl⟩)
    exact q _ Hb3 H3 (sp1.trans (s.trans a1)) a2 a3
end
end Dn
set_option Elab.async false
set_option linter.all false
set_option maxRecDepth 100000
/-! Part T: statements of the old layer lifted into the store's layer. -/
namespace Dn
open PySem L2 PySem.Spec PyProof.Rows

def NoOwn (env : En) : Prop := ∀ d, some d ∈ env → d.isOwn = false
/-- what a plain statement does -/
def wPS (F : En → Option Fl) : WS := ⟨fun env st N => ∃ fl, F env = some fl ∧ match fl with
    | .nx e => NoOwn e ∧ N.nx e st
    | .rt d => N.rt d st
    | .bk e => NoOwn e ∧ N.bk e st
    | .ct e => NoOwn e ∧ N.ct e st, fun h x => by
  obtain ⟨fl, e, k⟩ := x
  refine ⟨fl, e, ?_⟩
  cases fl with
  | nx e => exact ⟨k.1, h.nx _ _ k.2⟩
  | rt d => exact h.rt _ _ k
  | bk e => exact ⟨k.1, h.bk _ _ k.2⟩
  | ct e => exact ⟨k.1, h.ct _ _ k.2⟩⟩
theorem Rel.plain {K : PySem.W.Frag} {H0 Hb H : Hp} {σ : L2.St} {env : En} (r : Rel K H0 Hb H σ env) (n : NoOwn env) : Rel0 K Hb σ env := ⟨r.len, fun i d e => by
  obtain ⟨v, h1, h2⟩ := r.val i d e
  rw [IsS.plain (n d (List.mem_of_getElem? e))] at h2
  exact ⟨v, h1, h2⟩⟩
section
variable {X : Cx} {Z : Wd} {W : Dn.WX} {st' : Stmt} {sts : List Stmt} {F : En → Option Fl}
theorem wS_pure {K : PySem.W.Frag} {N : L2.Ends} {σ : L2.St} {H : Hp} (h : tWS K Z W (wPS F) N σ H) : tS K F N σ H := by
  obtain ⟨Hb0, H0, st0, Hb, env, st, r, rs, sp, fl, ef, k⟩ := h
  refine ⟨H, Hb, env, Hb, fl, r.rel H H, Step.refl rs.c, ef, ?_⟩
  cases fl with
  | nx e =>
    intro σ' Hb' H' r' s'
    obtain ⟨x1, x2⟩ := s'.w rs
    exact k.2 σ' Hb' H' (r'.plain k.1) x2 (sp.trans x1)
  | rt d =>
    intro v Hb' H' s' iv
    obtain ⟨x1, x2⟩ := s'.w rs
    exact k v Hb' H' x2 (sp.trans x1) iv
  | bk e =>
    intro σ' Hb' H' r' s'
    obtain ⟨x1, x2⟩ := s'.w rs
    exact k.2 σ' Hb' H' (r'.plain k.1) x2 (sp.trans x1)
  | ct e =>
    intro σ' Hb' H' r' s'
    obtain ⟨x1, x2⟩ := s'.w rs
    exact k.2 σ' Hb' H' (r'.plain k.1) x2 (sp.trans x1)
theorem ws_pure (h : PS X st' (tS X.K F)) : PS X st' (tWS X.K Z W (wPS F)) := PS_weak h fun _ _ _ q => wS_pure q
theorem wss_pure (h : PSs X sts (tS X.K F)) : PSs X sts (tWS X.K Z W (wPS F)) := PSs_weak h fun _ _ _ q => wS_pure q
end
/-! ### steps of the plain part -/
section
variable {env e' : En} {st : Sto} {N : WN} {F : En → Option Fl} {G : WS}
theorem u_nx (h : F env = some (.nx e')) (n : NoOwn e') (k : G.run e' st N) : (wSeq (wPS F) G).run env st N := ⟨_, h, n, k⟩
theorem u_rt {d : D} (h : F env = some (.rt d)) (k : N.rt d st) : (wPS F).run env st N := ⟨_, h, k⟩
theorem u_rtS {d : D} (h : F env = some (.rt d)) (k : N.rt d st) : (wSeq (wPS F) G).run env st N := ⟨_, h, k⟩
end
/-! ### x[k] of values that change -/
section
variable {X : Cx} {Z : Wd} {W : Dn.WX} {a b : Expr} {pos : Pos} {A B : WE}
theorem wp_ix (ha : PE X a (tWE X.K Z W A)) (hb : PE X b (tWE X.K Z W B)) (hs : PlainIx b := by exact fun _ _ => rfl) : PE X (.Subscript a b pos) (tWE X.K Z W (w2 ixD A B)) :=
  PE_weak (pe_ix x_seq ha hb hs) fun _ _ _ h => wE_2 h
end
/-! ### a def whose code object is known -/
section
variable {P : Program} {w : World} {K : PySem.W.Frag} {mg : Str → Option Value} {base : Heap}
theorem fnc_w {Z : Wd} {x qual : Str} {st : Stmt} {f : Addr} {oc : Value} {od an : Option Addr} {osl : Array (Option Value)} {kV doc pm cdv ct : Value} {N ps : List Str} {k : Nat} {M : WS}
    (lk : K.lookup f = some ⟨oc, od, .func (PySem.W.fnOf x qual (defArgs st) (defBody st) (defScope st) .none kV doc pm an cdv ct), osl⟩) (hcd : PySem.W.codeIn K cdv qual = true) (S : FnScope N ps (defScope st))
    (hb : ∀ (A : Around) (outer : List Env) (s : Shared) (H : Hp) (E : XK), Room k (A.deeper (envOfC qual (defScope st) s.heap.objs.size f cdv)) → PSs (cxOf (L2.CX P w) P w K mg base N qual (defScope st) f cdv A outer s H E) (defBody st) (tWS K Z (fun c d _ H' => E c d H') M)) :
    FnOk P w K mg base (L2.CX P w) (k + 1) f (PySem.W.fnOf x qual (defArgs st) (defBody st) (defScope st) .none kV doc pm an cdv ct) ps (spW K Z (semW N.length ps.length M)) := by
  refine fn_of lk hcd S (fun vs H Q E h => ?_) (fun A outer s H vs Q E hr h => ⟨_, hb A outer s H E hr, ?_⟩)
  · obtain ⟨Hb, st, ds, rs, il, hl, _⟩ := h
    rw [il.length, hl]
  · obtain ⟨Hb, st, ds, rs, il, hl, m⟩ := h
    refine ⟨Hb, H, st, Hb, startE N.length ds, st, rel0_start il, rs, StepW.refl, M.imp m ?_⟩
    exact ⟨fun e s k σ Hb' H' r' rs' sp' => k .non Hb' H' sp' rs' (by simp only [Is]), fun d s k v Hb' H' rs' sp' iv => k v Hb' H' sp' rs' iv, fun _ _ k => k.elim, fun _ _ k => k.elim, fun c s k σ Hb' H' rs' sp' => k Hb' H' sp' rs'⟩
end
/-! ### the law's own teller of refusals -/
/-- which refusal it is -/
def kd (c : Str) : Option Nat := if c = "NoName" then some 0 else if c = "NoText" then some 1 else none
structure ToldD (K : PySem.W.Frag) (mg : Str → Option Value) (Z : Wd) (stT : Stmt) (cB cN cT : Addr) : Prop where
  f : ∃ (g : Addr) (oc kV doc pm cdv ct : Value) (od an : Option Addr) (osl : Array (Option Value)), mg "_law_told" = some (.ref g) ∧ PySem.W.keepIn K (.ref g) = true ∧ K.lookup g = some ⟨oc, od, .func (PySem.W.fnOf "_law_told" "_law_told" (defArgs stT) (defBody stT) (defScope stT) .none kV doc pm an cdv ct), osl⟩ ∧
    PySem.W.codeIn K cdv "_law_told" = true ∧ L2.Binds K (PySem.W.fnOf "_law_told" "_law_told" (defArgs stT) (defBody stT) (defScope stT) .none kV doc pm an cdv ct) ["deed"] []
  s : FnScope ["deed", "found", "e", "kinds"] ["deed"] (defScope stT)
  v : Vis (defScope stT) "deed"
  b : mg "BeatError" = some (.ref cB)
  i : mg "isinstance" = none
  n : mg "NoName" = some (.ref cN)
  t : mg "NoText" = some (.ref cT)
  u : mg "ValueError" = none
  k : ∀ c i, kd c = some i → ToldK K cB cN cT (Z.cl c) i
/-- the def's text, once for each law: by told_gives2 -/
def ToldG (stT : Stmt) : Prop := ∀ {X : Cx} {q : Str} {g cB cN cT : Addr} {cdg : Value}, X.mg "BeatError" = some (.ref cB) → X.mg "isinstance" = none → X.mg "NoName" = some (.ref cN) → X.mg "NoText" = some (.ref cT) → X.mg "ValueError" = none →
  LamX.GivesTo X ["deed", "found", "e", "kinds"] "_law_told" (defScope stT) g cdg (defBody stT) "deed" q (TTold2 X.K cB cN cT)
theorem e_told {X : Cx} {Z : Wd} {W : Dn.WX} {M : WE} {stT : Stmt} {c P cB cN cT : Addr} {k j : Nat} {params : Arguments} {body : Expr} {scope : Scope} {p lpos pos : Pos} (TD : ToldD X.K X.mg Z stT cB cN cT) (TG : ToldG stT)
    (TB : LamX.TabB X.base X.mg c P) (hcode : X.env.code = .ref c) (hmT : (P, X.env.qual ++ "<lambda>") ∈ Z.T) (hu : ∀ p ∈ Z.T, p.1 = P → p.2 = X.env.qual ++ "<lambda>") (hr : Room j X.A)
    (hbody : ∀ (A : Around) (outer : List Env) (s : Shared) (H : Hp) (E : XK) (f c' : Addr), Room k (A.deeper (LamX.lamEnv X scope s.heap.objs.size f c')) → PE (LamX.lamCx X A outer s H E scope f c') body (tWE X.K Z (fun c d _ H => E c d H) M))
    (L : LamX.lamSB X.env.scope scope = true := by rfl) (hdef : defaultsOf params X.env = ([], []) := by rfl)
    (hbind : ∀ (q : Str) (cl : List (Str × Addr)) (pm cv ctv : Value), bindArgs (PySem.W.kla_fn "<lambda>" q params body scope cl pm cv ctv) ⟨[], []⟩ = pure [] := by intros; rfl)
    (hkj : k + 2 ≤ j := by decide) (hg : Gl X "_law_told" := by rfl) :
    PE X (.Call (.Name "_law_told" p) [.Lambda params body scope lpos] [] pos) (tWE X.K Z W (wTold kd M)) := by
  obtain ⟨g, oc, kV, doc, pm, cdv, ct, od, an, osl, f1, f2, f3, f4, f5⟩ := TD.f
  exact wp_told (k := k) (j := j) f1 f2 f3 f4 f5 TD.s rfl TD.v (TG TD.b TD.i TD.n TD.t TD.u) TD.k TB hcode hmT hu hr (LamX.lamS_by L) hdef hbind hbody hkj hg
/-! ### defs of the store's layer -/
def DefW (P : Program) (w : World) (K : PySem.W.Frag) (mg : Str → Option Value) (base : Heap) (Z : Wd) (k : Nat) (x : Str) (ps : List Str) (sem : WF) : Prop :=
  ∃ f fd, FnOk P w K mg base (L2.CX P w) k f fd ps (spW K Z sem) ∧ mg x = some (.ref f) ∧ PySem.W.keepIn K (.ref f) = true ∧ Binds K fd ps []
section
variable {P : Program} {w : World} {K : PySem.W.Frag} {mg : Str → Option Value} {base : Heap}
theorem dw_of {Z : Wd} {x : Str} {st : Stmt} {N ps : List Str} {k : Nat} {M : WS} (h : Has K mg x st ps) (S : FnScope N ps (defScope st))
    (hb : ∀ (f : Addr) (cdv : Value) (A : Around) (outer : List Env) (s : Shared) (H : Hp) (E : XK), Room k (A.deeper (envOfC x (defScope st) s.heap.objs.size f cdv)) → PSs (cxOf (L2.CX P w) P w K mg base N x (defScope st) f cdv A outer s H E) (defBody st) (tWS K Z (fun c d _ H' => E c d H') M)) :
    DefW P w K mg base Z (k + 1) x ps (semW N.length ps.length M) := by
  obtain ⟨f, fd, Fu, hm, hb'⟩ := h
  exact ⟨f, fd, fn_w Fu S (hb f), hm, Fu.kp, hb'⟩
end
theorem e_defw {X : Cx} {Z : Wd} {W : Dn.WX} {e : Expr} {es : List Expr} {pos p : Pos} {Ms : WA} {x : Str} {ps : List Str} {k j : Nat} {sem : WF} (tk : Takes X W) (h : DefW X.prog X.w X.K X.mg X.base Z k x ps sem) (hr : Room j X.A) (ha : PA X (e :: es) (tWA X.K Z W Ms)) (hkj : k ≤ j := by decide)
    (hg : Gl X x := by rfl) (hdb : (x == ("__debug__" : Str)) = false := by decide) (he : starEach (e :: es) X.env = (false, eval e X.env) :: starEach es X.env := by rfl) (hpl : (backTo pos (starEach es X.env)).any (·.1) = false := by rfl) :
    PE X (.Call (.Name x p) (e :: es) [] pos) (tWE X.K Z W (wCall sem Ms)) := by
  obtain ⟨f, fd, Fo, hm, hk, hb⟩ := h
  exact wp_call tk Fo hr hm hk hb ha hkj hg hdb he hpl
end Dn
set_option Elab.async false
set_option linter.all false
set_option maxRecDepth 100000
/-! Any text read: a pattern's, a chain's, or refused. -/
namespace Dn
open PySem L2
local macro_rules | `(tactic| walk_at "dg") => `(tactic| first
  | with_reducible exact add_i _ _ | with_reducible exact sub_i _ _ | ((with_reducible refine mul_i ?_); omega) | ((with_reducible refine fdiv_i ?_); omega) | ((with_reducible refine mod_i ?_); omega) | with_reducible exact neg_i _
  | with_reducible exact lt_i _ _ | with_reducible exact le_i _ _ | with_reducible exact gt_i _ _ | with_reducible exact ge_i _ _ | with_reducible exact eq_i _ _ | with_reducible exact ne_i _ _ | with_reducible exact eq_s _ _ | with_reducible exact ne_s _ _
  | ((with_reducible refine add_s ?_); omega) | ((with_reducible refine add_t ?_); omega) | ((with_reducible refine add_l ?_); omega) | ((with_reducible refine mul_s ?_); omega) | ((with_reducible refine mul_l ?_); omega)
  | ((with_reducible refine len_s ?_); omega) | with_reducible exact len_t _ | with_reducible exact len_l _ | with_reducible exact len_c _ | with_reducible exact int_b _ | with_reducible exact int_i _ | with_reducible exact abs_i _
  | ((with_reducible refine sl_s ?_); omega) | with_reducible exact sl_t _ _ _ | with_reducible exact sl_l _ _ _ | ((with_reducible apply ix_t); (· omega); (· rfl)) | ((with_reducible apply ix_l); (· omega); (· rfl)) | with_reducible assumption)
local macro_rules | `(tactic| walk_at "dc") => `(tactic| with_reducible assumption)
local macro_rules | `(tactic| walk_at "dn") => `(tactic| first
  | with_reducible exact v_c | with_reducible exact v_nil | with_reducible exact v_no
  | ((with_reducible apply v_var); (· rfl); (· rfl))
  | ((with_reducible apply v_2); (· walk_at "dn"); (· walk_at "dn"); (· walk_at "dg"))
  | ((with_reducible apply v_1); (· walk_at "dn"); (· walk_at "dg"))
  | ((with_reducible apply v_cons); (· walk_at "dn"); (· walk_at "dn"))
  | ((with_reducible apply v_blt); (· walk_at "dn"); (· walk_at "dg"))
  | ((with_reducible apply v_call); (· walk_at "dn"); (· walk_at "dc"))
  | ((with_reducible apply v_tup); (· walk_at "dn"); (· first | decide | (simp only [List.length_cons, List.length_nil]; decide)))
  | ((with_reducible apply v_lst); (· walk_at "dn"); (· first | decide | (simp only [List.length_cons, List.length_nil]; decide)))
  | ((with_reducible apply v_po); (· walk_at "dn"))
  | ((with_reducible apply v_sl); (· walk_at "dn"); (· walk_at "dn"); (· walk_at "dn"); (· walk_at "dg"))
  | ((with_reducible apply v_m1); (· walk_at "dn"); (· walk_at "dn"); (· walk_at "dg"))
  | ((with_reducible apply v_b); (· walk_at "dn"))
  | ((with_reducible apply v_not); (· walk_at "dn"))
  | ((with_reducible apply v_notV); (· walk_at "dn"))
  | ((with_reducible apply v_rng1); (· walk_at "dn"); (· omega))
  | ((with_reducible apply v_rng2); (· walk_at "dn"); (· omega))
  | ((with_reducible apply v_it); (· walk_at "dn"))
  | ((with_reducible apply v_itl); (· walk_at "dn"))
  | ((with_reducible apply v_its); (· walk_at "dn"))
  | with_reducible assumption)
local macro_rules | `(tactic| walk_at "dt") => `(tactic| first
  | with_reducible exact v_c | with_reducible exact v_nil | with_reducible exact v_no
  | ((with_reducible apply v_var); (· rfl); (· rfl))
  | ((with_reducible apply v_2) <;> walk_at "dt")
  | ((with_reducible apply v_1) <;> walk_at "dt")
  | ((with_reducible apply v_cons) <;> walk_at "dt")
  | ((with_reducible apply v_blt) <;> walk_at "dt")
  | ((with_reducible apply v_call) <;> walk_at "dt")
  | ((with_reducible apply v_tup) <;> walk_at "dt")
  | ((with_reducible apply v_lst) <;> walk_at "dt")
  | ((with_reducible apply v_po) <;> walk_at "dt")
  | ((with_reducible apply v_sl) <;> walk_at "dt")
  | ((with_reducible apply v_m1) <;> walk_at "dt")
  | ((with_reducible apply v_b) <;> walk_at "dt")
  | ((with_reducible apply v_notV) <;> walk_at "dt")
  | ((with_reducible apply v_not) <;> walk_at "dt")
  | ((with_reducible apply v_rng1) <;> first | omega | walk_at "dt")
  | ((with_reducible apply v_rng2) <;> first | omega | walk_at "dt")
  | walk_at "dg"
  | (show List.length _ ≤ sizeLine; first | decide | (simp only [List.length_cons, List.length_nil]; decide))
  | skip)
local macro_rules | `(tactic| walk_at "ds") => `(tactic| first
  | ((with_reducible apply w_ss) <;> first | walk_at "d1" | skip)
  | ((with_reducible apply w_r) <;> first | walk_at "d1" | skip)
  | ((with_reducible apply w_sp) <;> first | walk_at "d1" | skip)
  | ((with_reducible apply w_so) <;> first | walk_at "d1" | skip)
  | (with_reducible apply w_sv)
  | (with_reducible apply w_sq))
local macro_rules | `(tactic| walk_at "dx") => `(tactic| simp only [put, jn, List.set_cons_zero, List.set_cons_succ])
noncomputable def w_number_of : WS :=
  (wSeq (wIf (wPT (fOr (fNot (fB (fChain leD leD (fC (.int 1)) (fBlt lenG (fCons (fV 0) fNil)) (fC (.int 2))))) (fNot (fB (fBlt allG (fCons (fLc (fIt (fV 0)) (gN 1) fYes (f2 inD (fV 1) (fC (.str [48, 49, 50, 51, 52, 53, 54, 55, 56, 57]))) [1]) fNil))))))
      (wRaise "NoText")
      wPass)
    (wPS (fRet (fBlt intG (fCons (fV 0) fNil)))))
noncomputable def wn_number_of : WF := semW 2 1 w_number_of
noncomputable def w_read_pattern : WS :=
  (wSeq (wPS (fSet 1 (fM1 splitD (fV 0) (fC (.str [32])))))
    (wSeq (wIf (wPT (fB (f2 ltD (fBlt lenG (fCons (fV 1) fNil)) (fC (.int 3)))))
      (wRaise "NoText")
      wPass)
    (wSeq (wPS (fSet 2 (f1 tupD (fLc (fIt (fSl (fV 1) (fPo (fC (.int 3))) fNo)) (gN 4) fYes (fTup (fCons (fSl (fV 4) fNo (fPo (fC (.int 1)))) (fCons (fSl (fV 4) (fPo (fC (.int 2))) fNo) fNil))) [4]))))
    (wSeq (wSet 3 (wTup (wCons (wCall wn_number_of (wPA (fCons (f2 ixD (fV 1) (fC (.int 0))) fNil))) (wCons (wCall wn_number_of (wPA (fCons (f2 ixD (fV 1) (fC (.int 2))) fNil))) (wCons (wP (fV 2)) wNil)))))
    (wSeq (wIf (wPT (fOr (fNot (fB (fCall n_is_pattern (fCons (fV 3) fNil)))) (fB (f2 neD (fCall n_pattern_text (fCons (fV 3) fNil)) (fV 0)))))
      (wRaise "NoText")
      wPass)
    (wPS (fRet (fV 3))))))))
noncomputable def wn_read_pattern : WF := semW 5 1 w_read_pattern
noncomputable def w_read_chain : WS :=
  (wSeq (wPS (fSet 2 (f1 tupD (fLc (fIt (fM1 splitD (fV 1) (fC (.str [32])))) (gN 3) fYes (fCall n_link_of (fCons (fV 3) fNil)) [3]))))
    (wSeq (wIf (wPT (fOr (fNot (fB (fCall n_is_chain (fCons (fV 0) (fCons (fV 2) fNil))))) (fB (f2 neD (fCall n_chain_text (fCons (fV 2) fNil)) (fV 1)))))
      (wRaise "NoText")
      wPass)
    (wPS (fRet (fV 2)))))
noncomputable def wn_read_chain : WF := semW 4 2 w_read_chain
def noOwnB (env : En) : Bool := env.all fun x => match x with
  | some d => !d.isOwn
  | none => true
theorem no_own {env : En} (h : noOwnB env = true) : NoOwn env := fun d hd => by
  have := List.all_eq_true.mp h _ hd
  simpa using this
def figB (c : Nat) : Bool := decide (48 ≤ c) && decide (c ≤ 57)
def markB (c : Nat) : Bool := decide (c = 46) || decide (c = 120) || decide (c = 88)
def letB (c : Nat) : Bool := decide (97 ≤ c) && decide (c ≤ 122)
theorem in_figsB (c : Nat) : inD (.str [c]) (.str [48, 49, 50, 51, 52, 53, 54, 55, 56, 57]) = some (.bl (figB c)) := by
  unfold figB
  by_cases h : 48 ≤ c ∧ c ≤ 57
  · rw [in_figs h.1 h.2, decide_eq_true h.1, decide_eq_true h.2]
    rfl
  · rw [not_figs (by omega)]
    by_cases h1 : 48 ≤ c
    · rw [decide_eq_true h1, decide_eq_false (by omega)]
      rfl
    · rw [decide_eq_false h1]
      rfl
theorem in_marksB (c : Nat) : inD (.str [c]) (.str [46, 120, 88]) = some (.bl (markB c)) := by
  show some (D.bl (decide (c ∈ _))) = _
  unfold markB
  congr 2
  simp [Bool.or_assoc]
theorem in_letsB (c : Nat) : inD (.str [c]) (.str [97, 98, 99, 100, 101, 102, 103, 104, 105, 106, 107, 108, 109, 110, 111, 112, 113, 114, 115, 116, 117, 118, 119, 120, 121, 122]) = some (.bl (letB c)) := by
  unfold letB
  by_cases h : 97 ≤ c ∧ c ≤ 122
  · rw [in_letters h.1 h.2, decide_eq_true h.1, decide_eq_true h.2]
    rfl
  · have e : (decide (97 ≤ c) && decide (c ≤ 122)) = false := by
      by_cases h1 : 97 ≤ c
      · rw [decide_eq_true h1, decide_eq_false (by omega)]
        rfl
      · rw [decide_eq_false h1]
        rfl
    rw [e]
    show some (D.bl (decide (c ∈ _))) = _
    rw [decide_eq_false]
    simp
    omega
theorem v_between {f : En → Option D} {env : En} {n lo hi : Int} (h : f env = some (.int n)) : fChain leD leD (fC (.int lo)) f (fC (.int hi)) env = some (.bl (decide (lo ≤ n) && decide (n ≤ hi))) := by
  by_cases h1 : lo ≤ n
  · rw [decide_eq_true h1, Bool.true_and]
    exact v_chain v_c h (by rw [le_i, decide_eq_true h1]) v_c (le_i _ _)
  · rw [decide_eq_false h1, Bool.false_and]
    exact v_chainf v_c h (by rw [le_i, decide_eq_false h1])
theorem v_nots {c : En → Option Bool} {env : En} {k : Bool} (h : c env = some k) : fNot c env = some (!k) := w_not (by rw [h, Bool.not_not])
def rowB (r : List Nat) : Bool := decide (1 ≤ r.length) && decide (r.length ≤ 16) && r.all markB
theorem all_bf {α : Type} (f : α → Bool) (xs : List α) : allG [.lst (xs.map fun x => D.bl (f x))] = some (.bl (xs.all f)) := by
  rw [show (xs.map fun x => D.bl (f x)) = (xs.map f).map D.bl by rw [List.map_map]; rfl, all_b]
  congr 2
  simp [List.all_map]
theorem int_nat_le (a b : Nat) : decide (((a : Nat) : Int) ≤ ((b : Nat) : Int)) = decide (a ≤ b) := decide_eq_decide.mpr (by omega)
theorem e_is_rowB {r : List Nat} (h : r.length ≤ 100000) : n_is_row [.str r] = some (.bl (rowB r)) := by
  refine sem_rt rfl ?_
  show m_is_row [some (.str r), none] = _
  unfold m_is_row rowB
  have hb : fB (fChain leD leD (fC (.int 1)) (fBlt lenG (fCons (fV 0) fNil)) (fC (.int 16))) [some (.str r), none] = some (decide (1 ≤ r.length) && decide (r.length ≤ 16)) := by
    refine v_b ?_
    have := v_between (lo := 1) (hi := 16) (v_blt (v_cons (v_var (env := [some (.str r), none]) (i := 0) rfl rfl) v_nil) (len_s (by omega)))
    rw [show (1 : Int) = ((1 : Nat) : Int) from rfl, show (16 : Int) = ((16 : Nat) : Int) from rfl, int_nat_le, int_nat_le] at this
    exact this
  cases hk : (decide (1 ≤ r.length) && decide (r.length ≤ 16)) with
  | true =>
    rw [hk] at hb
    rw [Bool.true_and]
    refine w_sf (v_orf (w_not (v_b (v_1 (by walk_at "dn") (isi_str_s _)))) (w_not hb)) (ret_of (v_blt (v_cons (lcw (v_its (by walk_at "dn")) (by rw [List.length_map]; omega) (lc_map (fun c => D.str [c]) (fun c => D.bl (markB c)) r fun c hc => ⟨[some (.str r), some (.str [c])], rfl, v_2 (by walk_at "dn") v_c (in_marksB c)⟩)) v_nil) (all_bf markB r)))
  | false =>
    rw [hk] at hb
    rw [Bool.false_and]
    exact w_ret (w_ift (v_orf (w_not (v_b (v_1 (by walk_at "dn") (isi_str_s _)))) (w_not hb)) (ret_of v_c))
def riseB (ls : List (List Nat)) : Bool := ((ls.take (ls.length - 1)).zip (ls.drop 1)).all fun p => decide (p.1 < p.2)
theorem e_risesB {ls : List (List Nat)} (hl : ls.length ≤ 100000) : n_rises [.lst (ls.map D.str)] = some (.bl (riseB ls)) := by
  refine sem_rt rfl ?_
  show m_rises [some (.lst (ls.map D.str)), none, none] = _
  unfold m_rises riseB
  have s1 : slD (.lst (ls.map D.str)) none (some (-1)) = some (.lst ((ls.take (ls.length - 1)).map D.str)) := by
    rw [sl_l, cut_last, List.map_take, List.length_map]
  have s2 : slD (.lst (ls.map D.str)) (some 1) none = some (.lst ((ls.drop 1).map D.str)) := by
    rw [sl_l, show (1 : Int) = ((1 : Nat) : Int) from rfl, cut_from, List.map_drop]
  exact ret_of (v_blt (v_cons (lcw (Eq.trans (v_zip2 (v_sl (by walk_at "dn") v_no (v_po (v_1 v_c (neg_i 1))) s1) (v_sl (by walk_at "dn") (v_po v_c) v_no s2) rfl rfl) (congrArg some (zip_maps D.str D.str _ _))) (by simp; omega) (lc_map (fun p : List Nat × List Nat => D.wk [.str p.1, .str p.2]) (fun p => D.bl (decide (p.1 < p.2))) _ fun p hp => ⟨[some (.lst (ls.map D.str)), some (.str p.1), some (.str p.2)], rfl, v_2 (by walk_at "dn") (by walk_at "dn") rfl⟩)) v_nil) (all_bf _ _))
def padWD (w : List Nat) : D := .tup [.str (w.take 1), .str (w.drop 2)]
def padWB (a : Nat) (w : List Nat) : Bool := match w with
  | [] => false
  | c :: r => letB c && (rowB (r.drop 1) && decide ((r.drop 1).length = a))
theorem e_is_padB {a : Nat} {w : List Nat} (h : w.length ≤ 100000) : n_is_pad [padWD w, .int (a : Nat)] = some (.bl (padWB a w)) := by
  refine sem_rt rfl ?_
  show m_is_pad [some (padWD w), some (.int (a : Nat))] = _
  unfold m_is_pad
  cases w with
  | nil =>
    exact w_ret (w_ift (v_orf (w_not (v_b (v_1 (by walk_at "dn") (isi_tup_t _)))) (v_orf (v_b (v_2 (v_blt (by walk_at "dn") (len_t _)) v_c rfl)) (v_orf (w_not (v_b (v_1 (v_2 (by walk_at "dn") v_c rfl) (isi_str_s _)))) (v_b (v_2 (v_blt (v_cons (v_2 (by walk_at "dn") v_c rfl) v_nil) (len_s (x := []) (by simp))) v_c rfl))))) (ret_of v_c))
  | cons c r =>
    have hr : (r.drop 1).length ≤ 100000 := by
      simp at h ⊢
      omega
    refine w_sf (v_orf (w_not (v_b (v_1 (by walk_at "dn") (isi_tup_t _)))) (v_orf (v_b (v_2 (v_blt (by walk_at "dn") (len_t _)) v_c rfl)) (v_orf (w_not (v_b (v_1 (v_2 (by walk_at "dn") v_c rfl) (isi_str_s _)))) (v_b (v_2 (v_blt (v_cons (v_2 (by walk_at "dn") v_c rfl) v_nil) (len_s (x := [c]) (by simp))) v_c rfl))))) (ret_of ?_)
    have h0 : ixD (padWD (c :: r)) (.int 0) = some (.str [c]) := rfl
    have h1 : ixD (padWD (c :: r)) (.int 1) = some (.str (r.drop 1)) := rfl
    show _ = some (D.bl (letB c && (rowB (r.drop 1) && decide ((r.drop 1).length = a))))
    cases hl : letB c with
    | false =>
      rw [Bool.false_and]
      refine v_andVf (v_2 (v_2 (by walk_at "dn") v_c h0) v_c ?_)
      rw [in_letsB, hl]
    | true =>
      rw [Bool.true_and]
      refine v_andVt (v_2 (v_2 (by walk_at "dn") v_c h0) v_c (by rw [in_letsB, hl])) ?_
      cases hw : rowB (r.drop 1) with
      | false =>
        rw [Bool.false_and]
        refine v_andVf (v_call (v_cons (v_2 (by walk_at "dn") v_c h1) v_nil) ?_)
        rw [e_is_rowB hr, hw]
      | true =>
        rw [Bool.true_and]
        refine v_andVt (v_call (v_cons (v_2 (by walk_at "dn") v_c h1) v_nil) (by rw [e_is_rowB hr, hw])) (v_2 (v_blt (v_cons (v_2 (by walk_at "dn") v_c h1) v_nil) (len_s (by omega))) (by walk_at "dn") ?_)
        rw [eq_i]
        congr 2
        exact decide_eq_decide.mpr (by omega)
def patW (a b : Nat) (ws : List (List Nat)) : Bool := (decide (1 ≤ a) && decide (a ≤ 16)) && ((decide (1 ≤ b) && decide (b ≤ 4)) && (decide (ws.length ≤ 5) && (ws.all (padWB a) && riseB (ws.map fun w => w.take 1))))
def patWD (a b : Nat) (ws : List (List Nat)) : D := .tup [.int (a : Nat), .int (b : Nat), .tup (ws.map padWD)]
theorem e_whole (i lo hi : Nat) : n_is_whole [.int (i : Nat), .int (lo : Nat), .int (hi : Nat)] = some (.bl (decide (lo ≤ i) && decide (i ≤ hi))) := by
  rw [e_is_whole, int_nat_le, int_nat_le]
theorem e_is_patW {a b : Nat} {ws : List (List Nat)} (hl : ws.length ≤ 100000) (hw : ∀ w ∈ ws, w.length ≤ 100000) : n_is_pattern [patWD a b ws] = some (.bl (patW a b ws)) := by
  refine sem_rt rfl ?_
  show m_is_pattern [some (patWD a b ws), none] = _
  unfold m_is_pattern patW
  have hA := e_whole a 1 16
  have hB := e_whole b 1 4
  have tA : ∀ env : En, env[0]? = some (some (patWD a b ws)) → fCall n_is_whole (fCons (f2 ixD (fV 0) (fC (.int 0))) (fCons (fC (.int 1)) (fCons (fC (.int 16)) fNil))) env = some (.bl (decide (1 ≤ a) && decide (a ≤ 16))) := fun env h => v_call (v_cons (v_2 (v_var h rfl) v_c rfl) (v_cons v_c (v_cons v_c v_nil))) hA
  have tB : ∀ env : En, env[0]? = some (some (patWD a b ws)) → fCall n_is_whole (fCons (f2 ixD (fV 0) (fC (.int 1))) (fCons (fC (.int 1)) (fCons (fC (.int 4)) fNil))) env = some (.bl (decide (1 ≤ b) && decide (b ≤ 4))) := fun env h => v_call (v_cons (v_2 (v_var h rfl) v_c rfl) (v_cons v_c (v_cons v_c v_nil))) hB
  have tA := tA [some (patWD a b ws), none] rfl
  have tB := tB [some (patWD a b ws), none] rfl
  clear hA hB
  cases kA : (decide (1 ≤ a) && decide (a ≤ 16)) with
  | false =>
    rw [kA] at tA
    rw [Bool.false_and]
    exact w_ret (w_ift (v_orf (w_not (v_b (v_1 (by walk_at "dn") (isi_tup_t _)))) (v_orf (v_b (v_2 (v_blt (by walk_at "dn") (len_t _)) v_c rfl)) (w_not (v_b tA)))) (ret_of v_c))
  | true =>
    rw [kA] at tA
    rw [Bool.true_and]
    refine w_sf (v_orf (w_not (v_b (v_1 (by walk_at "dn") (isi_tup_t _)))) (v_orf (v_b (v_2 (v_blt (by walk_at "dn") (len_t _)) v_c rfl)) (w_not (v_b tA)))) ?_
    cases kB : (decide (1 ≤ b) && decide (b ≤ 4)) with
    | false =>
      rw [kB] at tB
      rw [Bool.false_and]
      exact w_ret (w_ift (v_ort (w_not (v_b tB))) (ret_of v_c))
    | true =>
      rw [kB] at tB
      rw [Bool.true_and]
      have tL : f2 gtD (fBlt lenG (fCons (f2 ixD (fV 0) (fC (.int 2))) fNil)) (fC (.int 5)) [some (patWD a b ws), none] = some (.bl (!decide (ws.length ≤ 5))) := by
        refine v_2 (v_blt (v_cons (v_2 (by walk_at "dn") v_c (show ixD (patWD a b ws) (.int 2) = some (.tup (ws.map padWD)) from rfl)) v_nil) (len_tm padWD ws)) v_c ?_
        rw [gt_i]
        congr 2
        by_cases h5 : ws.length ≤ 5
        · rw [decide_eq_true h5, decide_eq_false (by omega)]; rfl
        · rw [decide_eq_false h5, decide_eq_true (by omega)]; rfl
      cases kL : decide (ws.length ≤ 5) with
      | false =>
        rw [kL] at tL
        rw [Bool.false_and]
        exact w_ret (w_ift (v_orf (w_not (v_b tB)) (v_orf (w_not (v_b (v_1 (v_2 (by walk_at "dn") v_c rfl) (isi_tup_t _)))) (v_b tL))) (ret_of v_c))
      | true =>
        rw [kL] at tL
        rw [Bool.true_and]
        refine w_sf (v_orf (w_not (v_b tB)) (v_orf (w_not (v_b (v_1 (v_2 (by walk_at "dn") v_c rfl) (isi_tup_t _)))) (v_b tL))) (ret_of ?_)
        have tP : fBlt allG (fCons (fLc (fIt (f2 ixD (fV 0) (fC (.int 2)))) (gN 1) fYes (fCall n_is_pad (fCons (fV 1) (fCons (f2 ixD (fV 0) (fC (.int 0))) fNil))) [1]) fNil) [some (patWD a b ws), none] = some (.bl (ws.all (padWB a))) :=
          v_blt (v_cons (lcw (v_it (v_2 (by walk_at "dn") v_c (show ixD (patWD a b ws) (.int 2) = some (.tup (ws.map padWD)) from rfl))) (by rw [List.length_map]; omega) (lc_map padWD (fun w => D.bl (padWB a w)) ws fun w hm => ⟨[some (patWD a b ws), some (padWD w)], rfl, v_call (v_cons (by walk_at "dn") (v_cons (v_2 (by walk_at "dn") v_c rfl) v_nil)) (e_is_padB (hw w hm))⟩)) v_nil) (all_bf _ _)
        cases kP : ws.all (padWB a) with
        | false =>
          rw [kP] at tP
          rw [Bool.false_and]
          exact v_andVf tP
        | true =>
          rw [kP] at tP
          rw [Bool.true_and]
          refine v_andVt tP (v_call (v_cons (lcw (r := (ws.map fun w => w.take 1).map D.str) (v_it (v_2 (by walk_at "dn") v_c (show ixD (patWD a b ws) (.int 2) = some (.tup (ws.map padWD)) from rfl))) (by rw [List.length_map]; omega) ?_) v_nil) (e_risesB (by rw [List.length_map]; omega)))
          rw [List.map_map]
          exact lc_map padWD (fun w => D.str (w.take 1)) ws fun w hm => ⟨[some (patWD a b ws), some (padWD w)], rfl, v_2 (by walk_at "dn") v_c rfl⟩
/-! numbers -/
def numV (w : List Nat) : Nat := w.foldl (fun n c => 10 * n + (c - 48)) 0
def numW (w : List Nat) : Option Nat := if (decide (1 ≤ w.length) && decide (w.length ≤ 2) && w.all figB) = true then some (numV w) else none
theorem int_1 : ∀ c : Fin 10, PySem.intText? (S [48 + c.val]) = some ((c.val : Nat) : Int) := by decide +kernel
theorem int_2 : ∀ c d : Fin 10, PySem.intText? (S [48 + c.val, 48 + d.val]) = some (((10 * c.val + d.val : Nat)) : Int) := by decide +kernel
theorem int_word {w : List Nat} (h0 : 1 ≤ w.length) (h1 : w.length ≤ 2) (h : w.all figB = true) : intG [.str w] = some (.int (numV w : Nat)) ∧ numV w < 100 := by
  have fig : ∀ c, figB c = true → ∃ k : Fin 10, c = 48 + k.val := fun c hc => by
    unfold figB at hc
    simp at hc
    exact ⟨⟨c - 48, by omega⟩, by simp; omega⟩
  rw [int_s (by omega)]
  match w, h0, h1, h with
  | [c], _, _, h =>
    obtain ⟨k, rfl⟩ := fig c (by simpa using h)
    rw [int_1 k]
    have : numV [48 + k.val] = k.val := by simp [numV]
    rw [this]
    exact ⟨rfl, by omega⟩
  | [c, d], _, _, h =>
    simp at h
    obtain ⟨k, rfl⟩ := fig c h.1
    obtain ⟨m, rfl⟩ := fig d h.2
    rw [int_2 k m]
    have : numV [48 + k.val, 48 + m.val] = 10 * k.val + m.val := by simp [numV]
    rw [this]
    exact ⟨rfl, by omega⟩
theorem numW_lt {w : List Nat} {n : Nat} (h : numW w = some n) : n < 100 := by
  unfold numW at h
  split at h
  · rename_i hc
    simp at hc
    have := (int_word hc.1.1 hc.1.2 (by simpa using hc.2)).2
    cases h
    exact this
  · cases h
theorem wr_number {w : List Nat} {st : Sto} {K : D → Sto → Prop} {E : Str → Sto → Prop} (hl : w.length ≤ 100000) (h1 : ∀ n, numW w = some n → K (.int (n : Nat)) st) (h2 : numW w = none → E "NoText" st) : wn_number_of.run [.str w] st K E := by
  refine ⟨rfl, ?_⟩
  show w_number_of.run [some (.str w), none] _ _
  unfold w_number_of
  have tL : fB (fChain leD leD (fC (.int 1)) (fBlt lenG (fCons (fV 0) fNil)) (fC (.int 2))) [some (.str w), none] = some (decide (1 ≤ w.length) && decide (w.length ≤ 2)) := by
    refine v_b ?_
    have := v_between (lo := 1) (hi := 2) (v_blt (v_cons (v_var (env := [some (.str w), none]) (i := 0) rfl rfl) v_nil) (len_s (by omega)))
    rw [show (1 : Int) = ((1 : Nat) : Int) from rfl, show (2 : Int) = ((2 : Nat) : Int) from rfl, int_nat_le, int_nat_le] at this
    exact this
  have tA : fB (fBlt allG (fCons (fLc (fIt (fV 0)) (gN 1) fYes (f2 inD (fV 1) (fC (.str [48, 49, 50, 51, 52, 53, 54, 55, 56, 57]))) [1]) fNil)) [some (.str w), none] = some (w.all figB) :=
    v_b (v_blt (v_cons (lcw (v_its (by walk_at "dn")) (by rw [List.length_map]; omega) (lc_map (fun c => D.str [c]) (fun c => D.bl (figB c)) w fun c hc => ⟨[some (.str w), some (.str [c])], rfl, v_2 (by walk_at "dn") v_c (in_figsB c)⟩)) v_nil) (all_bf _ _))
  unfold numW at h1 h2
  cases kL : (decide (1 ≤ w.length) && decide (w.length ≤ 2)) with
  | false =>
    rw [kL] at tL h2
    refine ⟨true, v_ort (w_not tL), h2 (by simp)⟩
  | true =>
    rw [kL] at tL h2 h1
    cases kA : w.all figB with
    | false =>
      rw [kA] at tA h2
      refine ⟨true, v_orf (w_not tL) (w_not tA), h2 (by simp)⟩
    | true =>
      rw [kA] at tA h1
      simp at kL
      refine ⟨false, v_orf (w_not tL) (w_not tA), ?_⟩
      exact u_rt (ret_of (v_blt (v_cons (v_var rfl rfl) v_nil) (int_word kL.1 kL.2 kA).1)) (h1 _ (by simp))
/-! patterns -/
def ptOf (a b : Nat) (ws : List (List Nat)) : Pt := ⟨a, b, ws.map fun w => (w.headD 0, w.drop 2)⟩
theorem patW_ptD {a b : Nat} {ws : List (List Nat)} (h : ws.all (padWB a) = true) : patWD a b ws = ptD (ptOf a b ws) := by
  unfold patWD ptD ptOf
  simp only
  rw [List.map_map]
  refine congrArg (fun x => D.tup [.int (a : Nat), .int (b : Nat), .tup x]) (List.map_congr_left fun w hw => ?_)
  have := List.all_eq_true.mp h w hw
  cases w with
  | nil => cases this
  | cons c r => rfl
def readP (t : List Nat) : Option Pt := match splitL 32 t with
  | w0 :: _ :: w2 :: ws => (numW w0).bind fun a => (numW w2).bind fun b => if patW a b ws = true ∧ ptText (ptOf a b ws) = t then some (ptOf a b ws) else none
  | _ => none
theorem split_len (c : Nat) : ∀ t : List Nat, (splitL c t).length ≤ t.length + 1 ∧ ∀ w ∈ splitL c t, w.length ≤ t.length
  | [] => by simp [splitL]
  | x :: r => by
    obtain ⟨h1, h2⟩ := split_len c r
    obtain ⟨h, t, e⟩ := splitL_ne c r
    unfold splitL
    rw [e] at h1 h2 ⊢
    simp only
    split
    · refine ⟨by simp at h1 ⊢; omega, fun w hw => ?_⟩
      rcases List.mem_cons.mp hw with rfl | hw
      · simp
      · have := h2 w hw
        simp
        omega
    · refine ⟨by simp at h1 ⊢; omega, fun w hw => ?_⟩
      rcases List.mem_cons.mp hw with rfl | hw
      · have := h2 h List.mem_cons_self
        simp
        omega
      · have := h2 w (List.mem_cons_of_mem _ hw)
        simp
        omega
theorem patW_few {a b : Nat} {ws : List (List Nat)} (h : patW a b ws = true) : a ≤ 16 ∧ b ≤ 4 ∧ ws.length ≤ 5 ∧ ws.all (padWB a) = true := by
  unfold patW at h
  simp only [Bool.and_eq_true, decide_eq_true_eq] at h
  exact ⟨h.1.2, h.2.1.2, h.2.2.1, h.2.2.2.1⟩
theorem patW_text {a b : Nat} {ws : List (List Nat)} (h : patW a b ws = true) : n_pattern_text [patWD a b ws] = some (.str (ptText (ptOf a b ws))) ∧ (ptText (ptOf a b ws)).length ≤ 200000 := by
  obtain ⟨h1, h2, h3, h4⟩ := patW_few h
  rw [patW_ptD h4]
  refine e_ptext (p := ptOf a b ws) (by show a < 100; omega) (by show b < 100; omega) (by show (ws.map _).length ≤ 100; rw [List.length_map]; omega) fun q hq => ?_
  obtain ⟨w, hw, rfl⟩ := List.mem_map.mp hq
  have := List.all_eq_true.mp h4 w hw
  cases w with
  | nil => cases this
  | cons c r =>
    simp only [padWB, rowB, Bool.and_eq_true, decide_eq_true_eq] at this
    have := this.2.2
    show (r.drop 1).length ≤ 1000
    omega
/-- what a pattern that is told is like -/
theorem readP_good {t : List Nat} {p : Pt} (h : readP t = some p) : n_is_pattern [ptD p] = some (.bl true) ∧ n_pattern_text [ptD p] = some (.str t) ∧ p.ps.length ≤ 5 := by
  unfold readP at h
  split at h
  · rename_i w0 w1 w2 ws e
    obtain ⟨a, ea, h⟩ := Option.bind_eq_some_iff.mp h
    obtain ⟨b, eb, h⟩ := Option.bind_eq_some_iff.mp h
    split at h
    · rename_i hc
      cases h
      have h4 := (patW_few hc.1).2.2.2
      have h3 := (patW_few hc.1).2.2.1
      have hw : ∀ w ∈ ws, w.length ≤ 100000 := fun w hw => by
        have := List.all_eq_true.mp h4 w hw
        cases w with
        | nil => cases this
        | cons c r =>
          simp only [padWB, rowB, Bool.and_eq_true, decide_eq_true_eq] at this
          have := this.2.2
          have h16 := (patW_few hc.1).1
          simp at this ⊢
          omega
      have e1 := e_is_patW (a := a) (b := b) (ws := ws) (by omega) hw
      rw [patW_ptD h4, hc.1] at e1
      have e2 := (patW_text hc.1).1
      rw [patW_ptD h4, hc.2] at e2
      exact ⟨e1, e2, by show (ws.map _).length ≤ 5; rw [List.length_map]; exact h3⟩
    · cases h
  · cases h
theorem wr_pattern {t : List Nat} {st : Sto} {K : D → Sto → Prop} {E : Str → Sto → Prop} (hl : t.length ≤ 10000) (h1 : ∀ p, readP t = some p → K (ptD p) st) (h2 : readP t = none → E "NoText" st) : wn_read_pattern.run [.str t] st K E := by
  refine ⟨rfl, ?_⟩
  show w_read_pattern.run [some (.str t), none, none, none, none] _ _
  unfold w_read_pattern
  obtain ⟨l1, l2⟩ := split_len 32 t
  refine u_nx (w_set (v_m1 (by walk_at "dn") v_c (split_ok (by omega))) rfl) (no_own rfl) ?_
  unfold readP at h1 h2
  walk_at "dx"
  have few : (splitL 32 t).length < 3 → E "NoText" st := fun hf => h2 (by
    match splitL 32 t, hf with
    | [], _ => rfl
    | [_], _ => rfl
    | [_, _], _ => rfl
    | _ :: _ :: _ :: _, hf => simp at hf; omega)
  generalize hs : splitL 32 t = sp at *
  have tL : fB (f2 ltD (fBlt lenG (fCons (fV 1) fNil)) (fC (.int 3))) [some (.str t), some (.lst (sp.map D.str)), none, none, none] = some (decide (sp.length < 3)) := by
    refine v_b (v_2 (v_blt (by walk_at "dn") (len_l _)) v_c ?_)
    rw [lt_i, List.length_map]
    congr 2
    exact decide_eq_decide.mpr (by omega)
  by_cases hf : sp.length < 3
  · rw [decide_eq_true hf] at tL
    exact ⟨true, tL, few hf⟩
  rw [decide_eq_false hf] at tL
  refine ⟨false, tL, ?_⟩
  clear tL few
  match sp, hf with
  | [], hf => simp at hf
  | [_], hf => simp at hf
  | [_, _], hf => simp at hf
  | w0 :: w1 :: w2 :: ws, _ =>
    simp only at h1 h2
    have m0 := l2 w0 (by simp)
    have m2 := l2 w2 (by simp)
    have mw : ∀ w ∈ ws, w.length ≤ 10000 := fun w hw => by have := l2 w (by simp [hw]); omega
    have ml : ws.length ≤ 10001 := by simp at l1; omega
    have hsl : slD (.lst ((w0 :: w1 :: w2 :: ws).map D.str)) (some 3) none = some (.lst (ws.map D.str)) := by
      rw [sl_l, show (3 : Int) = ((3 : Nat) : Int) from rfl, cut_from, ← List.map_drop]
      rfl
    refine u_nx (w_set (d := .tup (ws.map padWD)) (v_1 (lcw (v_itl (v_sl (by walk_at "dn") (v_po v_c) v_no hsl)) (by simp; omega) ?_) rfl) rfl) (no_own rfl) ?_
    · refine lc_map D.str padWD ws fun w hw => ⟨_, rfl, ?_⟩
      have := mw w hw
      refine v_tup (ds := [.str (w.take 1), .str (w.drop 2)]) (v_cons (v_sl (v_var rfl rfl) v_no (v_po v_c) ?_) (v_cons (v_sl (v_var rfl rfl) (v_po v_c) v_no ?_) v_nil)) (show 2 ≤ sizeLine by decide)
      · rw [sl_s (by omega), show (1 : Int) = ((1 : Nat) : Int) from rfl, cut_to]
      · rw [sl_s (by omega), show (2 : Int) = ((2 : Nat) : Int) from rfl, cut_from]
    walk_at "dx"
    have i0 : ixD (.lst ((w0 :: w1 :: w2 :: ws).map D.str)) (.int 0) = some (.str w0) := ix_l (by omega) rfl
    have i2 : ixD (.lst ((w0 :: w1 :: w2 :: ws).map D.str)) (.int 2) = some (.str w2) := ix_l (by omega) rfl
    refine ⟨_, v_cons (v_2 (v_var rfl rfl) v_c i0) v_nil, wr_number (by omega) (fun a ea => ?_) fun e => ?_⟩
    · refine ⟨_, v_cons (v_2 (v_var rfl rfl) v_c i2) v_nil, wr_number (by omega) (fun b eb => ?_) fun e => ?_⟩
      · refine ⟨_, v_var rfl rfl, _, v_nil, (show 3 ≤ sizeLine by decide), ?_⟩
        rw [ea, eb] at h1 h2
        simp only [Option.bind_some] at h1 h2
        walk_at "dx"
        rw [show D.tup [.int (a : Nat), .int (b : Nat), .tup (ws.map padWD)] = patWD a b ws from rfl]
        have tP := e_is_patW (a := a) (b := b) (ws := ws) (by omega) fun w hw => by have := mw w hw; omega
        cases kP : patW a b ws with
        | false =>
          rw [kP] at tP
          exact ⟨true, v_ort (w_not (v_b (v_call (v_cons (v_var rfl rfl) v_nil) tP))), h2 (by rw [kP]; simp)⟩
        | true =>
          rw [kP] at tP
          obtain ⟨tT, tl⟩ := patW_text kP
          have tE : fB (f2 neD (fCall n_pattern_text (fCons (fV 3) fNil)) (fV 0)) [some (.str t), some (.lst ((w0 :: w1 :: w2 :: ws).map D.str)), some (.tup (ws.map padWD)), some (patWD a b ws), none] = some (!decide (ptText (ptOf a b ws) = t)) := by
            refine v_b (v_2 (v_call (v_cons (v_var rfl rfl) v_nil) tT) (v_var rfl rfl) ?_)
            rw [ne_s]
          cases kE : decide (ptText (ptOf a b ws) = t) with
          | false =>
            rw [kE] at tE
            exact ⟨true, v_orf (w_not (v_b (v_call (v_cons (v_var rfl rfl) v_nil) tP))) tE, h2 (by rw [if_neg]; intro hh; simp [hh.2] at kE)⟩
          | true =>
            rw [kE] at tE
            refine ⟨false, v_orf (w_not (v_b (v_call (v_cons (v_var rfl rfl) v_nil) tP))) tE, ?_⟩
            refine u_rt (ret_of (v_var rfl rfl)) ?_
            rw [patW_ptD (patW_few kP).2.2.2]
            exact h1 _ (by rw [if_pos]; exact ⟨kP, of_decide_eq_true kE⟩)
      · exact h2 (by rw [ea, e]; rfl)
    · exact h2 (by rw [e]; rfl)
/-! chains -/
def lkOf (w : List Nat) : List Nat × Nat := if (match w.getLast? with | some c => figB c | none => false) = true then (w.dropLast, w.getLastD 0 - 48) else (w, 1)
theorem lkOf_app (a : List Nat) (z : Nat) : lkOf (a ++ [z]) = if figB z = true then (a, z - 48) else (a ++ [z], 1) := by
  unfold lkOf
  simp
theorem lkOf_lt (w : List Nat) : (lkOf w).2 < 100 ∧ (lkOf w).1.length ≤ w.length := by
  rcases List.eq_nil_or_concat w with rfl | ⟨a, z, rfl⟩
  · exact ⟨by decide, by decide⟩
  · rw [List.concat_eq_append, lkOf_app]
    cases h : figB z with
    | true =>
      simp [figB] at h ⊢
      omega
    | false => simp
theorem e_linkB {w : List Nat} (h : w.length ≤ 100000) : n_link_of [.str w] = some (lkD (lkOf w)) := by
  refine sem_rt rfl ?_
  show m_link_of [some (.str w)] = _
  unfold m_link_of
  rcases List.eq_nil_or_concat w with rfl | ⟨a, z, rfl⟩
  · exact w_sf (v_andf (v_b (v_2 (v_sl (by walk_at "dn") (v_po (v_1 v_c (neg_i 1))) v_no rfl) v_c rfl))) (ret_of (v_tup (ds := [.str [], .int 1]) (by walk_at "dn") (show 2 ≤ sizeLine by decide)))
  · rw [List.concat_eq_append] at h ⊢
    have hl : (a ++ [z]).length ≤ 1000000 := by omega
    have e1 : slD (.str (a ++ [z])) (some (-1)) none = some (.str [z]) := by rw [sl_s hl, cut_l1]
    have e3 : ixD (.str (a ++ [z])) (.int (-1)) = some (.str [z]) := by
      show (if _ then _ else _) = _
      rw [if_pos (Nat.le_trans hl size1000), last_get]
      rfl
    have hlk := lkOf_app a z
    have h1 : neD (.str [z]) (.str []) = some (.bl true) := by
      rw [ne_s, decide_eq_false (by simp)]
      rfl
    have h2 := in_figsB z
    cases hf : figB z with
    | true =>
      rw [hf] at h2 hlk
      rw [hlk, if_pos rfl]
      refine w_ret (w_ift (v_andt (v_b (v_2 (v_sl (by walk_at "dn") (v_po (v_1 v_c (neg_i 1))) v_no e1) v_c h1)) (v_b (v_2 (v_2 (by walk_at "dn") (v_1 v_c (neg_i 1)) e3) v_c h2))) (ret_of (v_tup (ds := [.str a, .int ((z - 48 : Nat) : Int)]) (v_cons (v_sl (by walk_at "dn") v_no (v_po (v_1 v_c (neg_i 1))) (by rw [sl_s hl, cut_i1])) (v_cons (v_blt (v_cons (v_2 (by walk_at "dn") (v_1 v_c (neg_i 1)) e3) v_nil) ?_) v_nil)) (show 2 ≤ sizeLine by decide))))
      have := (int_word (w := [z]) (by simp) (by simp) (by simpa using hf)).1
      rw [this]
      simp [numV]
    | false =>
      rw [hf] at h2 hlk
      rw [hlk, if_neg (by simp)]
      exact w_sf (v_andt (v_b (v_2 (v_sl (by walk_at "dn") (v_po (v_1 v_c (neg_i 1))) v_no e1) v_c h1)) (v_b (v_2 (v_2 (by walk_at "dn") (v_1 v_c (neg_i 1)) e3) v_c h2))) (ret_of (v_tup (ds := [.str (a ++ [z]), .int 1]) (by walk_at "dn") (show 2 ≤ sizeLine by decide)))
def lkB (b : Bk) (q : List Nat × Nat) : Bool := (b.get q.1).isSome && (decide (1 ≤ q.2) && decide (q.2 ≤ 9))
def chB (b : Bk) (c : List (List Nat × Nat)) : Bool := (decide (1 ≤ c.length) && decide (c.length ≤ 8)) && c.all (lkB b)
theorem nin_dict {b : Bk} (nm : List Nat) : ninD (.str nm) (.dct (b.ps.map fun q => (q.1, ptD q.2))) = some (.bl (!(b.get nm).isSome)) := by
  show (inB _ _).bind _ = _
  rw [inB_dct, any_nm]
  rfl
theorem e_is_chainB {b : Bk} (hn : (b.ps.map Prod.fst).Nodup) {c : List (List Nat × Nat)} (hl : c.length ≤ 100000) : n_is_chain [bookD b, chD c] = some (.bl (chB b c)) := by
  refine sem_rt rfl ?_
  show m_is_chain [some (bookD b), some (chD c), none] = _
  unfold m_is_chain chB
  have tL : fB (fChain leD leD (fC (.int 1)) (fBlt lenG (fCons (fV 1) fNil)) (fC (.int 8))) [some (bookD b), some (chD c), none] = some (decide (1 ≤ c.length) && decide (c.length ≤ 8)) := by
    refine v_b ?_
    have := v_between (lo := 1) (hi := 8) (v_blt (v_cons (v_var (env := [some (bookD b), some (chD c), none]) (i := 1) rfl rfl) v_nil) (len_tm lkD c))
    rw [show (1 : Int) = ((1 : Nat) : Int) from rfl, show (8 : Int) = ((8 : Nat) : Int) from rfl, int_nat_le, int_nat_le] at this
    exact this
  cases kL : (decide (1 ≤ c.length) && decide (c.length ≤ 8)) with
  | false =>
    rw [kL] at tL
    rw [Bool.false_and]
    exact w_ret (w_ift (v_orf (w_not (v_b (v_1 (by walk_at "dn") (isi_tup_t _)))) (w_not tL)) (ret_of v_c))
  | true =>
    rw [kL] at tL
    rw [Bool.true_and]
    refine w_sf (v_orf (w_not (v_b (v_1 (by walk_at "dn") (isi_tup_t _)))) (w_not tL)) ?_
    clear tL kL hl
    have key : ∀ (r : List (List Nat × Nat)) (x : Option D), ∃ y : Option D, forF (gN 2) (fSeq (fIfS (fOr (fNot (fB (f1 (isiD "tuple") (fV 2)))) (fOr (fB (f2 neD (fBlt lenG (fCons (fV 2) fNil)) (fC (.int 2)))) (fNot (fB (f1 (isiD "str") (f2 ixD (fV 2) (fC (.int 0))))))))
      (fRet (fC (.bl false)))
      fPass)
    (fIfS (fOr (fB (f2 ninD (f2 ixD (fV 2) (fC (.int 0))) (fBlt dictG (fCons (f2 ixD (fV 0) (fC (.int 1))) fNil)))) (fNot (fB (fCall n_is_whole (fCons (f2 ixD (fV 2) (fC (.int 1))) (fCons (fC (.int 1)) (fCons (fC (.int 9)) fNil)))))))
      (fRet (fC (.bl false)))
      fPass)) (r.map lkD) [some (bookD b), some (chD c), x] = some (if r.all (lkB b) = true then .nx [some (bookD b), some (chD c), y] else .rt (.bl false)) := by
      intro r
      induction r with
      | nil => exact fun x => ⟨x, rfl⟩
      | cons q r ih =>
        intro x
        obtain ⟨y, hy⟩ := ih (some (lkD q))
        refine ⟨y, ?_⟩
        rw [List.map_cons, List.all_cons]
        have hd : fBlt dictG (fCons (f2 ixD (fV 0) (fC (.int 1))) fNil) [some (bookD b), some (chD c), some (lkD q)] = some (.dct (b.ps.map fun q => (q.1, ptD q.2))) := v_blt (v_cons (v_2 (by walk_at "dn") v_c (show ixD (bookD b) (.int 1) = some (.tup (b.ps.map nmD)) from rfl)) v_nil) (dict_nm hn)
        have h0 : f2 ixD (fV 2) (fC (.int 0)) [some (bookD b), some (chD c), some (lkD q)] = some (.str q.1) := v_2 (by walk_at "dn") v_c rfl
        have tn : fB (f2 ninD (f2 ixD (fV 2) (fC (.int 0))) (fBlt dictG (fCons (f2 ixD (fV 0) (fC (.int 1))) fNil))) [some (bookD b), some (chD c), some (lkD q)] = some (!(b.get q.1).isSome) := v_b (v_2 h0 hd (nin_dict q.1))
        have tw : fB (fCall n_is_whole (fCons (f2 ixD (fV 2) (fC (.int 1))) (fCons (fC (.int 1)) (fCons (fC (.int 9)) fNil)))) [some (bookD b), some (chD c), some (lkD q)] = some (decide (1 ≤ q.2) && decide (q.2 ≤ 9)) := v_b (v_call (v_cons (v_2 (by walk_at "dn") v_c rfl) (v_cons v_c (v_cons v_c v_nil))) (e_whole q.2 1 9))
        have t1 : fOr (fNot (fB (f1 (isiD "tuple") (fV 2)))) (fOr (fB (f2 neD (fBlt lenG (fCons (fV 2) fNil)) (fC (.int 2)))) (fNot (fB (f1 (isiD "str") (f2 ixD (fV 2) (fC (.int 0))))))) [some (bookD b), some (chD c), some (lkD q)] = some false := v_orf (w_not (v_b (v_1 (by walk_at "dn") (isi_tup_t _)))) (v_orf (v_b (v_2 (v_blt (by walk_at "dn") (len_t _)) v_c rfl)) (w_not (v_b (v_1 h0 (isi_str_s _)))))
        have hq : lkB b q = ((b.get q.1).isSome && (decide (1 ≤ q.2) && decide (q.2 ≤ 9))) := rfl
        cases kn : (b.get q.1).isSome with
        | false =>
          rw [kn] at tn hq
          rw [hq, Bool.false_and, Bool.false_and]
          exact w_forr rfl (w_sf t1 (w_ift (v_ort tn) (ret_of v_c)))
        | true =>
          rw [kn, Bool.true_and] at hq
          rw [kn] at tn
          cases kw : (decide (1 ≤ q.2) && decide (q.2 ≤ 9)) with
          | false =>
            rw [kw] at tw hq
            rw [hq, Bool.false_and]
            exact w_forr rfl (w_sf t1 (w_ift (v_orf tn (w_not tw)) (ret_of v_c)))
          | true =>
            rw [kw] at tw hq
            rw [hq, Bool.true_and]
            exact w_forc rfl (w_sf t1 (w_iff (v_orf tn (w_not tw)) w_pass)) hy
    obtain ⟨y, hy⟩ := key c none
    cases ka : c.all (lkB b) with
    | true =>
      rw [ka, if_pos rfl] at hy
      exact w_seq (w_for (v_it (show fV 1 _ = some (.tup (c.map lkD)) from rfl)) hy) (ret_of v_c)
    | false =>
      rw [ka, if_neg (by simp)] at hy
      exact w_ret (w_for (v_it (show fV 1 _ = some (.tup (c.map lkD)) from rfl)) hy)
def readC (b : Bk) (t : List Nat) : Option (List (List Nat × Nat)) := if chB b ((splitL 32 t).map lkOf) = true ∧ chText ((splitL 32 t).map lkOf) = t then some ((splitL 32 t).map lkOf) else none
theorem chB_few {b : Bk} {c : List (List Nat × Nat)} (h : chB b c = true) : c.length ≤ 8 ∧ ∀ q ∈ c, q.2 ≤ 9 := by
  unfold chB at h
  simp only [Bool.and_eq_true, decide_eq_true_eq] at h
  refine ⟨h.1.2, fun q hq => ?_⟩
  have := List.all_eq_true.mp h.2 q hq
  unfold lkB at this
  simp only [Bool.and_eq_true, decide_eq_true_eq] at this
  exact this.2.2
theorem readC_good {b : Bk} (hn : (b.ps.map Prod.fst).Nodup) {t : List Nat} (hl : t.length ≤ 1000) {c : List (List Nat × Nat)} (h : readC b t = some c) : n_is_chain [bookD b, chD c] = some (.bl true) ∧ n_chain_text [chD c] = some (.str t) := by
  unfold readC at h
  split at h
  · rename_i hc
    cases h
    obtain ⟨l1, l2⟩ := split_len 32 t
    obtain ⟨f1, f2⟩ := chB_few hc.1
    have e1 := e_is_chainB hn (c := (splitL 32 t).map lkOf) (by omega)
    rw [hc.1] at e1
    have e2 := (e_ctext (c := (splitL 32 t).map lkOf) (by omega) fun q hq => ⟨by
      obtain ⟨w, hw, rfl⟩ := List.mem_map.mp hq
      have := l2 w hw
      have := (lkOf_lt w).2
      omega, by have := f2 q hq; omega⟩).1
    rw [hc.2] at e2
    exact ⟨e1, e2⟩
  · cases h
theorem wr_chain {b : Bk} (hn : (b.ps.map Prod.fst).Nodup) {t : List Nat} {st : Sto} {K : D → Sto → Prop} {E : Str → Sto → Prop} (hl : t.length ≤ 1000) (h1 : ∀ c, readC b t = some c → K (chD c) st) (h2 : readC b t = none → E "NoText" st) : wn_read_chain.run [bookD b, .str t] st K E := by
  refine ⟨rfl, ?_⟩
  show w_read_chain.run [some (bookD b), some (.str t), none, none] _ _
  unfold w_read_chain
  obtain ⟨l1, l2⟩ := split_len 32 t
  refine u_nx (w_set (d := chD ((splitL 32 t).map lkOf)) (v_1 (lcw (v_itl (v_m1 (by walk_at "dn") v_c (split_ok (by omega)))) (by rw [List.length_map]; omega) ?_) rfl) rfl) (no_own rfl) ?_
  · rw [List.map_map]
    exact lc_map D.str (fun w => lkD (lkOf w)) (splitL 32 t) fun w hw => ⟨_, rfl, v_call (v_cons (v_var rfl rfl) v_nil) (e_linkB (by have := l2 w hw; omega))⟩
  walk_at "dx"
  have tC := e_is_chainB hn (c := (splitL 32 t).map lkOf) (by rw [List.length_map]; omega)
  unfold readC at h1 h2
  cases kC : chB b ((splitL 32 t).map lkOf) with
  | false =>
    rw [kC] at tC
    exact ⟨true, v_ort (w_not (v_b (v_call (v_cons (v_var rfl rfl) (v_cons (v_var rfl rfl) v_nil)) tC))), h2 (by rw [kC]; simp)⟩
  | true =>
    rw [kC] at tC h1 h2
    obtain ⟨f1, f9⟩ := chB_few kC
    have tT := (e_ctext (c := (splitL 32 t).map lkOf) (by omega) fun q hq => ⟨by
      obtain ⟨w, hw, rfl⟩ := List.mem_map.mp hq
      have := l2 w hw
      have := (lkOf_lt w).2
      omega, by have := f9 q hq; omega⟩).1
    have tE : fB (f2 neD (fCall n_chain_text (fCons (fV 2) fNil)) (fV 1)) [some (bookD b), some (.str t), some (chD ((splitL 32 t).map lkOf)), none] = some (!decide (chText ((splitL 32 t).map lkOf) = t)) := by
      refine v_b (v_2 (v_call (v_cons (v_var rfl rfl) v_nil) tT) (v_var rfl rfl) ?_)
      rw [ne_s]
    cases kE : decide (chText ((splitL 32 t).map lkOf) = t) with
    | false =>
      rw [kE] at tE
      exact ⟨true, v_orf (w_not (v_b (v_call (v_cons (v_var rfl rfl) (v_cons (v_var rfl rfl) v_nil)) tC))) tE, h2 (by rw [if_neg]; intro hh; simp [hh.2] at kE)⟩
    | true =>
      rw [kE] at tE
      refine ⟨false, v_orf (w_not (v_b (v_call (v_cons (v_var rfl rfl) (v_cons (v_var rfl rfl) v_nil)) tC))) tE, ?_⟩
      exact u_rt (ret_of (v_var rfl rfl)) (h1 _ (by rw [if_pos]; exact ⟨rfl, of_decide_eq_true kE⟩))
/-! loops of the store's layer, the store as it was -/
theorem forW_of {α : Type} {g : D → En → Option En} {B : WS} {N : WN} {st : Sto} (c : α → D) (I : Nat → En → Prop) : ∀ (xs : List α) (i : Nat) (env : En), I i env → (∀ j x e, xs[j]? = some x → I (i + j) e → ∃ e1, g (c x) e = some e1 ∧ B.run e1 st { nx := fun e2 s2 => s2 = st ∧ I (i + j + 1) e2, ct := fun _ _ => False, bk := fun _ _ => False, rt := N.rt, ex := N.ex }) → (∀ e, I (i + xs.length) e → N.nx e st) → forW g B (xs.map c) env st N
  | [], i, env, h0, _, h2 => h2 env h0
  | x :: xs, i, env, h0, h1, h2 => by
    obtain ⟨e1, q, r⟩ := h1 0 x env rfl h0
    refine ⟨e1, q, B.imp r ⟨fun e s ⟨es, hi⟩ => ?_, fun _ _ k => k, fun _ _ k => k.elim, fun _ _ k => k.elim, fun _ _ k => k⟩⟩
    subst es
    refine forW_of c I xs (i + 1) e hi (fun j y e' hy he => ?_) fun e' he => h2 e' ?_
    · have := h1 (j + 1) y e' hy (by rw [show i + (j + 1) = i + 1 + j by omega]; exact he)
      rw [show i + (j + 1) + 1 = i + 1 + j + 1 by omega] at this
      exact this
    · rw [List.length_cons, show i + (xs.length + 1) = i + 1 + xs.length by omega]
      exact he
theorem no_own_app {a b : En} (h1 : NoOwn a) (h2 : NoOwn b) : NoOwn (a ++ b) := fun d hd => by
  rcases List.mem_append.mp hd with h | h
  · exact h1 d h
  · exact h2 d h
theorem ptText_len {p : Pt} (h : p.Good) : (ptText p).length ≤ 104 := by
  refine Nat.le_trans (joinL_len _ _) ?_
  unfold ptWords
  rw [List.map_append, List.sum_append, List.length_append, List.map_map, List.length_map]
  have := sum_le (List.length ∘ fun q : Nat × List Nat => q.1 :: 61 :: q.2) 18 p.ps fun q hq => by
    have := (h.row q hq).1
    have := h.s1
    simp
    omega
  have h1 := (dig_len p.s).2
  have h2 := (dig_len p.g).2
  have : p.ps.length * 18 ≤ 5 * 18 := Nat.mul_le_mul_right _ h.few
  have := h.few
  simp
  omega
theorem chText_len {b : Bk} {c : List (List Nat × Nat)} (h : ChOk b c) (hn : ∀ q ∈ c, isName q.1) : (chText c).length ≤ c.length * 6 := by
  refine Nat.le_trans (joinL_len _ _) ?_
  rw [List.map_map, List.length_map]
  have := sum_le (List.length ∘ lkW) 5 c fun q hq => by
    have h1 := (hn q hq).2.1
    have h2 := (h.lk q hq).2.2
    show (lkW q).length ≤ 5
    unfold lkW
    rw [List.length_append]
    split
    · have : (dig q.2).length = 1 := by unfold dig; rw [if_pos (by omega)]; rfl
      omega
    · simp
      omega
  simp
  omega
theorem cut_sub {α : Type} (xs : List α) (lo hi : Option Int) : (cut xs lo hi).Sublist xs := (List.take_sublist _ _).trans (List.drop_sublist _ _)
theorem cut_map {α β : Type} (f : α → β) (xs : List α) (lo hi : Option Int) : cut (xs.map f) lo hi = (cut xs lo hi).map f := by
  unfold cut
  rw [List.map_take, List.map_drop, List.length_map]
theorem sub_sum {xs ys : List (List Nat)} (h : xs.Sublist ys) : (xs.map List.length).sum ≤ (ys.map List.length).sum := by
  induction h with
  | slnil => exact Nat.le_refl _
  | cons a _ ih => rw [List.map_cons, List.sum_cons]; omega
  | cons_cons a _ ih => rw [List.map_cons, List.map_cons, List.sum_cons, List.sum_cons]; omega
theorem split_sum (c : Nat) : ∀ t : List Nat, ((splitL c t).map List.length).sum + (splitL c t).length = t.length + 1
  | [] => by simp [splitL]
  | x :: r => by
    have ih := split_sum c r
    obtain ⟨h, t, e⟩ := splitL_ne c r
    unfold splitL
    rw [e] at ih ⊢
    simp only
    split
    · simp at ih ⊢
      omega
    · simp at ih ⊢
      omega
theorem ix5 {a b c d e : D} (n : Int) : ∃ x, x ∈ [a, b, c, d, e] ∧ ixD (.lst [a, b, c, d, e]) (.int (n % 5)) = some x := by
  have h5 : n % 5 = 0 ∨ n % 5 = 1 ∨ n % 5 = 2 ∨ n % 5 = 3 ∨ n % 5 = 4 := by omega
  rcases h5 with h | h | h | h | h <;> rw [h]
  · exact ⟨a, by simp, rfl⟩
  · exact ⟨b, by simp, rfl⟩
  · exact ⟨c, by simp, rfl⟩
  · exact ⟨d, by simp, rfl⟩
  · exact ⟨e, by simp, rfl⟩
end Dn
set_option Elab.async false
set_option linter.all false
set_option maxRecDepth 100000
/-! Part U: methods, loops over what an expression of the store's layer tells, replace of what does not occur. -/
namespace Dn
open PySem L2 PySem.Spec PyProof.Rows
section
variable {X : Cx} {Z : Wd} {W : Dn.WX} {st' : Stmt} {a b e o : Expr} {es rest : List Expr} {pos apos p : Pos} {A B : WE} {Ms : WA} {F : WS}
/-! ### what is never reached -/
def wStuck : WS := ⟨fun _ _ _ => False, fun _ x => x⟩
theorem ws_stuck : PS X st' (tWS X.K Z W wStuck) := ⟨fun pins s σ H N I h => by
  obtain ⟨_, _, _, _, _, _, _, _, _, m⟩ := h
  exact m.elim⟩
/-! ### a and b, as values -/
def wAndV (A B : WE) : WE := ⟨fun env st K E => A.run env st (fun d s => ∃ k, d = .bl k ∧ if k then B.run env s K E else K (.bl false) s) E, fun h h' x => A.mono (fun d s ⟨k, e, q⟩ => ⟨k, e, by
  cases k with
  | true => exact B.mono h h' q
  | false => exact h _ _ q⟩) h' x⟩
theorem wp_and (ha : PE X a (tWE X.K Z W A)) (hb : PE X (.BoolOp .And (b :: rest) pos) (tWE X.K Z W B)) : PE X (.BoolOp .And (a :: b :: rest) pos) (tWE X.K Z W (wAndV A B)) := PE_weak (pe_and ha hb) fun σ H Q h => by
  obtain ⟨Hb, env, st, r, rs, q⟩ := h
  refine ⟨Hb, env, st, r, rs, A.mono (fun d s1 q v Hb1 H1 s rs1 iv => ?_) (fun _ _ h => h) q⟩
  obtain ⟨k, rfl, q⟩ := q
  simp only [Is] at iv
  subst iv
  refine ⟨k, rfl, ?_⟩
  cases k with
  | true => exact ⟨Hb1, env, s1, r.mono s.b, rs1, B.mono (fun d s2 k v Hb2 H2 t rs2 iv => k v Hb2 H2 (s.trans t) rs2 iv) (fun c s2 k Hb2 H2 t rs2 => k Hb2 H2 (s.trans t) rs2) q⟩
  | false => exact q (.bl false) Hb1 H1 s rs1 (by simp only [Is])
theorem wp_one (ha : PE X a (tWE X.K Z W A)) : PE X (.BoolOp .And [a] pos) (tWE X.K Z W A) := pe_one ha
/-! ### replace of what does not occur -/
def noOcc (a b : List Nat) : Bool := (Builtin.Str.occurrences (S a) (S b) 0 (S a).length ((S a).length + 1)).isEmpty
theorem mt_repl0 : MtR X "str.replace" (fun x xs H Q => ∃ a b c, x = .str a ∧ xs = [.str b, .str c] ∧ (Builtin.Str.occurrences a b 0 a.length (a.length + 1)).isEmpty = true ∧ Q (.str a) H) := by
  intro pins s σ H x xs v us Q I rx rs h
  obtain ⟨a, b, c, e1, e2, ho, q⟩ := h
  subst e1
  subst e2
  obtain ⟨t, e⟩ := rx
  subst e
  cases rs with
  | cons r1 rs =>
    cases rs with
    | cons r2 rs =>
      cases rs
      obtain ⟨t1, e⟩ := r1
      subst e
      obtain ⟨t2, e⟩ := r2
      subst e
      refine call_gives F.slot_str_replace (typeIs_str _ _ _) F.entry_str_replace (F.args_str_replace_3 _ _ _) (gives_str_replace a b c t t1 t2 fun h => by rw [ho] at h; cases h) ?_
      rw [ho]
      exact ⟨.str a, H, I, ⟨t, rfl⟩, q⟩
def wRep (A : WE) (Ms : WA) : WE := ⟨fun env st K E => A.run env st (fun d s => ∃ a, d = .str a ∧ Ms.run env s (fun ds s2 => ∃ b c, ds = [.str b, .str c] ∧ noOcc a b = true ∧ K (.str a) s2) E) E,
  fun h h' x => A.mono (fun _ _ ⟨a, e, y⟩ => ⟨a, e, Ms.mono (fun _ _ ⟨b, c, e1, e2, k⟩ => ⟨b, c, e1, e2, h _ _ k⟩) h' y⟩) h' x⟩
theorem wp_rep (ha : PE X o (tWE X.K Z W A)) (hm : PA X (e :: es) (tWA X.K Z W Ms)) (hbase : attributeBase o "replace" X.env (eval o X.env) = eval o X.env := by rfl)
    (hfew : ((backTo pos (starEach (e :: es) X.env)).all (fun x => !x.1) && (backToKw pos (keywordEach [] X.env)).all (fun x => x.1.isSome)
      && decide ((e :: es).length + ([] : List Keyword).length + (if ([] : List Keyword).isEmpty then 0 else 1) < 30)) = true := by rfl)
    (hline : (apos.endLine == pos.line) = true := by rfl) (hs : starEach (e :: es) X.env = (false, eval e X.env) :: starEach es X.env := by rfl) (hplain : (backTo pos (starEach es X.env)).any (·.1) = false := by rfl) :
    PE X (.Call (.Attribute o "replace" apos) (e :: es) [] pos) (tWE X.K Z W (wRep A Ms)) := PE_weak (pe_bm PySem.F.plainAttrs_str PySem.F.slot_str_replace PySem.F.type_str_replace mt_repl0 ha hm hbase hfew hline hs hplain) fun σ H Q hh => by
  obtain ⟨Hb, env, st, r, rs, q⟩ := hh
  refine ⟨Hb, env, st, r, rs, A.mono (fun d s1 q v Hb1 H1 s rs1 iv => ?_) (fun _ _ h => h) q⟩
  obtain ⟨x, rfl, k⟩ := q
  simp only [Is] at iv
  subst iv
  refine ⟨rfl, Hb1, env, s1, r.mono s.b, rs1, Ms.mono (fun ds s2 q2 us Hb2 H2 t rs2 ius => ?_) (fun c s2 k Hb2 H2 t rs2 => k Hb2 H2 (s.trans t) rs2) k⟩
  obtain ⟨y, z, rfl, ho, k⟩ := q2
  simp only [IsL, Is] at ius
  obtain ⟨_, _, rfl, rfl, _, _, rfl, rfl, rfl⟩ := ius
  exact ⟨S x, S y, S z, rfl, rfl, ho, k _ Hb2 H2 (s.trans t) rs2 (by simp only [Is])⟩
/-! ### a loop over a list that an expression tells -/
def wForL (A : WE) (g : D → En → Option En) (B : WS) : WS := ⟨fun env st N => A.run env st (fun d s => ∃ ds, d = .lst ds ∧ forW g B ds env s N) N.ex, fun h x => A.mono (fun _ _ ⟨ds, e, q⟩ => ⟨ds, e, forW_mono h q⟩) h.ex x⟩
theorem ws_forL {tg iter : Expr} {ts : List Nat} {g : D → En → Option En} {body : List Stmt} (hp : PassesOwn (model X.prog X.w) X.A X.env X.xe) (hc : X.calm = true) (hi : PE X iter (tWE X.K Z W A)) (hg : PG X tg (tG X.K ts g)) (hb : PSs X body (tWS X.K Z W F))
    (hs : ∀ x, foldedSetIterable iter X.env x = pure x := by intro _; rfl) : PS X (.For tg iter body [] pos) (tWS X.K Z W (wForL A g F)) := PS_weak (ps_for hp hc (pi_list hi) hg hb hs) fun N σ H h => by
  obtain ⟨Hb0, H0, st0, Hb, env, st, r, rs, sp, m⟩ := h
  refine ⟨Hb, env, st, r, rs, A.mono (fun d s1 q v Hb1 H1 x1 x2 iv => ?_) (fun c s1 k Hb1 H1 s rs1 => k σ Hb1 H1 rs1 (sp.trans s)) m⟩
  obtain ⟨ds, rfl, m⟩ := q
  simp only [Is] at iv
  obtain ⟨pl, vs, rfl, hx, lx⟩ := iv
  refine ⟨pl, rfl, ⟨vs, .inl (.inl (x2.c _ _ hx))⟩, ?_⟩
  have wk := walk_l hx lx
  refine ⟨fun i n σ' H' => ∃ Hb' env' st', Rel0 X.K Hb' σ' env' ∧ RelSt X.K Z Hb' H' st' ∧ StepW Hb0 H0 st0 Hb' H' st' ∧ Same Hb1 Hb' ∧ i + n = ds.length ∧ forW g F (ds.drop i) env' st' (liftN X.K Z W Hb0 H0 st0 N), ⟨ds.length, Hb1, env, s1, r.mono x1.b, x2, sp.trans x1, Same.refl _, by omega, m⟩, fun i n σ2 H2 hW => ?_⟩
  obtain ⟨Hb2, e2, st2, r2, rs2, sp2, sm2, im, q2⟩ := hW
  obtain ⟨wi, ws⟩ := wk Hb2 H2 sm2 rs2.c
  by_cases hn : n = 0
  · subst hn
    have hi : i = ds.length := by omega
    subst hi
    rw [List.drop_length] at q2
    exact .inl ⟨ws, q2 σ2 Hb2 H2 r2 rs2 sp2⟩
  · have hi : i < ds.length := by omega
    obtain ⟨go, yld⟩ := wi i ds[i] (List.getElem?_eq_getElem hi)
    rw [List.drop_eq_getElem_cons hi] at q2
    obtain ⟨e3, eg, q2⟩ := q2
    refine .inr ⟨go, fun σ' H' => ∃ Hb' env' st', Rel0 X.K Hb' σ' env' ∧ RelSt X.K Z Hb' H' st' ∧ StepW Hb0 H0 st0 Hb' H' st' ∧ Same Hb1 Hb' ∧ forW g F (ds.drop (i + 1)) env' st' (liftN X.K Z W Hb0 H0 st0 N), fun σ' H' hN => ?_, fun x H' hy => ?_⟩
    · obtain ⟨Hb', e', s', a1, a2, a3, a4, a5⟩ := hN
      exact ⟨n - 1, by omega, Hb', e', s', a1, a2, a3, a4, by omega, a5⟩
    · obtain ⟨Hb3, s3, iv⟩ := yld x H' hy
      obtain ⟨y1, y2⟩ := s3.w rs2
      refine ⟨full, Hb3, e2, ds[i], e3, (r2.mono s3.b).rel full H', s3.c, iv, eg, fun σ' r' _ => ⟨Hb3, H', st2, Hb3, e3, st2, r'.rel0, y2, StepW.refl, F.imp q2 ?_⟩⟩
      have sp3 := sp2.trans y1
      have sm3 := sm2.trans s3.b
      exact ⟨fun e s k σ' Hb' H'' r' rs' sp' => ⟨Hb', e, s, r', rs', sp3.trans sp', sm3.trans sp'.b, k⟩, fun d s k v Hb' H'' rs' sp' iv => k v Hb' H'' rs' (sp3.trans sp') iv, fun e s k σ' Hb' H'' r' rs' sp' => k σ' Hb' H'' r' rs' (sp3.trans sp'),
        fun e s k σ' Hb' H'' r' rs' sp' => ⟨Hb', e, s, r', rs', sp3.trans sp', sm3.trans sp'.b, k⟩, fun c s k σ' Hb' H'' rs' sp' => k σ' Hb' H'' rs' (sp3.trans sp')⟩
end
/-! ### methods -/
def HasM (K : PySem.W.Frag) (C : Addr) (m qual : Str) (st : Stmt) (ps : List Str) : Prop := ∃ f fd, Fun K m qual st f fd ∧ Meth K C m f ∧ Binds K fd ps []
def HasI (K : PySem.W.Frag) (C : Addr) (qual : Str) (st : Stmt) (ps : List Str) : Prop := ∃ f fd, Fun K "__init__" qual st f fd ∧ Mk K C f ∧ Binds K fd ps []
def DefM (P : Program) (w : World) (K : PySem.W.Frag) (mg : Str → Option Value) (base : Heap) (Z : Wd) (k : Nat) (m : Str) (ps : List Str) (sem : WF) : Prop :=
  ∃ f fd, FnOk P w K mg base (L2.CX P w) k f fd ps (spW K Z sem) ∧ Meth K Z.C m f ∧ Binds K fd ps []
def DefI (P : Program) (w : World) (K : PySem.W.Frag) (mg : Str → Option Value) (base : Heap) (Z : Wd) (k : Nat) (ps : List Str) (sem : WF) : Prop :=
  ∃ f fd, FnOk P w K mg base (L2.CX P w) k f fd ps (spW K Z sem) ∧ Mk K Z.C f ∧ Binds K fd ps []
section
variable {P : Program} {w : World} {K : PySem.W.Frag} {mg : Str → Option Value} {base : Heap} {Z : Wd} {m qual : Str} {st : Stmt} {N ps : List Str} {k : Nat} {M : WS}
theorem dm_of (h : HasM K Z.C m qual st ps) (S : FnScope N ps (defScope st))
    (hb : ∀ (f : Addr) (cdv : Value) (A : Around) (outer : List Env) (s : Shared) (H : Hp) (E : XK), Room k (A.deeper (envOfC qual (defScope st) s.heap.objs.size f cdv)) → PSs (cxOf (L2.CX P w) P w K mg base N qual (defScope st) f cdv A outer s H E) (defBody st) (tWS K Z (fun c d _ H' => E c d H') M)) :
    DefM P w K mg base Z (k + 1) m ps (semW N.length ps.length M) := by
  obtain ⟨f, fd, Fu, hm, hb'⟩ := h
  exact ⟨f, fd, fn_w Fu S (hb f), hm, hb'⟩
theorem di_of (h : HasI K Z.C qual st ps) (S : FnScope N ps (defScope st))
    (hb : ∀ (f : Addr) (cdv : Value) (A : Around) (outer : List Env) (s : Shared) (H : Hp) (E : XK), Room k (A.deeper (envOfC qual (defScope st) s.heap.objs.size f cdv)) → PSs (cxOf (L2.CX P w) P w K mg base N qual (defScope st) f cdv A outer s H E) (defBody st) (tWS K Z (fun c d _ H' => E c d H') M)) :
    DefI P w K mg base Z (k + 1) ps (semW N.length ps.length M) := by
  obtain ⟨f, fd, Fu, hm, hb'⟩ := h
  exact ⟨f, fd, fn_w Fu S (hb f), hm, hb'⟩
end
section
variable {X : Cx} {Z : Wd} {e o : Expr} {es : List Expr} {pos apos p : Pos} {A : WE} {Ms : WA} {m x : Str} {E : XK} {sem : WF} {ps : List Str} {k j : Nat} {pl : Sem Bool}
theorem e_meth (tk : Takes X (fun c d _ H => E c d H)) (h : DefM X.prog X.w X.K X.mg X.base Z k m ps sem) (c : Cls X.K Z.C) (hr : Room j X.A) (he : PE X o (tWE X.K Z (fun c d _ H => E c d H) A)) (ha : PA X (e :: es) (tWA X.K Z (fun c d _ H => E c d H) Ms)) (hkj : k ≤ j := by decide)
    (hst : starEach (e :: es) X.env = (false, eval e X.env) :: starEach es X.env := by rfl) (hpl : (backTo pos (starEach es X.env)).any (·.1) = false := by rfl)
    (ht : eval (.Call (.Attribute o m apos) (e :: es) [] pos) X.env = (do
      let ov ← eval o X.env
      standAt apos.atName
      let (f, first) ← holding [ov] (getMethod ov m pl)
      callWith pos f first (backTo pos (starEach (e :: es) X.env)) (backToKw pos (keywordEach [] X.env))) := by rfl) :
    PE X (.Call (.Attribute o m apos) (e :: es) [] pos) (tWE X.K Z (fun c d _ H => E c d H) (wMeth sem m A Ms)) := by
  obtain ⟨f, fd, Fo, hm, hb⟩ := h
  exact wp_meth tk he c hm Fo hr hb ha hkj hst hpl ht
theorem e_meth0 (tk : Takes X (fun c d _ H => E c d H)) (h : DefM X.prog X.w X.K X.mg X.base Z k m ps sem) (c : Cls X.K Z.C) (hr : Room j X.A) (he : PE X o (tWE X.K Z (fun c d _ H => E c d H) A)) (hkj : k ≤ j := by decide)
    (ht : eval (.Call (.Attribute o m apos) [] [] pos) X.env = (do
      let ov ← eval o X.env
      standAt apos.atName
      let (f, first) ← holding [ov] (getMethod ov m pl)
      callWith pos f first (backTo pos (starEach [] X.env)) (backToKw pos (keywordEach [] X.env))) := by rfl) :
    PE X (.Call (.Attribute o m apos) [] [] pos) (tWE X.K Z (fun c d _ H => E c d H) (wMeth sem m A wNil)) := by
  obtain ⟨f, fd, Fo, hm, hb⟩ := h
  exact wp_meth0 tk he c hm Fo hr hb hkj ht
theorem e_make (tk : Takes X (fun c d _ H => E c d H)) (h : DefI X.prog X.w X.K X.mg X.base Z k ps sem) (hm : X.mg x = some (.ref Z.C)) (hr : Room j X.A) (ha : PA X (e :: es) (tWA X.K Z (fun c d _ H => E c d H) Ms)) (hkj : k + 1 ≤ j := by decide) (hg : Gl X x := by rfl)
    (hdb : (x == ("__debug__" : Str)) = false := by decide) (he : starEach (e :: es) X.env = (false, eval e X.env) :: starEach es X.env := by rfl) (hpl : (backTo pos (starEach es X.env)).any (·.1) = false := by rfl) :
    PE X (.Call (.Name x p) (e :: es) [] pos) (tWE X.K Z (fun c d _ H => E c d H) (wMake sem Ms)) := by
  obtain ⟨f, fd, Fo, hM, hb⟩ := h
  exact wp_make tk hM Fo hr hm hb ha hkj hg hdb he hpl
/-- a global that is a pair of whole numbers -/
def GPair (K : PySem.W.Frag) (v : Option Value) (a b : Int) : Prop := ∃ (q : Addr) (o : Obj) (t t' : Tok) (n : Nat), v = some (.ref q) ∧ K.lookup q = some o ∧ o.dict = none ∧ o.cls = .type "tuple" ∧ o.data = .seq #[.int a t, .int b t'] n
theorem e_gpair (a b : Int) (h : GPair X.K (X.mg x) a b) (hg : Gl X x := by rfl) (hd : (x == ("__debug__" : Str)) = false := by decide) : PE X (.Name x pos) (tD X.K (fC (.tup [.int a, .int b]))) := by
  obtain ⟨q, o, t, t', n, hm, h1, h2, h3, h4⟩ := h
  refine e_c (v := .ref q) (pe_glob hg hm rfl hd) fun H => ?_
  simp only [Is, IsL]
  exact ⟨q, [.int a, .int b], rfl, .inr ⟨o, _, n, h1, h2, h3, h4, (show 2 ≤ sizeLine by decide), .cons ⟨_, rfl⟩ (.cons ⟨_, rfl⟩ .nil)⟩, _, _, rfl, rfl, _, _, rfl, rfl, rfl⟩
end
end Dn
set_option Elab.async false
set_option linter.all false
set_option maxRecDepth 100000
/-! Part V: lists of the store within dicts of the store; both told as plain ones; sorted keys. -/
namespace Dn
open PySem L2 PySem.Spec PyProof.Rows
section
variable {X : Cx} {Z : Wd} {W : Dn.WX} {st' : Stmt} {a b e f o i value : Expr} {es : List Expr} {pos apos pos' p tpos : Pos} {A B V' O : WE} {Ms : WA} {F : WS} {sts : List Stmt}
/-! ### a new list -/
def wNewL (fn : En → Option (List D)) : WE := ⟨fun env st K _ => ∃ ds, fn env = some ds ∧ ∀ a, st a = none → K (.adr a) (st.put a (.lst ds)), fun h _ ⟨ds, e, k⟩ => ⟨ds, e, fun a n => h _ _ (k a n)⟩⟩
theorem wp_newL {fn : En → Option (List D)} (h : PE X e (tN X.K fn)) : PE X e (tWE X.K Z W (wNewL fn)) := PE_weak h fun σ H Q hh => by
  obtain ⟨Hb, env, st, r, rs, ds, ed, k⟩ := hh
  refine ⟨H, env, Hb, ds, r.rel H H, rs.c, ed, fun q vs Hb' H' s hq hb h' il => ?_⟩
  obtain ⟨x1, x2⟩ := s.w rs
  have hst : st q = none := rs.free hq
  have hcell : RelSt X.K Z Hb' H' (st.put q (.lst ds)) := ⟨x2.c, fun z c hz => by
    by_cases hzq : z = q
    · subst hzq
      rw [Sto.put_same] at hz
      cases hz
      exact ⟨hb, vs, h', il⟩
    · rw [Sto.put_ne hzq] at hz
      exact x2.cell z c hz, x2.tabs, x2.nt⟩
  refine k q hst (.ref q) Hb' H' ⟨x1.b, fun z ob hz nb ns nt => ?_⟩ hcell (by simp only [Is])
  obtain ⟨y1, y2, y3⟩ := x1.f z ob hz nb ns nt
  refine ⟨y1, y2, ?_⟩
  rw [Sto.put_ne]
  · exact y3
  · intro e
    rw [e, hq] at hz
    cases hz
/-! ### x[k] of a list of the store -/
def wLIx (O A : WE) : WE := ⟨fun env st K E => O.run env st (fun d s2 => A.run env s2 (fun k s3 => ∃ a n ds v, d = .adr a ∧ k = .int n ∧ s3 a = some (.lst ds) ∧ atI ds n = some v ∧ K v s3) E) E,
  fun h h' x => O.mono (fun _ _ z => A.mono (fun _ _ ⟨a, l, kvs, v, e1, e2, e3, e4, k⟩ => ⟨a, l, kvs, v, e1, e2, e3, e4, h _ _ k⟩) h' z) h' x⟩
theorem wp_lix (ha : PE X a (tWE X.K Z W O)) (hb : PE X b (tWE X.K Z W A)) (hs : PlainIx b := by exact fun _ _ => rfl) : PE X (.Subscript a b pos) (tWE X.K Z W (wLIx O A)) :=
  PE_weak (pe_ix ix_list ha hb hs) fun σ H Q h => by
    obtain ⟨Hb, env, st, r, rs, m⟩ := h
    refine ⟨Hb, env, st, r, rs, O.mono (fun d s2 q2 u Hb2 H2 t rs2 iu => ?_) (fun _ _ h => h) m⟩
    refine ⟨Hb2, env, s2, r.mono t.b, rs2, A.mono (fun kk s3 q3 u3 Hb3 H3 t3 rs3 iu3 => ?_) (fun c s3 k Hb3 H3 t3 rs3 => k Hb3 H3 (t.trans t3) rs3) q2⟩
    obtain ⟨q, n, ds, w, rfl, rfl, e3, e4, k⟩ := q3
    have hu := adr_is iu
    subst hu
    simp only [Is] at iu3
    subst iu3
    obtain ⟨_, vs, h1, h2⟩ := rs3.cell q _ e3
    obtain ⟨v, e5, e6⟩ := atI_is h2 e4
    exact ⟨q, vs, n, v, rfl, rfl, SqL.of h1, e5, k v Hb3 H3 (t.trans t3) rs3 e6⟩
/-! ### x[k] = v of a list of the store -/
def wLPut (O A V' : WE) : WS := ⟨fun env st N => V'.run env st (fun y s => O.run env s (fun d s2 => A.run env s2 (fun k s3 => ∃ a n ds j, d = .adr a ∧ k = .int n ∧ s3 a = some (.lst ds) ∧ ixN ds.length n = some j ∧ N.nx env (s3.put a (.lst (ds.set j y)))) N.ex) N.ex) N.ex,
  fun h x => V'.mono (fun _ _ y => O.mono (fun _ _ z => A.mono (fun _ _ ⟨a, l, kvs, j, e1, e2, e3, e4, k⟩ => ⟨a, l, kvs, j, e1, e2, e3, e4, h.nx _ _ k⟩) h.ex z) h.ex y) h.ex x⟩
theorem ws_lput (ho : PE X o (tWE X.K Z W O)) (hi : PE X i (tWE X.K Z W B)) (hv : PE X value (tWE X.K Z W V'))
    (ha : ∀ v, assign (.Subscript o i tpos) X.env v = (do
      let ov ← holding [v] (eval o X.env)
      let iv ← holding [v, ov] (eval i X.env)
      standAt tpos
      holding [v, ov, iv] (setItem ov iv v)
      release [v, ov, iv] []) := by intro _; rfl)
    (hs : swapsWithSole [.Subscript o i tpos] value pos.line X.env = pure false := by rfl) (hw : swappedStores [.Subscript o i tpos] value X.env = pure none := by rfl)
    (h1 : (assignEach [.Subscript o i tpos] X.env).map (·.2) = [assign (.Subscript o i tpos) X.env] := by rfl) :
    PS X (.Assign [.Subscript o i tpos] value pos) (tWS X.K Z W (wLPut O B V')) := PS_weak (ps_asg hv (pg_sub ho hi set_list ha) hs hw h1) fun N σ H h => by
  obtain ⟨Hb0, H0, st0, Hb, env, st, r, rs, sp, m⟩ := h
  refine ⟨Hb, env, st, r, rs, V'.mono (fun y s1 q v Hb1 H1 s rs1 iv => ?_) (fun c s1 k Hb1 H1 s rs1 => k σ Hb1 H1 rs1 (sp.trans s)) m⟩
  refine ⟨Hb1, env, s1, r.mono s.b, rs1, O.mono (fun d s2 q2 u Hb2 H2 t rs2 iu => ?_) (fun c s2 k Hb2 H2 t rs2 => k σ Hb2 H2 rs2 (sp.trans (s.trans t))) q⟩
  refine ⟨Hb2, env, s2, r.mono (s.b.trans t.b), rs2, B.mono (fun kk s3 q3 u3 Hb3 H3 t3 rs3 iu3 => ?_) (fun c s3 k Hb3 H3 t3 rs3 => k σ Hb3 H3 rs3 (sp.trans (s.trans (t.trans t3)))) q2⟩
  obtain ⟨q, n, ds, j, rfl, rfl, e3, e4, k⟩ := q3
  have hu := adr_is iu
  subst hu
  simp only [Is] at iu3
  subst iu3
  obtain ⟨_, vs, h1, h2⟩ := rs3.cell q _ e3
  have iv3 : Is X.K Hb3 y v := iv.mono (t.b.trans t3.b)
  obtain ⟨y1, y2⟩ := rs3.write (ob := .lst (vs.set j v)) (x' := .lst (ds.set j y)) e3 ⟨_, upd_same, IsL.set j h2 iv3⟩
  refine ⟨q, vs, n, j, rfl, rfl, h1, by rw [h2.length]; exact e4, ?_⟩
  exact k σ Hb3 _ ((r.mono (s.b.trans (t.b.trans t3.b)))) y1 (sp.trans (s.trans (t.trans (t3.trans y2))))
/-! ### d.get(k, x) and d.setdefault(k, x) -/
def findK (l : List Nat) (kvs : List (List Nat × D)) : Option D := (kvs.find? fun p => decide (p.1 = l)).map (·.2)
theorem isK_none {K : PySem.W.Frag} {H : Hp} {l : List Nat} {kvs : List (List Nat × D)} {ks : List (Key × V)} (h : IsK K H kvs ks) (hn : findK l kvs = none) : valV ks (Sum.inr (S l)) = none := by
  have := (isK_val l h).2
  have ha : (kvs.any fun p => decide (p.1 = l)) = false := by
    unfold findK at hn
    rw [Option.map_eq_none_iff, List.find?_eq_none] at hn
    rw [List.any_eq_false]
    exact hn
  rw [ha] at this
  cases hv : valV ks (Sum.inr (S l)) with
  | none => rfl
  | some v => rw [hv] at this; cases this
def wGet2 (O A V' : WE) : WE := ⟨fun env st K E => O.run env st (fun d s => ∃ a, d = .adr a ∧ (∃ kvs, s a = some (.dct kvs)) ∧ A.run env s (fun k s2 => V'.run env s2 (fun z s3 => ∃ l kvs, k = .str l ∧ s3 a = some (.dct kvs) ∧ K ((findK l kvs).getD z) s3) E) E) E,
  fun h h' x => O.mono (fun _ _ ⟨a, e, w, y⟩ => ⟨a, e, w, A.mono (fun _ _ z => V'.mono (fun _ _ ⟨l, kvs, e1, e2, k⟩ => ⟨l, kvs, e1, e2, h _ _ k⟩) h' z) h' y⟩) h' x⟩
theorem wp_get2 (hu : X.A.units + 65 < cLine) (ho : PE X o (tWE X.K Z W O)) (he : PE X e (tWE X.K Z W A)) (hf : PE X f (tWE X.K Z W V')) (m : M2 X o "get" apos e f pos) : PE X (.Call (.Attribute o "get" apos) [e, f] [] pos) (tWE X.K Z W (wGet2 O A V')) := PE_weak (pe_dget2 (by omega) ho he hf m) fun σ H Q hh => by
  obtain ⟨Hb, env, st, r, rs, q⟩ := hh
  refine ⟨Hb, env, st, r, rs, O.mono (fun d s1 q v Hb1 H1 s rs1 iv => ?_) (fun _ _ h => h) q⟩
  obtain ⟨q, rfl, ⟨kvs0, hk0⟩, k⟩ := q
  have hv := adr_is iv
  subst hv
  obtain ⟨_, ks0, g1, _⟩ := rs1.cell q _ hk0
  refine ⟨q, rfl, .inl ⟨ks0, .inl g1⟩, Hb1, env, s1, r.mono s.b, rs1, A.mono (fun kk s2 q2 u Hb2 H2 t rs2 iu => ?_) (fun c s2 k Hb2 H2 t rs2 => k Hb2 H2 (s.trans t) rs2) k⟩
  refine ⟨Hb2, env, s2, r.mono (s.b.trans t.b), rs2, V'.mono (fun z s3 q3 w Hb3 H3 t3 rs3 iw => ?_) (fun c s3 k Hb3 H3 t3 rs3 => k Hb3 H3 (s.trans (t.trans t3)) rs3) q2⟩
  obtain ⟨l, kvs, rfl, e3, k⟩ := q3
  simp only [Is] at iu
  subst iu
  obtain ⟨_, ks, h1, h2⟩ := rs3.cell q _ e3
  refine ⟨_, .inl ⟨ks, Sum.inr (S l), .inl h1, rfl, rfl⟩, ?_⟩
  cases hfk : findK l kvs with
  | some d =>
    obtain ⟨v, hv, iv⟩ := (isK_val l h2).1 d hfk
    rw [hfk] at k
    rw [hv]
    exact k v Hb3 H3 (s.trans (t.trans t3)) rs3 iv
  | none =>
    rw [hfk] at k
    rw [isK_none h2 hfk]
    exact k w Hb3 H3 (s.trans (t.trans t3)) rs3 iw
def wSetd (O A V' : WE) : WE := ⟨fun env st K E => O.run env st (fun d s => ∃ a, d = .adr a ∧ (∃ kvs, s a = some (.dct kvs)) ∧ A.run env s (fun k s2 => V'.run env s2 (fun z s3 => ∃ l kvs, k = .str l ∧ s3 a = some (.dct kvs) ∧ kvs.length < 1000000 ∧ (∀ v, findK l kvs = some v → K v s3) ∧ (findK l kvs = none → K z (s3.put a (.dct (putKD l z kvs))))) E) E) E,
  fun h h' x => O.mono (fun _ _ ⟨a, e, w, y⟩ => ⟨a, e, w, A.mono (fun _ _ z => V'.mono (fun _ _ ⟨l, kvs, e1, e2, e3, k1, k2⟩ => ⟨l, kvs, e1, e2, e3, fun v hv => h _ _ (k1 v hv), fun hv => h _ _ (k2 hv)⟩) h' z) h' y⟩) h' x⟩
theorem wp_setd (ho : PE X o (tWE X.K Z W O)) (he : PE X e (tWE X.K Z W A)) (hf : PE X f (tWE X.K Z W V')) (m : M2 X o "setdefault" apos e f pos) : PE X (.Call (.Attribute o "setdefault" apos) [e, f] [] pos) (tWE X.K Z W (wSetd O A V')) := PE_weak (pe_dsetd ho he hf m) fun σ H Q hh => by
  obtain ⟨Hb, env, st, r, rs, q⟩ := hh
  refine ⟨Hb, env, st, r, rs, O.mono (fun d s1 q v Hb1 H1 s rs1 iv => ?_) (fun _ _ h => h) q⟩
  obtain ⟨q, rfl, ⟨kvs0, hk0⟩, k⟩ := q
  have hv := adr_is iv
  subst hv
  obtain ⟨_, ks0, g1, _⟩ := rs1.cell q _ hk0
  refine ⟨q, rfl, .inl ⟨ks0, .inl g1⟩, Hb1, env, s1, r.mono s.b, rs1, A.mono (fun kk s2 q2 u Hb2 H2 t rs2 iu => ?_) (fun c s2 k Hb2 H2 t rs2 => k Hb2 H2 (s.trans t) rs2) k⟩
  refine ⟨Hb2, env, s2, r.mono (s.b.trans t.b), rs2, V'.mono (fun z s3 q3 w Hb3 H3 t3 rs3 iw => ?_) (fun c s3 k Hb3 H3 t3 rs3 => k Hb3 H3 (s.trans (t.trans t3)) rs3) q2⟩
  obtain ⟨l, kvs, rfl, e3, hlen, k1, k2⟩ := q3
  simp only [Is] at iu
  subst iu
  obtain ⟨_, ks, h1, h2⟩ := rs3.cell q _ e3
  have s123 := s.trans (t.trans t3)
  refine ⟨ks, Sum.inr (S l), h1, rfl, by rw [isK_len h2]; exact Nat.lt_of_lt_of_le hlen size1000, fun v' hv' => ?_, fun hn => ?_⟩
  · cases hfk : findK l kvs with
    | none =>
      rw [isK_none h2 hfk] at hv'
      cases hv'
    | some d =>
      obtain ⟨v2, hv2, iv2⟩ := (isK_val l h2).1 d hfk
      rw [hv2] at hv'
      cases hv'
      exact k1 d hfk _ Hb3 H3 s123 rs3 iv2
  · cases hfk : findK l kvs with
    | some d =>
      obtain ⟨v2, hv2, iv2⟩ := (isK_val l h2).1 d hfk
      rw [hv2] at hn
      cases hn
    | none =>
      obtain ⟨y1, y2⟩ := rs3.write (ob := .dK (putK ks (Sum.inr (S l)) w)) (x' := .dct (putKD l z kvs)) e3 ⟨_, upd_same, isK_put h2 iw⟩
      exact k2 hfk w Hb3 _ (s123.trans y2) y1 iw
/-! ### told as plain ones from here on -/
def Sto.del (st : Sto) (a : Addr) : Sto := fun x => if x = a then none else st x
theorem Sto.del_same (st : Sto) (a : Addr) : st.del a a = none := if_pos rfl
theorem Sto.del_ne {st : Sto} {a x : Addr} (h : x ≠ a) : st.del a x = st x := if_neg h
theorem RelSt.frzL {K : PySem.W.Frag} {Hb H : Hp} {st : Sto} (r : RelSt K Z Hb H st) {l : Addr} {ds : List D} (h : st l = some (.lst ds)) :
    ∃ Hb', RelSt K Z Hb' H (st.del l) ∧ StepW Hb H st Hb' H (st.del l) ∧ Is K Hb' (.lst ds) (.ref l) := by
  obtain ⟨hb, vs, h1, h2⟩ := r.cell l _ h
  have sm : Same Hb (upd Hb l (.lst vs)) := same_new hb
  refine ⟨upd Hb l (.lst vs), ⟨fun z x e => ?_, fun z c hz => ?_, r.tabs, r.nt.upd (by intro _ e; cases e)⟩, ⟨sm, fun z o hz nb ns nt => ?_⟩, is_lst_new hb h2⟩
  · by_cases hzl : z = l
    · subst hzl
      rw [upd_same] at e
      rw [h1, e]
    · rw [upd_ne hzl] at e
      exact r.c z x e
  · by_cases hzl : z = l
    · rw [hzl, Sto.del_same] at hz
      cases hz
    · rw [Sto.del_ne hzl] at hz
      obtain ⟨g1, g2⟩ := r.cell z c hz
      exact ⟨by rw [upd_ne hzl]; exact g1, g2.keep (fun o e => e) sm⟩
  · have hzl : z ≠ l := fun e => by
      rw [e, h] at ns
      cases ns
    exact ⟨hz, by rw [upd_ne hzl]; exact nb, by rw [Sto.del_ne hzl]; exact ns⟩
/-- the values of a dict: lists of the store are told as plain ones -/
def FK : Sto → List (List Nat × D) → List (List Nat × D) → Sto → Prop
  | st, [], r, s2 => r = [] ∧ s2 = st
  | st, (k, d) :: t, r, s2 => (∃ l ds r', d = .adr l ∧ st l = some (.lst ds) ∧ r = (k, .lst ds) :: r' ∧ FK (st.del l) t r' s2) ∨ ∃ r', r = (k, d) :: r' ∧ FK st t r' s2
theorem FK.step {K : PySem.W.Frag} : ∀ {kvs kvs' : List (List Nat × D)} {Hb H : Hp} {st s2 : Sto} {ks : List (Key × V)}, FK st kvs kvs' s2 → RelSt K Z Hb H st → IsK K Hb kvs ks → ∃ Hb', RelSt K Z Hb' H s2 ∧ StepW Hb H st Hb' H s2 ∧ IsK K Hb' kvs' ks ∧ ∀ x c, s2 x = some c → st x = some c
  | [], kvs', Hb, H, st, s2, ks, f, r, h => by
    obtain ⟨rfl, rfl⟩ := f
    exact ⟨Hb, r, StepW.refl, h, fun _ _ e => e⟩
  | (k, d) :: t, kvs', Hb, H, st, s2, ks, f, r, h => by
    simp only [IsK] at h
    obtain ⟨v, rest, rfl, iv, hr⟩ := h
    rcases f with ⟨l, ds, r', rfl, hl, rfl, f⟩ | ⟨r', rfl, f⟩
    · have hv := adr_is iv
      subst hv
      obtain ⟨Hb1, r1, s1, i1⟩ := r.frzL hl
      obtain ⟨Hb2, r2, s2', i2, k2⟩ := FK.step f r1 (hr.mono s1.b)
      refine ⟨Hb2, r2, s1.trans s2', ?_, fun x c e => ?_⟩
      · simp only [IsK]
        exact ⟨_, _, rfl, i1.mono s2'.b, i2⟩
      · have := k2 x c e
        by_cases hx : x = l
        · rw [hx, Sto.del_same] at this
          cases this
        · rwa [Sto.del_ne hx] at this
    · obtain ⟨Hb2, r2, s2', i2, k2⟩ := FK.step f r hr
      refine ⟨Hb2, r2, s2', ?_, k2⟩
      simp only [IsK]
      exact ⟨_, _, rfl, iv.mono s2'.b, i2⟩
def wFrzD (i : Nat) : WS := ⟨fun env st N => ∃ a kvs kvs' s2, env[i]? = some (some (.adr a)) ∧ st a = some (.dct kvs) ∧ FK st kvs kvs' s2 ∧ s2 a = some (.dct kvs) ∧ N.nx (env.set i (some (.dct kvs'))) (s2.del a), fun h ⟨a, kvs, kvs', s2, e1, e2, e3, e4, k⟩ => ⟨a, kvs, kvs', s2, e1, e2, e3, e4, h.nx _ _ k⟩⟩
theorem wss_frzD (i : Nat) (h : PSs X sts (tWS X.K Z W F)) : PSs X sts (tWS X.K Z W (wSeq (wFrzD i) F)) := ⟨fun pins s σ H N I h' => by
  obtain ⟨Hb0, H0, st0, Hb, env, st, r, rs, sp, a, kvs, kvs', s2, e1, e2, f, e4, k⟩ := h'
  obtain ⟨_, ks, h1, h2⟩ := rs.cell a _ e2
  obtain ⟨Hb1, r1, s1, i1, _⟩ := f.step rs h2
  obtain ⟨hb1, ks1, g1, _⟩ := r1.cell a _ e4
  obtain ⟨o, I2⟩ := I.lock h1 (by trivial)
  have sm : Same Hb1 (upd Hb1 a (.frz o (.dK ks))) := same_new hb1
  have hka := (r1.cell a _ e4).2.kind
  have r2 : RelSt X.K Z (upd Hb1 a (.frz o (.dK ks))) (upd H a (.frz o (.dK ks))) (s2.del a) := by
    refine ⟨same_upd2 r1.c, fun z c hz => ?_, tabs_write r1.tabs hka.1 hka.2, r1.nt.upd (by intro _ e; cases e)⟩
    by_cases hza : z = a
    · rw [hza, Sto.del_same] at hz
      cases hz
    · rw [Sto.del_ne hza] at hz
      obtain ⟨g1, g2⟩ := r1.cell z c hz
      exact ⟨by rw [upd_ne hza]; exact g1, g2.keep (fun o e => by rw [upd_ne hza]; exact e) sm⟩
  have st2 : StepW Hb1 H s2 (upd Hb1 a (.frz o (.dK ks))) (upd H a (.frz o (.dK ks))) (s2.del a) := by
    refine ⟨sm, fun z ob hz nb ns nt => ?_⟩
    have hza : z ≠ a := fun e => by
      rw [e, e4] at ns
      cases ns
    exact ⟨by rw [upd_ne hza]; exact hz, by rw [upd_ne hza]; exact nb, by rw [Sto.del_ne hza]; exact ns⟩
  have all := s1.trans st2
  have hlt := (List.getElem?_eq_some_iff.mp e1).1
  obtain ⟨w, hσ, hw⟩ := r.val i _ e1
  have hw := adr_is hw
  subst hw
  refine h.run pins s σ _ N I2 ⟨Hb0, H0, st0, _, _, _, ⟨by rw [List.length_set]; exact r.len, fun j d q => ?_⟩, r2, sp.trans all, k⟩
  by_cases hj : i = j
  · subst hj
    rw [List.getElem?_set_self hlt] at q
    cases q
    refine ⟨_, hσ, ?_⟩
    simp only [Is]
    exact ⟨a, ks, rfl, ⟨o, upd_same⟩, i1.mono sm⟩
  · rw [List.getElem?_set_ne hj] at q
    obtain ⟨v, b1, b2⟩ := r.val j d q
    exact ⟨v, b1, b2.mono all.b⟩⟩
/-! ### sorted keys of a plain dict -/
def keyLe (a b : List Nat) : Bool := decide (a ≤ b)
def sortKeys (ks : List (List Nat)) : List (List Nat) := ks.mergeSort keyLe
theorem keyLe_trans (a b c : List Nat) (h : keyLe a b = true) (h' : keyLe b c = true) : keyLe a c = true := by
  unfold keyLe at *
  simp at *
  exact List.le_trans h h'
theorem keyLe_total (a b : List Nat) : (keyLe a b || keyLe b a) = true := by
  unfold keyLe
  simp
  exact List.le_total a b
theorem sortKeys_perm (ks : List (List Nat)) : (sortKeys ks).Perm ks := List.mergeSort_perm _ _
theorem sortKeys_up (ks : List (List Nat)) : (sortKeys ks).Pairwise (· ≤ ·) := by
  have h1 : (sortKeys ks).Pairwise fun a b => keyLe a b = true := List.pairwise_mergeSort keyLe_trans keyLe_total _
  exact h1.imp fun h => by simpa [keyLe] using h
theorem sortKeys_of {ks ms : List (List Nat)} (h : ms.Perm ks) (hr : ms.Pairwise (· ≤ ·)) : sortKeys ks = ms :=
  List.Perm.eq_of_pairwise (le := fun a b : List Nat => a ≤ b) (fun a b _ _ h h' => List.le_antisymm h h') (sortKeys_up ks) hr ((sortKeys_perm ks).trans h.symm)
theorem rising_up : ∀ (ys : List (List Nat)) (p : List Nat), risingS (S p) (ys.map S) = true → (p :: ys).Pairwise (· ≤ ·)
  | [], p, _ => by simp
  | y :: ys, p, h => by
    rw [List.map_cons, risingS, Bool.and_eq_true] at h
    have ih := rising_up ys y h.2
    have hpy : p ≤ y := by
      have := h.1
      have e : ltCps (S y).cps.toList (S p).cps.toList = decide (y < p) := by
        simp only [S]
        exact ltCps_eq y p
      rw [e] at this
      simp at this
      exact this
    rw [List.pairwise_cons]
    refine ⟨fun z hz => ?_, ih⟩
    rcases List.mem_cons.mp hz with rfl | hz
    · exact hpy
    · exact List.le_trans hpy ((List.pairwise_cons.mp ih).1 z hz)
theorem sorted_up {ys : List (List Nat)} (h : sortedS (ys.map S) = true) : ys.Pairwise (· ≤ ·) := by
  cases ys with
  | nil => exact .nil
  | cons y ys => exact rising_up ys y h
def sortKD : D → Option D
  | .dct kvs => if kvs.length < 64 then some (.lst ((sortKeys (kvs.map (·.1))).map D.str)) else none
  | _ => none
def sortKG : List D → Option D
  | [d] => sortKD d
  | _ => none
theorem c_sortD (hc : X.calm = true) : CallR X (.builtin "sorted") (rDA X.K sortKG) := fun pins s σ H xs us Q I r h => call_sortedD hc pins s σ H xs us Q I r (by
  obtain ⟨Hb, ds, d, sm, il, eg, k⟩ := h
  unfold sortKG at eg
  split at eg
  · rename_i d0
    unfold sortKD at eg
    split at eg
    · rename_i kvs
      obtain ⟨hl, rfl⟩ := iteS eg
      obtain ⟨v, rfl, iv⟩ := isl1 il
      simp only [Is] at iv
      obtain ⟨a, ks, rfl, ⟨o, ho⟩, hk⟩ := iv
      refine ⟨a, ks, (kvs.map (·.1)).map S, rfl, .inr ⟨o, sm _ _ ho⟩, ?_, by simpa using hl, fun ys p hp hs hn => ?_⟩
      · rw [isK_keys hk, List.map_map, List.map_map]
        rfl
      · have hys : ys = (ys.map fun z => z.cps.toList).map S := by
          rw [List.map_map]
          conv => lhs; rw [← List.map_id ys]
          exact List.map_congr_left fun z _ => (S_of z).symm
        have hperm : (ys.map fun z => z.cps.toList).Perm (kvs.map (·.1)) := by
          have := hp.map fun z : Str => z.cps.toList
          rw [List.map_map] at this
          have e : (kvs.map (·.1)).map ((fun z : Str => z.cps.toList) ∘ S) = kvs.map (·.1) := by
            conv => rhs; rw [← List.map_id (kvs.map (·.1))]
            exact List.map_congr_left fun z _ => by simp [S]
          rw [e] at this
          exact this
        generalize hz : ys.map (fun z => z.cps.toList) = zs at *
        have hup : zs.Pairwise (· ≤ ·) := sorted_up (by rw [← hys]; exact hs)
        rw [sortKeys_of hperm hup] at k
        refine k _ _ _ (Step.new sm hn (o := .lst (ys.map V.str))) (is_lst_new (sm.free hn) ?_)
        rw [hys]
        exact of_strs zs
    · cases eg
  · cases eg)
/-! ### x.append(v) of a list of the store; the list told as a plain one -/
def wLApp (O V' : WE) : WE := ⟨fun env st K E => O.run env st (fun d s => ∃ a, d = .adr a ∧ (∃ ds, s a = some (.lst ds)) ∧ V'.run env s (fun y s2 => ∃ ds, s2 a = some (.lst ds) ∧ ds.length < 1000000 ∧ K .non (s2.put a (.lst (ds ++ [y])))) E) E,
  fun h h' x => O.mono (fun _ _ ⟨a, e, w, y⟩ => ⟨a, e, w, V'.mono (fun _ _ ⟨ds, e1, e2, k⟩ => ⟨ds, e1, e2, h _ _ k⟩) h' y⟩) h' x⟩
theorem wp_lapp (ho : PE X o (tWE X.K Z W O)) (he : PE X e (tWE X.K Z W V')) (hbase : attributeBase o "append" X.env (eval o X.env) = eval o X.env := by rfl)
    (hfew : ((backTo pos (starEach [e] X.env)).all (fun x => !x.1) && (backToKw pos (keywordEach [] X.env)).all (fun x => x.1.isSome)
      && decide (([e] : List Expr).length + ([] : List Keyword).length + (if ([] : List Keyword).isEmpty then 0 else 1) < 30)) = true := by rfl)
    (hline : (apos.endLine == pos.line) = true := by rfl) (hs : starEach [e] X.env = (false, eval e X.env) :: starEach [] X.env := by rfl) (hplain : (backTo pos (starEach [] X.env)).any (·.1) = false := by rfl) :
    PE X (.Call (.Attribute o "append" apos) [e] [] pos) (tWE X.K Z W (wLApp O V')) := PE_weak (pe_bm PySem.F.plainAttrs_list PySem.F.slot_list_append PySem.F.type_list_append mt_append ho (wa_cons (Ms := wNil) he wa_nil hs) hbase hfew hline hs hplain) fun σ H Q hh => by
  obtain ⟨Hb, env, st, r, rs, q⟩ := hh
  refine ⟨Hb, env, st, r, rs, O.mono (fun d s1 q v Hb1 H1 s rs1 iv => ?_) (fun _ _ h => h) q⟩
  obtain ⟨q, rfl, ⟨ds0, hk0⟩, k⟩ := q
  have hv := adr_is iv
  subst hv
  obtain ⟨_, vs0, g1, _⟩ := rs1.cell q _ hk0
  refine ⟨.inl ⟨rfl, vs0, SqL.of g1⟩, Hb1, env, s1, r.mono s.b, rs1, V'.mono (fun y s2 q2 => ⟨[], rfl, fun us Hb2 H2 t rs2 iu => ?_⟩) (fun c s2 k Hb2 H2 t rs2 => k Hb2 H2 (s.trans t) rs2) k⟩
  obtain ⟨ds, e3, hlen, k⟩ := q2
  obtain ⟨u, rfl, iu2⟩ := isl1 iu
  obtain ⟨_, vs, h1, h2⟩ := rs2.cell q _ e3
  obtain ⟨y1, y2⟩ := rs2.write (ob := .lst (vs ++ [u])) (x' := .lst (ds ++ [y])) e3 ⟨_, upd_same, h2.append (by simp only [IsL]; exact ⟨_, _, rfl, iu2, rfl⟩)⟩
  exact ⟨q, vs, u, rfl, rfl, h1, by rw [h2.length]; exact Nat.lt_of_lt_of_le hlen size1000, k .non Hb2 _ (s.trans (t.trans y2)) y1 (by simp only [Is])⟩
def wFrzL (i : Nat) : WS := ⟨fun env st N => ∃ a ds, env[i]? = some (some (.adr a)) ∧ st a = some (.lst ds) ∧ N.nx (env.set i (some (.lst ds))) (st.del a), fun h ⟨a, ds, e1, e2, k⟩ => ⟨a, ds, e1, e2, h.nx _ _ k⟩⟩
theorem wss_frzL (i : Nat) (h : PSs X sts (tWS X.K Z W F)) : PSs X sts (tWS X.K Z W (wSeq (wFrzL i) F)) := ⟨fun pins s σ H N I h' => by
  obtain ⟨Hb0, H0, st0, Hb, env, st, r, rs, sp, a, ds, e1, e2, k⟩ := h'
  obtain ⟨Hb1, r1, s1, i1⟩ := rs.frzL e2
  have hlt := (List.getElem?_eq_some_iff.mp e1).1
  obtain ⟨w, hσ, hw⟩ := r.val i _ e1
  have hw := adr_is hw
  subst hw
  refine h.run pins s σ H N I ⟨Hb0, H0, st0, Hb1, _, _, ⟨by rw [List.length_set]; exact r.len, fun j d q => ?_⟩, r1, sp.trans s1, k⟩
  by_cases hj : i = j
  · subst hj
    rw [List.getElem?_set_self hlt] at q
    cases q
    exact ⟨_, hσ, i1⟩
  · rw [List.getElem?_set_ne hj] at q
    obtain ⟨v, b1, b2⟩ := r.val j d q
    exact ⟨v, b1, b2.mono s1.b⟩⟩
end
end Dn
set_option Elab.async false
set_option linter.all false
set_option maxRecDepth 100000
/-! The nearest step; strikes put right. -/
namespace Dn
open PySem L2
local macro_rules | `(tactic| walk_at "dg") => `(tactic| first
  | with_reducible exact add_i _ _ | with_reducible exact sub_i _ _ | ((with_reducible refine mul_i ?_); omega) | ((with_reducible refine fdiv_i ?_); omega) | ((with_reducible refine mod_i ?_); omega) | with_reducible exact neg_i _
  | with_reducible exact lt_i _ _ | with_reducible exact le_i _ _ | with_reducible exact gt_i _ _ | with_reducible exact ge_i _ _ | with_reducible exact eq_i _ _ | with_reducible exact ne_i _ _ | with_reducible exact eq_s _ _ | with_reducible exact ne_s _ _
  | ((with_reducible refine add_s ?_); omega) | ((with_reducible refine add_t ?_); omega) | ((with_reducible refine add_l ?_); omega) | ((with_reducible refine mul_s ?_); omega) | ((with_reducible refine mul_l ?_); omega)
  | ((with_reducible refine len_s ?_); omega) | with_reducible exact len_t _ | with_reducible exact len_l _ | with_reducible exact len_c _ | with_reducible exact int_b _ | with_reducible exact int_i _ | with_reducible exact abs_i _
  | ((with_reducible refine sl_s ?_); omega) | with_reducible exact sl_t _ _ _ | with_reducible exact sl_l _ _ _ | ((with_reducible apply ix_t); (· omega); (· rfl)) | ((with_reducible apply ix_l); (· omega); (· rfl)) | with_reducible assumption)
local macro_rules | `(tactic| walk_at "dc") => `(tactic| with_reducible assumption)
local macro_rules | `(tactic| walk_at "dn") => `(tactic| first
  | with_reducible exact v_c | with_reducible exact v_nil | with_reducible exact v_no
  | ((with_reducible apply v_var); (· rfl); (· rfl))
  | ((with_reducible apply v_2); (· walk_at "dn"); (· walk_at "dn"); (· walk_at "dg"))
  | ((with_reducible apply v_1); (· walk_at "dn"); (· walk_at "dg"))
  | ((with_reducible apply v_cons); (· walk_at "dn"); (· walk_at "dn"))
  | ((with_reducible apply v_blt); (· walk_at "dn"); (· walk_at "dg"))
  | ((with_reducible apply v_call); (· walk_at "dn"); (· walk_at "dc"))
  | ((with_reducible apply v_tup); (· walk_at "dn"); (· first | decide | (simp only [List.length_cons, List.length_nil]; decide)))
  | ((with_reducible apply v_lst); (· walk_at "dn"); (· first | decide | (simp only [List.length_cons, List.length_nil]; decide)))
  | ((with_reducible apply v_po); (· walk_at "dn"))
  | ((with_reducible apply v_sl); (· walk_at "dn"); (· walk_at "dn"); (· walk_at "dn"); (· walk_at "dg"))
  | ((with_reducible apply v_m1); (· walk_at "dn"); (· walk_at "dn"); (· walk_at "dg"))
  | ((with_reducible apply v_b); (· walk_at "dn"))
  | ((with_reducible apply v_not); (· walk_at "dn"))
  | ((with_reducible apply v_notV); (· walk_at "dn"))
  | ((with_reducible apply v_rng1); (· walk_at "dn"); (· omega))
  | ((with_reducible apply v_rng2); (· walk_at "dn"); (· omega))
  | ((with_reducible apply v_it); (· walk_at "dn"))
  | ((with_reducible apply v_itl); (· walk_at "dn"))
  | ((with_reducible apply v_its); (· walk_at "dn"))
  | with_reducible assumption)
local macro_rules | `(tactic| walk_at "dt") => `(tactic| first
  | with_reducible exact v_c | with_reducible exact v_nil | with_reducible exact v_no
  | ((with_reducible apply v_var); (· rfl); (· rfl))
  | ((with_reducible apply v_2) <;> walk_at "dt")
  | ((with_reducible apply v_1) <;> walk_at "dt")
  | ((with_reducible apply v_cons) <;> walk_at "dt")
  | ((with_reducible apply v_blt) <;> walk_at "dt")
  | ((with_reducible apply v_call) <;> walk_at "dt")
  | ((with_reducible apply v_tup) <;> walk_at "dt")
  | ((with_reducible apply v_lst) <;> walk_at "dt")
  | ((with_reducible apply v_po) <;> walk_at "dt")
  | ((with_reducible apply v_sl) <;> walk_at "dt")
  | ((with_reducible apply v_m1) <;> walk_at "dt")
  | ((with_reducible apply v_b) <;> walk_at "dt")
  | ((with_reducible apply v_notV) <;> walk_at "dt")
  | ((with_reducible apply v_not) <;> walk_at "dt")
  | ((with_reducible apply v_rng1) <;> first | omega | walk_at "dt")
  | ((with_reducible apply v_rng2) <;> first | omega | walk_at "dt")
  | walk_at "dg"
  | (show List.length _ ≤ sizeLine; first | decide | (simp only [List.length_cons, List.length_nil]; decide))
  | skip)
local macro_rules | `(tactic| walk_at "ds") => `(tactic| first
  | ((with_reducible apply w_ss) <;> first | walk_at "d1" | skip)
  | ((with_reducible apply w_r) <;> first | walk_at "d1" | skip)
  | ((with_reducible apply w_sp) <;> first | walk_at "d1" | skip)
  | ((with_reducible apply w_so) <;> first | walk_at "d1" | skip)
  | (with_reducible apply w_sv)
  | (with_reducible apply w_sq))
local macro_rules | `(tactic| walk_at "dx") => `(tactic| simp only [put, jn, List.set_cons_zero, List.set_cons_succ])
noncomputable def m_nearest : En → Option Fl :=
  (fSeq (fSet 3 (fCall n_beats (fCons (fV 1) fNil)))
  (fSeq (fSet 4 (fCall n_whole_part (fCons (fTup (fCons (f2 mulD (f2 ixD (fV 2) (fC (.int 0))) (f2 ixD (fV 3) (fC (.int 1)))) (fCons (f2 mulD (f2 ixD (fV 2) (fC (.int 1))) (f2 ixD (fV 3) (fC (.int 0)))) fNil))) fNil)))
  (fSeq (fSet 5 (fC .non))
  (fSeq (fFor (fRng2 (fCons (f2 mulD (fV 4) (f2 ixD (fV 1) (fC (.int 0)))) (fCons (f2 addD (f2 mulD (f2 addD (fV 4) (fC (.int 1))) (f2 ixD (fV 1) (fC (.int 0)))) (fC (.int 1))) fNil))) (gN 6)
    (fSeq (fSet 7 (fCall n_less (fCons (fV 2) (fCons (fCall n_step_time (fCons (fV 0) (fCons (fV 1) (fCons (fV 6) fNil)))) fNil))))
    (fIfS (fOr (fB (f2 isD (fV 5) (fC .non))) (fB (fCall n_is_less (fCons (fCall n_size (fCons (fV 7) fNil)) (fCons (fCall n_size (fCons (f2 ixD (fV 5) (fC (.int 1))) fNil)) fNil)))))
      (fSet 5 (fTup (fCons (fV 6) (fCons (fV 7) fNil))))
      fPass)))
  (fRet (fV 5))))))
noncomputable def n_nearest : List D → Option D := semOf 8 3 m_nearest
/-- the earliest of the least -/
structure IsBest (f : Nat → Nat) (m n k : Nat) : Prop where
  lo : m ≤ k
  hi : k ≤ n
  b : ∀ j, m ≤ j → j < k → f k < f j
  a : ∀ j, k < j → j ≤ n → f k ≤ f j
theorem IsBest.uniq {f : Nat → Nat} {lo hi k k' : Nat} (h : IsBest f lo hi k) (h' : IsBest f lo hi k') : k = k' := by
  rcases Nat.lt_trichotomy k k' with q | q | q
  · have := h'.b k h.lo q
    have := h.a k' q h'.hi
    omega
  · exact q
  · have := h.b k' h'.lo q
    have := h'.a k q h.hi
    omega
theorem IsBest.next {f : Nat → Nat} {lo hi k : Nat} (h : IsBest f lo hi k) : if f (hi + 1) < f k then IsBest f lo (hi + 1) (hi + 1) else IsBest f lo (hi + 1) k := by
  have h1 := h.lo
  have h2 := h.hi
  split
  · rename_i q
    refine ⟨by omega, by omega, fun j j1 j2 => ?_, fun j j1 j2 => by omega⟩
    rcases Nat.lt_trichotomy j k with w | w | w
    · have := h.b j j1 w
      omega
    · subst w
      exact q
    · have := h.a j w (by omega)
      omega
  · rename_i q
    refine ⟨h1, by omega, h.b, fun j j1 j2 => ?_⟩
    by_cases w : j ≤ hi
    · exact h.a j j1 w
    · have : j = hi + 1 := by omega
      subst this
      omega
theorem IsBest.first (f : Nat → Nat) (lo : Nat) : IsBest f lo lo lo := ⟨Nat.le_refl _, Nat.le_refl _, fun j j1 j2 => by omega, fun j j1 j2 => by omega⟩
/-- a longer way, in which all else is farther -/
theorem IsBest.wide {f : Nat → Nat} {lo hi lo' hi' k : Nat} (h : IsBest f lo hi k) (h1 : lo' ≤ lo) (h2 : hi ≤ hi') (hl : ∀ j, j < lo → f lo < f j) (hh : ∀ j, hi < j → f hi < f j) : IsBest f lo' hi' k := by
  have k1 := h.lo
  have k2 := h.hi
  have fl : f k ≤ f lo := by
    rcases Nat.lt_or_eq_of_le k1 with q | q
    · exact Nat.le_of_lt (h.b lo (Nat.le_refl _) q)
    · rw [q]; exact Nat.le_refl _
  have fh : f k ≤ f hi := by
    rcases Nat.lt_or_eq_of_le k2 with q | q
    · exact h.a hi q (Nat.le_refl _)
    · rw [← q]; exact Nat.le_refl _
  refine ⟨by omega, by omega, fun j j1 j2 => ?_, fun j j1 j2 => ?_⟩
  · by_cases q : lo ≤ j
    · exact h.b j q j2
    · have := hl j (by omega)
      omega
  · by_cases q : j ≤ hi
    · exact h.a j j1 q
    · have := hh j (by omega)
      omega
/-- the time of a step in parts of 1 / (sb * g * c); how far off -/
def tau (sa sb s c k : Nat) : Nat := stT sa sb s k * c
def off (sa sb s c T k : Nat) : Int := (T : Int) - (tau sa sb s c k : Nat)
def far (sa sb s c T k : Nat) : Nat := (off sa sb s c T k).natAbs
theorem tau_lt {sa sb s c : Nat} (hs : 0 < s) (hc : 0 < c) (w : Swg sa sb) : ∀ {j k : Nat}, j < k → tau sa sb s c j < tau sa sb s c k := by
  have one : ∀ k, tau sa sb s c k < tau sa sb s c (k + 1) := fun k => Nat.mul_lt_mul_of_pos_right (stT_lt hs w) hc
  intro j k h
  induction k with
  | zero => omega
  | succ k ih =>
    by_cases q : j = k
    · subst q
      exact one j
    · exact Nat.lt_trans (ih (by omega)) (one k)
theorem tau_mul {sa sb s c : Nat} (hs : 0 < s) (n : Nat) : tau sa sb s c (n * s) = n * (s * (sb * c)) := by
  unfold tau stT
  rw [Nat.mul_div_cancel _ hs, Nat.mul_mod_left]
  simp
  grind
theorem e_wpart {a : Int} {d : Nat} (h0 : 0 < d) (h : d < 1073741824) : n_whole_part [.tup [.int a, .int (d : Nat)]] = some (.int (a / (d : Nat))) := by
  refine sem_rt rfl ?_
  show m_whole_part [some (.tup [.int a, .int (d : Nat)])] = _
  unfold m_whole_part
  exact ret_of (v_2 (v_2 (v_var rfl rfl) v_c rfl) (v_2 (v_var rfl rfl) v_c rfl) (fdiv_i (by omega)))
theorem turn_eq {a c' : Int} {d e T s g sb c : Nat} (hd : 0 < d) (he : 0 < e) (hs : 0 < s) (hg : 0 < g) (hb : 0 < sb) (hc : 0 < c) (h1 : a * ((sb * g * c : Nat) : Int) = (T : Int) * d) (h2 : c' * (g : Nat) = (s : Int) * e) (hc' : 0 < c') :
    (a * (e : Int)) / ((d : Int) * c') = ((T / (s * (sb * c)) : Nat) : Int) := by
  rw [Int.natCast_ediv]
  have hL : (0 : Int) < ((sb * g * c : Nat) : Int) * g := Int.mul_pos (by have := Nat.mul_pos (Nat.mul_pos hb hg) hc; omega) (by omega)
  have hde : (0 : Int) < (g : Int) * (d * e) := Int.mul_pos (by omega) (Int.mul_pos (by omega) (by omega))
  rw [← Int.mul_ediv_mul_of_pos_left (a * (e : Int)) ((d : Int) * c') hL, ← Int.mul_ediv_mul_of_pos_left ((T : Nat) : Int) ((s * (sb * c) : Nat) : Int) hde]
  have e1 : a * (e : Int) * (((sb * g * c : Nat) : Int) * g) = (T : Int) * ((g : Int) * (d * e)) := by
    have : a * (e : Int) * (((sb * g * c : Nat) : Int) * g) = (a * ((sb * g * c : Nat) : Int)) * (e * g) := by grind
    rw [this, h1]
    grind
  have e2 : (d : Int) * c' * (((sb * g * c : Nat) : Int) * g) = ((s * (sb * c) : Nat) : Int) * ((g : Int) * (d * e)) := by
    have : (d : Int) * c' * (((sb * g * c : Nat) : Int) * g) = (c' * g) * (d * ((sb * g * c : Nat) : Int)) := by grind
    rw [this, h2]
    simp only [Int.natCast_mul]
    grind
  rw [e1, e2]
structure NearOk (sa sb s g c T : Nat) : Prop where
  w : Swg sa sb
  s0 : 0 < s
  s1 : s ≤ 16
  g0 : 0 < g
  c0 : 0 < c
  sm : sb * g * c * (sb * g) < 1073741824
  ss : sb * g * c * 16 < 1073741824
  tm : T / (s * (sb * c)) < 1000
theorem e_off {sa sb c T k : Nat} {p : Pt} (h : NearOk sa sb p.s p.g c T) (hk : k < 100000) : n_less [frD (T : Nat) (sb * p.g * c), frD (stT sa sb p.s k : Nat) (sb * p.g)] = some (frD (off sa sb p.s c T k) (sb * p.g * c)) := by
  have L0 : 0 < sb * p.g := Nat.mul_pos h.w.b0 h.g0
  rw [e_less (Nat.mul_pos L0 h.c0) L0 h.sm]
  congr 1
  refine frD_of (Nat.mul_pos (Nat.mul_pos L0 h.c0) L0) (Nat.mul_pos L0 h.c0) ?_
  unfold off tau
  simp only [Int.natCast_mul]
  grind
theorem e_nearest {sa sb c T : Nat} {p : Pt} (h : NearOk sa sb p.s p.g c T) : ∃ k, IsBest (far sa sb p.s c T) (T / (p.s * (sb * c)) * p.s) (T / (p.s * (sb * c)) * p.s + p.s) k ∧ k < 20000 ∧ n_nearest [pr (sa : Nat) sb, ptD p, frD (T : Nat) (sb * p.g * c)] = some (.tup [.int (k : Nat), frD (off sa sb p.s c T k) (sb * p.g * c)]) := by
  have hs0 := h.s0
  have hs1 := h.s1
  have hg0 := h.g0
  have hb0 := h.w.b0
  have hsm := h.sm
  have htm := h.tm
  have L0 : 0 < sb * p.g := Nat.mul_pos hb0 hg0
  have LL : 0 < sb * p.g * c := Nat.mul_pos L0 h.c0
  have Lle : sb * p.g ≤ sb * p.g * c := Nat.le_mul_of_pos_right _ h.c0
  have gle : p.g ≤ sb * p.g := Nat.le_mul_of_pos_left _ hb0
  have Lsq : sb * p.g * c ≤ sb * p.g * c * (sb * p.g) := Nat.le_mul_of_pos_right _ L0
  have hsq : sb * p.g * (sb * p.g) < 1073741824 := Nat.lt_of_le_of_lt (Nat.mul_le_mul_right _ Lle) hsm
  obtain ⟨a, d, f1, d0, d1, f2', f3, _⟩ := frD_parts ((T : Nat) : Int) LL
  obtain ⟨c', e, g1, e0, e1, g2, g3, _⟩ := frD_parts ((p.s : Nat) : Int) hg0
  have hc' : 0 < c' := by
    rcases Int.lt_or_le 0 c' with q | q
    · exact q
    · have : c' * (p.g : Nat) ≤ 0 := Int.mul_nonpos_of_nonpos_of_nonneg q (by omega)
      have : (0 : Int) < (p.s : Int) * e := Int.mul_pos (by omega) (by omega)
      omega
  obtain ⟨c'', rfl⟩ : ∃ z : Nat, c' = (z : Int) := ⟨c'.toNat, by omega⟩
  have hcs : c'' ≤ p.s := by
    have hn : c'' * p.g = p.s * e := by
      have : ((c'' * p.g : Nat) : Int) = ((p.s * e : Nat) : Int) := by simpa using g2
      omega
    have : p.s * e ≤ p.s * p.g := Nat.mul_le_mul_left _ e1
    rw [← hn] at this
    exact Nat.le_of_mul_le_mul_right this hg0
  have hdc : d * c'' ≤ sb * p.g * c * 16 := Nat.mul_le_mul d1 (by omega)
  have hss := h.ss
  have hturn := turn_eq (a := a) (c' := (c'' : Int)) d0 e0 hs0 hg0 hb0 h.c0 f2' g2 hc'
  generalize hq : T / (p.s * (sb * c)) = q at *
  have eT : ∀ env : En, env[2]? = some (some (frD (T : Nat) (sb * p.g * c))) → env[3]? = some (some (frD (p.s : Nat) p.g)) → fCall n_whole_part (fCons (fTup (fCons (f2 mulD (f2 ixD (fV 2) (fC (.int 0))) (f2 ixD (fV 3) (fC (.int 1)))) (fCons (f2 mulD (f2 ixD (fV 2) (fC (.int 1))) (f2 ixD (fV 3) (fC (.int 0)))) fNil))) fNil) env = some (.int (q : Nat)) := fun env h2 h3 => by
    rw [f1] at h2
    rw [g1] at h3
    refine v_call (v_cons (v_tup (ds := [.int (a * (e : Nat)), .int ((d * c'' : Nat) : Int)]) (v_cons (v_2 (v_2 (v_var h2 rfl) v_c rfl) (v_2 (v_var h3 rfl) v_c rfl) (mul_i (by omega))) (v_cons (v_2 (v_2 (v_var h2 rfl) v_c rfl) (v_2 (v_var h3 rfl) v_c rfl) (mul_n (.inl (by omega)))) v_nil)) (show 2 ≤ sizeLine by decide)) v_nil) ?_
    rw [e_wpart (Nat.mul_pos d0 (by omega)) (by omega), Int.natCast_mul, hturn]
  have qs : q * p.s ≤ 1000 * 16 := Nat.mul_le_mul (by omega) hs1
  have qs1 : (q + 1) * p.s ≤ 1001 * 16 := Nat.mul_le_mul (by omega) hs1
  suffices key : ∃ k, IsBest (far sa sb p.s c T) (q * p.s) (q * p.s + p.s) k ∧ m_nearest [some (pr (sa : Nat) sb), some (ptD p), some (frD (T : Nat) (sb * p.g * c)), none, none, none, none, none] = some (.rt (.tup [.int (k : Nat), frD (off sa sb p.s c T k) (sb * p.g * c)])) by
    obtain ⟨k, k1, k2⟩ := key
    exact ⟨k, k1, by have := k1.hi; omega, sem_rt rfl k2⟩
  have loop := for_st (g := gN 6) (B := (fSeq (fSet 7 (fCall n_less (fCons (fV 2) (fCons (fCall n_step_time (fCons (fV 0) (fCons (fV 1) (fCons (fV 6) fNil)))) fNil))))
    (fIfS (fOr (fB (f2 isD (fV 5) (fC .non))) (fB (fCall n_is_less (fCons (fCall n_size (fCons (fV 7) fNil)) (fCons (fCall n_size (fCons (f2 ixD (fV 5) (fC (.int 1))) fNil)) fNil)))))
      (fSet 5 (fTup (fCons (fV 6) (fCons (fV 7) fNil))))
      fPass)))
    (env := [some (pr (sa : Nat) sb), some (ptD p), some (frD (T : Nat) (sb * p.g * c)), some (frD (p.s : Nat) p.g), some (.int (q : Nat)), some .non, none, none]) (fun i : Nat => D.int (((q * p.s : Nat) : Int) + (i : Nat))) (fun d : D => [(5, d)]) [6, 7]
    (fun pre d => if pre.length = 0 then d = .non else ∃ k, IsBest (far sa sb p.s c T) (q * p.s) (q * p.s + (pre.length - 1)) k ∧ d = .tup [.int (k : Nat), frD (off sa sb p.s c T k) (sb * p.g * c)]) (List.range (p.s + 1)) .non rfl rfl ?_
  · obtain ⟨d, w, hI, lp⟩ := loop
    rw [List.length_range, if_neg (by omega)] at hI
    obtain ⟨k, k1, rfl⟩ := hI
    refine ⟨k, by rw [show p.s + 1 - 1 = p.s by omega] at k1; exact k1, ?_⟩
    unfold m_nearest
    refine w_ss (v_call (v_cons (v_var rfl rfl) v_nil) (e_beats (s := p.s) (g := p.g) hg0 (by omega))) ?_
    refine w_ss (eT _ rfl rfl) ?_
    refine w_ss v_c ?_
    walk_at "dx"
    refine w_sfor (ds := (List.range (p.s + 1)).map fun i : Nat => D.int (((q * p.s : Nat) : Int) + (i : Nat))) ?_ lp ?_
    · have := v_rng2 (m := ((q * p.s : Nat) : Int)) (n := (((q + 1) * p.s + 1 : Nat) : Int)) (fs := fCons (f2 mulD (fV 4) (f2 ixD (fV 1) (fC (.int 0)))) (fCons (f2 addD (f2 mulD (f2 addD (fV 4) (fC (.int 1))) (f2 ixD (fV 1) (fC (.int 0)))) (fC (.int 1))) fNil)) (env := [some (pr (sa : Nat) sb), some (ptD p), some (frD (T : Nat) (sb * p.g * c)), some (frD (p.s : Nat) p.g), some (.int (q : Nat)), some .non, none, none]) (v_cons (v_2 (v_var rfl rfl) (v_2 (v_var rfl rfl) v_c rfl) (mul_n (.inl (by omega)))) (v_cons (v_2 (v_2 (v_2 (v_var rfl rfl) v_c (add_n (b := 1))) (v_2 (v_var rfl rfl) v_c rfl) (mul_n (.inl (by omega)))) v_c (add_n (b := 1))) v_nil)) (by omega)
      rw [this]
      rw [show ((((q + 1) * p.s + 1 : Nat) : Int) - ((q * p.s : Nat) : Int)).toNat = p.s + 1 by rw [Nat.succ_mul]; omega]
    · exact ret_of (v_var rfl rfl)
  · intro pre i r d w hp hI
    obtain ⟨i1, i2, i3⟩ := range_at hp
    have hk : q * p.s + i < 20000 := by omega
    have hst := e_step_time (sa := sa) (sb := sb) (k := q * p.s + i) (p := p) hb0 hs0 (by omega) hg0 hsq (by omega)
    have hof := e_off h (k := q * p.s + i) (by omega)
    have off7 : fCall n_less (fCons (fV 2) (fCons (fCall n_step_time (fCons (fV 0) (fCons (fV 1) (fCons (fV 6) fNil)))) fNil)) [some (pr (sa : Nat) sb), some (ptD p), some (frD (T : Nat) (sb * p.g * c)), some (frD (p.s : Nat) p.g), some (.int (q : Nat)), some d, some (.int (((q * p.s : Nat) : Int) + (i : Nat))), w 7] = some (frD (off sa sb p.s c T (q * p.s + i)) (sb * p.g * c)) := by
      rw [show ((q * p.s : Nat) : Int) + (i : Nat) = ((q * p.s + i : Nat) : Int) by omega]
      exact v_call (v_cons (v_var rfl rfl) (v_cons (v_call (v_cons (v_var rfl rfl) (v_cons (v_var rfl rfl) (v_cons (v_var rfl rfl) v_nil))) hst) v_nil)) hof
    by_cases hpre : pre.length = 0
    · rw [if_pos hpre] at hI
      subst hI
      have hi0 : i = 0 := by omega
      subst hi0
      refine ⟨_, .tup [.int ((q * p.s : Nat) : Int), frD (off sa sb p.s c T (q * p.s)) (sb * p.g * c)], ?_, rfl, ?_⟩
      · rw [if_neg (by simp)]
        refine ⟨q * p.s, ?_, rfl⟩
        rw [List.length_append, List.length_singleton, hpre]
        exact IsBest.first _ _
      · walk_at "dx"
        apply en_w
        · refine w_ss off7 (w_ift (v_ort (v_b (v_2 (v_var rfl rfl) v_c rfl))) (w_set (v_tup (v_cons (v_var rfl rfl) (v_cons (v_var rfl rfl) v_nil)) (show 2 ≤ sizeLine by decide)) rfl))
        · simp only [Nat.add_zero, Int.add_zero, Int.natCast_zero]
          rfl
    · rw [if_neg hpre] at hI
      obtain ⟨k, k1, rfl⟩ := hI
      have hnext := k1.next
      have hlen : pre.length = i := i1.symm
      rw [hlen, show q * p.s + (i - 1) + 1 = q * p.s + i by omega] at hnext
      have hil : n_is_less [frD ((far sa sb p.s c T (q * p.s + i) : Nat) : Int) (sb * p.g * c), frD ((far sa sb p.s c T k : Nat) : Int) (sb * p.g * c)] = some (.bl (decide (far sa sb p.s c T (q * p.s + i) < far sa sb p.s c T k))) := by
        rw [e_isless1 LL (by omega)]
        exact congrArg (fun k => some (D.bl k)) (decide_eq_decide.mpr (by omega))
      have htest : ∀ x7, x7 = some (frD (off sa sb p.s c T (q * p.s + i)) (sb * p.g * c)) → fOr (fB (f2 isD (fV 5) (fC .non))) (fB (fCall n_is_less (fCons (fCall n_size (fCons (fV 7) fNil)) (fCons (fCall n_size (fCons (f2 ixD (fV 5) (fC (.int 1))) fNil)) fNil)))) [some (pr (sa : Nat) sb), some (ptD p), some (frD (T : Nat) (sb * p.g * c)), some (frD (p.s : Nat) p.g), some (.int (q : Nat)), some (.tup [.int (k : Nat), frD (off sa sb p.s c T k) (sb * p.g * c)]), some (.int (((q * p.s : Nat) : Int) + (i : Nat))), x7] = some (decide (far sa sb p.s c T (q * p.s + i) < far sa sb p.s c T k)) := fun x7 hx7 => by
        subst hx7
        exact v_orf (v_b (v_2 (v_var rfl rfl) v_c rfl)) (v_b (v_call (v_cons (v_call (v_cons (v_var rfl rfl) v_nil) (e_size LL)) (v_cons (v_call (v_cons (v_2 (v_var rfl rfl) v_c rfl) v_nil) (e_size LL)) v_nil)) hil))
      by_cases hlt : far sa sb p.s c T (q * p.s + i) < far sa sb p.s c T k
      · rw [if_pos hlt] at hnext
        refine ⟨_, .tup [.int ((q * p.s + i : Nat) : Int), frD (off sa sb p.s c T (q * p.s + i)) (sb * p.g * c)], ?_, rfl, ?_⟩
        · rw [if_neg (by simp)]
          refine ⟨q * p.s + i, ?_, rfl⟩
          rw [List.length_append, List.length_singleton, hlen, show i + 1 - 1 = i by omega]
          exact hnext
        · walk_at "dx"
          apply en_w
          · refine w_ss off7 (w_ift ((htest _ rfl).trans (by rw [decide_eq_true hlt])) (w_set (v_tup (v_cons (v_var rfl rfl) (v_cons (v_var rfl rfl) v_nil)) (show 2 ≤ sizeLine by decide)) rfl))
          · rw [show ((q * p.s : Nat) : Int) + (i : Nat) = ((q * p.s + i : Nat) : Int) by omega]
            rfl
      · rw [if_neg hlt] at hnext
        refine ⟨_, .tup [.int (k : Nat), frD (off sa sb p.s c T k) (sb * p.g * c)], ?_, rfl, ?_⟩
        · rw [if_neg (by simp)]
          refine ⟨k, ?_, rfl⟩
          rw [List.length_append, List.length_singleton, hlen, show i + 1 - 1 = i by omega]
          exact hnext
        · walk_at "dx"
          apply en_w
          · exact w_ss off7 (w_iff ((htest _ rfl).trans (by rw [decide_eq_false hlt])) w_pass)
          · rfl
end Dn
set_option Elab.async false
set_option linter.all false
set_option maxRecDepth 100000
/-! Strikes put right. -/
namespace Dn
open PySem L2
local macro_rules | `(tactic| walk_at "dg") => `(tactic| first
  | with_reducible exact add_i _ _ | with_reducible exact sub_i _ _ | ((with_reducible refine mul_i ?_); omega) | ((with_reducible refine fdiv_i ?_); omega) | ((with_reducible refine mod_i ?_); omega) | with_reducible exact neg_i _
  | with_reducible exact lt_i _ _ | with_reducible exact le_i _ _ | with_reducible exact gt_i _ _ | with_reducible exact ge_i _ _ | with_reducible exact eq_i _ _ | with_reducible exact ne_i _ _ | with_reducible exact eq_s _ _ | with_reducible exact ne_s _ _
  | ((with_reducible refine add_s ?_); omega) | ((with_reducible refine add_t ?_); omega) | ((with_reducible refine add_l ?_); omega) | ((with_reducible refine mul_s ?_); omega) | ((with_reducible refine mul_l ?_); omega)
  | ((with_reducible refine len_s ?_); omega) | with_reducible exact len_t _ | with_reducible exact len_l _ | with_reducible exact len_c _ | with_reducible exact int_b _ | with_reducible exact int_i _ | with_reducible exact abs_i _
  | ((with_reducible refine sl_s ?_); omega) | with_reducible exact sl_t _ _ _ | with_reducible exact sl_l _ _ _ | ((with_reducible apply ix_t); (· omega); (· rfl)) | ((with_reducible apply ix_l); (· omega); (· rfl)) | with_reducible assumption)
local macro_rules | `(tactic| walk_at "dc") => `(tactic| with_reducible assumption)
local macro_rules | `(tactic| walk_at "dn") => `(tactic| first
  | with_reducible exact v_c | with_reducible exact v_nil | with_reducible exact v_no
  | ((with_reducible apply v_var); (· rfl); (· rfl))
  | ((with_reducible apply v_2); (· walk_at "dn"); (· walk_at "dn"); (· walk_at "dg"))
  | ((with_reducible apply v_1); (· walk_at "dn"); (· walk_at "dg"))
  | ((with_reducible apply v_cons); (· walk_at "dn"); (· walk_at "dn"))
  | ((with_reducible apply v_blt); (· walk_at "dn"); (· walk_at "dg"))
  | ((with_reducible apply v_call); (· walk_at "dn"); (· walk_at "dc"))
  | ((with_reducible apply v_tup); (· walk_at "dn"); (· first | decide | (simp only [List.length_cons, List.length_nil]; decide)))
  | ((with_reducible apply v_lst); (· walk_at "dn"); (· first | decide | (simp only [List.length_cons, List.length_nil]; decide)))
  | ((with_reducible apply v_po); (· walk_at "dn"))
  | ((with_reducible apply v_sl); (· walk_at "dn"); (· walk_at "dn"); (· walk_at "dn"); (· walk_at "dg"))
  | ((with_reducible apply v_m1); (· walk_at "dn"); (· walk_at "dn"); (· walk_at "dg"))
  | ((with_reducible apply v_b); (· walk_at "dn"))
  | ((with_reducible apply v_not); (· walk_at "dn"))
  | ((with_reducible apply v_notV); (· walk_at "dn"))
  | ((with_reducible apply v_rng1); (· walk_at "dn"); (· omega))
  | ((with_reducible apply v_rng2); (· walk_at "dn"); (· omega))
  | ((with_reducible apply v_it); (· walk_at "dn"))
  | ((with_reducible apply v_itl); (· walk_at "dn"))
  | ((with_reducible apply v_its); (· walk_at "dn"))
  | with_reducible assumption)
local macro_rules | `(tactic| walk_at "dt") => `(tactic| first
  | with_reducible exact v_c | with_reducible exact v_nil | with_reducible exact v_no
  | ((with_reducible apply v_var); (· rfl); (· rfl))
  | ((with_reducible apply v_2) <;> walk_at "dt")
  | ((with_reducible apply v_1) <;> walk_at "dt")
  | ((with_reducible apply v_cons) <;> walk_at "dt")
  | ((with_reducible apply v_blt) <;> walk_at "dt")
  | ((with_reducible apply v_call) <;> walk_at "dt")
  | ((with_reducible apply v_tup) <;> walk_at "dt")
  | ((with_reducible apply v_lst) <;> walk_at "dt")
  | ((with_reducible apply v_po) <;> walk_at "dt")
  | ((with_reducible apply v_sl) <;> walk_at "dt")
  | ((with_reducible apply v_m1) <;> walk_at "dt")
  | ((with_reducible apply v_b) <;> walk_at "dt")
  | ((with_reducible apply v_notV) <;> walk_at "dt")
  | ((with_reducible apply v_not) <;> walk_at "dt")
  | ((with_reducible apply v_rng1) <;> first | omega | walk_at "dt")
  | ((with_reducible apply v_rng2) <;> first | omega | walk_at "dt")
  | walk_at "dg"
  | (show List.length _ ≤ sizeLine; first | decide | (simp only [List.length_cons, List.length_nil]; decide))
  | skip)
local macro_rules | `(tactic| walk_at "ds") => `(tactic| first
  | ((with_reducible apply w_ss) <;> first | walk_at "d1" | skip)
  | ((with_reducible apply w_r) <;> first | walk_at "d1" | skip)
  | ((with_reducible apply w_sp) <;> first | walk_at "d1" | skip)
  | ((with_reducible apply w_so) <;> first | walk_at "d1" | skip)
  | (with_reducible apply w_sv)
  | (with_reducible apply w_sq))
local macro_rules | `(tactic| walk_at "dx") => `(tactic| simp only [put, jn, List.set_cons_zero, List.set_cons_succ])
noncomputable def w_put_right : WS :=
  (wSeq (wPS (fSet 5 (fTup (fCons (fV 1) (fCons (fV 2) (fCons (fTup fNil) fNil))))))
    (wSeq (wSet 6 wNewD)
    (wSeq (wPS (fSet 7 (fTup fNil)))
    (wSeq (wFor (fIt (fV 3)) (gN 8)
      (wSeq (wPS (fAsg (fCall n_nearest (fCons (fV 0) (fCons (fV 5) (fCons (f2 ixD (fV 8) (fC (.int 0))) fNil)))) (gT (gCons' (gN 9) (gCons' (gN 10) gNil')))))
      (wIf (wPT (fB (fCall n_is_less (fCons (fV 4) (fCons (fCall n_size (fCons (fV 10) fNil)) fNil)))))
        (wPS (fSet 7 (f2 addD (fV 7) (fTup (fCons (fV 8) fNil)))))
        (wSeq (wSet 11 (wSetd (wP (fV 6)) (wP (f2 ixD (fV 8) (fC (.int 1)))) (wNewL (fNM (fLst (fCons (fC (.str [46])) fNil)) (fV 1)))))
        (wIf (wPT (fB (f2 ixD (fV 8) (fC (.int 2)))))
          (wLPut (wP (fV 11)) (wP (f2 modD (fV 9) (fV 1))) (wP (fC (.str [88]))))
          (wIf (wB (w2 eqD (wLIx (wP (fV 11)) (wP (f2 modD (fV 9) (fV 1)))) (wP (fC (.str [46])))))
            (wLPut (wP (fV 11)) (wP (f2 modD (fV 9) (fV 1))) (wP (fC (.str [120]))))
            wPass))))))
    (wSeq (wFrzD 6) (wPS (fRet (fTup (fCons (fTup (fCons (fV 1) (fCons (fV 2) (fCons (f1 tupD (fLc (fIt (fBlt sortKG (fCons (fV 6) fNil))) (gN 12) fYes (fTup (fCons (fV 12) (fCons (fM1 joinD (fC (.str [])) (f2 dixD (fV 6) (fV 12))) fNil))) [12])) fNil)))) (fCons (fV 7) fNil))))))))))
noncomputable def wn_put_right : WF := semW 13 5 w_put_right
open Classical in
/-- the nearest step -/
noncomputable def nk (sa sb s c T : Nat) : Nat := if h : ∃ k, IsBest (far sa sb s c T) (T / (s * (sb * c)) * s) (T / (s * (sb * c)) * s + s) k then choose h else 0
theorem nk_best {sa sb c T : Nat} {p : Pt} (h : NearOk sa sb p.s p.g c T) : IsBest (far sa sb p.s c T) (T / (p.s * (sb * c)) * p.s) (T / (p.s * (sb * c)) * p.s + p.s) (nk sa sb p.s c T) := by
  obtain ⟨k, hk, _⟩ := e_nearest h
  unfold nk
  rw [dif_pos ⟨k, hk⟩]
  exact Classical.choose_spec _
theorem e_near {sa sb c T : Nat} {p : Pt} (h : NearOk sa sb p.s p.g c T) : nk sa sb p.s c T < 20000 ∧ n_nearest [pr (sa : Nat) sb, ptD p, frD (T : Nat) (sb * p.g * c)] = some (.tup [.int (nk sa sb p.s c T : Nat), frD (off sa sb p.s c T (nk sa sb p.s c T)) (sb * p.g * c)]) := by
  obtain ⟨k, hk, hl, e⟩ := e_nearest h
  have := hk.uniq (nk_best h)
  subst this
  exact ⟨hl, e⟩
/-! rows -/
def mark (row : List Nat) (i : Nat) (b : Bool) : List Nat := if b = true then row.set i 88 else if row.getD i 46 = 46 then row.set i 120 else row
def rest (s : Nat) : List Nat := List.replicate s 46
abbrev Rows := List (Nat × List Nat)
def getR (R : Rows) (k : Nat) : Option (List Nat) := (R.find? fun q => decide (q.1 = k)).map (·.2)
def setR (R : Rows) (k : Nat) (r : List Nat) : Rows := if (R.any fun q => decide (q.1 = k)) = true then R.map (fun q => if q.1 = k then (q.1, r) else q) else R ++ [(k, r)]
def updR (s : Nat) (R : Rows) (k i : Nat) (b : Bool) : Rows := setR R k (mark ((getR R k).getD (rest s)) i b)
theorem mark_len (row : List Nat) (i : Nat) (b : Bool) : (mark row i b).length = row.length := by
  unfold mark
  split
  · simp
  · split <;> simp
/-- what a row may hold -/
def RowIs (s : Nat) (r : List Nat) : Prop := r.length = s ∧ ∀ c ∈ r, c = 46 ∨ c = 120 ∨ c = 88
def RowsOk (s : Nat) (R : Rows) : Prop := (R.map Prod.fst).Nodup ∧ ∀ q ∈ R, RowIs s q.2
theorem rest_is (s : Nat) : RowIs s (rest s) := ⟨by simp [rest], fun c hc => .inl (List.eq_of_mem_replicate hc)⟩
theorem mem_set {α : Type} {l : List α} {i : Nat} {a x : α} (h : x ∈ l.set i a) : x = a ∨ x ∈ l := by
  rcases List.mem_or_eq_of_mem_set h with h | h
  · exact .inr h
  · exact .inl h
theorem mark_is {s : Nat} {r : List Nat} (h : RowIs s r) (i : Nat) (b : Bool) : RowIs s (mark r i b) := by
  refine ⟨by rw [mark_len]; exact h.1, fun c hc => ?_⟩
  unfold mark at hc
  split at hc
  · rcases mem_set hc with rfl | hc
    · exact .inr (.inr rfl)
    · exact h.2 c hc
  · split at hc
    · rcases mem_set hc with rfl | hc
      · exact .inr (.inl rfl)
      · exact h.2 c hc
    · exact h.2 c hc
theorem getR_is {s : Nat} {R : Rows} (h : RowsOk s R) (k : Nat) : RowIs s ((getR R k).getD (rest s)) := by
  unfold getR
  cases e : R.find? fun q => decide (q.1 = k) with
  | none => exact rest_is s
  | some q => exact h.2 q (List.mem_of_find?_eq_some e)
theorem setR_keys (R : Rows) (k : Nat) (r : List Nat) : (setR R k r).map Prod.fst = if (R.any fun q => decide (q.1 = k)) = true then R.map Prod.fst else R.map Prod.fst ++ [k] := by
  unfold setR
  split
  · rw [List.map_map]
    refine List.map_congr_left fun q _ => ?_
    show (if q.1 = k then (q.1, r) else q).1 = q.1
    split <;> rfl
  · simp
theorem setR_ok {s : Nat} {R : Rows} (h : RowsOk s R) {k : Nat} {r : List Nat} (hr : RowIs s r) : RowsOk s (setR R k r) := by
  refine ⟨?_, fun q hq => ?_⟩
  · rw [setR_keys]
    split
    · exact h.1
    · rename_i hn
      rw [List.nodup_append]
      refine ⟨h.1, by simp, fun a ha b hb e => ?_⟩
      have hb' : b = k := by simpa using hb
      subst hb' e
      obtain ⟨q, hq, e⟩ := List.mem_map.mp ha
      apply hn
      rw [List.any_eq_true]
      exact ⟨q, hq, by simpa using e⟩
  · unfold setR at hq
    split at hq
    · obtain ⟨q', hq', rfl⟩ := List.mem_map.mp hq
      split
      · exact hr
      · exact h.2 q' hq'
    · rcases List.mem_append.mp hq with hq | hq
      · exact h.2 q hq
      · have : q = (k, r) := by simpa using hq
        rw [this]
        exact hr
theorem updR_ok {s : Nat} {R : Rows} (h : RowsOk s R) (k i : Nat) (b : Bool) : RowsOk s (updR s R k i b) := setR_ok h (mark_is (getR_is h k) i b)
theorem setR_len (R : Rows) (k : Nat) (r : List Nat) : (setR R k r).length ≤ R.length + 1 := by
  unfold setR
  split <;> simp
/-! the fold -/
structure PutSt where
  R : Rows
  lost : List Stk
def putS (s : Nat) (nkf : Nat → Nat) (tf : Nat → Bool) (z : PutSt) (x : Stk) : PutSt := if tf x.1 = true then ⟨z.R, z.lost ++ [x]⟩ else ⟨updR s z.R x.2.1 (nkf x.1 % s) x.2.2, z.lost⟩
/-- told as a pattern and what is lost -/
def rowD (R : Rows) (k : List Nat) : D := .tup [.str k, .str (((R.find? fun q => decide ([q.1] = k)).map (·.2)).getD [])]
def resD (s g L : Nat) (z : PutSt) : D := .tup [.tup [.int (s : Nat), .int (g : Nat), .tup ((sortKeys (z.R.map fun q => [q.1])).map (rowD z.R))], .tup (z.lost.map (skD L))]
/-! the heap of put_right -/
abbrev RowsL := List (Nat × Addr × List Nat)
def cellsOf (RL : RowsL) : List (List Nat × D) := RL.map fun q => ([q.1], .adr q.2.1)
def rowsOf (RL : RowsL) : Rows := RL.map fun q => (q.1, q.2.2)
def sgn (r : List Nat) : List D := r.map fun c => D.str [c]
structure PR (st : Sto) (a : Addr) (RL : RowsL) : Prop where
  d : st a = some (.dct (cellsOf RL))
  l : ∀ q ∈ RL, st q.2.1 = some (.lst (sgn q.2.2))
  nd : (RL.map fun q => q.2.1).Nodup
theorem PR.ne {st : Sto} {a : Addr} {RL : RowsL} (h : PR st a RL) : ∀ q ∈ RL, q.2.1 ≠ a := fun q hq e => by
  have := h.l q hq
  rw [e, h.d] at this
  cases this
theorem PR.fresh {st : Sto} {a l : Addr} {RL : RowsL} {c : Cell} (h : PR st a RL) (hl : st l = none) : PR (st.put l c) a RL := ⟨by
  rw [Sto.put_ne (fun e => by rw [← e, h.d] at hl; cases hl)]
  exact h.d, fun q hq => by
  rw [Sto.put_ne (fun e => by rw [← e, h.l q hq] at hl; cases hl)]
  exact h.l q hq, h.nd⟩
theorem find_cells (k : Nat) : ∀ RL : RowsL, findK [k] (cellsOf RL) = (RL.find? fun q => decide (q.1 = k)).map fun q => D.adr q.2.1
  | [] => rfl
  | q :: RL => by
    unfold findK cellsOf at *
    rw [List.map_cons]
    by_cases h : q.1 = k
    · rw [List.find?_cons_of_pos (by simpa using h), List.find?_cons_of_pos (by simpa using h)]
      rfl
    · rw [List.find?_cons_of_neg (by simpa using h), List.find?_cons_of_neg (by simpa using h)]
      exact find_cells k RL
theorem frz_cells {a : Addr} : ∀ {RL : RowsL} {st : Sto}, (∀ q ∈ RL, st q.2.1 = some (.lst (sgn q.2.2))) → (RL.map fun q => q.2.1).Nodup → (∀ q ∈ RL, q.2.1 ≠ a) → ∃ s2, FK st (cellsOf RL) (RL.map fun q => ([q.1], .lst (sgn q.2.2))) s2 ∧ s2 a = st a
  | [], st, _, _, _ => ⟨st, ⟨rfl, rfl⟩, rfl⟩
  | q :: RL, st, h, hn, ha => by
    rw [List.map_cons, List.nodup_cons] at hn
    have hq := h q List.mem_cons_self
    obtain ⟨s2, f, e⟩ := frz_cells (a := a) (RL := RL) (st := st.del q.2.1) (fun q' hq' => by
      rw [Sto.del_ne]
      · exact h q' (List.mem_cons_of_mem _ hq')
      · intro e
        exact hn.1 (by rw [← e]; exact List.mem_map_of_mem (f := fun q : Nat × Addr × List Nat => q.2.1) hq')) hn.2 fun q' hq' => ha q' (List.mem_cons_of_mem _ hq')
    refine ⟨s2, .inl ⟨q.2.1, sgn q.2.2, _, rfl, hq, rfl, f⟩, ?_⟩
    rw [e, Sto.del_ne (ha q List.mem_cons_self).symm]
theorem ixN_nat {n i : Nat} (h : i < n) : ixN n (i : Int) = some i := by
  unfold ixN
  rw [if_pos (by omega), if_pos (by omega)]
  simp
theorem atI_nat {α : Type} {xs : List α} {i : Nat} {x : α} (h : xs[i]? = some x) : atI xs (i : Int) = some x := by
  have hl := (List.getElem?_eq_some_iff.mp h).1
  unfold atI
  rw [ixN_nat hl]
  exact h
theorem rows_at {R1 R2 : Rows} {k : Nat} {r0 : List Nat} (h1 : k ∉ R1.map Prod.fst) (h2 : k ∉ R2.map Prod.fst) (r : List Nat) : getR (R1 ++ (k, r0) :: R2) k = some r0 ∧ setR (R1 ++ (k, r0) :: R2) k r = R1 ++ (k, r) :: R2 := by
  have n1 : ∀ q ∈ R1, ¬ q.1 = k := fun q hq e => h1 (by rw [← e]; exact List.mem_map_of_mem (f := Prod.fst) hq)
  have n2 : ∀ q ∈ R2, ¬ q.1 = k := fun q hq e => h2 (by rw [← e]; exact List.mem_map_of_mem (f := Prod.fst) hq)
  constructor
  · unfold getR
    rw [List.find?_append, List.find?_eq_none.mpr (fun q hq => by simpa using n1 q hq)]
    simp
  · unfold setR
    rw [if_pos (by simp)]
    rw [List.map_append, List.map_cons, if_pos rfl]
    congr 1
    · conv => rhs; rw [← List.map_id R1]
      exact List.map_congr_left fun q hq => if_neg (n1 q hq)
    · congr 1
      conv => rhs; rw [← List.map_id R2]
      exact List.map_congr_left fun q hq => if_neg (n2 q hq)
theorem rows_new {R : Rows} {k : Nat} (h : k ∉ R.map Prod.fst) (r : List Nat) : getR R k = none ∧ setR R k r = R ++ [(k, r)] := by
  have n1 : ∀ q ∈ R, ¬ q.1 = k := fun q hq e => h (by rw [← e]; exact List.mem_map_of_mem (f := Prod.fst) hq)
  constructor
  · unfold getR
    rw [List.find?_eq_none.mpr (fun q hq => by simpa using n1 q hq)]
    rfl
  · unfold setR
    rw [if_neg]
    rw [List.any_eq_true]
    rintro ⟨q, hq, e⟩
    exact n1 q hq (by simpa using e)
/-- one row written -/
theorem PR.write {st : Sto} {a l : Addr} {RL1 RL2 : RowsL} {k : Nat} {r0 r : List Nat} (h : PR st a (RL1 ++ (k, l, r0) :: RL2)) : PR (st.put l (.lst (sgn r))) a (RL1 ++ (k, l, r) :: RL2) := by
  have hne := h.ne (k, l, r0) (by simp)
  have hnd := h.nd
  rw [List.map_append, List.map_cons, List.nodup_append] at hnd
  obtain ⟨d1, d2, d3⟩ := hnd
  rw [List.nodup_cons] at d2
  have cc : cellsOf (RL1 ++ (k, l, r) :: RL2) = cellsOf (RL1 ++ (k, l, r0) :: RL2) := by simp [cellsOf]
  refine ⟨by rw [Sto.put_ne hne.symm, cc]; exact h.d, fun q hq => ?_, ?_⟩
  · rcases List.mem_append.mp hq with hq | hq
    · rw [Sto.put_ne]
      · exact h.l q (by simp [hq])
      · intro e
        exact d3 q.2.1 (List.mem_map_of_mem (f := fun q : Nat × Addr × List Nat => q.2.1) hq) l (by simp) e
    · rcases List.mem_cons.mp hq with rfl | hq
      · exact Sto.put_same _ _ _
      · rw [Sto.put_ne]
        · exact h.l q (by simp [hq])
        · intro e
          exact d2.1 (by show l ∈ _; rw [← e]; exact List.mem_map_of_mem (f := fun q : Nat × Addr × List Nat => q.2.1) hq)
  · rw [List.map_append, List.map_cons, List.nodup_append]
    exact ⟨d1, by rw [List.nodup_cons]; exact d2, d3⟩
theorem sgn_set (r : List Nat) (i c : Nat) : (sgn r).set i (.str [c]) = sgn (r.set i c) := by
  unfold sgn
  rw [List.map_set]
theorem sgn_at {r : List Nat} {i : Nat} (h : i < r.length) : (sgn r)[i]? = some (.str [r.getD i 46]) := by
  unfold sgn
  rw [List.getElem?_map, List.getD_eq_getElem?_getD, List.getElem?_eq_getElem h]
  rfl
theorem joinL_chars : ∀ r : List Nat, joinL [] (r.map fun c => [c]) = r
  | [] => rfl
  | [c] => rfl
  | c :: d :: r => by
    have ih := joinL_chars (d :: r)
    show [c] ++ [] ++ joinL [] ((d :: r).map fun c => [c]) = _
    rw [ih]
    rfl
/-- the question and the writing within put_right -/
theorem r_mark {env : En} {st : Sto} {N : WN} {a l : Addr} {RL1 RL2 : RowsL} {k s n : Nat} {r0 : List Nat} {L : Nat} {x : Stk} (hs : 0 < s) (hl0 : r0.length = s) (h8 : env[8]? = some (some (skD L x))) (h9 : env[9]? = some (some (.int (n : Nat)))) (h1 : env[1]? = some (some (.int (s : Nat)))) (h11 : env[11]? = some (some (.adr l))) (h : PR st a (RL1 ++ (k, l, r0) :: RL2))
    (kk : ∀ st', PR st' a (RL1 ++ (k, l, mark r0 (n % s) x.2.2) :: RL2) → N.nx env st') :
    (wIf (wPT (fB (f2 ixD (fV 8) (fC (.int 2)))))
          (wLPut (wP (fV 11)) (wP (f2 modD (fV 9) (fV 1))) (wP (fC (.str [88]))))
          (wIf (wB (w2 eqD (wLIx (wP (fV 11)) (wP (f2 modD (fV 9) (fV 1)))) (wP (fC (.str [46])))))
            (wLPut (wP (fV 11)) (wP (f2 modD (fV 9) (fV 1))) (wP (fC (.str [120]))))
            wPass)).run env st N := by
  have hlt : n % s < r0.length := by rw [hl0]; exact Nat.mod_lt _ hs
  have hm : f2 modD (fV 9) (fV 1) env = some (.int ((n % s : Nat) : Int)) := v_2 (v_var h9 rfl) (v_var h1 rfl) (mod_n hs)
  have hcell := h.l (k, l, r0) (by simp)
  have hix : ixN (sgn r0).length ((n % s : Nat) : Int) = some (n % s) := ixN_nat (by unfold sgn; rw [List.length_map]; exact hlt)
  refine ⟨x.2.2, v_b (v_2 (v_var h8 rfl) v_c rfl), ?_⟩
  cases hb : x.2.2 with
  | true =>
    rw [hb] at kk
    refine ⟨_, v_c, _, v_var h11 rfl, _, hm, l, _, _, _, rfl, rfl, hcell, hix, ?_⟩
    rw [sgn_set]
    exact kk _ h.write
  | false =>
    rw [hb] at kk
    have hat := sgn_at hlt
    refine ⟨_, v_var h11 rfl, _, hm, l, _, _, _, rfl, rfl, hcell, atI_nat hat, _, v_c, _, eq_s _ _, _, rfl, ?_⟩
    have hd : decide ([r0.getD (n % s) 46] = [46]) = decide (r0.getD (n % s) 46 = 46) := decide_eq_decide.mpr (by simp)
    rw [hd]
    unfold mark at kk
    rw [if_neg (by simp)] at kk
    by_cases h46 : r0.getD (n % s) 46 = 46
    · rw [decide_eq_true h46]
      rw [if_pos h46] at kk
      refine ⟨_, v_c, _, v_var h11 rfl, _, hm, l, _, _, _, rfl, rfl, hcell, hix, ?_⟩
      rw [sgn_set]
      exact kk _ h.write
    · rw [decide_eq_false h46]
      rw [if_neg h46] at kk
      exact kk st h
end Dn
set_option Elab.async false
set_option linter.all false
set_option maxRecDepth 100000
/-! put_right. -/
namespace Dn
open PySem L2
local macro_rules | `(tactic| walk_at "dg") => `(tactic| first
  | with_reducible exact add_i _ _ | with_reducible exact sub_i _ _ | ((with_reducible refine mul_i ?_); omega) | ((with_reducible refine fdiv_i ?_); omega) | ((with_reducible refine mod_i ?_); omega) | with_reducible exact neg_i _
  | with_reducible exact lt_i _ _ | with_reducible exact le_i _ _ | with_reducible exact gt_i _ _ | with_reducible exact ge_i _ _ | with_reducible exact eq_i _ _ | with_reducible exact ne_i _ _ | with_reducible exact eq_s _ _ | with_reducible exact ne_s _ _
  | ((with_reducible refine add_s ?_); omega) | ((with_reducible refine add_t ?_); omega) | ((with_reducible refine add_l ?_); omega) | ((with_reducible refine mul_s ?_); omega) | ((with_reducible refine mul_l ?_); omega)
  | ((with_reducible refine len_s ?_); omega) | with_reducible exact len_t _ | with_reducible exact len_l _ | with_reducible exact len_c _ | with_reducible exact int_b _ | with_reducible exact int_i _ | with_reducible exact abs_i _
  | ((with_reducible refine sl_s ?_); omega) | with_reducible exact sl_t _ _ _ | with_reducible exact sl_l _ _ _ | ((with_reducible apply ix_t); (· omega); (· rfl)) | ((with_reducible apply ix_l); (· omega); (· rfl)) | with_reducible assumption)
local macro_rules | `(tactic| walk_at "dc") => `(tactic| with_reducible assumption)
local macro_rules | `(tactic| walk_at "dn") => `(tactic| first
  | with_reducible exact v_c | with_reducible exact v_nil | with_reducible exact v_no
  | ((with_reducible apply v_var); (· rfl); (· rfl))
  | ((with_reducible apply v_2); (· walk_at "dn"); (· walk_at "dn"); (· walk_at "dg"))
  | ((with_reducible apply v_1); (· walk_at "dn"); (· walk_at "dg"))
  | ((with_reducible apply v_cons); (· walk_at "dn"); (· walk_at "dn"))
  | ((with_reducible apply v_blt); (· walk_at "dn"); (· walk_at "dg"))
  | ((with_reducible apply v_call); (· walk_at "dn"); (· walk_at "dc"))
  | ((with_reducible apply v_tup); (· walk_at "dn"); (· first | decide | (simp only [List.length_cons, List.length_nil]; decide)))
  | ((with_reducible apply v_lst); (· walk_at "dn"); (· first | decide | (simp only [List.length_cons, List.length_nil]; decide)))
  | ((with_reducible apply v_po); (· walk_at "dn"))
  | ((with_reducible apply v_sl); (· walk_at "dn"); (· walk_at "dn"); (· walk_at "dn"); (· walk_at "dg"))
  | ((with_reducible apply v_m1); (· walk_at "dn"); (· walk_at "dn"); (· walk_at "dg"))
  | ((with_reducible apply v_b); (· walk_at "dn"))
  | ((with_reducible apply v_not); (· walk_at "dn"))
  | ((with_reducible apply v_notV); (· walk_at "dn"))
  | ((with_reducible apply v_rng1); (· walk_at "dn"); (· omega))
  | ((with_reducible apply v_rng2); (· walk_at "dn"); (· omega))
  | ((with_reducible apply v_it); (· walk_at "dn"))
  | ((with_reducible apply v_itl); (· walk_at "dn"))
  | ((with_reducible apply v_its); (· walk_at "dn"))
  | with_reducible assumption)
local macro_rules | `(tactic| walk_at "dt") => `(tactic| first
  | with_reducible exact v_c | with_reducible exact v_nil | with_reducible exact v_no
  | ((with_reducible apply v_var); (· rfl); (· rfl))
  | ((with_reducible apply v_2) <;> walk_at "dt")
  | ((with_reducible apply v_1) <;> walk_at "dt")
  | ((with_reducible apply v_cons) <;> walk_at "dt")
  | ((with_reducible apply v_blt) <;> walk_at "dt")
  | ((with_reducible apply v_call) <;> walk_at "dt")
  | ((with_reducible apply v_tup) <;> walk_at "dt")
  | ((with_reducible apply v_lst) <;> walk_at "dt")
  | ((with_reducible apply v_po) <;> walk_at "dt")
  | ((with_reducible apply v_sl) <;> walk_at "dt")
  | ((with_reducible apply v_m1) <;> walk_at "dt")
  | ((with_reducible apply v_b) <;> walk_at "dt")
  | ((with_reducible apply v_notV) <;> walk_at "dt")
  | ((with_reducible apply v_not) <;> walk_at "dt")
  | ((with_reducible apply v_rng1) <;> first | omega | walk_at "dt")
  | ((with_reducible apply v_rng2) <;> first | omega | walk_at "dt")
  | walk_at "dg"
  | (show List.length _ ≤ sizeLine; first | decide | (simp only [List.length_cons, List.length_nil]; decide))
  | skip)
local macro_rules | `(tactic| walk_at "ds") => `(tactic| first
  | ((with_reducible apply w_ss) <;> first | walk_at "d1" | skip)
  | ((with_reducible apply w_r) <;> first | walk_at "d1" | skip)
  | ((with_reducible apply w_sp) <;> first | walk_at "d1" | skip)
  | ((with_reducible apply w_so) <;> first | walk_at "d1" | skip)
  | (with_reducible apply w_sv)
  | (with_reducible apply w_sq))
local macro_rules | `(tactic| walk_at "dx") => `(tactic| simp only [put, jn, List.set_cons_zero, List.set_cons_succ])
theorem w_asg2 {f : En → Option D} {g : D → En → Option En} {env e : En} {d : D} (h1 : f env = some d) (h2 : g d env = some e) : fAsg f g env = some (.nx e) := by
  unfold fAsg
  rw [h1]
  simp only [Option.bind_some, h2]
theorem forW_stS {α : Type} {g : D → En → Option En} {B : WS} {N : WN} (c : α → D) (I : Nat → En → Sto → Prop) : ∀ (xs : List α) (i : Nat) (env : En) (st : Sto), I i env st → (∀ j x e s, xs[j]? = some x → I (i + j) e s → ∃ e1, g (c x) e = some e1 ∧ B.run e1 s { nx := fun e2 s2 => I (i + j + 1) e2 s2, ct := fun _ _ => False, bk := fun _ _ => False, rt := N.rt, ex := N.ex }) → (∀ e s, I (i + xs.length) e s → N.nx e s) → forW g B (xs.map c) env st N
  | [], i, env, st, h0, _, h2 => h2 env st h0
  | x :: xs, i, env, st, h0, h1, h2 => by
    obtain ⟨e1, q, r⟩ := h1 0 x env st rfl h0
    refine ⟨e1, q, B.imp r ⟨fun e s hi => ?_, fun _ _ k => k, fun _ _ k => k.elim, fun _ _ k => k.elim, fun _ _ k => k⟩⟩
    refine forW_stS c I xs (i + 1) e s hi (fun j y e' s' hy he => ?_) fun e' s' he => h2 e' s' ?_
    · have := h1 (j + 1) y e' s' hy (by rw [show i + (j + 1) = i + 1 + j by omega]; exact he)
      rw [show i + (j + 1) + 1 = i + 1 + j + 1 by omega] at this
      exact this
    · rw [List.length_cons, show i + (xs.length + 1) = i + 1 + xs.length by omega]
      exact he
theorem take_snoc {α : Type} {xs : List α} {j : Nat} {x : α} (h : xs[j]? = some x) : xs.take (j + 1) = xs.take j ++ [x] := by
  obtain ⟨hl, hx⟩ := List.getElem?_eq_some_iff.mp h
  rw [List.take_succ_eq_append_getElem hl, hx]
theorem no_tail {x : Option D} {r : En} (h : NoOwn (x :: r)) : NoOwn r := fun d hd => h d (List.mem_cons_of_mem _ hd)
theorem no_snoc {y : D} {r : En} (h : y.isOwn = false) (h' : NoOwn r) : NoOwn (some y :: r) := no_own_app (a := [some y]) (b := r) (fun d hd => by
  have : d = y := by simpa using hd
  rw [this]
  exact h) h'
theorem nodup_le : ∀ (l K : List Nat), l.Nodup → (∀ x ∈ l, x ∈ K) → l.length ≤ K.length
  | [], K, _, _ => by simp
  | x :: l, K, hn, h => by
    rw [List.nodup_cons] at hn
    have hx := h x List.mem_cons_self
    have ih := nodup_le l (K.erase x) hn.2 fun y hy => by
      rw [List.mem_erase_of_ne (fun e => hn.1 (by rw [← e]; exact hy))]
      exact h y (List.mem_cons_of_mem _ hy)
    rw [List.length_erase_of_mem hx] at ih
    have : 0 < K.length := List.length_pos_of_mem hx
    rw [List.length_cons]
    omega
/-- is it too far off? -/
def tooFar (L B m : Nat) (fr : Nat → Nat) (T : Nat) : Bool := decide (B * L < fr T * m)
set_option maxHeartbeats 1000000 in
theorem wr_put {sa sb s g c B m : Nat} {xs : List Stk} {st : Sto} {K : D → Sto → Prop} {E : Str → Sto → Prop} (hx : ∀ x ∈ xs, NearOk sa sb s g c x.1) (hs : 0 < s) (hs16 : s ≤ 16) (hg : 0 < g) (hsb : 0 < sb) (hc : 0 < c) (hL : sb * g * c * (sb * g * c) < 1073741824) (m0 : 0 < m) (m1 : m < 1073741824) (hn : xs.length ≤ 1000) {Ks : List Nat} (hK : ∀ x ∈ xs, x.2.1 ∈ Ks) (hKl : Ks.length ≤ 60)
    (k : ∀ s', K (resD s g (sb * g * c) (xs.foldl (putS s (nk sa sb s c) (tooFar (sb * g * c) B m fun T => far sa sb s c T (nk sa sb s c T))) ⟨[], []⟩)) s') :
    wn_put_right.run [pr (sa : Nat) sb, .int (s : Nat), .int (g : Nat), .tup (xs.map (skD (sb * g * c))), frD (B : Nat) m] st K E := by
  have LL : 0 < sb * g * c := Nat.mul_pos (Nat.mul_pos hsb hg) hc
  have Lsq : sb * g * c ≤ sb * g * c * (sb * g * c) := Nat.le_mul_of_pos_left _ LL
  generalize hst : putS s (nk sa sb s c) (tooFar (sb * g * c) B m fun T => far sa sb s c T (nk sa sb s c T)) = step at *
  refine ⟨rfl, ?_⟩
  show w_put_right.run [some (pr (sa : Nat) sb), some (.int (s : Nat)), some (.int (g : Nat)), some (.tup (xs.map (skD (sb * g * c)))), some (frD (B : Nat) m), none, none, none, none, none, none, none, none] _ _
  unfold w_put_right
  refine u_nx (w_set (d := ptD ⟨s, g, []⟩) (v_tup (v_cons (v_var rfl rfl) (v_cons (v_var rfl rfl) (v_cons (v_tup (ds := []) v_nil (show 0 ≤ sizeLine by decide)) v_nil))) (show 3 ≤ sizeLine by decide)) rfl) (no_own rfl) ?_
  intro a hna
  refine u_nx (w_set (v_tup v_nil (by decide)) rfl) (no_own rfl) ?_
  refine ⟨_, v_it (v_var rfl rfl), ?_⟩
  walk_at "dx"
  refine forW_stS (skD (sb * g * c)) (fun j e st' => ∃ (RL : RowsL) (z : PutSt) (x8 x9 x10 x11 : Option D), PR st' a RL ∧ z = (xs.take j).foldl step ⟨[], []⟩ ∧ rowsOf RL = z.R ∧ RowsOk s z.R ∧ (∀ k ∈ z.R.map Prod.fst, k ∈ Ks) ∧ RL.length ≤ j ∧ z.lost.length ≤ j ∧ NoOwn [x8, x9, x10, x11] ∧ e = [some (pr (sa : Nat) sb), some (.int (s : Nat)), some (.int (g : Nat)), some (.tup (xs.map (skD (sb * g * c)))), some (frD (B : Nat) m), some (ptD ⟨s, g, []⟩), some (.adr a), some (.tup (z.lost.map (skD (sb * g * c)))), x8, x9, x10, x11, none]) xs 0 _ _ ⟨[], ⟨[], []⟩, none, none, none, none, ⟨Sto.put_same _ _ _, fun q hq => (by cases hq), by simp⟩, rfl, rfl, ⟨by simp, fun q hq => (by cases hq)⟩, fun k hk => (by cases hk), Nat.le_refl _, Nat.le_refl _, no_own rfl, rfl⟩ ?_ ?_
  · rintro j x e st' hj ⟨RL, z, x8, x9, x10, x11, hP, hz, hR, hok, hKR, hlen, hlost, o, rfl⟩
    have hjl := (List.getElem?_eq_some_iff.mp hj).1
    have hxm := List.mem_of_getElem? hj
    rw [Nat.zero_add] at *
    have hN := hx x hxm
    obtain ⟨nlt, en⟩ := e_near (p := ⟨s, g, []⟩) hN
    simp only at nlt en
    have hstep : (xs.take (j + 1)).foldl step ⟨[], []⟩ = step z x := by
      rw [take_snoc hj, List.foldl_append, ← hz]
      rfl
    rw [hstep]
    generalize hk : nk sa sb s c x.1 = n at *
    refine ⟨_, rfl, ?_⟩
    walk_at "dx"
    have ow : ∀ {y8 y9 y10 : D} {y11 : Option D} {xl : List D}, y8.isOwn = false → y9.isOwn = false → y10.isOwn = false → NoOwn [y11] → NoOwn [some (pr (sa : Nat) sb), some (.int (s : Nat)), some (.int (g : Nat)), some (.tup (xs.map (skD (sb * g * c)))), some (frD (B : Nat) m), some (ptD ⟨s, g, []⟩), some (.adr a), some (.tup xl), some y8, some y9, some y10, y11, none] := fun {y8 y9 y10 y11 xl} h8 h9 h10 h11 => no_own_app (a := [some (pr (sa : Nat) sb), some (.int (s : Nat)), some (.int (g : Nat)), some (.tup (xs.map (skD (sb * g * c)))), some (frD (B : Nat) m), some (ptD ⟨s, g, []⟩), some (.adr a), some (.tup xl)]) (b := [some y8, some y9, some y10, y11, none]) (no_own rfl) (no_snoc h8 (no_snoc h9 (no_snoc h10 (no_own_app (a := [y11]) (b := [none]) h11 (no_own rfl)))))
    have o11 : NoOwn [x11] := no_tail (no_tail (no_tail o))
    refine u_nx (w_asg2 (v_call (v_cons (v_var rfl rfl) (v_cons (v_var rfl rfl) (v_cons (v_2 (v_var rfl rfl) v_c (show ixD (skD (sb * g * c) x) (.int 0) = some (frD ((x.1 : Nat) : Int) (sb * g * c)) from rfl)) v_nil))) en) rfl) (ow rfl rfl rfl o11) ?_
    walk_at "dx"
    have hil : n_is_less [frD ((B : Nat) : Int) m, frD ((far sa sb s c x.1 n : Nat) : Int) (sb * g * c)] = some (.bl (decide (B * (sb * g * c) < far sa sb s c x.1 n * m))) := by
      rw [e_isless m0 LL m1 (by omega)]
      refine congrArg (fun k => some (D.bl k)) (decide_eq_decide.mpr ?_)
      rw [← Int.natCast_mul, ← Int.natCast_mul]
      exact Int.ofNat_lt
    refine ⟨_, v_b (v_call (v_cons (v_var rfl rfl) (v_cons (v_call (v_cons (v_var rfl rfl) v_nil) (e_size LL)) v_nil)) hil), ?_⟩
    have htf : tooFar (sb * g * c) B m (fun T => far sa sb s c T (nk sa sb s c T)) x.1 = decide (B * (sb * g * c) < far sa sb s c x.1 n * m) := by unfold tooFar; simp only [hk]
    cases hd : decide (B * (sb * g * c) < far sa sb s c x.1 n * m) with
    | true =>
      have hput : step z x = ⟨z.R, z.lost ++ [x]⟩ := by
        rw [← hst]
        unfold putS
        rw [htf, hd, if_pos rfl]
      rw [hput]
      refine ⟨_, w_set (v_2 (v_var rfl rfl) (v_tup (v_cons (v_var rfl rfl) v_nil) (show 1 ≤ sizeLine by decide)) (add_t ?_)) rfl, ow rfl rfl rfl o11, RL, _, some (skD (sb * g * c) x), some (.int (n : Nat)), some (frD (off sa sb s c x.1 n) (sb * g * c)), x11, hP, rfl, hR, hok, hKR, by omega, by simp; omega, no_snoc rfl (no_snoc rfl (no_snoc rfl o11)), ?_⟩
      · rw [List.length_map]
        show z.lost.length + 1 ≤ 1000000
        omega
      · simp only [List.map_append]
        rfl
    | false =>
      have hput : step z x = ⟨updR s z.R x.2.1 (n % s) x.2.2, z.lost⟩ := by
        rw [← hst]
        unfold putS
        rw [htf, hd, if_neg (by simp), hk]
      rw [hput]
      have hKn : ∀ k ∈ (updR s z.R x.2.1 (n % s) x.2.2).map Prod.fst, k ∈ Ks := fun k hk => by
        unfold updR at hk
        rw [setR_keys] at hk
        split at hk
        · exact hKR k hk
        · rcases List.mem_append.mp hk with hk | hk
          · exact hKR k hk
          · have : k = x.2.1 := by simpa using hk
            rw [this]
            exact hK x hxm
      have hfind := find_cells x.2.1 RL
      have keys : RL.map (fun q => q.1) = z.R.map Prod.fst := by
        rw [← hR]
        unfold rowsOf
        rw [List.map_map]
        rfl
      have fin : ∀ (RL1 RL2 : RowsL) (l : Addr) (r0 : List Nat) (s3 : Sto), PR s3 a (RL1 ++ (x.2.1, l, r0) :: RL2) → r0.length = s → rowsOf (RL1 ++ (x.2.1, l, mark r0 (n % s) x.2.2) :: RL2) = updR s z.R x.2.1 (n % s) x.2.2 → (RL1 ++ (x.2.1, l, r0) :: RL2).length ≤ j + 1 → _ → True := fun _ _ _ _ _ _ _ _ _ (_ : True) => trivial
      clear fin
      refine ⟨_, v_var rfl rfl, a, rfl, ⟨_, hP.d⟩, _, v_2 (v_var rfl rfl) v_c (show ixD (skD (sb * g * c) x) (.int 1) = some (.str [x.2.1]) from rfl), List.replicate s (.str [46]), ?_, fun l' hl' => ?_⟩
      · show fNM _ _ _ = _
        unfold fNM
        rw [show fLst (fCons (fC (.str [46])) fNil) _ = some (.lst [.str [46]]) from v_lst (v_cons v_c v_nil) (show 1 ≤ sizeLine by decide)]
        simp only [Option.bind_some]
        show (mulN (.lst [.str [46]]) (.int (s : Nat))) = _
        show (if ([D.str [46]] : List D).length ≤ 1000 ∧ -1000 ≤ ((s : Nat) : Int) ∧ ((s : Nat) : Int) ≤ 1000 then some (reps [D.str [46]] ((s : Nat) : Int).toNat) else none) = _
        rw [if_pos ⟨by decide, by omega, by omega⟩, Int.toNat_natCast, reps_single]
      have hP' : PR (st'.put l' (.lst (List.replicate s (.str [46])))) a RL := hP.fresh hl'
      refine ⟨[x.2.1], _, rfl, hP'.d, by unfold cellsOf; rw [List.length_map]; omega, fun v hv => ?_, fun hv => ?_⟩
      · rw [hfind] at hv
        obtain ⟨q, hq, rfl⟩ := Option.map_eq_some_iff.mp hv
        obtain ⟨hqk, RL1, RL2, hsp, hno⟩ := List.find?_eq_some_iff_append.mp hq
        have hqk : q.1 = x.2.1 := by simpa using hqk
        obtain ⟨pk, l, r0⟩ := q
        simp only at hqk
        subst hqk
        subst hsp
        have hnd := hok.1
        rw [← keys, List.map_append, List.map_cons, List.nodup_append] at hnd
        obtain ⟨d1, d2, d3⟩ := hnd
        rw [List.nodup_cons] at d2
        have k1 : x.2.1 ∉ (rowsOf RL1).map Prod.fst := fun hm => d3 x.2.1 (by unfold rowsOf at hm; rw [List.map_map] at hm; exact hm) x.2.1 (by simp) rfl
        have k2 : x.2.1 ∉ (rowsOf RL2).map Prod.fst := fun hm => d2.1 (by unfold rowsOf at hm; rw [List.map_map] at hm; exact hm)
        have hRz : z.R = rowsOf RL1 ++ (x.2.1, r0) :: rowsOf RL2 := by rw [← hR]; unfold rowsOf; simp
        have hr0 : RowIs s r0 := hok.2 (x.2.1, r0) (by rw [hRz]; simp)
        obtain ⟨g1, g2⟩ := rows_at (r0 := r0) k1 k2 (mark r0 (n % s) x.2.2)
        refine r_mark (L := sb * g * c) (x := x) (n := n) hs hr0.1 rfl rfl rfl rfl hP' fun st2 hP2 => ?_
        refine ⟨_, _, _, _, _, some (.adr l), hP2, rfl, ?_, updR_ok hok _ _ _, hKn, by simp at hlen ⊢; omega, by simp only; omega, no_snoc rfl (no_snoc rfl (no_snoc rfl (no_own rfl))), rfl⟩
        simp only
        unfold updR
        rw [hRz, g1, Option.getD_some, g2]
        unfold rowsOf
        simp
      · rw [hfind] at hv
        have hno : x.2.1 ∉ z.R.map Prod.fst := fun hm => by
          rw [← keys] at hm
          obtain ⟨q, hq, e⟩ := List.mem_map.mp hm
          rw [Option.map_eq_none_iff, List.find?_eq_none] at hv
          have := hv q hq
          simp at this
          exact this e
        obtain ⟨g1, g2⟩ := rows_new hno (mark (rest s) (n % s) x.2.2)
        have hkv : putKD [x.2.1] (.adr l') (cellsOf RL) = cellsOf (RL ++ [(x.2.1, l', rest s)]) := by
          unfold putKD
          rw [if_neg]
          · unfold cellsOf
            simp
          · rw [List.any_eq_true]
            rintro ⟨q, hq, e⟩
            unfold cellsOf at hq
            obtain ⟨q', hq', rfl⟩ := List.mem_map.mp hq
            apply hno
            rw [← keys]
            have : q'.1 = x.2.1 := by simpa using e
            rw [← this]
            exact List.mem_map_of_mem (f := fun q : Nat × Addr × List Nat => q.1) hq'
        have hla : l' ≠ a := fun e => by rw [e, hP.d] at hl'; cases hl'
        have hP3 : PR ((st'.put l' (.lst (List.replicate s (.str [46])))).put a (.dct (putKD [x.2.1] (.adr l') (cellsOf RL)))) a (RL ++ (x.2.1, l', rest s) :: []) := by
          rw [hkv]
          refine ⟨Sto.put_same _ _ _, fun q hq => ?_, ?_⟩
          · rcases List.mem_append.mp hq with hq | hq
            · rw [Sto.put_ne (hP'.ne q hq)]
              exact hP'.l q hq
            · have : q = (x.2.1, l', rest s) := by simpa using hq
              subst this
              rw [Sto.put_ne hla, Sto.put_same]
              unfold sgn rest
              simp
          · rw [List.map_append, List.nodup_append]
            refine ⟨hP.nd, by simp, fun u hu v hv e => ?_⟩
            have : v = l' := by simpa using hv
            subst this e
            obtain ⟨q, hq, e⟩ := List.mem_map.mp hu
            have := hP.l q hq
            rw [e, hl'] at this
            cases this
        refine r_mark (L := sb * g * c) (x := x) (n := n) hs (rest_is s).1 rfl rfl rfl rfl hP3 fun st2 hP2 => ?_
        refine ⟨_, _, _, _, _, some (.adr l'), hP2, rfl, ?_, updR_ok hok _ _ _, hKn, by simp; omega, by simp only; omega, no_snoc rfl (no_snoc rfl (no_snoc rfl (no_own rfl))), rfl⟩
        simp only
        unfold updR
        rw [g1, Option.getD_none, g2, ← hR]
        unfold rowsOf
        simp
  · rintro e st' ⟨RL, z, x8, x9, x10, x11, hP, hz, hR, hok, hKR, hlen, hlost, o, rfl⟩
    rw [Nat.zero_add, List.take_length] at hz
    rw [Nat.zero_add] at hlen
    rw [← hz] at k
    have hRL : RL.length ≤ 60 := by
      have h1 := nodup_le _ Ks hok.1 hKR
      rw [← hR, List.length_map] at h1
      unfold rowsOf at h1
      rw [List.length_map] at h1
      omega
    obtain ⟨s2, hf, he⟩ := frz_cells (a := a) hP.l hP.nd hP.ne
    refine ⟨a, _, _, s2, rfl, hP.d, hf, by rw [he]; exact hP.d, ?_⟩
    walk_at "dx"
    have hkeys : (RL.map fun q => (([q.1], D.lst (sgn q.2.2)) : List Nat × D)).map (·.1) = z.R.map fun q => [q.1] := by
      rw [← hR]
      unfold rowsOf
      simp
    have hsort : sortKG [.dct (RL.map fun q => ([q.1], .lst (sgn q.2.2)))] = some (.lst ((sortKeys (z.R.map fun q => [q.1])).map D.str)) := by
      show (if _ then _ else _) = _
      rw [if_pos (by rw [List.length_map]; omega), hkeys]
    have hlz : (sortKeys (z.R.map fun q => [q.1])).length ≤ 60 := by
      rw [(sortKeys_perm _).length_eq, List.length_map, ← hR]
      unfold rowsOf
      rw [List.length_map]
      omega
    refine u_rt (ret_of (v_tup (ds := [.tup [.int (s : Nat), .int (g : Nat), .tup ((sortKeys (z.R.map fun q => [q.1])).map (rowD z.R))], .tup (z.lost.map (skD (sb * g * c)))]) (v_cons (v_tup (v_cons (v_var rfl rfl) (v_cons (v_var rfl rfl) (v_cons (v_1 (lcw (r := (sortKeys (z.R.map fun q => [q.1])).map (rowD z.R)) (v_itl (v_blt (v_cons (v_var rfl rfl) v_nil) hsort)) (by rw [List.length_map]; omega) ?_) rfl) v_nil))) (show 3 ≤ sizeLine by decide)) (v_cons (v_var rfl rfl) v_nil)) (show 2 ≤ sizeLine by decide))) (k _)
    refine lc_map D.str (rowD z.R) _ fun kk hkk => ⟨_, rfl, ?_⟩
    have hmem : kk ∈ z.R.map fun q => [q.1] := (sortKeys_perm _).mem_iff.mp hkk
    have hfd : dixD (.dct (RL.map fun q => ([q.1], .lst (sgn q.2.2)))) (.str kk) = some (.lst (sgn (((z.R.find? fun q => decide ([q.1] = kk)).map (·.2)).getD []))) := by
      rw [← hR] at hmem ⊢
      clear hsort hkeys hlz hf he hP hok hlen hR hkk k hRL
      show ((RL.map fun q => (([q.1], D.lst (sgn q.2.2)) : List Nat × D)).find? fun p => decide (p.1 = kk)).map (·.2) = _
      induction RL with
      | nil => simp [rowsOf] at hmem
      | cons q RL ih =>
        unfold rowsOf at hmem ih ⊢
        rw [List.map_cons, List.map_cons]
        by_cases hq : [q.1] = kk
        · rw [List.find?_cons_of_pos (by simpa using hq), List.find?_cons_of_pos (by simpa using hq)]
          rfl
        · rw [List.find?_cons_of_neg (by simpa using hq), List.find?_cons_of_neg (by simpa using hq)]
          refine ih ?_
          rw [List.map_cons, List.map_cons] at hmem
          rcases List.mem_cons.mp hmem with h | h
          · exact absurd h.symm hq
          · exact h
    have hrl : (((z.R.find? fun q => decide ([q.1] = kk)).map (·.2)).getD []).length ≤ 16 := by
      cases hq : z.R.find? fun q => decide ([q.1] = kk) with
      | none => simp
      | some q =>
        have := (hok.2 q (List.mem_of_find?_eq_some hq)).1
        simp
        omega
    unfold rowD
    generalize ((z.R.find? fun q => decide ([q.1] = kk)).map (·.2)).getD [] = row at *
    have hj := join_l (sep := []) (ls := row.map fun c => [c]) (by
      rw [List.map_map, List.length_map]
      have : (row.map (List.length ∘ fun c => [c])).sum = row.length := by
        clear hrl hfd
        induction row with
        | nil => rfl
        | cons c r ih => rw [List.map_cons, List.sum_cons, ih, List.length_cons]; show 1 + r.length = r.length + 1; omega
      rw [this]
      simp
      omega)
    rw [joinL_chars] at hj
    have hsg : sgn row = (row.map fun c => [c]).map D.str := by unfold sgn; rw [List.map_map]; rfl
    rw [← hsg] at hj
    exact v_tup (ds := [.str kk, .str row]) (v_cons (v_var rfl rfl) (v_cons (v_m1 v_c (v_2 (v_var rfl rfl) (v_var rfl rfl) hfd) hj) v_nil)) (show 2 ≤ sizeLine by decide)
end Dn
set_option Elab.async false
set_option linter.all false
set_option maxRecDepth 100000
/-! A pattern's own strikes put right. -/
namespace Dn
open PySem L2
local macro_rules | `(tactic| walk_at "dg") => `(tactic| first
  | with_reducible exact add_i _ _ | with_reducible exact sub_i _ _ | ((with_reducible refine mul_i ?_); omega) | ((with_reducible refine fdiv_i ?_); omega) | ((with_reducible refine mod_i ?_); omega) | with_reducible exact neg_i _
  | with_reducible exact lt_i _ _ | with_reducible exact le_i _ _ | with_reducible exact gt_i _ _ | with_reducible exact ge_i _ _ | with_reducible exact eq_i _ _ | with_reducible exact ne_i _ _ | with_reducible exact eq_s _ _ | with_reducible exact ne_s _ _
  | ((with_reducible refine add_s ?_); omega) | ((with_reducible refine add_t ?_); omega) | ((with_reducible refine add_l ?_); omega) | ((with_reducible refine mul_s ?_); omega) | ((with_reducible refine mul_l ?_); omega)
  | ((with_reducible refine len_s ?_); omega) | with_reducible exact len_t _ | with_reducible exact len_l _ | with_reducible exact len_c _ | with_reducible exact int_b _ | with_reducible exact int_i _ | with_reducible exact abs_i _
  | ((with_reducible refine sl_s ?_); omega) | with_reducible exact sl_t _ _ _ | with_reducible exact sl_l _ _ _ | ((with_reducible apply ix_t); (· omega); (· rfl)) | ((with_reducible apply ix_l); (· omega); (· rfl)) | with_reducible assumption)
local macro_rules | `(tactic| walk_at "dc") => `(tactic| with_reducible assumption)
local macro_rules | `(tactic| walk_at "dn") => `(tactic| first
  | with_reducible exact v_c | with_reducible exact v_nil | with_reducible exact v_no
  | ((with_reducible apply v_var); (· rfl); (· rfl))
  | ((with_reducible apply v_2); (· walk_at "dn"); (· walk_at "dn"); (· walk_at "dg"))
  | ((with_reducible apply v_1); (· walk_at "dn"); (· walk_at "dg"))
  | ((with_reducible apply v_cons); (· walk_at "dn"); (· walk_at "dn"))
  | ((with_reducible apply v_blt); (· walk_at "dn"); (· walk_at "dg"))
  | ((with_reducible apply v_call); (· walk_at "dn"); (· walk_at "dc"))
  | ((with_reducible apply v_tup); (· walk_at "dn"); (· first | decide | (simp only [List.length_cons, List.length_nil]; decide)))
  | ((with_reducible apply v_lst); (· walk_at "dn"); (· first | decide | (simp only [List.length_cons, List.length_nil]; decide)))
  | ((with_reducible apply v_po); (· walk_at "dn"))
  | ((with_reducible apply v_sl); (· walk_at "dn"); (· walk_at "dn"); (· walk_at "dn"); (· walk_at "dg"))
  | ((with_reducible apply v_m1); (· walk_at "dn"); (· walk_at "dn"); (· walk_at "dg"))
  | ((with_reducible apply v_b); (· walk_at "dn"))
  | ((with_reducible apply v_not); (· walk_at "dn"))
  | ((with_reducible apply v_notV); (· walk_at "dn"))
  | ((with_reducible apply v_rng1); (· walk_at "dn"); (· omega))
  | ((with_reducible apply v_rng2); (· walk_at "dn"); (· omega))
  | ((with_reducible apply v_it); (· walk_at "dn"))
  | ((with_reducible apply v_itl); (· walk_at "dn"))
  | ((with_reducible apply v_its); (· walk_at "dn"))
  | with_reducible assumption)
local macro_rules | `(tactic| walk_at "dt") => `(tactic| first
  | with_reducible exact v_c | with_reducible exact v_nil | with_reducible exact v_no
  | ((with_reducible apply v_var); (· rfl); (· rfl))
  | ((with_reducible apply v_2) <;> walk_at "dt")
  | ((with_reducible apply v_1) <;> walk_at "dt")
  | ((with_reducible apply v_cons) <;> walk_at "dt")
  | ((with_reducible apply v_blt) <;> walk_at "dt")
  | ((with_reducible apply v_call) <;> walk_at "dt")
  | ((with_reducible apply v_tup) <;> walk_at "dt")
  | ((with_reducible apply v_lst) <;> walk_at "dt")
  | ((with_reducible apply v_po) <;> walk_at "dt")
  | ((with_reducible apply v_sl) <;> walk_at "dt")
  | ((with_reducible apply v_m1) <;> walk_at "dt")
  | ((with_reducible apply v_b) <;> walk_at "dt")
  | ((with_reducible apply v_notV) <;> walk_at "dt")
  | ((with_reducible apply v_not) <;> walk_at "dt")
  | ((with_reducible apply v_rng1) <;> first | omega | walk_at "dt")
  | ((with_reducible apply v_rng2) <;> first | omega | walk_at "dt")
  | walk_at "dg"
  | (show List.length _ ≤ sizeLine; first | decide | (simp only [List.length_cons, List.length_nil]; decide))
  | skip)
local macro_rules | `(tactic| walk_at "ds") => `(tactic| first
  | ((with_reducible apply w_ss) <;> first | walk_at "d1" | skip)
  | ((with_reducible apply w_r) <;> first | walk_at "d1" | skip)
  | ((with_reducible apply w_sp) <;> first | walk_at "d1" | skip)
  | ((with_reducible apply w_so) <;> first | walk_at "d1" | skip)
  | (with_reducible apply w_sv)
  | (with_reducible apply w_sq))
local macro_rules | `(tactic| walk_at "dx") => `(tactic| simp only [put, jn, List.set_cons_zero, List.set_cons_succ])
/-- what is nearest of all -/
theorem nk_is {sa sb c T k : Nat} {p : Pt} (h : NearOk sa sb p.s p.g c T) (h1 : ∀ j, j < k → far sa sb p.s c T k < far sa sb p.s c T j) (h2 : ∀ j, k < j → far sa sb p.s c T k ≤ far sa sb p.s c T j) : nk sa sb p.s c T = k := by
  have hb := nk_best h
  have hu : 0 < p.s * (sb * c) := Nat.mul_pos h.s0 (Nat.mul_pos h.w.b0 h.c0)
  have q1 : T / (p.s * (sb * c)) * (p.s * (sb * c)) ≤ T := Nat.div_mul_le_self _ _
  have q2 : T < (T / (p.s * (sb * c)) + 1) * (p.s * (sb * c)) := by
    have := Nat.lt_div_mul_add (a := T) hu
    rw [Nat.succ_mul]
    exact this
  generalize T / (p.s * (sb * c)) = q at *
  have t1 := tau_mul (sa := sa) (sb := sb) (c := c) h.s0 q
  have t2 := tau_mul (sa := sa) (sb := sb) (c := c) h.s0 (q + 1)
  rw [show (q + 1) * p.s = q * p.s + p.s by rw [Nat.succ_mul]] at t2
  refine hb.uniq ⟨?_, ?_, fun j _ hj => h1 j hj, fun j hj _ => h2 j hj⟩
  · rcases Nat.lt_or_ge k (q * p.s) with hk | hk
    · have a1 := h2 _ hk
      have a2 := tau_lt (sa := sa) (sb := sb) (c := c) h.s0 h.c0 h.w hk
      unfold far off at a1
      omega
    · exact hk
  · rcases Nat.lt_or_ge (q * p.s + p.s) k with hk | hk
    · have a1 := h1 _ hk
      have a2 := tau_lt (sa := sa) (sb := sb) (c := c) h.s0 h.c0 h.w hk
      unfold far off at a1
      omega
    · exact hk
theorem nk_after {sa sb c T k d : Nat} {p : Pt} (h : NearOk sa sb p.s p.g c T) (hT : T = tau sa sb p.s c k + d) (hd : 2 * d ≤ tau sa sb p.s c (k + 1) - tau sa sb p.s c k) : nk sa sb p.s c T = k := by
  have hk := tau_lt (sa := sa) (sb := sb) (c := c) h.s0 h.c0 h.w (Nat.lt_succ_self k)
  refine nk_is h (fun j hj => ?_) fun j hj => ?_
  · have := tau_lt (sa := sa) (sb := sb) (c := c) h.s0 h.c0 h.w hj
    unfold far off
    omega
  · have : tau sa sb p.s c (k + 1) ≤ tau sa sb p.s c j := by
      rcases Nat.lt_or_eq_of_le (show k + 1 ≤ j by omega) with q | q
      · exact Nat.le_of_lt (tau_lt h.s0 h.c0 h.w q)
      · rw [q]; exact Nat.le_refl _
    unfold far off
    omega
theorem nk_before {sa sb c T k d : Nat} {p : Pt} (h : NearOk sa sb p.s p.g c T) (hT : T + d = tau sa sb p.s c (k + 1)) (hd : 2 * d < tau sa sb p.s c (k + 1) - tau sa sb p.s c k) : nk sa sb p.s c T = k + 1 := by
  refine nk_is h (fun j hj => ?_) fun j hj => ?_
  · have : tau sa sb p.s c j ≤ tau sa sb p.s c k := by
      rcases Nat.lt_or_eq_of_le (show j ≤ k by omega) with q | q
      · exact Nat.le_of_lt (tau_lt h.s0 h.c0 h.w q)
      · rw [q]; exact Nat.le_refl _
    unfold far off
    omega
  · have := tau_lt (sa := sa) (sb := sb) (c := c) h.s0 h.c0 h.w hj
    unfold far off
    omega
/-! the rows that come of a pattern -/
abbrev Ev := Nat × Nat × Bool
def evU (s : Nat) (R : Rows) (e : Ev) : Rows := updR s R e.2.1 e.1 e.2.2
theorem getR_set (R : Rows) (k k' : Nat) (r : List Nat) : getR (setR R k r) k' = if k' = k then some r else getR R k' := by
  unfold setR
  split
  · rename_i ha
    unfold getR
    induction R with
    | nil => simp at ha
    | cons q R ih =>
      rw [List.map_cons]
      by_cases hq : q.1 = k
      · rw [if_pos hq]
        by_cases hk : k' = k
        · rw [if_pos hk, List.find?_cons_of_pos (by simp [hq, hk])]
          rfl
        · rw [if_neg hk, List.find?_cons_of_neg (by simp [hq]; exact fun e => hk e.symm), List.find?_cons_of_neg (by simp [hq]; exact fun e => hk e.symm)]
          by_cases hr : (R.any fun q => decide (q.1 = k)) = true
          · have := ih hr
            rw [if_neg hk] at this
            exact this
          · congr 2
            conv => rhs; rw [← List.map_id R]
            refine List.map_congr_left fun z hz => if_neg fun e => hr ?_
            rw [List.any_eq_true]
            exact ⟨z, hz, by simpa using e⟩
      · rw [if_neg hq]
        have hr : (R.any fun q => decide (q.1 = k)) = true := by
          rw [List.any_cons] at ha
          simpa [hq] using ha
        by_cases hk : q.1 = k'
        · rw [List.find?_cons_of_pos (by simpa using hk), List.find?_cons_of_pos (by simpa using hk), if_neg (fun e => hq (hk.trans e))]
        · rw [List.find?_cons_of_neg (by simpa using hk), List.find?_cons_of_neg (by simpa using hk)]
          exact ih hr
  · rename_i ha
    unfold getR
    rw [List.find?_append]
    by_cases hk : k' = k
    · rw [if_pos hk]
      have : R.find? (fun q => decide (q.1 = k')) = none := by
        rw [List.find?_eq_none]
        intro q hq e
        apply ha
        rw [List.any_eq_true]
        exact ⟨q, hq, by rw [← hk]; exact e⟩
      rw [this]
      simp [hk]
    · rw [if_neg hk]
      cases R.find? (fun q => decide (q.1 = k')) with
      | some q => rfl
      | none =>
        rw [Option.none_or, List.find?_cons_of_neg (by simp; exact fun e => hk e.symm)]
        rfl
theorem getR_evs (s k : Nat) : ∀ (es : List Ev) (R : Rows), getR (es.foldl (evU s) R) k = (es.filter fun e => decide (e.2.1 = k)).foldl (fun o e => some (mark (o.getD (rest s)) e.1 e.2.2)) (getR R k)
  | [], R => rfl
  | e :: es, R => by
    rw [List.foldl_cons, getR_evs s k es]
    unfold evU updR
    rw [getR_set]
    by_cases h : e.2.1 = k
    · rw [if_pos h.symm, List.filter_cons_of_pos (by simpa using h), List.foldl_cons, h]
    · rw [if_neg (fun z => h z.symm), List.filter_cons_of_neg (by simpa using h)]
/-- one row's own marks -/
def ev1 (k : Nat) (q : Nat × List Nat) : List Ev := if q.2.getD k 46 = 46 then [] else [(k, q.1, decide (q.2.getD k 46 = 88))]
def evs (p : Pt) : List Ev := ((List.range p.s).map fun k => (p.ps.map (ev1 k)).flatten).flatten
theorem filter_one {q : Nat × List Nat} {k : Nat} : ∀ {ps : List (Nat × List Nat)}, (ps.map Prod.fst).Nodup → q ∈ ps → ((ps.map (ev1 k)).flatten.filter fun e => decide (e.2.1 = q.1)) = ev1 k q
  | [], _, h => by cases h
  | r :: ps, hn, h => by
    rw [List.map_cons, List.nodup_cons] at hn
    rw [List.map_cons, List.flatten_cons, List.filter_append]
    have self : ∀ r : Nat × List Nat, ((ev1 k r).filter fun e => decide (e.2.1 = q.1)) = if r.1 = q.1 then ev1 k r else [] := fun r => by
      unfold ev1
      by_cases h46 : r.2.getD k 46 = 46
      · rw [if_pos h46]
        split <;> rfl
      · rw [if_neg h46]
        by_cases hr : r.1 = q.1
        · rw [if_pos hr, List.filter_cons_of_pos (by simpa using hr)]
          rfl
        · rw [if_neg hr, List.filter_cons_of_neg (by simpa using hr)]
          rfl
    rw [self r]
    rcases List.mem_cons.mp h with rfl | h
    · rw [if_pos rfl]
      have : ((ps.map (ev1 k)).flatten.filter fun e => decide (e.2.1 = q.1)) = [] := by
        rw [List.filter_eq_nil_iff]
        intro e he hh
        obtain ⟨l, hl, hel⟩ := List.mem_flatten.mp he
        obtain ⟨r, hr, rfl⟩ := List.mem_map.mp hl
        unfold ev1 at hel
        split at hel
        · cases hel
        · have : e = (k, r.1, decide (r.2.getD k 46 = 88)) := by simpa using hel
          subst this
          exact hn.1 (by
            have : r.1 = q.1 := by simpa using hh
            rw [← this]
            exact List.mem_map_of_mem (f := Prod.fst) hr)
      rw [this, List.append_nil]
    · rw [if_neg (fun e => hn.1 (by rw [e]; exact List.mem_map_of_mem (f := Prod.fst) h)), List.nil_append]
      exact filter_one hn.2 h
theorem filter_evs {p : Pt} {q : Nat × List Nat} (hn : (p.ps.map Prod.fst).Nodup) (hq : q ∈ p.ps) : ((evs p).filter fun e => decide (e.2.1 = q.1)) = ((List.range p.s).map fun k => ev1 k q).flatten := by
  unfold evs
  rw [List.filter_flatten, List.map_map]
  congr 1
  exact List.map_congr_left fun k _ => filter_one hn hq
/-- the marks of a row, one by one, make the row again -/
def made (r : List Nat) (n : Nat) : List Nat := r.take n ++ List.replicate (r.length - n) 46
theorem row_fold {r : List Nat} (hr : ∀ c ∈ r, c = 46 ∨ c = 120 ∨ c = 88) (pd : Nat) : ∀ n, n ≤ r.length → ((List.range n).map fun k => ev1 k (pd, r)).flatten.foldl (fun o e => some (mark (o.getD (rest r.length)) e.1 e.2.2)) (none : Option (List Nat)) = if (∀ k, k < n → r.getD k 46 = 46) then none else some (made r n)
  | 0, _ => by simp
  | n + 1, hn => by
    rw [List.range_succ, List.map_append, List.flatten_append, List.foldl_append, row_fold hr pd n (by omega)]
    have hl : n < r.length := by omega
    have hg : r.getD n 46 = r[n] := by rw [List.getD_eq_getElem?_getD, List.getElem?_eq_getElem hl]; rfl
    have hm0 : (∀ k, k < n → r.getD k 46 = 46) → made r n = rest r.length := fun h => by
      unfold made rest
      have : r.take n = List.replicate n 46 := by
        rw [List.eq_replicate_iff]
        refine ⟨by simp; omega, fun c hc => ?_⟩
        obtain ⟨k, hk, e⟩ := List.getElem_of_mem hc
        rw [List.getElem_take] at e
        have hk' : k < n := by
          rw [List.length_take] at hk
          omega
        have := h k hk'
        rw [List.getD_eq_getElem?_getD, List.getElem?_eq_getElem (by omega)] at this
        rw [← e]
        exact this
      rw [this, List.replicate_append_replicate]
      congr 1
      omega
    have hstep : (made r n).set n (r.getD n 46) = made r (n + 1) ∧ (made r n).getD n 46 = 46 := by
      have e1 : (r.take n).length = n := by simp; omega
      constructor
      · unfold made
        rw [List.set_append_right _ _ (by omega), e1, Nat.sub_self, show r.length - n = (r.length - (n + 1)) + 1 by omega, List.replicate_succ, List.set_cons_zero, List.take_succ_eq_append_getElem hl, hg, List.append_assoc]
        rfl
      · unfold made
        rw [List.getD_eq_getElem?_getD, List.getElem?_append_right (by omega), e1, Nat.sub_self, show r.length - n = (r.length - (n + 1)) + 1 by omega, List.replicate_succ]
        rfl
    have hcur : ((if (∀ k, k < n → r.getD k 46 = 46) then none else some (made r n)) : Option (List Nat)).getD (rest r.length) = made r n := by
      split
      · rename_i h
        rw [hm0 h]
        rfl
      · rfl
    show List.foldl _ _ ((([n] : List Nat).map fun k => ev1 k (pd, r)).flatten) = _
    rw [List.map_singleton, List.flatten_singleton]
    unfold ev1
    simp only
    by_cases h46 : r.getD n 46 = 46
    · rw [if_pos h46, List.foldl_nil]
      obtain ⟨s1, s2⟩ := hstep
      rw [h46] at s1
      have hsame : made r (n + 1) = made r n := by
        rw [← s1]
        have e2 : n < (made r n).length := by unfold made; simp; omega
        rw [List.getD_eq_getElem?_getD, List.getElem?_eq_getElem e2] at s2
        have s2 : (made r n)[n] = 46 := s2
        rw [← s2]
        simp
      by_cases hall : ∀ k, k < n → r.getD k 46 = 46
      · rw [if_pos hall, if_pos]
        intro k hk
        by_cases e : k = n
        · rw [e]; exact h46
        · exact hall k (by omega)
      · rw [if_neg hall, if_neg (fun h => hall fun k hk => h k (by omega)), hsame]
    · rw [if_neg h46, List.foldl_cons, List.foldl_nil, hcur, if_neg (fun h => h46 (h n (by omega)))]
      congr 1
      obtain ⟨s1, s2⟩ := hstep
      have hc := hr (r.getD n 46) (by rw [hg]; exact List.getElem_mem _)
      unfold mark
      rcases hc with e | e | e
      · exact absurd e h46
      · rw [e] at s1 ⊢
        rw [if_neg (show ¬ (decide ((120 : Nat) = 88)) = true by decide), if_pos s2]
        exact s1
      · rw [e] at s1 ⊢
        rw [if_pos (show (decide ((88 : Nat) = 88)) = true by decide)]
        exact s1
end Dn
set_option Elab.async false
set_option linter.all false
set_option maxRecDepth 100000
/-! A pattern's own strikes put right, II. -/
namespace Dn
open PySem L2
local macro_rules | `(tactic| walk_at "dg") => `(tactic| first
  | with_reducible exact add_i _ _ | with_reducible exact sub_i _ _ | ((with_reducible refine mul_i ?_); omega) | ((with_reducible refine fdiv_i ?_); omega) | ((with_reducible refine mod_i ?_); omega) | with_reducible exact neg_i _
  | with_reducible exact lt_i _ _ | with_reducible exact le_i _ _ | with_reducible exact gt_i _ _ | with_reducible exact ge_i _ _ | with_reducible exact eq_i _ _ | with_reducible exact ne_i _ _ | with_reducible exact eq_s _ _ | with_reducible exact ne_s _ _
  | ((with_reducible refine add_s ?_); omega) | ((with_reducible refine add_t ?_); omega) | ((with_reducible refine add_l ?_); omega) | ((with_reducible refine mul_s ?_); omega) | ((with_reducible refine mul_l ?_); omega)
  | ((with_reducible refine len_s ?_); omega) | with_reducible exact len_t _ | with_reducible exact len_l _ | with_reducible exact len_c _ | with_reducible exact int_b _ | with_reducible exact int_i _ | with_reducible exact abs_i _
  | ((with_reducible refine sl_s ?_); omega) | with_reducible exact sl_t _ _ _ | with_reducible exact sl_l _ _ _ | ((with_reducible apply ix_t); (· omega); (· rfl)) | ((with_reducible apply ix_l); (· omega); (· rfl)) | with_reducible assumption)
local macro_rules | `(tactic| walk_at "dc") => `(tactic| with_reducible assumption)
local macro_rules | `(tactic| walk_at "dn") => `(tactic| first
  | with_reducible exact v_c | with_reducible exact v_nil | with_reducible exact v_no
  | ((with_reducible apply v_var); (· rfl); (· rfl))
  | ((with_reducible apply v_2); (· walk_at "dn"); (· walk_at "dn"); (· walk_at "dg"))
  | ((with_reducible apply v_1); (· walk_at "dn"); (· walk_at "dg"))
  | ((with_reducible apply v_cons); (· walk_at "dn"); (· walk_at "dn"))
  | ((with_reducible apply v_blt); (· walk_at "dn"); (· walk_at "dg"))
  | ((with_reducible apply v_call); (· walk_at "dn"); (· walk_at "dc"))
  | ((with_reducible apply v_tup); (· walk_at "dn"); (· first | decide | (simp only [List.length_cons, List.length_nil]; decide)))
  | ((with_reducible apply v_lst); (· walk_at "dn"); (· first | decide | (simp only [List.length_cons, List.length_nil]; decide)))
  | ((with_reducible apply v_po); (· walk_at "dn"))
  | ((with_reducible apply v_sl); (· walk_at "dn"); (· walk_at "dn"); (· walk_at "dn"); (· walk_at "dg"))
  | ((with_reducible apply v_m1); (· walk_at "dn"); (· walk_at "dn"); (· walk_at "dg"))
  | ((with_reducible apply v_b); (· walk_at "dn"))
  | ((with_reducible apply v_not); (· walk_at "dn"))
  | ((with_reducible apply v_notV); (· walk_at "dn"))
  | ((with_reducible apply v_rng1); (· walk_at "dn"); (· omega))
  | ((with_reducible apply v_rng2); (· walk_at "dn"); (· omega))
  | ((with_reducible apply v_it); (· walk_at "dn"))
  | ((with_reducible apply v_itl); (· walk_at "dn"))
  | ((with_reducible apply v_its); (· walk_at "dn"))
  | with_reducible assumption)
local macro_rules | `(tactic| walk_at "dt") => `(tactic| first
  | with_reducible exact v_c | with_reducible exact v_nil | with_reducible exact v_no
  | ((with_reducible apply v_var); (· rfl); (· rfl))
  | ((with_reducible apply v_2) <;> walk_at "dt")
  | ((with_reducible apply v_1) <;> walk_at "dt")
  | ((with_reducible apply v_cons) <;> walk_at "dt")
  | ((with_reducible apply v_blt) <;> walk_at "dt")
  | ((with_reducible apply v_call) <;> walk_at "dt")
  | ((with_reducible apply v_tup) <;> walk_at "dt")
  | ((with_reducible apply v_lst) <;> walk_at "dt")
  | ((with_reducible apply v_po) <;> walk_at "dt")
  | ((with_reducible apply v_sl) <;> walk_at "dt")
  | ((with_reducible apply v_m1) <;> walk_at "dt")
  | ((with_reducible apply v_b) <;> walk_at "dt")
  | ((with_reducible apply v_notV) <;> walk_at "dt")
  | ((with_reducible apply v_not) <;> walk_at "dt")
  | ((with_reducible apply v_rng1) <;> first | omega | walk_at "dt")
  | ((with_reducible apply v_rng2) <;> first | omega | walk_at "dt")
  | walk_at "dg"
  | (show List.length _ ≤ sizeLine; first | decide | (simp only [List.length_cons, List.length_nil]; decide))
  | skip)
local macro_rules | `(tactic| walk_at "ds") => `(tactic| first
  | ((with_reducible apply w_ss) <;> first | walk_at "d1" | skip)
  | ((with_reducible apply w_r) <;> first | walk_at "d1" | skip)
  | ((with_reducible apply w_sp) <;> first | walk_at "d1" | skip)
  | ((with_reducible apply w_so) <;> first | walk_at "d1" | skip)
  | (with_reducible apply w_sv)
  | (with_reducible apply w_sq))
local macro_rules | `(tactic| walk_at "dx") => `(tactic| simp only [put, jn, List.set_cons_zero, List.set_cons_succ])
def sounds (s : Nat) (q : Nat × List Nat) : Bool := !decide (q.2 = rest s)
theorem all_rest {r : List Nat} {s : Nat} (h : r.length = s) : (∀ k, k < r.length → r.getD k 46 = 46) ↔ r = rest s := by
  constructor
  · intro ha
    unfold rest
    rw [List.eq_replicate_iff]
    refine ⟨h, fun c hc => ?_⟩
    obtain ⟨k, hk, e⟩ := List.getElem_of_mem hc
    have := ha k hk
    rw [List.getD_eq_getElem?_getD, List.getElem?_eq_getElem hk] at this
    rw [← e]
    exact this
  · intro e k hk
    rw [e]
    unfold rest
    rw [List.getD_eq_getElem?_getD, List.getElem?_replicate]
    split <;> rfl
theorem evs_row {p : Pt} {q : Nat × List Nat} (hn : (p.ps.map Prod.fst).Nodup) (hq : q ∈ p.ps) (hr : q.2.length = p.s ∧ ∀ c ∈ q.2, c = 46 ∨ c = 120 ∨ c = 88) : getR ((evs p).foldl (evU p.s) []) q.1 = if sounds p.s q = true then some q.2 else none := by
  rw [getR_evs, filter_evs hn hq]
  obtain ⟨pd, r⟩ := q
  obtain ⟨hl, hc⟩ := hr
  simp only at hl hc ⊢
  have := row_fold hc pd r.length (Nat.le_refl _)
  rw [hl] at this
  rw [show getR [] pd = none from rfl, this]
  unfold sounds
  simp only
  by_cases h : r = rest p.s
  · rw [if_pos (by rw [← hl]; exact (all_rest hl).mpr h), if_neg (by simp [h])]
  · rw [if_neg (fun ha => h ((all_rest hl).mp (by rw [hl]; exact ha))), if_pos (by simp [h])]
    congr 1
    unfold made
    rw [← hl]
    simp
theorem evs_no {p : Pt} {k : Nat} (hk : k ∉ p.ps.map Prod.fst) : getR ((evs p).foldl (evU p.s) []) k = none := by
  rw [getR_evs]
  have : ((evs p).filter fun e => decide (e.2.1 = k)) = [] := by
    rw [List.filter_eq_nil_iff]
    intro e he hh
    unfold evs at he
    obtain ⟨l, hl, hel⟩ := List.mem_flatten.mp he
    obtain ⟨j, _, rfl⟩ := List.mem_map.mp hl
    obtain ⟨l2, hl2, hel2⟩ := List.mem_flatten.mp hel
    obtain ⟨r, hr, rfl⟩ := List.mem_map.mp hl2
    unfold ev1 at hel2
    split at hel2
    · cases hel2
    · have : e = (j, r.1, decide (r.2.getD j 46 = 88)) := by simpa using hel2
      subst this
      apply hk
      have : r.1 = k := by simpa using hh
      rw [← this]
      exact List.mem_map_of_mem (f := Prod.fst) hr
  rw [this]
  rfl
theorem evU_ok {s : Nat} : ∀ (es : List Ev) {R : Rows}, RowsOk s R → RowsOk s (es.foldl (evU s) R)
  | [], _, h => h
  | e :: es, _, h => evU_ok es (updR_ok h _ _ _)
theorem mem_getR {R : Rows} {k : Nat} : k ∈ R.map Prod.fst ↔ (getR R k).isSome = true := by
  unfold getR
  constructor
  · intro h
    obtain ⟨q, hq, rfl⟩ := List.mem_map.mp h
    cases e : R.find? fun x => decide (x.1 = q.1) with
    | none =>
      have := List.find?_eq_none.mp e q hq
      simp at this
    | some x => rfl
  · intro h
    cases e : R.find? fun x => decide (x.1 = k) with
    | none => rw [e] at h; cases h
    | some x =>
      have h1 := List.mem_of_find?_eq_some e
      have h2 : x.1 = k := by simpa using List.find?_some e
      rw [← h2]
      exact List.mem_map_of_mem (f := Prod.fst) h1
structure RowP (p : Pt) : Prop where
  up : (p.ps.map Prod.fst).Pairwise (· < ·)
  row : ∀ q ∈ p.ps, q.2.length = p.s ∧ ∀ c ∈ q.2, c = 46 ∨ c = 120 ∨ c = 88
theorem evs_told {p : Pt} (h : RowP p) : (sortKeys (((evs p).foldl (evU p.s) []).map fun q => [q.1])).map (rowD ((evs p).foldl (evU p.s) [])) = (p.ps.filter (sounds p.s)).map padD := by
  have hn : (p.ps.map Prod.fst).Nodup := h.up.imp fun h => by omega
  have hok : RowsOk p.s ((evs p).foldl (evU p.s) []) := evU_ok _ ⟨by simp, fun q hq => by cases hq⟩
  have hg : ∀ q ∈ p.ps, getR ((evs p).foldl (evU p.s) []) q.1 = if sounds p.s q = true then some q.2 else none := fun q hq => evs_row hn hq (h.row q hq)
  have hno : ∀ k, k ∉ p.ps.map Prod.fst → getR ((evs p).foldl (evU p.s) []) k = none := fun k hk => evs_no hk
  generalize (evs p).foldl (evU p.s) [] = R at *
  have hkeys : sortKeys (R.map fun q => [q.1]) = (p.ps.filter (sounds p.s)).map fun q => [q.1] := by
    refine sortKeys_of ?_ ?_
    · have e1 : (p.ps.filter (sounds p.s)).map (fun q => [q.1]) = ((p.ps.filter (sounds p.s)).map Prod.fst).map fun k => [k] := by rw [List.map_map]; rfl
      have e2 : R.map (fun q => [q.1]) = (R.map Prod.fst).map fun k => [k] := by rw [List.map_map]; rfl
      rw [e1, e2]
      refine List.Perm.map _ ?_
      rw [List.perm_ext_iff_of_nodup (List.Sublist.nodup (List.Sublist.map _ List.filter_sublist) hn) hok.1]
      intro k
      rw [mem_getR (R := R)]
      constructor
      · intro hk
        obtain ⟨q, hq, rfl⟩ := List.mem_map.mp hk
        obtain ⟨hq1, hq2⟩ := List.mem_filter.mp hq
        rw [hg q hq1, if_pos hq2]
        rfl
      · intro hk
        by_cases hm : k ∈ p.ps.map Prod.fst
        · obtain ⟨q, hq, rfl⟩ := List.mem_map.mp hm
          rw [hg q hq] at hk
          split at hk
          · rename_i hs
            exact List.mem_map_of_mem (f := Prod.fst) (List.mem_filter.mpr ⟨hq, hs⟩)
          · cases hk
        · rw [hno k hm] at hk
          cases hk
    · rw [List.pairwise_map]
      have := List.Pairwise.sublist (List.filter_sublist (p := sounds p.s)) (List.pairwise_map.mp h.up)
      refine this.imp fun {a b} hab => ?_
      exact List.le_of_lt (List.Lex.rel hab)
  rw [hkeys, List.map_map]
  refine List.map_congr_left fun q hq => ?_
  obtain ⟨hq1, hq2⟩ := List.mem_filter.mp hq
  show rowD R [q.1] = padD q
  unfold rowD padD
  have e : (R.find? fun x => decide ([x.1] = [q.1])) = R.find? fun x => decide (x.1 = q.1) := by
    congr 1
    funext x
    simp
  have hgq := hg q hq1
  rw [if_pos hq2] at hgq
  unfold getR at hgq
  rw [e, hgq]
  rfl
/-! the fold over strikes -/
theorem fold_near {s : Nat} {nkf : Nat → Nat} {tf : Nat → Bool} (f : Ev → Stk) (hf : ∀ e, (f e).2 = e.2) : ∀ (es : List Ev) (z : PutSt), (∀ e ∈ es, tf (f e).1 = false ∧ nkf (f e).1 % s = e.1) → (es.map f).foldl (putS s nkf tf) z = ⟨es.foldl (evU s) z.R, z.lost⟩
  | [], z, _ => rfl
  | e :: es, z, h => by
    obtain ⟨h1, h2⟩ := h e List.mem_cons_self
    rw [List.map_cons, List.foldl_cons, List.foldl_cons]
    have : putS s nkf tf z (f e) = ⟨evU s z.R e, z.lost⟩ := by
      unfold putS
      rw [h1, if_neg (by simp), h2, hf e]
      rfl
    rw [this, fold_near f hf es _ fun x hx => h x (List.mem_cons_of_mem _ hx)]
theorem fold_far {s : Nat} {nkf : Nat → Nat} {tf : Nat → Bool} : ∀ (xs : List Stk) (z : PutSt), (∀ x ∈ xs, tf x.1 = true) → xs.foldl (putS s nkf tf) z = ⟨z.R, z.lost ++ xs⟩
  | [], z, _ => by simp
  | x :: xs, z, h => by
    rw [List.foldl_cons]
    have : putS s nkf tf z x = ⟨z.R, z.lost ++ [x]⟩ := by
      unfold putS
      rw [h x List.mem_cons_self, if_pos rfl]
    rw [this, fold_far xs _ fun y hy => h y (List.mem_cons_of_mem _ hy)]
    simp
theorem stk0_evs (sa sb : Nat) (p : Pt) : stk0 sa sb p = (evs p).map fun e => (stT sa sb p.s e.1, e.2.1, e.2.2) := by
  unfold stk0 evs
  rw [List.map_flatten, List.map_map]
  congr 1
  refine List.map_congr_left fun k _ => ?_
  show stkAt sa sb p k = ((p.ps.map (ev1 k)).flatten).map _
  unfold stkAt
  rw [List.map_flatten, List.map_map]
  congr 1
  refine List.map_congr_left fun q _ => ?_
  show stk1 sa sb p k q = (ev1 k q).map _
  unfold stk1 ev1
  split <;> rfl
theorem evs_lt {p : Pt} : ∀ e ∈ evs p, e.1 < p.s := fun e he => by
  unfold evs at he
  obtain ⟨l, hl, hel⟩ := List.mem_flatten.mp he
  obtain ⟨j, hj, rfl⟩ := List.mem_map.mp hl
  obtain ⟨l2, hl2, hel2⟩ := List.mem_flatten.mp hel
  obtain ⟨r, hr, rfl⟩ := List.mem_map.mp hl2
  unfold ev1 at hel2
  split at hel2
  · cases hel2
  · have : e = (j, r.1, decide (r.2.getD j 46 = 88)) := by simpa using hel2
    subst this
    exact List.mem_range.mp hj
end Dn
set_option Elab.async false
set_option linter.all false
set_option maxRecDepth 100000
namespace K30
open PySem L2 Dn
local macro_rules | `(tactic| walk_at "dg") => `(tactic| first
  | with_reducible exact add_i _ _ | with_reducible exact sub_i _ _ | ((with_reducible refine mul_i ?_); omega) | ((with_reducible refine fdiv_i ?_); omega) | ((with_reducible refine mod_i ?_); omega) | with_reducible exact neg_i _
  | with_reducible exact lt_i _ _ | with_reducible exact le_i _ _ | with_reducible exact gt_i _ _ | with_reducible exact ge_i _ _ | with_reducible exact eq_i _ _ | with_reducible exact ne_i _ _ | with_reducible exact eq_s _ _ | with_reducible exact ne_s _ _
  | ((with_reducible refine add_s ?_); omega) | ((with_reducible refine add_t ?_); omega) | ((with_reducible refine add_l ?_); omega) | ((with_reducible refine mul_s ?_); omega) | ((with_reducible refine mul_l ?_); omega)
  | ((with_reducible refine len_s ?_); omega) | with_reducible exact len_t _ | with_reducible exact len_l _ | with_reducible exact len_c _ | with_reducible exact int_b _ | with_reducible exact int_i _ | with_reducible exact abs_i _
  | ((with_reducible refine sl_s ?_); omega) | with_reducible exact sl_t _ _ _ | with_reducible exact sl_l _ _ _ | ((with_reducible apply ix_t); (· omega); (· rfl)) | ((with_reducible apply ix_l); (· omega); (· rfl)) | with_reducible assumption)
local macro_rules | `(tactic| walk_at "dc") => `(tactic| with_reducible assumption)
local macro_rules | `(tactic| walk_at "dn") => `(tactic| first
  | with_reducible exact v_c | with_reducible exact v_nil | with_reducible exact v_no
  | ((with_reducible apply v_var); (· rfl); (· rfl))
  | ((with_reducible apply v_2); (· walk_at "dn"); (· walk_at "dn"); (· walk_at "dg"))
  | ((with_reducible apply v_1); (· walk_at "dn"); (· walk_at "dg"))
  | ((with_reducible apply v_cons); (· walk_at "dn"); (· walk_at "dn"))
  | ((with_reducible apply v_blt); (· walk_at "dn"); (· walk_at "dg"))
  | ((with_reducible apply v_call); (· walk_at "dn"); (· walk_at "dc"))
  | ((with_reducible apply v_tup); (· walk_at "dn"); (· first | decide | (simp only [List.length_cons, List.length_nil]; decide)))
  | ((with_reducible apply v_lst); (· walk_at "dn"); (· first | decide | (simp only [List.length_cons, List.length_nil]; decide)))
  | ((with_reducible apply v_po); (· walk_at "dn"))
  | ((with_reducible apply v_sl); (· walk_at "dn"); (· walk_at "dn"); (· walk_at "dn"); (· walk_at "dg"))
  | ((with_reducible apply v_m1); (· walk_at "dn"); (· walk_at "dn"); (· walk_at "dg"))
  | ((with_reducible apply v_b); (· walk_at "dn"))
  | ((with_reducible apply v_not); (· walk_at "dn"))
  | ((with_reducible apply v_notV); (· walk_at "dn"))
  | ((with_reducible apply v_rng1); (· walk_at "dn"); (· omega))
  | ((with_reducible apply v_rng2); (· walk_at "dn"); (· omega))
  | ((with_reducible apply v_it); (· walk_at "dn"))
  | ((with_reducible apply v_itl); (· walk_at "dn"))
  | ((with_reducible apply v_its); (· walk_at "dn"))
  | with_reducible assumption)
local macro_rules | `(tactic| walk_at "dt") => `(tactic| first
  | with_reducible exact v_c | with_reducible exact v_nil | with_reducible exact v_no
  | ((with_reducible apply v_var); (· rfl); (· rfl))
  | ((with_reducible apply v_2) <;> walk_at "dt")
  | ((with_reducible apply v_1) <;> walk_at "dt")
  | ((with_reducible apply v_cons) <;> walk_at "dt")
  | ((with_reducible apply v_blt) <;> walk_at "dt")
  | ((with_reducible apply v_call) <;> walk_at "dt")
  | ((with_reducible apply v_tup) <;> walk_at "dt")
  | ((with_reducible apply v_lst) <;> walk_at "dt")
  | ((with_reducible apply v_po) <;> walk_at "dt")
  | ((with_reducible apply v_sl) <;> walk_at "dt")
  | ((with_reducible apply v_m1) <;> walk_at "dt")
  | ((with_reducible apply v_b) <;> walk_at "dt")
  | ((with_reducible apply v_notV) <;> walk_at "dt")
  | ((with_reducible apply v_not) <;> walk_at "dt")
  | ((with_reducible apply v_rng1) <;> first | omega | walk_at "dt")
  | ((with_reducible apply v_rng2) <;> first | omega | walk_at "dt")
  | walk_at "dg"
  | (show List.length _ ≤ sizeLine; first | decide | (simp only [List.length_cons, List.length_nil]; decide))
  | skip)
local macro_rules | `(tactic| walk_at "ds") => `(tactic| first
  | ((with_reducible apply w_ss) <;> first | walk_at "d1" | skip)
  | ((with_reducible apply w_r) <;> first | walk_at "d1" | skip)
  | ((with_reducible apply w_sp) <;> first | walk_at "d1" | skip)
  | ((with_reducible apply w_so) <;> first | walk_at "d1" | skip)
  | (with_reducible apply w_sv)
  | (with_reducible apply w_sq))
local macro_rules | `(tactic| walk_at "dx") => `(tactic| simp only [put, jn, List.set_cons_zero, List.set_cons_succ])
noncomputable def m__law_strikes : En → Option Fl :=
  (fSeq (fOwn 3 (fNL fNil))
  (fSeq (fFor (fRng1 (fCons (f2 ixD (fV 1) (fC (.int 0))) fNil)) (gN 4)
    (fSeq (fSet 5 (fCall n__law_add (fCons (fV 2) (fCons (fCall n__law_step (fCons (fV 0) (fCons (fV 1) (fCons (fV 4) fNil)))) fNil))))
    (fFor (fIt (f2 ixD (fV 1) (fC (.int 2)))) (gT (gCons' (gN 6) (gCons' (gN 7) gNil')))
      (fIfS (fB (f2 neD (f2 ixD (fV 7) (fV 4)) (fC (.str [46]))))
        (fApp 3 (fTup (fCons (fV 5) (fCons (fV 6) (fCons (f2 eqD (f2 ixD (fV 7) (fV 4)) (fC (.str [88]))) fNil)))))
        fPass))))
  (fSeq (fFrz 3) (fRet (fV 3)))))
noncomputable def n__law_strikes : List D → Option D := semOf 8 3 m__law_strikes
noncomputable def m_pattern_of : En → Option Fl :=
  (fSeq (fSet 2 (fBlt dictG (fCons (f2 ixD (fV 0) (fC (.int 1))) fNil)))
  (fSeq (fIfS (fB (f2 ninD (fV 1) (fV 2)))
    fStuck
    fPass)
  (fRet (f2 dixD (fV 2) (fV 1)))))
noncomputable def n_pattern_of : List D → Option D := semOf 3 2 m_pattern_of
noncomputable def m_strikes : En → Option Fl :=
  (fRet (fCall n_strikes_of (fCons (f2 ixD (fV 0) (fC (.int 0))) (fCons (fCall n_pattern_of (fCons (fV 0) (fCons (fV 1) fNil))) fNil))))
noncomputable def n_strikes : List D → Option D := semOf 2 2 m_strikes
noncomputable def w_pattern_of : WS :=
  (wSeq (wPS (fSet 2 (fBlt dictG (fCons (f2 ixD (fV 0) (fC (.int 1))) fNil))))
    (wSeq (wIf (wPT (fB (f2 ninD (fV 1) (fV 2))))
      (wRaise "NoName")
      wPass)
    (wPS (fRet (f2 dixD (fV 2) (fV 1))))))
noncomputable def wn_pattern_of : WF := semW 3 2 w_pattern_of
noncomputable def w_strikes : WS :=
  (wRet (wBlt n_strikes_of (wCons (wP (f2 ixD (fV 0) (fC (.int 0)))) (wCons (wCall wn_pattern_of (wPA (fCons (fV 0) (fCons (fV 1) fNil)))) wNil))))
noncomputable def wn_strikes : WF := semW 2 2 w_strikes
noncomputable def w_law : WS :=
  (wSeq (wPS (fSet 1 (fCall n__law_book (fCons (fCall n__law_mixed (fCons (fV 0) (fCons (fC (.int 0)) fNil))) fNil))))
    (wSeq (wPS (fSet 2 (fCall n__law_mixed (fCons (fV 0) (fCons (fC (.int 1)) fNil)))))
    (wSeq (wPS (fAsg (f2 ixD (f2 ixD (fV 1) (fC (.int 1))) (f2 modD (fV 2) (fBlt lenG (fCons (f2 ixD (fV 1) (fC (.int 1))) fNil)))) (gT (gCons' (gN 9) (gCons' (gN 10) gNil')))))
    (wSeq (wPS (fSet 3 (f2 modD (f2 fdivD (fV 2) (fC (.int 8))) (f2 mulD (fC (.int 4)) (f2 ixD (fV 10) (fC (.int 0)))))))
    (wSeq (wPS (fIfS (fB (f2 neD (fCall n_step_time (fCons (f2 ixD (fV 1) (fC (.int 0))) (fCons (fV 10) (fCons (fV 3) fNil)))) (fCall n__law_step (fCons (f2 ixD (fV 1) (fC (.int 0))) (fCons (fV 10) (fCons (fV 3) fNil))))))
      (fRet (fC (.bl false)))
      fPass))
    (wSeq (wPS (fIfS (fB (f2 neD (fCall n_strikes (fCons (fV 1) (fCons (fV 9) fNil))) (f1 tupD (fCall n__law_strikes (fCons (f2 ixD (fV 1) (fC (.int 0))) (fCons (fV 10) (fCons (fTup (fCons (fC (.int 0)) (fCons (fC (.int 1)) fNil))) fNil)))))))
      (fRet (fC (.bl false)))
      fPass))
    (wSeq (wIf (wB (w2 neD (wTold kd (wCall wn_strikes (wPA (fCons (fV 1) (fCons (fC (.str [113, 113, 113, 113])) fNil))))) (wP (fTup (fCons (fC (.str [114, 101, 102, 117, 115, 101, 100])) (fCons (fC (.int 0)) fNil))))))
      (wPS (fRet (fC (.bl false))))
      wPass)
    (wPS (fSeq (fSet 4 (fCall n__law_chain (fCons (fV 1) (fCons (fCall n__law_mixed (fCons (fV 0) (fCons (fC (.int 2)) fNil))) fNil))))
      (fSeq (fSet 5 (fTup (fCons (fC (.int 0)) (fCons (fC (.int 1)) fNil))))
      (fSeq (fSet 6 (fLst fNil))
      (fSeq (fFor (fIt (fV 4)) (gT (gCons' (gN 11) (gCons' (gN 12) gNil')))
        (fSeq (fSet 10 (f2 dixD (fBlt dictG (fCons (f2 ixD (fV 1) (fC (.int 1))) fNil)) (fV 11)))
        (fFor (fRng1 (fCons (fV 12) fNil)) (gN 13)
          (fSeq (fSet 6 (f2 addD (fV 6) (fCall n__law_strikes (fCons (f2 ixD (fV 1) (fC (.int 0))) (fCons (fV 10) (fCons (fV 5) fNil))))))
          (fSet 5 (fCall n__law_add (fCons (fV 5) (fCons (fCall n__law_frac (fCons (f2 ixD (fV 10) (fC (.int 0))) (fCons (f2 ixD (fV 10) (fC (.int 1))) fNil))) fNil))))))))
      (fSeq (fIfS (fOr (fB (f2 neD (fCall n_length (fCons (fV 1) (fCons (fV 4) fNil))) (fV 5))) (fB (f2 neD (fCall n_played (fCons (fV 1) (fCons (fV 4) fNil))) (f1 tupD (fV 6)))))
        (fRet (fC (.bl false)))
        fPass)
      (fSeq (fSet 7 (f2 addD (fC (.int 1)) (f2 modD (f2 fdivD (fV 2) (fC (.int 1024))) (f2 ixD (fTup (fCons (fC (.int 7)) (fCons (fC (.int 96)) (fCons (fC (.int 1000)) fNil)))) (f2 modD (f2 fdivD (fV 2) (fC (.int 4))) (fC (.int 3)))))))
      (fSeq (fOwn 8 (fNL fNil))
      (fSeq (fFor (fIt (fV 6)) (gT (gCons' (gN 14) (gCons' (gN 15) (gCons' (gN 16) gNil'))))
        (fSeq (fSet 17 (f2 fdivD (f2 mulD (fV 7) (f2 ixD (fV 14) (fC (.int 0)))) (f2 ixD (fV 14) (fC (.int 1)))))
        (fSeq (fSet 18 (f2 subD (f2 mulD (fC (.int 2)) (f2 subD (f2 mulD (fV 7) (f2 ixD (fV 14) (fC (.int 0)))) (f2 mulD (fV 17) (f2 ixD (fV 14) (fC (.int 1)))))) (f2 ixD (fV 14) (fC (.int 1)))))
        (fApp 8 (fTup (fCons (f2 addD (fV 17) (fBlt intG (fCons (f2 geD (fV 18) (fC (.int 0))) fNil))) (fCons (fV 15) (fCons (fV 16) fNil))))))))
      (fSeq (fFrz 8) (fRet (f2 eqD (fCall n_in_ticks (fCons (f1 tupD (fV 6)) (fCons (fV 7) fNil))) (f1 tupD (fV 8)))))))))))))))))))))
noncomputable def wn_law : WF := semW 19 1 w_law
theorem e_lawstep {sa sb k : Nat} {p : Pt} (hb : 0 < sb) (hs : 0 < p.s) (hs2 : p.s ≤ 1000) (hg : 0 < p.g) (h : sb * p.g * (sb * p.g) < 1073741824) (hk : k < 1000000) : n__law_step [pr (sa : Nat) sb, ptD p, .int (k : Nat)] = some (frD (stT sa sb p.s k : Nat) (sb * p.g)) := by
  have g0 : p.g * (sb * p.g) ≤ sb * p.g * (sb * p.g) := Nat.mul_le_mul_right _ (Nat.le_mul_of_pos_left _ hb)
  have g1 : p.g * p.g ≤ p.g * (sb * p.g) := Nat.mul_le_mul_left _ (Nat.le_mul_of_pos_left _ hb)
  have g2 : sb * p.g ≤ p.g * (sb * p.g) := Nat.le_mul_of_pos_left _ hg
  have g3 : p.g ≤ p.g * p.g := Nat.le_mul_of_pos_left _ hg
  have g4 : sb ≤ sb * p.g := Nat.le_mul_of_pos_right _ hg
  have hbg : 0 < sb * p.g := Nat.mul_pos hb hg
  have hq2 : k / p.s ≤ k := Nat.div_le_self _ _
  have hrl : k % p.s % 2 ≤ k % p.s := Nat.mod_le _ _
  refine sem_rt rfl ?_
  show m__law_step [some (pr (sa : Nat) sb), some (ptD p), some (.int (k : Nat)), none, none, none, none, none] = _
  unfold m__law_step
  refine w_sg (v_sl (by walk_at "dn") v_no (v_po v_c) (cut2 p)) rfl ?_
  refine w_ss (v_2 (by walk_at "dn") (by walk_at "dn") (fdiv_n hs (by omega))) ?_
  refine w_ss (v_2 (by walk_at "dn") (by walk_at "dn") (mod_n hs)) ?_
  refine w_ss (v_call (v_cons (v_2 (v_2 (v_2 (by walk_at "dn") (by walk_at "dn") (mul_n (.inr (by omega)))) (by walk_at "dn") add_n) (v_2 (by walk_at "dn") v_c mod_2) (sub_n (by omega))) (by walk_at "dn")) (e_lfrac hg (by omega))) ?_
  have eT : frD ((k / p.s * p.s + k % p.s - k % p.s % 2 : Nat) : Int) p.g = frD (((k / p.s * p.s + (k % p.s - k % p.s % 2)) * sb : Nat) : Int) (sb * p.g) := by
    refine frD_of hg hbg ?_
    rw [show k / p.s * p.s + k % p.s - k % p.s % 2 = k / p.s * p.s + (k % p.s - k % p.s % 2) by omega]
    simp only [Int.natCast_mul, Int.natCast_add]
    grind
  rw [eT]
  walk_at "dx"
  by_cases ho : k % p.s % 2 = 1
  · refine w_st (v_b (v_2 (v_2 (by walk_at "dn") v_c mod_2) v_c (by rw [ho]; rfl))) ?_
    refine w_ss (v_call (v_cons (by walk_at "dn") (v_cons (v_call (v_cons (v_2 v_c (v_2 (by walk_at "dn") v_c rfl) (mul_n (a := 2) (.inl (by decide)))) (v_cons (v_2 (v_2 (by walk_at "dn") v_c rfl) (by walk_at "dn") (mul_n (.inl (by omega)))) v_nil)) (e_lfrac hbg (by omega))) v_nil)) (e_ladd1 hbg h)) ?_
    refine ret_of ?_
    unfold stT
    rw [if_pos ho]
    walk_at "dn"
  · refine w_sf (v_b (v_2 (v_2 (by walk_at "dn") v_c mod_2) v_c ?_)) ?_
    · rw [show (1 : Int) = ((1 : Nat) : Int) from rfl, eq_i, decide_eq_false (by omega)]
    refine ret_of ?_
    unfold stT
    rw [if_neg ho, Nat.add_zero]
    walk_at "dn"
/-- the strikes of a pattern begun at u, in parts of 1 / (sb * M) -/
def lt1 (sa sb M u : Nat) (p : Pt) (k : Nat) (q : Nat × List Nat) : List Stk := (stk1 sa sb p k q).map fun x => late u (skM M p.g x)
theorem e_lawstrikes {sa sb M u : Nat} {p : Pt} (ok : p.Ok) (hb : 0 < sb) (hM : p.g ∣ M) (h0 : 0 < M) (h : sb * M * (sb * M) < 1073741824) : n__law_strikes [pr (sa : Nat) sb, ptD p, frD (u : Nat) (sb * M)] = some (.lst (((stk sa sb M p).map (late u)).map (skD (sb * M)))) := by
  refine sem_rt rfl ?_
  show m__law_strikes [some (pr (sa : Nat) sb), some (ptD p), some (frD (u : Nat) (sb * M)), none, none, none, none, none] = _
  have hs1 := ok.s1
  have hle : sb * p.g ≤ sb * M := Nat.mul_le_mul_left _ (Nat.le_of_dvd h0 hM)
  have hle2 := Nat.mul_le_mul hle hle
  have L0 : 0 < sb * M := Nat.mul_pos hb h0
  have hat : ∀ k, (stkAt sa sb p k).map (fun x => late u (skM M p.g x)) = (p.ps.map (lt1 sa sb M u p k)).flatten := fun k => by
    unfold stkAt lt1
    rw [List.map_flatten, List.map_map]
    rfl
  have hall : (stk sa sb M p).map (late u) = ((List.range p.s).map fun k => (stkAt sa sb p k).map (fun x => late u (skM M p.g x))).flatten := by
    unfold stk stk0
    rw [List.map_map, List.map_flatten, List.map_map]
    rfl
  unfold m__law_strikes
  refine w_so (ds := []) (show fNL fNil _ = _ from by unfold fNL; rfl) ?_
  refine w_ffold (fun i : Nat => D.int (i : Nat)) (fun s : List Stk => [(3, .own (s.map (skD (sb * M))))]) [4, 5, 6, 7] (fun s k => s ++ (stkAt sa sb p k).map (fun x => late u (skM M p.g x))) (List.range p.s) [] (v_rng1 (n := ((p.s : Nat) : Int)) (v_cons (v_2 (by walk_at "dn") v_c rfl) v_nil) (by omega)) rfl ?_ ?_
  · intro pre k q w hp
    obtain ⟨k1, k2, k3⟩ := range_at hp
    refine ⟨_, rfl, ?_⟩
    have hacc : (pre.foldl (fun s k => s ++ (stkAt sa sb p k).map (fun x => late u (skM M p.g x))) []).length ≤ 5000 := by
      rw [foldl_cat, List.nil_append]
      refine Nat.le_trans (flat_len _ 5 (fun x => by rw [List.length_map]; exact Nat.le_trans (stkAt_len sa sb p x p.ps) ok.few) pre) ?_
      have : pre.length * 5 ≤ 1000 * 5 := Nat.mul_le_mul_right _ (by omega)
      omega
    generalize pre.foldl (fun s k => s ++ (stkAt sa sb p k).map (fun x => late u (skM M p.g x))) [] = acc at *
    walk_at "dx"
    have etm : frD (stT sa sb p.s k : Nat) (sb * p.g) = frD ((stT sa sb p.s k * (M / p.g) : Nat) : Int) (sb * M) := by
      have := skD_M hb ok.g0 hM h0 (stT sa sb p.s k, 0, true)
      unfold skD skM at this
      simpa using this
    refine en_ss (d := frD ((u + stT sa sb p.s k * (M / p.g) : Nat) : Int) (sb * M)) (v_call (v_cons (by walk_at "dn") (v_cons (v_call (by walk_at "dn") (e_lawstep hb ok.s0 ok.s1 ok.g0 (by omega) (by omega))) v_nil)) (by rw [etm]; exact e_laddn L0 h)) ?_
    walk_at "dx"
    rw [hat k]
    refine en_last (en_ffold padD (fun s : List Stk => [(3, .own (s.map (skD (sb * M))))]) [6, 7] (fun s q => s ++ lt1 sa sb M u p k q) p.ps acc (v_it (v_2 (by walk_at "dn") v_c rfl)) rfl ?_ ?_)
    · intro pre2 q2 r2 w2 hp2
      have hq2 : q2 ∈ p.ps := by rw [hp2]; simp
      obtain ⟨hl, hr⟩ := ok.row q2 hq2
      have hacc2 : (pre2.foldl (fun s q => s ++ lt1 sa sb M u p k q) acc).length ≤ 10000 := by
        rw [foldl_cat, List.length_append]
        have := flat_len (lt1 sa sb M u p k) 1 (fun x => by unfold lt1 stk1; rw [List.length_map]; split <;> simp) pre2
        have h5 := congrArg List.length hp2
        have := ok.few
        simp at h5
        omega
      generalize pre2.foldl (fun s q => s ++ lt1 sa sb M u p k q) acc = acc2 at *
      refine ⟨_, rfl, ?_⟩
      walk_at "dx"
      have eix : ixD (.str q2.2) (.int (k : Nat)) = some (.str [q2.2.getD k 46]) := ix_s (by omega) (by omega) (by rw [Int.toNat_natCast]; exact at_get (by omega))
      by_cases hm : q2.2.getD k 46 = 46
      · apply en_w
        · refine w_iff (v_b (v_2 (v_2 (by walk_at "dn") (by walk_at "dn") eix) v_c ?_)) w_pass
          rw [ne_s, hm]
          rfl
        · unfold lt1 stk1
          rw [if_pos hm, List.map_nil, List.append_nil]
          rfl
      · apply en_w
        · refine w_ift (v_b (v_2 (v_2 (by walk_at "dn") (by walk_at "dn") eix) v_c ?_)) (w_app (d := skD (sb * M) (u + stT sa sb p.s k * (M / p.g), q2.1, decide (q2.2.getD k 46 = 88))) (v_tup (v_cons (by walk_at "dn") (v_cons (by walk_at "dn") (v_cons (v_2 (v_2 (by walk_at "dn") (by walk_at "dn") eix) v_c ?_) v_nil))) (show 3 ≤ sizeLine by decide)) rfl (by rw [List.length_map]; omega))
          · rw [ne_s, decide_eq_false (by simpa using hm)]
            rfl
          · rw [eq_s]
            congr 2
            exact decide_eq_decide.mpr (by simp)
        · unfold lt1 stk1
          rw [if_neg hm, List.map_append]
          rfl
    · intro w2
      rw [foldl_cat]
      walk_at "dx"
      exact en_pass rfl
  · intro w
    rw [foldl_cat, List.nil_append, ← hall]
    walk_at "dx"
    exact w_frz rfl (ret_of (by walk_at "dn"))
theorem tick_low {n : Int} {b : Nat} (hb : 0 < b) : (2 * n + (b : Nat)) / (2 * (b : Nat)) = n / (b : Nat) + (if 2 * (n - n / (b : Nat) * (b : Nat)) - (b : Nat) ≥ 0 then 1 else 0) := by
  have h1 := Int.emod_add_mul_ediv n (b : Nat)
  have h2 := Int.emod_nonneg n (show ((b : Nat) : Int) ≠ 0 by omega)
  have h3 := Int.emod_lt_of_pos n (show (0 : Int) < (b : Nat) by omega)
  generalize n % (b : Nat) = r at *
  generalize n / (b : Nat) = q at *
  subst h1
  have e : 2 * (r + (b : Int) * q) + b = (2 * r + b) + (2 * (b : Int)) * q := by grind
  rw [e, Int.add_mul_ediv_left _ _ (by omega)]
  have e2 : r + (b : Int) * q - q * b = r := by grind
  rw [e2]
  by_cases h : 2 * r - (b : Int) ≥ 0
  · rw [if_pos h]
    have : (2 * r + b) / (2 * (b : Int)) = 1 := by
      rw [Int.ediv_eq_iff_of_pos (by omega)]
      omega
    omega
  · rw [if_neg h]
    have : (2 * r + b) / (2 * (b : Int)) = 0 := Int.ediv_eq_zero_of_lt (by omega) (by omega)
    omega
theorem fold_rounds {sa sb M : Nat} {x : Pt} : ∀ (xs : List Nat) (s : Nat × List Stk), xs.foldl (fun s _ => (s.1 + rlen sb M x, s.2 ++ (stk sa sb M x).map (late s.1))) s = (s.1 + tot sb M (List.replicate xs.length x), s.2 ++ playL sa sb M s.1 (List.replicate xs.length x))
  | [], s => by simp [tot, playL]
  | _ :: xs, s => by
    rw [List.foldl_cons, fold_rounds xs, List.length_cons, List.replicate_succ, playL]
    simp [tot, Nat.add_assoc]
def noOwnB (env : En) : Bool := env.all fun x => match x with
  | some d => !d.isOwn
  | none => true
theorem no_own {env : En} (h : noOwnB env = true) : NoOwn env := fun d hd => by
  have := List.all_eq_true.mp h _ hd
  simpa using this
theorem wrong_name {b : Bk} (dr : b.Drawn) {st : Sto} {K : D → Sto → Prop} {E : Str → Sto → Prop} (h : E "NoName" st) : wn_strikes.run [bookD b, .str [113, 113, 113, 113]] st K E := by
  refine ⟨rfl, ?_⟩
  show w_strikes.run [some (bookD b), some (.str [113, 113, 113, 113])] _ _
  unfold w_strikes
  refine ⟨_, v_2 (by walk_at "dn") v_c rfl, _, v_cons (by walk_at "dn") (v_cons (by walk_at "dn") v_nil), rfl, ?_⟩
  show w_pattern_of.run [some (bookD b), some (.str [113, 113, 113, 113]), none] _ _
  unfold w_pattern_of
  refine u_nx (w_set (v_blt (v_cons (v_2 (by walk_at "dn") v_c (show ixD (bookD b) (.int 1) = some (.tup (b.ps.map nmD)) from rfl)) v_nil) (dict_nm dr.nodup)) rfl) (no_own rfl) ?_
  refine ⟨true, v_b (v_2 (by walk_at "dn") (by walk_at "dn") ?_), h⟩
  show (inB _ _).bind _ = _
  rw [inB_dct, any_nm]
  have : (b.ps.find? fun q => decide (q.1 = [113, 113, 113, 113])) = none := by
    rw [List.find?_eq_none]
    intro q hq hx
    have h1 := dr.sub.subset (List.mem_map_of_mem (f := Prod.fst) hq)
    have : q.1 = [113, 113, 113, 113] := by simpa using hx
    rw [this] at h1
    revert h1
    decide
  rw [this]
  rfl
end K30
set_option Elab.async false
set_option linter.all false
set_option maxRecDepth 100000
namespace K41
open PySem L2 Dn
local macro_rules | `(tactic| walk_at "dg") => `(tactic| first
  | with_reducible exact add_i _ _ | with_reducible exact sub_i _ _ | ((with_reducible refine mul_i ?_); omega) | ((with_reducible refine fdiv_i ?_); omega) | ((with_reducible refine mod_i ?_); omega) | with_reducible exact neg_i _
  | with_reducible exact lt_i _ _ | with_reducible exact le_i _ _ | with_reducible exact gt_i _ _ | with_reducible exact ge_i _ _ | with_reducible exact eq_i _ _ | with_reducible exact ne_i _ _ | with_reducible exact eq_s _ _ | with_reducible exact ne_s _ _
  | ((with_reducible refine add_s ?_); omega) | ((with_reducible refine add_t ?_); omega) | ((with_reducible refine add_l ?_); omega) | ((with_reducible refine mul_s ?_); omega) | ((with_reducible refine mul_l ?_); omega)
  | ((with_reducible refine len_s ?_); omega) | with_reducible exact len_t _ | with_reducible exact len_l _ | with_reducible exact len_c _ | with_reducible exact int_b _ | with_reducible exact int_i _ | with_reducible exact abs_i _
  | ((with_reducible refine sl_s ?_); omega) | with_reducible exact sl_t _ _ _ | with_reducible exact sl_l _ _ _ | ((with_reducible apply ix_t); (· omega); (· rfl)) | ((with_reducible apply ix_l); (· omega); (· rfl)) | with_reducible assumption)
local macro_rules | `(tactic| walk_at "dc") => `(tactic| with_reducible assumption)
local macro_rules | `(tactic| walk_at "dn") => `(tactic| first
  | with_reducible exact v_c | with_reducible exact v_nil | with_reducible exact v_no
  | ((with_reducible apply v_var); (· rfl); (· rfl))
  | ((with_reducible apply v_2); (· walk_at "dn"); (· walk_at "dn"); (· walk_at "dg"))
  | ((with_reducible apply v_1); (· walk_at "dn"); (· walk_at "dg"))
  | ((with_reducible apply v_cons); (· walk_at "dn"); (· walk_at "dn"))
  | ((with_reducible apply v_blt); (· walk_at "dn"); (· walk_at "dg"))
  | ((with_reducible apply v_call); (· walk_at "dn"); (· walk_at "dc"))
  | ((with_reducible apply v_tup); (· walk_at "dn"); (· first | decide | (simp only [List.length_cons, List.length_nil]; decide)))
  | ((with_reducible apply v_lst); (· walk_at "dn"); (· first | decide | (simp only [List.length_cons, List.length_nil]; decide)))
  | ((with_reducible apply v_po); (· walk_at "dn"))
  | ((with_reducible apply v_sl); (· walk_at "dn"); (· walk_at "dn"); (· walk_at "dn"); (· walk_at "dg"))
  | ((with_reducible apply v_m1); (· walk_at "dn"); (· walk_at "dn"); (· walk_at "dg"))
  | ((with_reducible apply v_b); (· walk_at "dn"))
  | ((with_reducible apply v_not); (· walk_at "dn"))
  | ((with_reducible apply v_notV); (· walk_at "dn"))
  | ((with_reducible apply v_rng1); (· walk_at "dn"); (· omega))
  | ((with_reducible apply v_rng2); (· walk_at "dn"); (· omega))
  | ((with_reducible apply v_it); (· walk_at "dn"))
  | ((with_reducible apply v_itl); (· walk_at "dn"))
  | ((with_reducible apply v_its); (· walk_at "dn"))
  | with_reducible assumption)
local macro_rules | `(tactic| walk_at "dt") => `(tactic| first
  | with_reducible exact v_c | with_reducible exact v_nil | with_reducible exact v_no
  | ((with_reducible apply v_var); (· rfl); (· rfl))
  | ((with_reducible apply v_2) <;> walk_at "dt")
  | ((with_reducible apply v_1) <;> walk_at "dt")
  | ((with_reducible apply v_cons) <;> walk_at "dt")
  | ((with_reducible apply v_blt) <;> walk_at "dt")
  | ((with_reducible apply v_call) <;> walk_at "dt")
  | ((with_reducible apply v_tup) <;> walk_at "dt")
  | ((with_reducible apply v_lst) <;> walk_at "dt")
  | ((with_reducible apply v_po) <;> walk_at "dt")
  | ((with_reducible apply v_sl) <;> walk_at "dt")
  | ((with_reducible apply v_m1) <;> walk_at "dt")
  | ((with_reducible apply v_b) <;> walk_at "dt")
  | ((with_reducible apply v_notV) <;> walk_at "dt")
  | ((with_reducible apply v_not) <;> walk_at "dt")
  | ((with_reducible apply v_rng1) <;> first | omega | walk_at "dt")
  | ((with_reducible apply v_rng2) <;> first | omega | walk_at "dt")
  | walk_at "dg"
  | (show List.length _ ≤ sizeLine; first | decide | (simp only [List.length_cons, List.length_nil]; decide))
  | skip)
local macro_rules | `(tactic| walk_at "ds") => `(tactic| first
  | ((with_reducible apply w_ss) <;> first | walk_at "d1" | skip)
  | ((with_reducible apply w_r) <;> first | walk_at "d1" | skip)
  | ((with_reducible apply w_sp) <;> first | walk_at "d1" | skip)
  | ((with_reducible apply w_so) <;> first | walk_at "d1" | skip)
  | (with_reducible apply w_sv)
  | (with_reducible apply w_sq))
local macro_rules | `(tactic| walk_at "dx") => `(tactic| simp only [put, jn, List.set_cons_zero, List.set_cons_succ])
noncomputable def w_law : WS :=
  (wSeq (wPS (fSet 1 (fCall n__law_book (fCons (fCall n__law_mixed (fCons (fV 0) (fCons (fC (.int 0)) fNil))) fNil))))
    (wSeq (wPS (fSet 2 (fCall n__law_mixed (fCons (fV 0) (fCons (fC (.int 1)) fNil)))))
    (wSeq (wPS (fAsg (f2 ixD (f2 ixD (fV 1) (fC (.int 1))) (f2 modD (fV 2) (fBlt lenG (fCons (f2 ixD (fV 1) (fC (.int 1))) fNil)))) (gT (gCons' (gN 18) (gCons' (gN 19) gNil')))))
    (wSeq (wPS (fAsg (fV 19) (gT (gCons' (gN 20) (gCons' (gN 21) (gCons' (gN 22) gNil'))))))
    (wSeq (wPS (fSet 3 (f2 ixD (fV 1) (fC (.int 0)))))
    (wSeq (wPS (fSet 4 (fCall n_strikes (fCons (fV 1) (fCons (fV 18) fNil)))))
    (wSeq (wPS (fSet 5 (fTup (fCons (fV 20) (fCons (fV 21) (fCons (f1 tupD (fLc (fIt (fV 22)) (gN 17) (fB (f2 neD (f2 ixD (fV 17) (fC (.int 1))) (f2 mulD (fC (.str [46])) (fV 20)))) (fV 17) [17])) fNil))))))
    (wSeq (wIf (wB (w2 neD (wCall wn_put_right (wPA (fCons (fV 3) (fCons (fV 20) (fCons (fV 21) (fCons (fV 4) (fCons (fTup (fCons (fC (.int 0)) (fCons (fC (.int 1)) fNil))) fNil))))))) (wP (fTup (fCons (fV 5) (fCons (fTup fNil) fNil))))))
      (wPS (fRet (fC (.bl false))))
      wPass)
    (wSeq (wPS (fSet 6 (fCall n__law_frac (fCons (f2 addD (fC (.int 1)) (f2 modD (f2 fdivD (fV 2) (fC (.int 8))) (fC (.int 9)))) (fCons (f2 mulD (fC (.int 40)) (fV 21)) fNil)))))
    (wSeq (wPS (fSet 7 (f1 tupD (fLc (fIt (fV 4)) (gT (gCons' (gN 23) (gCons' (gN 24) (gCons' (gN 25) gNil')))) fYes (fTup (fCons (fCall n__law_add (fCons (fV 23) (fCons (fV 6) fNil))) (fCons (fV 24) (fCons (fV 25) fNil)))) [23, 24, 25]))))
    (wSeq (wFor (fIt (fTup (fCons (fV 6) (fCons (fTup (fCons (fC (.int 1)) (fCons (fC (.int 1)) fNil))) fNil)))) (gN 8)
      (wIf (wB (w2 neD (wCall wn_put_right (wPA (fCons (fV 3) (fCons (fV 20) (fCons (fV 21) (fCons (fV 7) (fCons (fV 8) fNil))))))) (wP (fTup (fCons (fV 5) (fCons (fTup fNil) fNil))))))
        (wPS (fRet (fC (.bl false))))
        wPass))
    (wSeq (wIf (wB (w2 neD (wCall wn_put_right (wPA (fCons (fV 3) (fCons (fV 20) (fCons (fV 21) (fCons (fV 7) (fCons (fTup (fCons (fC (.int 0)) (fCons (fC (.int 1)) fNil))) fNil))))))) (wP (fTup (fCons (fTup (fCons (fV 20) (fCons (fV 21) (fCons (fTup fNil) fNil)))) (fCons (fV 7) fNil))))))
      (wPS (fRet (fC (.bl false))))
      wPass)
    (wSeq (wPS (fSet 9 (fCall n_beats (fCons (fV 19) fNil))))
    (wSeq (wPS (fSet 10 (f2 addD (fC (.int 1)) (f2 modD (f2 fdivD (fV 2) (fC (.int 128))) (fC (.int 3))))))
    (wSeq (wPS (fSet 11 (fTup (fCons (f2 mulD (fV 10) (f2 ixD (fV 9) (fC (.int 0)))) (fCons (f2 ixD (fV 9) (fC (.int 1))) fNil)))))
    (wSeq (wPS (fSet 12 (f1 tupD (fLc (fIt (fV 4)) (gT (gCons' (gN 23) (gCons' (gN 24) (gCons' (gN 25) gNil')))) fYes (fTup (fCons (fCall n__law_add (fCons (fV 23) (fCons (fV 11) fNil))) (fCons (fV 24) (fCons (fV 25) fNil)))) [23, 24, 25]))))
    (wSeq (wIf (wB (w2 neD (wCall wn_put_right (wPA (fCons (fV 3) (fCons (fV 20) (fCons (fV 21) (fCons (fV 12) (fCons (fTup (fCons (fC (.int 0)) (fCons (fC (.int 1)) fNil))) fNil))))))) (wP (fTup (fCons (fV 5) (fCons (fTup fNil) fNil))))))
      (wPS (fRet (fC (.bl false))))
      wPass)
    (wPS (fSeq (fSet 13 (f2 modD (f2 fdivD (fV 2) (fC (.int 512))) (f2 mulD (fC (.int 3)) (fV 20))))
      (fSeq (fIfS (fB (f2 neD (fCall n_nearest (fCons (fV 3) (fCons (fV 19) (fCons (fCall n_step_time (fCons (fV 3) (fCons (fV 19) (fCons (fV 13) fNil)))) fNil)))) (fTup (fCons (fV 13) (fCons (fTup (fCons (fC (.int 0)) (fCons (fC (.int 1)) fNil))) fNil)))))
        (fRet (fC (.bl false)))
        fPass)
      (fSeq (fSet 14 (fCall n_step_time (fCons (fV 3) (fCons (fV 19) (fCons (fV 13) fNil)))))
      (fSeq (fSet 15 (fCall n_step_time (fCons (fV 3) (fCons (fV 19) (fCons (f2 addD (fV 13) (fC (.int 1))) fNil)))))
      (fSeq (fSet 16 (fCall n__law_frac (fCons (f2 addD (f2 mulD (f2 ixD (fV 14) (fC (.int 0))) (f2 ixD (fV 15) (fC (.int 1)))) (f2 mulD (f2 ixD (fV 15) (fC (.int 0))) (f2 ixD (fV 14) (fC (.int 1))))) (fCons (f2 mulD (f2 mulD (fC (.int 2)) (f2 ixD (fV 14) (fC (.int 1)))) (f2 ixD (fV 15) (fC (.int 1)))) fNil))))
      (fSeq (fIfS (fB (f2 neD (f2 ixD (fCall n_nearest (fCons (fV 3) (fCons (fV 19) (fCons (fV 16) fNil)))) (fC (.int 0))) (fV 13)))
        (fRet (fC (.bl false)))
        fPass)
      (fSeq (fSet 17 (fCall n__law_add (fCons (fV 16) (fCons (fTup (fCons (fC (.int 1)) (fCons (fC (.int 1000)) fNil))) fNil))))
      (fRet (f2 eqD (f2 ixD (fCall n_nearest (fCons (fV 3) (fCons (fV 19) (fCons (fV 17) fNil)))) (fC (.int 0))) (f2 addD (fV 13) (fC (.int 1))))))))))))))))))))))))))))))
noncomputable def wn_law : WF := semW 26 1 w_law
/-! times in parts of 1 / (sb * g * 40) -/
section
variable {sa sb s : Nat}
theorem gap_ge (w : Swg sa sb) (hs : 0 < s) (k : Nat) : sb ≤ 2 * (stT sa sb s (k + 1) - stT sa sb s k) ∧ stT sa sb s k < stT sa sb s (k + 1) := by
  have e : ∀ k, ∃ B o, k = B + o ∧ o ≤ 1 ∧ stT sa sb s k = B * sb + o * (2 * sa) := fun k => by
    refine ⟨k / s * s + (k % s - k % s % 2), k % s % 2, ?_, by omega, ?_⟩
    · have := Nat.div_add_mod' k s
      have := Nat.mod_le (k % s) 2
      omega
    · unfold stT
      by_cases h : k % s % 2 = 1
      · rw [if_pos h, h, Nat.one_mul]
      · rw [if_neg h, show k % s % 2 = 0 by omega, Nat.zero_mul]
  obtain ⟨B, o, h1, h2, h3⟩ := e k
  obtain ⟨B', o', h1', h2', h3'⟩ := e (k + 1)
  have := w.hi
  have := w.lo
  have := w.b0
  rw [h3, h3']
  have c1 : o = 0 ∨ o = 1 := by omega
  have c2 : o' = 0 ∨ o' = 1 := by omega
  rcases c1 with rfl | rfl <;> rcases c2 with rfl | rfl
  · have : B' = B + 1 := by omega
    subst this
    rw [Nat.add_mul, Nat.one_mul]
    omega
  · have : B' = B := by omega
    subst this
    omega
  · have : B' = B + 2 := by omega
    subst this
    rw [Nat.add_mul]
    omega
  · have : B' = B + 1 := by omega
    subst this
    rw [Nat.add_mul, Nat.one_mul]
    omega
end
theorem tau_round {sa sb s c k : Nat} (hs : 0 < s) (n : Nat) : tau sa sb s c (k + n * s) = tau sa sb s c k + n * (s * (sb * c)) := by
  unfold tau stT
  rw [Nat.add_mul_div_right _ _ hs, Nat.add_mul_mod_self_right]
  grind
theorem near0 {p : Pt} {sa sb c : Nat} (w : Swg sa sb) (hp : p.Drawn) (c0 : 0 < c) (c1 : c ≤ 2000) (T : Nat) (hT : T < 100 * (p.s * (sb * c))) : NearOk sa sb p.s p.g c T := by
  have hg := Nat.mul_le_mul w.b1 hp.g1
  have hL := Nat.mul_le_mul hg c1
  refine ⟨w, hp.s0, hp.s1, hp.g0, c0, Nat.lt_of_le_of_lt (Nat.mul_le_mul hL hg) (by decide), by omega, ?_⟩
  have hu : 0 < p.s * (sb * c) := Nat.mul_pos hp.s0 (Nat.mul_pos w.b0 c0)
  rw [Nat.div_lt_iff_lt_mul hu]
  omega
theorem rowP {p : Pt} (h : p.Drawn) : RowP p := ⟨h.rise, fun q hq => ⟨(h.row q hq).1, fun c hc => (h.row q hq).2 c hc⟩⟩
/-- a pattern's strikes, d after their time, n rounds later -/
def ats (sa sb c : Nat) (p : Pt) (d n : Nat) : List Stk := (evs p).map fun e => (tau sa sb p.s c e.1 + n * (p.s * (sb * c)) + d, e.2.1, e.2.2)
theorem ats_near {sa sb c d n B m : Nat} {p : Pt} (w : Swg sa sb) (hp : p.Drawn) (c0 : 0 < c) (c1 : c ≤ 2000) (hd : 4 * d ≤ sb * c) (hn : n ≤ 3) : ∀ e ∈ evs p, nk sa sb p.s c (tau sa sb p.s c e.1 + n * (p.s * (sb * c)) + d) = e.1 + n * p.s ∧ NearOk sa sb p.s p.g c (tau sa sb p.s c e.1 + n * (p.s * (sb * c)) + d) ∧ far sa sb p.s c (tau sa sb p.s c e.1 + n * (p.s * (sb * c)) + d) (e.1 + n * p.s) = d := fun e he => by
  have hlt := evs_lt e he
  have htl := tau_lt (sa := sa) (sb := sb) (c := c) hp.s0 c0 w hlt
  have h1 := tau_mul (sa := sa) (sb := sb) (c := c) hp.s0 1
  rw [Nat.one_mul, Nat.one_mul] at h1
  rw [h1] at htl
  have hu : sb * c ≤ p.s * (sb * c) := Nat.le_mul_of_pos_left _ hp.s0
  have hnn : n * (p.s * (sb * c)) ≤ 3 * (p.s * (sb * c)) := Nat.mul_le_mul_right _ hn
  have hN := near0 (p := p) w hp c0 c1 (tau sa sb p.s c e.1 + n * (p.s * (sb * c)) + d) (by omega)
  have hr := tau_round (sa := sa) (sb := sb) (c := c) (k := e.1) hp.s0 n
  have hgap := (gap_ge w hp.s0 (e.1 + n * p.s)).1
  have hgc : sb * c ≤ 2 * (tau sa sb p.s c (e.1 + n * p.s + 1) - tau sa sb p.s c (e.1 + n * p.s)) := by
    unfold tau
    rw [← Nat.sub_mul, ← Nat.mul_assoc]
    exact Nat.mul_le_mul_right _ hgap
  refine ⟨nk_after hN (k := e.1 + n * p.s) (d := d) (by rw [hr]) (by omega), hN, ?_⟩
  unfold far off
  rw [hr]
  omega
theorem ats_put {sa sb c d n B m : Nat} {p : Pt} (w : Swg sa sb) (hp : p.Drawn) (c0 : 0 < c) (c1 : c ≤ 2000) (hd : 4 * d ≤ sb * c) (hn : n ≤ 3) (hB : d * m ≤ B * (sb * p.g * c)) : (ats sa sb c p d n).foldl (putS p.s (nk sa sb p.s c) (tooFar (sb * p.g * c) B m fun T => far sa sb p.s c T (nk sa sb p.s c T))) ⟨[], []⟩ = ⟨(evs p).foldl (evU p.s) [], []⟩ := by
  unfold ats
  refine fold_near (fun e => (tau sa sb p.s c e.1 + n * (p.s * (sb * c)) + d, e.2.1, e.2.2)) (fun e => rfl) (evs p) ⟨[], []⟩ fun e he => ?_
  obtain ⟨h1, h2, h3⟩ := ats_near (B := 0) (m := 0) w hp c0 c1 hd hn e he
  refine ⟨?_, ?_⟩
  · exact decide_eq_false (by
      show ¬ (B * (sb * p.g * c) < far sa sb p.s c (tau sa sb p.s c e.1 + n * (p.s * (sb * c)) + d) (nk sa sb p.s c (tau sa sb p.s c e.1 + n * (p.s * (sb * c)) + d)) * m)
      rw [h1, h3]
      omega)
  · simp only
    rw [h1, Nat.add_mul_mod_self_right, Nat.mod_eq_of_lt (evs_lt e he)]
theorem ats_lost {sa sb c d n B m : Nat} {p : Pt} (w : Swg sa sb) (hp : p.Drawn) (c0 : 0 < c) (c1 : c ≤ 2000) (hd : 4 * d ≤ sb * c) (hn : n ≤ 3) (hB : B * (sb * p.g * c) < d * m) : (ats sa sb c p d n).foldl (putS p.s (nk sa sb p.s c) (tooFar (sb * p.g * c) B m fun T => far sa sb p.s c T (nk sa sb p.s c T))) ⟨[], []⟩ = ⟨[], ats sa sb c p d n⟩ := by
  rw [fold_far]
  · simp
  · intro x hx
    unfold ats at hx
    obtain ⟨e, he, rfl⟩ := List.mem_map.mp hx
    obtain ⟨h1, h2, h3⟩ := ats_near (B := 0) (m := 0) w hp c0 c1 hd hn e he
    exact decide_eq_true (by
      show B * (sb * p.g * c) < far sa sb p.s c (tau sa sb p.s c e.1 + n * (p.s * (sb * c)) + d) (nk sa sb p.s c (tau sa sb p.s c e.1 + n * (p.s * (sb * c)) + d)) * m
      rw [h1, h3]
      exact hB)
theorem ats_len {sa sb c d n : Nat} {p : Pt} (hp : p.Drawn) : (ats sa sb c p d n).length ≤ 80 := by
  unfold ats
  rw [List.length_map]
  have h := stk0_evs sa sb p
  have := congrArg List.length h
  rw [List.length_map] at this
  rw [← this]
  have h2 := stk_len sa sb p.g p
  unfold stk at h2
  rw [List.length_map] at h2
  have := Nat.mul_le_mul hp.s1 hp.ok.few
  omega
theorem ats_keys {sa sb c d n : Nat} {p : Pt} : ∀ x ∈ ats sa sb c p d n, x.2.1 ∈ p.ps.map Prod.fst := fun x hx => by
  unfold ats at hx
  obtain ⟨e, he, rfl⟩ := List.mem_map.mp hx
  unfold evs at he
  obtain ⟨l, hl, hel⟩ := List.mem_flatten.mp he
  obtain ⟨j, hj, rfl⟩ := List.mem_map.mp hl
  obtain ⟨l2, hl2, hel2⟩ := List.mem_flatten.mp hel
  obtain ⟨r, hr, rfl⟩ := List.mem_map.mp hl2
  unfold ev1 at hel2
  split at hel2
  · cases hel2
  · have : e = (j, r.1, decide (r.2.getD j 46 = 88)) := by simpa using hel2
    subst this
    exact List.mem_map_of_mem (f := Prod.fst) hr
def dueD (p : Pt) : D := .tup [.int (p.s : Nat), .int (p.g : Nat), .tup ((p.ps.filter (sounds p.s)).map padD)]
theorem res_due {p : Pt} (hp : p.Drawn) (L : Nat) : resD p.s p.g L ⟨(evs p).foldl (evU p.s) [], []⟩ = .tup [dueD p, .tup []] := by
  unfold resD dueD
  rw [evs_told (rowP hp)]
  rfl
/-- put_right of such strikes -/
theorem put_ats {sa sb c d n B m : Nat} {p : Pt} {st : Sto} {K : D → Sto → Prop} {E : Str → Sto → Prop} (w : Swg sa sb) (hp : p.Drawn) (c0 : 0 < c) (c1 : c ≤ 80) (hd : 4 * d ≤ sb * c) (hn : n ≤ 3) (m0 : 0 < m) (m1 : m < 1073741824)
    (k : (d * m ≤ B * (sb * p.g * c) ∧ ∀ s, K (.tup [dueD p, .tup []]) s) ∨ (B * (sb * p.g * c) < d * m ∧ ∀ s, K (.tup [.tup [.int (p.s : Nat), .int (p.g : Nat), .tup []], .tup ((ats sa sb c p d n).map (skD (sb * p.g * c)))]) s)) :
    wn_put_right.run [pr (sa : Nat) sb, .int (p.s : Nat), .int (p.g : Nat), .tup ((ats sa sb c p d n).map (skD (sb * p.g * c))), frD (B : Nat) m] st K E := by
  have hg := Nat.mul_le_mul w.b1 hp.g1
  have hL := Nat.mul_le_mul hg c1
  have hl := ats_len (sa := sa) (sb := sb) (c := c) (d := d) (n := n) hp
  refine wr_put (fun x hx => ?_) hp.s0 hp.s1 hp.g0 w.b0 c0 (Nat.lt_of_le_of_lt (Nat.mul_le_mul hL hL) (by decide)) m0 m1 (by omega) (Ks := p.ps.map Prod.fst) ats_keys (by rw [List.length_map]; have := hp.ok.few; omega) fun s' => ?_
  · unfold ats at hx
    obtain ⟨e, he, rfl⟩ := List.mem_map.mp hx
    exact (ats_near (B := 0) (m := 0) w hp c0 (by omega) hd hn e he).2.1
  · rcases k with ⟨hB, k⟩ | ⟨hB, k⟩
    · rw [ats_put w hp c0 (by omega) hd hn hB, res_due hp]
      exact k s'
    · rw [ats_lost w hp c0 (by omega) hd hn hB]
      have e0 : ∀ l, resD p.s p.g (sb * p.g * c) ⟨[], l⟩ = .tup [.tup [.int (p.s : Nat), .int (p.g : Nat), .tup []], .tup (l.map (skD (sb * p.g * c)))] := fun l => by
        unfold resD
        simp [sortKeys]
      rw [e0]
      exact k s'
theorem ok_due (p : Pt) : okN 60 (.tup [dueD p, .tup []]) = true := by
  have h2 : okN 58 (.tup ((p.ps.filter (sounds p.s)).map padD)) = true := okN_all padD 57 (fun k => rfl) _
  have h4 : okN 59 (dueD p) = true := by
    show ([D.int (p.s : Nat), .int (p.g : Nat), .tup ((p.ps.filter (sounds p.s)).map padD)].all fun y => okN 58 y) = true
    rw [List.all_cons, List.all_cons, List.all_cons, h2]
    rfl
  show ([dueD p, .tup []].all fun y => okN 59 y) = true
  rw [List.all_cons, h4]
  rfl
theorem ats_late (sa sb c : Nat) (p : Pt) (d n : Nat) : (ats sa sb c p 0 0).map (late (n * (p.s * (sb * c)) + d)) = ats sa sb c p d n := by
  unfold ats
  rw [List.map_map]
  refine List.map_congr_left fun e _ => ?_
  show (n * (p.s * (sb * c)) + d + (tau sa sb p.s c e.1 + 0 * (p.s * (sb * c)) + 0), e.2.1, e.2.2) = _
  congr 1
  omega
theorem ats_D {sa sb c : Nat} {p : Pt} (L0 : 0 < sb * p.g) (c0 : 0 < c) : (stk0 sa sb p).map (skD (sb * p.g)) = (ats sa sb c p 0 0).map (skD (sb * p.g * c)) := by
  rw [stk0_evs]
  unfold ats
  rw [List.map_map, List.map_map]
  refine List.map_congr_left fun e _ => ?_
  show D.tup [frD ((stT sa sb p.s e.1 : Nat) : Int) (sb * p.g), .str [e.2.1], .bl e.2.2] = D.tup [frD ((tau sa sb p.s c e.1 + 0 * (p.s * (sb * c)) + 0 : Nat) : Int) (sb * p.g * c), .str [e.2.1], .bl e.2.2]
  rw [Nat.zero_mul, Nat.add_zero]
  unfold tau
  rw [Int.natCast_mul, frD_scale _ L0 c0]
theorem frD_00 {L : Nat} (hL : 0 < L) (n : Nat) : frD (((n : Nat) : Int) - (n : Nat)) L = .tup [.int 0, .int 1] := by
  rw [Int.sub_self]
  exact (frD_of (v := 0) (m := 1) hL (by decide) (by simp)).trans rfl
theorem near_k {sa sb k : Nat} {p : Pt} (w : Swg sa sb) (hp : p.Drawn) (hk : k < 3 * p.s) :
    n_nearest [pr (sa : Nat) sb, ptD p, frD (stT sa sb p.s k : Nat) (sb * p.g)] = some (.tup [.int (k : Nat), .tup [.int 0, .int 1]])
    ∧ (∃ o, n_nearest [pr (sa : Nat) sb, ptD p, frD (((stT sa sb p.s k + stT sa sb p.s (k + 1)) * 1000 : Nat) : Int) (sb * p.g * 2000)] = some (.tup [.int (k : Nat), o]))
    ∧ (∃ o, n_nearest [pr (sa : Nat) sb, ptD p, frD (((stT sa sb p.s k + stT sa sb p.s (k + 1)) * 1000 + 2 * (sb * p.g) : Nat) : Int) (sb * p.g * 2000)] = some (.tup [.int ((k + 1 : Nat) : Int), o])) := by
  have L0 : 0 < sb * p.g := Nat.mul_pos w.b0 hp.g0
  have hg := (gap_ge w hp.s0 k)
  have h3 := tau_mul (sa := sa) (sb := sb) (s := p.s) (c := 2000) hp.s0 3
  have hkt : tau sa sb p.s 2000 (k + 1) ≤ tau sa sb p.s 2000 (3 * p.s) := by
    rcases Nat.lt_or_eq_of_le (show k + 1 ≤ 3 * p.s from hk) with h | h
    · exact Nat.le_of_lt (tau_lt hp.s0 (by decide) w h)
    · rw [h]; exact Nat.le_refl _
  have hu : sb * 2000 ≤ p.s * (sb * 2000) := Nat.le_mul_of_pos_left _ hp.s0
  have hb0 := w.b0
  have hsg : sb * p.g ≤ sb * 4 := Nat.mul_le_mul_left _ hp.g1
  have t0 : tau sa sb p.s 2000 k = stT sa sb p.s k * 2000 := rfl
  have t1 : tau sa sb p.s 2000 (k + 1) = stT sa sb p.s (k + 1) * 2000 := rfl
  generalize hA : stT sa sb p.s k = A at *
  generalize hB : stT sa sb p.s (k + 1) = B at *
  refine ⟨?_, ?_, ?_⟩
  · have hN := near0 w hp (c := 2000) (by decide) (by omega) (A * 2000) (by omega)
    obtain ⟨_, e⟩ := e_near hN
    have hn : nk sa sb p.s 2000 (A * 2000) = k := nk_after hN (d := 0) (by rw [t0, Nat.add_zero]) (by omega)
    rw [hn] at e
    have ho : off sa sb p.s 2000 (A * 2000) k = ((A * 2000 : Nat) : Int) - ((A * 2000 : Nat) : Int) := by unfold off; rw [t0]
    rw [ho, frD_00 (Nat.mul_pos L0 (by decide))] at e
    rw [← frD_scale _ L0 (show 0 < 2000 by decide), ← Int.natCast_mul]
    exact e
  · have hN := near0 w hp (c := 2000) (by decide) (by omega) ((A + B) * 1000) (by omega)
    obtain ⟨_, e⟩ := e_near hN
    have hn : nk sa sb p.s 2000 ((A + B) * 1000) = k := nk_after hN (d := (B - A) * 1000) (by rw [t0]; omega) (by rw [t0, t1]; omega)
    rw [hn] at e
    exact ⟨_, e⟩
  · have hN := near0 w hp (c := 2000) (by decide) (by omega) ((A + B) * 1000 + 2 * (sb * p.g)) (by omega)
    obtain ⟨_, e⟩ := e_near hN
    have hn : nk sa sb p.s 2000 ((A + B) * 1000 + 2 * (sb * p.g)) = k + 1 := nk_before hN (d := (B - A) * 1000 - 2 * (sb * p.g)) (by rw [t1]; omega) (by rw [t0, t1]; omega)
    rw [hn] at e
    exact ⟨_, e⟩
theorem e_more {sb g c s T n : Nat} (L0 : 0 < sb * g) (c0 : 0 < c) (g0 : 0 < g) (hL : sb * g * c ≤ 100000) (g4 : g ≤ 4) {a : Int} {b : Nat} (hab : frD (s : Nat) g = .tup [.int a, .int (b : Nat)]) : n__law_add [frD (T : Nat) (sb * g * c), .tup [.int ((n : Nat) * a), .int (b : Nat)]] = some (frD ((n * (s * (sb * c)) + 0 + T : Nat) : Int) (sb * g * c)) := by
  obtain ⟨x, y, e1, y0, y1, e2, _⟩ := frD_parts ((T : Nat) : Int) (Nat.mul_pos L0 c0)
  obtain ⟨x', y', e1', y0', y1', e2', _⟩ := frD_parts ((s : Nat) : Int) g0
  rw [hab] at e1'
  simp only [D.tup.injEq, List.cons.injEq, D.int.injEq, and_true] at e1'
  obtain ⟨rfl, hb⟩ := e1'
  have hb : b = y' := by omega
  subst hb
  rw [e1]
  have := Nat.mul_le_mul y1 y1'
  have h100 := Nat.mul_le_mul hL g4
  rw [show D.tup [.int x, .int (y : Nat)] = pr x y from rfl, show D.tup [.int ((n : Nat) * a), .int (b : Nat)] = pr ((n : Nat) * a) b from rfl, e_ladd_raw y0 y0' (by omega)]
  congr 1
  refine frD_of (Nat.mul_pos y0 y0') (Nat.mul_pos L0 c0) ?_
  have k1 : (x * b + (n : Nat) * a * y) * ((sb * g * c : Nat) : Int) = (x * ((sb * g * c : Nat) : Int)) * b + (n : Nat) * (a * (g : Nat)) * y * sb * c := by
    simp only [Int.natCast_mul]
    grind
  rw [k1, e2, e2']
  simp only [Int.natCast_mul, Int.natCast_add]
  grind
set_option maxHeartbeats 2000000 in
theorem q_law (ns : List Int) (hl : ns.length ≤ 63) : (semW 26 1 w_law).run [.scr ns] (fun _ => none) (fun d _ => d = .bl true) (fun _ _ => False) := by
  obtain ⟨m0, h0, h1, e0⟩ := mixed_ok ns 0 (by omega) (by omega)
  obtain ⟨n, n0, n1, e1⟩ := mixed_ok ns 1 (by omega) (by omega)
  obtain ⟨b, dr, eb⟩ := e_lawbook h0
  obtain ⟨i, hi, hi2⟩ := mod_ex (n := n) dr.ne
  obtain ⟨x, hx⟩ : ∃ x, b.ps[i]? = some x := ⟨b.ps[i], List.getElem?_eq_getElem hi2⟩
  have hxm := List.mem_of_getElem? hx
  have hp := dr.pat x hxm
  have hget := get_mem dr.nodup hxm
  have w := dr.sw
  obtain ⟨nm, p⟩ := x
  simp only at hp hget
  have g0 := hp.g0
  have g1 := hp.g1
  have s0 := hp.s0
  have s1 := hp.s1
  have sb0 := w.b0
  have L0 : 0 < b.sb * p.g := Nat.mul_pos sb0 g0
  have hL : b.sb * p.g ≤ 48 := Nat.mul_le_mul w.b1 g1
  have hL2 : b.sb * p.g * (b.sb * p.g) < 1073741824 := Nat.lt_of_le_of_lt (Nat.mul_le_mul hL hL) (by decide)
  have hLL : b.sb * p.g * 40 ≤ 1920 := by omega
  have hLL2 : b.sb * p.g * 40 * (b.sb * p.g * 40) < 1073741824 := Nat.lt_of_le_of_lt (Nat.mul_le_mul hLL hLL) (by decide)
  have eS : n_strikes [bookD b, .str nm] = some (.tup ((ats b.sa b.sb 40 p 0 0).map (skD (b.sb * p.g * 40)))) := by
    rw [← ats_D L0 (by decide)]
    exact e_strikes dr.nodup hget hp.ok sb0 hL2
  obtain ⟨j, hj, hj1, hj9⟩ : ∃ z : Nat, (z : Int) = 1 + n / 8 % 9 ∧ 1 ≤ z ∧ z ≤ 9 := ⟨(1 + n / 8 % 9).toNat, by omega, by omega, by omega⟩
  obtain ⟨t, ht, ht1, ht3⟩ : ∃ z : Nat, (z : Int) = 1 + n / 128 % 3 ∧ 1 ≤ z ∧ z ≤ 3 := ⟨(1 + n / 128 % 3).toNat, by omega, by omega, by omega⟩
  obtain ⟨k, hk, hk2⟩ := mod_ex (n := n / 512) (m := 3 * p.s) (by omega)
  have e01 : frD ((0 : Nat) : Int) 1 = .tup [.int 0, .int 1] := rfl
  have e11 : frD ((1 : Nat) : Int) 1 = .tup [.int 1, .int 1] := rfl
  have hjs : j * b.sb ≤ 9 * b.sb := Nat.mul_le_mul_right _ hj9
  have hjs1 : 1 * b.sb ≤ j * b.sb := Nat.mul_le_mul_right _ hj1
  have hgs : b.sb * 1 ≤ b.sb * p.g := Nat.mul_le_mul_left _ g0
  have elate : n__law_frac [.int (j : Nat), .int ((40 * p.g : Nat) : Int)] = some (frD ((j * b.sb : Nat) : Int) (b.sb * p.g * 40)) := by
    rw [e_lfrac (by omega) (by omega)]
    congr 1
    refine frD_of (by omega) (by omega) ?_
    simp only [Int.natCast_mul]
    grind
  have eadd : ∀ x ∈ ats b.sa b.sb 40 p 0 0, n__law_add [frD ((x.1 : Nat) : Int) (b.sb * p.g * 40), frD ((j * b.sb : Nat) : Int) (b.sb * p.g * 40)] = some (frD ((0 * (p.s * (b.sb * 40)) + j * b.sb + x.1 : Nat) : Int) (b.sb * p.g * 40)) := fun x _ => by
    rw [e_laddn (by omega) hLL2]
    congr 3
    omega
  obtain ⟨fa, fb, ef, fb0, fb1, ef2, _⟩ := frD_parts ((p.s : Nat) : Int) g0
  have emore : ∀ x ∈ ats b.sa b.sb 40 p 0 0, n__law_add [frD ((x.1 : Nat) : Int) (b.sb * p.g * 40), .tup [.int ((t : Nat) * fa), .int (fb : Nat)]] = some (frD ((t * (p.s * (b.sb * 40)) + 0 + x.1 : Nat) : Int) (b.sb * p.g * 40)) := fun x _ => e_more L0 (by decide) g0 (by omega) g1 ef
  have hlen := ats_len (sa := b.sa) (sb := b.sb) (c := 40) (d := 0) (n := 0) hp
  refine ⟨rfl, ?_⟩
  show w_law.run [some (.scr ns), none, none, none, none, none, none, none, none, none, none, none, none, none, none, none, none, none, none, none, none, none, none, none, none, none] _ _
  unfold w_law
  refine u_nx (w_set (v_call (v_cons (v_call (by walk_at "dn") e0) v_nil) eb) rfl) (no_own rfl) ?_
  refine u_nx (w_set (v_call (by walk_at "dn") e1) rfl) (no_own rfl) ?_
  walk_at "dx"
  refine u_nx (w_asg2 (d := nmD (nm, p)) (v_2 (v_2 (v_var rfl rfl) v_c rfl) (v_2 (v_var rfl rfl) (v_blt (v_cons (v_2 (v_var rfl rfl) v_c rfl) v_nil) (len_tm _ _)) (mod_i (by have := dr.ne; omega))) (by rw [← hi]; exact ix_map nmD hx)) rfl) (no_own rfl) ?_
  walk_at "dx"
  refine u_nx (w_asg2 (v_var rfl rfl) rfl) (no_own rfl) ?_
  walk_at "dx"
  refine u_nx (w_set (d := pr (b.sa : Nat) b.sb) (v_2 (v_var rfl rfl) v_c rfl) rfl) (no_own rfl) ?_
  walk_at "dx"
  refine u_nx (w_set (v_call (v_cons (v_var rfl rfl) (v_cons (v_var rfl rfl) v_nil)) eS) rfl) (no_own rfl) ?_
  walk_at "dx"
  refine u_nx (w_set (d := dueD p) (v_tup (v_cons (v_var rfl rfl) (v_cons (v_var rfl rfl) (v_cons (v_1 (lcw (r := (p.ps.filter (sounds p.s)).map padD) (v_it (v_var rfl rfl)) (by rw [List.length_map]; have := hp.ok.few; omega) (lc_filter padD (sounds p.s) padD _ fun q hq => ⟨_, rfl, v_b (v_2 (v_2 (v_var rfl rfl) v_c rfl) (v_2 v_c (v_var rfl rfl) (mul_s (by simp; omega))) ?_), fun _ => v_var rfl rfl⟩)) rfl) v_nil))) (show 3 ≤ sizeLine by decide)) rfl) (no_own rfl) ?_
  · rw [Int.toNat_natCast, reps_single, ne_s]
    rfl
  walk_at "dx"
  refine ⟨_, v_cons (v_var rfl rfl) (v_cons (v_var rfl rfl) (v_cons (v_var rfl rfl) (v_cons (v_var rfl rfl) (v_cons (v_tup (v_cons v_c (v_cons v_c v_nil)) (show 2 ≤ sizeLine by decide)) v_nil)))), ?_⟩
  refine put_ats (B := 0) (m := 1) w hp (by decide) (by decide) (by omega) (by decide) (by decide) (by decide) (.inl ⟨by simp, fun s1 => ?_⟩)
  refine ⟨_, v_tup (v_cons (v_var rfl rfl) (v_cons (v_tup v_nil (by decide)) v_nil)) (show 2 ≤ sizeLine by decide), _, ne_same (ok_due p), false, rfl, ?_⟩
  walk_at "dx"
  refine u_nx (w_set (v_call (v_cons (by rw [hj]; exact v_2 v_c (v_2 (v_2 (v_var rfl rfl) v_c (fdiv_i (by omega))) v_c (mod_i (by omega))) (add_i _ _)) (v_cons (v_2 v_c (v_var rfl rfl) (mul_n (a := 40) (.inl (by decide)))) v_nil)) elate) rfl) (no_own rfl) ?_
  walk_at "dx"
  refine u_nx (w_set (d := .tup ((ats b.sa b.sb 40 p (j * b.sb) 0).map (skD (b.sb * p.g * 40)))) (v_1 (lcw (v_it (v_var rfl rfl)) (by rw [List.length_map]; omega) (lc_map (skD (b.sb * p.g * 40)) (fun x => skD (b.sb * p.g * 40) (late (0 * (p.s * (b.sb * 40)) + j * b.sb) x)) _ fun x hx => ⟨_, rfl, v_tup (v_cons (v_call (v_cons (v_var rfl rfl) (v_cons (v_var rfl rfl) v_nil)) (eadd x hx)) (v_cons (v_var rfl rfl) (v_cons (v_var rfl rfl) v_nil))) (show 3 ≤ sizeLine by decide)⟩)) ?_) rfl) (no_own rfl) ?_
  · rw [← ats_late b.sa b.sb 40 p (j * b.sb) 0, List.map_map]
    rfl
  walk_at "dx"
  refine ⟨_, v_it (v_tup (v_cons (v_var rfl rfl) (v_cons (v_tup (v_cons v_c (v_cons v_c v_nil)) (show 2 ≤ sizeLine by decide)) v_nil)) (show 2 ≤ sizeLine by decide)), ?_⟩
  refine ⟨_, rfl, ?_⟩
  walk_at "dx"
  refine ⟨_, v_cons (v_var rfl rfl) (v_cons (v_var rfl rfl) (v_cons (v_var rfl rfl) (v_cons (v_var rfl rfl) (v_cons (v_var rfl rfl) v_nil)))), ?_⟩
  refine put_ats (B := j * b.sb) (m := b.sb * p.g * 40) w hp (by decide) (by decide) (by omega) (by decide) (by omega) (by omega) (.inl ⟨Nat.le_refl _, fun s2 => ?_⟩)
  refine ⟨_, v_tup (v_cons (v_var rfl rfl) (v_cons (v_tup v_nil (by decide)) v_nil)) (show 2 ≤ sizeLine by decide), _, ne_same (ok_due p), false, rfl, ?_⟩
  refine ⟨_, rfl, ?_⟩
  walk_at "dx"
  refine ⟨_, v_cons (v_var rfl rfl) (v_cons (v_var rfl rfl) (v_cons (v_var rfl rfl) (v_cons (v_var rfl rfl) (v_cons (v_var rfl rfl) v_nil)))), ?_⟩
  refine put_ats (B := 1) (m := 1) w hp (by decide) (by decide) (by omega) (by decide) (by decide) (by decide) (.inl ⟨by omega, fun s3 => ?_⟩)
  refine ⟨_, v_tup (v_cons (v_var rfl rfl) (v_cons (v_tup v_nil (by decide)) v_nil)) (show 2 ≤ sizeLine by decide), _, ne_same (ok_due p), false, rfl, ?_⟩
  walk_at "dx"
  refine ⟨_, v_cons (v_var rfl rfl) (v_cons (v_var rfl rfl) (v_cons (v_var rfl rfl) (v_cons (v_var rfl rfl) (v_cons (v_tup (v_cons v_c (v_cons v_c v_nil)) (show 2 ≤ sizeLine by decide)) v_nil)))), ?_⟩
  refine put_ats (B := 0) (m := 1) w hp (by decide) (by decide) (by omega) (by decide) (by decide) (by decide) (.inr ⟨by omega, fun s4 => ?_⟩)
  refine ⟨_, v_tup (v_cons (v_tup (v_cons (v_var rfl rfl) (v_cons (v_var rfl rfl) (v_cons (v_tup v_nil (by decide)) v_nil))) (show 3 ≤ sizeLine by decide)) (v_cons (v_var rfl rfl) v_nil)) (show 2 ≤ sizeLine by decide), _, ne_same ?_, false, rfl, ?_⟩
  · have h3 : okN 59 (.tup ((ats b.sa b.sb 40 p (j * b.sb) 0).map (skD (b.sb * p.g * 40)))) = true := okN_all (skD _) 58 (okN_sk _ 56) _
    show ([D.tup [.int (p.s : Nat), .int (p.g : Nat), .tup []], .tup ((ats b.sa b.sb 40 p (j * b.sb) 0).map (skD (b.sb * p.g * 40)))].all fun y => okN 59 y) = true
    rw [List.all_cons, List.all_cons, h3]
    rfl
  walk_at "dx"
  refine u_nx (w_set (v_call (v_cons (v_var rfl rfl) v_nil) (e_beats g0 (by omega))) rfl) (no_own rfl) ?_
  walk_at "dx"
  refine u_nx (w_set (d := .int (t : Nat)) (by rw [ht]; exact v_2 v_c (v_2 (v_2 (v_var rfl rfl) v_c (fdiv_i (by omega))) v_c (mod_i (by omega))) (add_i _ _)) rfl) (no_own rfl) ?_
  walk_at "dx"
  refine u_nx (w_set (d := .tup [.int ((t : Nat) * fa), .int (fb : Nat)]) (v_tup (v_cons (v_2 (v_var rfl rfl) (v_2 (v_var rfl rfl) v_c (by rw [ef]; rfl)) (mul_i (by omega))) (v_cons (v_2 (v_var rfl rfl) v_c (by rw [ef]; rfl)) v_nil)) (show 2 ≤ sizeLine by decide)) rfl) (no_own rfl) ?_
  walk_at "dx"
  refine u_nx (w_set (d := .tup ((ats b.sa b.sb 40 p 0 t).map (skD (b.sb * p.g * 40)))) (v_1 (lcw (v_it (v_var rfl rfl)) (by rw [List.length_map]; omega) (lc_map (skD (b.sb * p.g * 40)) (fun x => skD (b.sb * p.g * 40) (late (t * (p.s * (b.sb * 40)) + 0) x)) _ fun x hx => ⟨_, rfl, v_tup (v_cons (v_call (v_cons (v_var rfl rfl) (v_cons (v_var rfl rfl) v_nil)) (emore x hx)) (v_cons (v_var rfl rfl) (v_cons (v_var rfl rfl) v_nil))) (show 3 ≤ sizeLine by decide)⟩)) ?_) rfl) (no_own rfl) ?_
  · rw [← ats_late b.sa b.sb 40 p 0 t, List.map_map]
    rfl
  walk_at "dx"
  refine ⟨_, v_cons (v_var rfl rfl) (v_cons (v_var rfl rfl) (v_cons (v_var rfl rfl) (v_cons (v_var rfl rfl) (v_cons (v_tup (v_cons v_c (v_cons v_c v_nil)) (show 2 ≤ sizeLine by decide)) v_nil)))), ?_⟩
  refine put_ats (B := 0) (m := 1) w hp (by decide) (by decide) (by omega) ht3 (by decide) (by decide) (.inl ⟨by simp, fun s5 => ?_⟩)
  refine ⟨_, v_tup (v_cons (v_var rfl rfl) (v_cons (v_tup v_nil (by decide)) v_nil)) (show 2 ≤ sizeLine by decide), _, ne_same (ok_due p), false, rfl, ?_⟩
  walk_at "dx"
  obtain ⟨q1, ⟨o2, q2⟩, ⟨o3, q3⟩⟩ := near_k w hp hk2
  have est : ∀ k, k < 100 → n_step_time [pr (b.sa : Nat) b.sb, ptD p, .int (k : Nat)] = some (frD (stT b.sa b.sb p.s k : Nat) (b.sb * p.g)) := fun k hk => e_step_time sb0 s0 (by omega) g0 hL2 (by omega)
  obtain ⟨a1, b1, f1, b10, b11, f12, _⟩ := frD_parts ((stT b.sa b.sb p.s k : Nat) : Int) L0
  obtain ⟨a2, b2, f2', b20, b21, f22, _⟩ := frD_parts ((stT b.sa b.sb p.s (k + 1) : Nat) : Int) L0
  have hbb := Nat.mul_le_mul b11 b21
  have i10 : ixD (frD ((stT b.sa b.sb p.s k : Nat) : Int) (b.sb * p.g)) (.int 0) = some (.int a1) := by rw [f1]; rfl
  have i11 : ixD (frD ((stT b.sa b.sb p.s k : Nat) : Int) (b.sb * p.g)) (.int 1) = some (.int (b1 : Nat)) := by rw [f1]; rfl
  have i20 : ixD (frD ((stT b.sa b.sb p.s (k + 1) : Nat) : Int) (b.sb * p.g)) (.int 0) = some (.int a2) := by rw [f2']; rfl
  have i21 : ixD (frD ((stT b.sa b.sb p.s (k + 1) : Nat) : Int) (b.sb * p.g)) (.int 1) = some (.int (b2 : Nat)) := by rw [f2']; rfl
  have hbb2 := Nat.mul_le_mul hL hL
  have hbb0 := Nat.mul_pos b10 b20
  have hmid : n__law_frac [.int (a1 * (b2 : Nat) + a2 * (b1 : Nat)), .int ((2 * b1 * b2 : Nat) : Int)] = some (frD (((stT b.sa b.sb p.s k + stT b.sa b.sb p.s (k + 1)) * 1000 : Nat) : Int) (b.sb * p.g * 2000)) := by
    have h2 : 2 * b1 * b2 = 2 * (b1 * b2) := by grind
    rw [e_lfrac (by omega) (by omega)]
    congr 1
    refine frD_of (by omega) (by omega) ?_
    have k1 : (a1 * (b2 : Nat) + a2 * (b1 : Nat)) * ((b.sb * p.g * 2000 : Nat) : Int) = (a1 * ((b.sb * p.g : Nat) : Int)) * b2 * 2000 + (a2 * ((b.sb * p.g : Nat) : Int)) * b1 * 2000 := by
      simp only [Int.natCast_mul]
      grind
    rw [k1, f12, f22]
    simp only [Int.natCast_mul, Int.natCast_add]
    grind
  have hprt : n__law_add [frD (((stT b.sa b.sb p.s k + stT b.sa b.sb p.s (k + 1)) * 1000 : Nat) : Int) (b.sb * p.g * 2000), .tup [.int 1, .int 1000]] = some (frD (((stT b.sa b.sb p.s k + stT b.sa b.sb p.s (k + 1)) * 1000 + 2 * (b.sb * p.g) : Nat) : Int) (b.sb * p.g * 2000)) := by
    rw [show D.tup [.int 1, .int 1000] = frD 1 1000 from rfl, e_ladd (by omega) (by decide) (by omega)]
    congr 1
    refine frD_of (by omega) (by omega) ?_
    simp only [Int.natCast_mul, Int.natCast_add]
    grind
  refine u_rt (d := .bl true) ?_ rfl
  refine w_ss (d := .int (k : Nat)) (by rw [hk]; exact v_2 (v_2 (v_var rfl rfl) v_c (fdiv_i (by omega))) (v_2 v_c (v_var rfl rfl) (mul_n (a := 3) (.inl (by decide)))) (mod_i (by omega))) ?_
  walk_at "dx"
  refine w_sf (w_nf (v_call (v_cons (v_var rfl rfl) (v_cons (v_var rfl rfl) (v_cons (v_call (v_cons (v_var rfl rfl) (v_cons (v_var rfl rfl) (v_cons (v_var rfl rfl) v_nil))) (est k (by omega))) v_nil))) q1) (v_tup (v_cons (v_var rfl rfl) (v_cons (v_tup (v_cons v_c (v_cons v_c v_nil)) (show 2 ≤ sizeLine by decide)) v_nil)) (show 2 ≤ sizeLine by decide)) rfl rfl) ?_
  refine w_ss (v_call (v_cons (v_var rfl rfl) (v_cons (v_var rfl rfl) (v_cons (v_var rfl rfl) v_nil))) (est k (by omega))) ?_
  walk_at "dx"
  refine w_ss (v_call (v_cons (v_var rfl rfl) (v_cons (v_var rfl rfl) (v_cons (v_2 (v_var rfl rfl) v_c (add_n (b := 1))) v_nil))) (est (k + 1) (by omega))) ?_
  walk_at "dx"
  refine w_ss (v_call (v_cons (v_2 (v_2 (v_2 (v_var rfl rfl) v_c i10) (v_2 (v_var rfl rfl) v_c i21) (mul_i (.inr (by omega)))) (v_2 (v_2 (v_var rfl rfl) v_c i20) (v_2 (v_var rfl rfl) v_c i11) (mul_i (.inr (by omega)))) (add_i _ _)) (v_cons (v_2 (v_2 v_c (v_2 (v_var rfl rfl) v_c i11) (mul_n (a := 2) (.inl (by decide)))) (v_2 (v_var rfl rfl) v_c i21) (mul_n (.inr (by omega)))) v_nil)) hmid) ?_
  walk_at "dx"
  refine w_sf (w_nf (v_2 (v_call (v_cons (v_var rfl rfl) (v_cons (v_var rfl rfl) (v_cons (v_var rfl rfl) v_nil))) q2) v_c rfl) (v_var rfl rfl) rfl rfl) ?_
  refine w_ss (v_call (v_cons (v_var rfl rfl) (v_cons (v_tup (v_cons v_c (v_cons v_c v_nil)) (show 2 ≤ sizeLine by decide)) v_nil)) hprt) ?_
  walk_at "dx"
  refine ret_of (v_2 (v_2 (v_call (v_cons (v_var rfl rfl) (v_cons (v_var rfl rfl) (v_cons (v_var rfl rfl) v_nil))) q3) v_c rfl) (v_2 (v_var rfl rfl) v_c (add_n (b := 1))) (eq_same rfl))
end K41
set_option Elab.async false
set_option linter.all false
set_option maxRecDepth 100000
namespace K41
open PySem L2 PySem.Spec PyProof.Rows Dn
def topS (i : Nat) : Stmt := PySem.Challenge.pw_padrows_k41_whole_put_right.main.body.getD i (.Pass ⟨0, 0, 0, 0⟩)
def clsS (i j : Nat) : Stmt := match topS i with
  | .ClassDef _ _ _ b _ _ _ _ _ _ _ => b.getD j (.Pass ⟨0, 0, 0, 0⟩)
  | s => s
abbrev st_divisor : Stmt := topS 1
theorem sc_divisor : FnScope ["one", "other"] ["one", "other"] (defScope st_divisor) := ⟨rfl, rfl, rfl, by decide +kernel, rfl, by decide +kernel, by decide +kernel⟩
abbrev st_fraction : Stmt := topS 2
theorem sc_fraction : FnScope ["upper", "lower", "shared"] ["upper", "lower"] (defScope st_fraction) := ⟨rfl, rfl, rfl, by decide +kernel, rfl, by decide +kernel, by decide +kernel⟩
abbrev st_added : Stmt := topS 3
theorem sc_added : FnScope ["one", "other"] ["one", "other"] (defScope st_added) := ⟨rfl, rfl, rfl, by decide +kernel, rfl, by decide +kernel, by decide +kernel⟩
abbrev st_less : Stmt := topS 4
theorem sc_less : FnScope ["one", "other"] ["one", "other"] (defScope st_less) := ⟨rfl, rfl, rfl, by decide +kernel, rfl, by decide +kernel, by decide +kernel⟩
abbrev st_times : Stmt := topS 5
theorem sc_times : FnScope ["number", "one"] ["number", "one"] (defScope st_times) := ⟨rfl, rfl, rfl, by decide +kernel, rfl, by decide +kernel, by decide +kernel⟩
abbrev st_is_less : Stmt := topS 6
theorem sc_is_less : FnScope ["one", "other"] ["one", "other"] (defScope st_is_less) := ⟨rfl, rfl, rfl, by decide +kernel, rfl, by decide +kernel, by decide +kernel⟩
abbrev st_size : Stmt := topS 7
theorem sc_size : FnScope ["one"] ["one"] (defScope st_size) := ⟨rfl, rfl, rfl, by decide +kernel, rfl, by decide +kernel, by decide +kernel⟩
abbrev st_whole_part : Stmt := topS 8
theorem sc_whole_part : FnScope ["one"] ["one"] (defScope st_whole_part) := ⟨rfl, rfl, rfl, by decide +kernel, rfl, by decide +kernel, by decide +kernel⟩
abbrev st_beats : Stmt := topS 10
theorem sc_beats : FnScope ["pattern"] ["pattern"] (defScope st_beats) := ⟨rfl, rfl, rfl, by decide +kernel, rfl, by decide +kernel, by decide +kernel⟩
abbrev st_step_time : Stmt := topS 18
theorem sc_step_time : FnScope ["swing", "pattern", "step", "found", "steps", "grid"] ["swing", "pattern", "step"] (defScope st_step_time) := ⟨rfl, rfl, rfl, by decide +kernel, rfl, by decide +kernel, by decide +kernel⟩
abbrev st_strikes_of : Stmt := topS 19
theorem sc_strikes_of : FnScope ["swing", "pattern", "found", "step", "time", "pad", "row"] ["swing", "pattern"] (defScope st_strikes_of) := ⟨rfl, rfl, rfl, by decide +kernel, rfl, by decide +kernel, by decide +kernel⟩
abbrev st_pattern_of : Stmt := topS 20
theorem sc_pattern_of : FnScope ["book", "name", "some"] ["book", "name"] (defScope st_pattern_of) := ⟨rfl, rfl, rfl, by decide +kernel, rfl, by decide +kernel, by decide +kernel⟩
abbrev st_strikes : Stmt := topS 21
theorem sc_strikes : FnScope ["book", "name"] ["book", "name"] (defScope st_strikes) := ⟨rfl, rfl, rfl, by decide +kernel, rfl, by decide +kernel, by decide +kernel⟩
abbrev st_nearest : Stmt := topS 23
theorem sc_nearest : FnScope ["swing", "pattern", "time", "length", "turn", "best", "step", "off"] ["swing", "pattern", "time"] (defScope st_nearest) := ⟨rfl, rfl, rfl, by decide +kernel, rfl, by decide +kernel, by decide +kernel⟩
abbrev st_put_right : Stmt := topS 24
theorem sc_put_right : FnScope ["swing", "steps", "grid", "some", "bound", "pattern", "rows", "lost", "strike", "step", "off", "row", "pad"] ["swing", "steps", "grid", "some", "bound"] (defScope st_put_right) := ⟨rfl, rfl, rfl, by decide +kernel, rfl, by decide +kernel, by decide +kernel⟩
abbrev st__law_cell_at : Stmt := topS 26
theorem sc__law_cell_at : FnScope ["script", "k"] ["script", "k"] (defScope st__law_cell_at) := ⟨rfl, rfl, rfl, by decide +kernel, rfl, by decide +kernel, by decide +kernel⟩
abbrev st__law_mixed : Stmt := topS 27
theorem sc__law_mixed : FnScope ["script", "k", "drawn"] ["script", "k"] (defScope st__law_mixed) := ⟨rfl, rfl, rfl, by decide +kernel, rfl, by decide +kernel, by decide +kernel⟩
abbrev st__law_drawn : Stmt := topS 28
theorem sc__law_drawn : FnScope ["number", "k", "drawn"] ["number", "k"] (defScope st__law_drawn) := ⟨rfl, rfl, rfl, by decide +kernel, rfl, by decide +kernel, by decide +kernel⟩
abbrev st__law_frac : Stmt := topS 29
theorem sc__law_frac : FnScope ["upper", "lower", "one", "other"] ["upper", "lower"] (defScope st__law_frac) := ⟨rfl, rfl, rfl, by decide +kernel, rfl, by decide +kernel, by decide +kernel⟩
abbrev st__law_add : Stmt := topS 30
theorem sc__law_add : FnScope ["one", "other"] ["one", "other"] (defScope st__law_add) := ⟨rfl, rfl, rfl, by decide +kernel, rfl, by decide +kernel, by decide +kernel⟩
abbrev st__law_marks : Stmt := topS 32
theorem sc__law_marks : FnScope ["number", "steps", "found", "k", "drawn"] ["number", "steps"] (defScope st__law_marks) := ⟨rfl, rfl, rfl, by decide +kernel, rfl, by decide +kernel, by decide +kernel⟩
abbrev st__law_pattern : Stmt := topS 33
theorem sc__law_pattern : FnScope ["number", "steps", "grid", "pads", "k", "pad", "drawn"] ["number"] (defScope st__law_pattern) := ⟨rfl, rfl, rfl, by decide +kernel, rfl, by decide +kernel, by decide +kernel⟩
abbrev st__law_book : Stmt := topS 34
theorem sc__law_book : FnScope ["number", "swing", "names", "patterns", "k", "name"] ["number"] (defScope st__law_book) := ⟨rfl, rfl, rfl, by decide +kernel, rfl, by decide +kernel, by decide +kernel⟩
abbrev st_law : Stmt := topS 36
theorem sc_law : FnScope ["script", "book", "number", "swing", "some", "due", "late", "later", "bound", "far_on", "turns", "more", "again", "step", "here", "there", "middle", "part", "name", "pattern", "steps", "grid", "pads", "time", "pad", "strong"] ["script"] (defScope st_law) := ⟨rfl, rfl, rfl, by decide +kernel, rfl, by decide +kernel, by decide +kernel⟩
structure Txt (K : PySem.W.Frag) (mg : Str → Option Value) : Prop where
  b_abs : mg "abs" = none
  b_dict : mg "dict" = none
  b_enumerate : mg "enumerate" = none
  b_len : mg "len" = none
  b_range : mg "range" = none
  b_sorted : mg "sorted" = none
  b_tuple : mg "tuple" = none
  c_PLAIN : ∃ tk, mg "PLAIN" = some (.str (Str.ofString "x") tk)
  c_REST : ∃ tk, mg "REST" = some (.str (Str.ofString ".") tk)
  c_STRONG : ∃ tk, mg "STRONG" = some (.str (Str.ofString "X") tk)
  h_divisor : Has K mg "divisor" st_divisor ["one", "other"]
  h_fraction : Has K mg "fraction" st_fraction ["upper", "lower"]
  h_added : Has K mg "added" st_added ["one", "other"]
  h_less : Has K mg "less" st_less ["one", "other"]
  h_times : Has K mg "times" st_times ["number", "one"]
  h_is_less : Has K mg "is_less" st_is_less ["one", "other"]
  h_size : Has K mg "size" st_size ["one"]
  h_whole_part : Has K mg "whole_part" st_whole_part ["one"]
  h_beats : Has K mg "beats" st_beats ["pattern"]
  h_step_time : Has K mg "step_time" st_step_time ["swing", "pattern", "step"]
  h_strikes_of : Has K mg "strikes_of" st_strikes_of ["swing", "pattern"]
  h_pattern_of : Has K mg "pattern_of" st_pattern_of ["book", "name"]
  h_strikes : Has K mg "strikes" st_strikes ["book", "name"]
  h_nearest : Has K mg "nearest" st_nearest ["swing", "pattern", "time"]
  h_put_right : Has K mg "put_right" st_put_right ["swing", "steps", "grid", "some", "bound"]
  h__law_cell_at : Has K mg "_law_cell_at" st__law_cell_at ["script", "k"]
  h__law_mixed : Has K mg "_law_mixed" st__law_mixed ["script", "k"]
  h__law_drawn : Has K mg "_law_drawn" st__law_drawn ["number", "k"]
  h__law_frac : Has K mg "_law_frac" st__law_frac ["upper", "lower"]
  h__law_add : Has K mg "_law_add" st__law_add ["one", "other"]
  h__law_marks : Has K mg "_law_marks" st__law_marks ["number", "steps"]
  h__law_pattern : Has K mg "_law_pattern" st__law_pattern ["number"]
  h__law_book : Has K mg "_law_book" st__law_book ["number"]
section
variable {P : Program} {w : World} {K : PySem.W.Frag} {mg : Str → Option Value} {base : Heap}
--@ divisor
theorem d_divisor (T : Txt K mg) : Def P w K mg base 1 "divisor" ["one", "other"] n_divisor := by
  refine d_of (k := 0) (F := m_divisor) T.h_divisor sc_divisor (fun f cdv A outer s H E hr => ?_) ?_
  ·
    have hu : (A.deeper (envOfC "divisor" (defScope st_divisor) s.heap.objs.size f cdv)).units + 64 < cLine := hr.units
    have hv : (A.deeper (envOfC "divisor" (defScope st_divisor) s.heap.objs.size f cdv)).units + 65 < cLine := room65 hr
    have nd := sc_divisor.nd
    exact (ss_cons (s_while fuelN PassesOwn.never (t_cmp (o_ne hu) (e_var 1) e_int)
      (ss_one (s_par 0 1 rfl nd (a_cons (e_var 1) (a_cons (e_op o_mod (e_var 0) (e_var 1)) a_nil)))))
    (ss_one (s_ret (e_var 0))))
  · exact fun _ _ h => h
--@ fraction
theorem d_fraction (T : Txt K mg) (d_divisor : Def P w K mg base 1 "divisor" ["one", "other"] n_divisor) : Def P w K mg base 2 "fraction" ["upper", "lower"] n_fraction := by
  refine d_of (k := 1) (F := m_fraction) T.h_fraction sc_fraction (fun f cdv A outer s H E hr => ?_) ?_
  ·
    have hu : (A.deeper (envOfC "fraction" (defScope st_fraction) s.heap.objs.size f cdv)).units + 64 < cLine := hr.units
    have hv : (A.deeper (envOfC "fraction" (defScope st_fraction) s.heap.objs.size f cdv)).units + 65 < cLine := room65 hr
    have nd := sc_fraction.nd
    exact (ss_cons (s_set 2 nd (e_def d_divisor hr (a_cons (e_blt c_abs T.b_abs (by decide +kernel) (a_cons (e_var 0) a_nil)) (a_cons (e_var 1) a_nil))))
    (ss_one (s_ret (e_tup (a_cons (e_op o_fdiv (e_var 0) (e_var 2)) (a_cons (e_op o_fdiv (e_var 1) (e_var 2)) a_nil))))))
  · exact fun _ _ h => h
--@ added
theorem d_added (T : Txt K mg) (d_fraction : Def P w K mg base 2 "fraction" ["upper", "lower"] n_fraction) : Def P w K mg base 3 "added" ["one", "other"] n_added := by
  refine d_of (k := 2) (F := m_added) T.h_added sc_added (fun f cdv A outer s H E hr => ?_) ?_
  ·
    have hu : (A.deeper (envOfC "added" (defScope st_added) s.heap.objs.size f cdv)).units + 64 < cLine := hr.units
    have hv : (A.deeper (envOfC "added" (defScope st_added) s.heap.objs.size f cdv)).units + 65 < cLine := room65 hr
    have nd := sc_added.nd
    exact (ss_one (s_ret (e_def d_fraction hr (a_cons (e_op o_add (e_op o_mul (e_ix (e_var 0) e_int) (e_ix (e_var 1) e_int)) (e_op o_mul (e_ix (e_var 1) e_int) (e_ix (e_var 0) e_int))) (a_cons (e_op o_mul (e_ix (e_var 0) e_int) (e_ix (e_var 1) e_int)) a_nil)))))
  · exact fun _ _ h => h
--@ less
theorem d_less (T : Txt K mg) (d_added : Def P w K mg base 3 "added" ["one", "other"] n_added) : Def P w K mg base 4 "less" ["one", "other"] n_less := by
  refine d_of (k := 3) (F := m_less) T.h_less sc_less (fun f cdv A outer s H E hr => ?_) ?_
  ·
    have hu : (A.deeper (envOfC "less" (defScope st_less) s.heap.objs.size f cdv)).units + 64 < cLine := hr.units
    have hv : (A.deeper (envOfC "less" (defScope st_less) s.heap.objs.size f cdv)).units + 65 < cLine := room65 hr
    have nd := sc_less.nd
    exact (ss_one (s_ret (e_def d_added hr (a_cons (e_var 0) (a_cons (e_tup (a_cons (e_op o_sub e_int (e_ix (e_var 1) e_int)) (a_cons (e_ix (e_var 1) e_int) a_nil))) a_nil)))))
  · exact fun _ _ h => h
--@ times
theorem d_times (T : Txt K mg) (d_fraction : Def P w K mg base 2 "fraction" ["upper", "lower"] n_fraction) : Def P w K mg base 3 "times" ["number", "one"] n_times := by
  refine d_of (k := 2) (F := m_times) T.h_times sc_times (fun f cdv A outer s H E hr => ?_) ?_
  ·
    have hu : (A.deeper (envOfC "times" (defScope st_times) s.heap.objs.size f cdv)).units + 64 < cLine := hr.units
    have hv : (A.deeper (envOfC "times" (defScope st_times) s.heap.objs.size f cdv)).units + 65 < cLine := room65 hr
    have nd := sc_times.nd
    exact (ss_one (s_ret (e_def d_fraction hr (a_cons (e_op o_mul (e_var 0) (e_ix (e_var 1) e_int)) (a_cons (e_ix (e_var 1) e_int) a_nil)))))
  · exact fun _ _ h => h
--@ is_less
theorem d_is_less (T : Txt K mg) : Def P w K mg base 1 "is_less" ["one", "other"] n_is_less := by
  refine d_of (k := 0) (F := m_is_less) T.h_is_less sc_is_less (fun f cdv A outer s H E hr => ?_) ?_
  ·
    have hu : (A.deeper (envOfC "is_less" (defScope st_is_less) s.heap.objs.size f cdv)).units + 64 < cLine := hr.units
    have hv : (A.deeper (envOfC "is_less" (defScope st_is_less) s.heap.objs.size f cdv)).units + 65 < cLine := room65 hr
    have nd := sc_is_less.nd
    exact (ss_one (s_ret (e_cmp o_lt (e_op o_mul (e_ix (e_var 0) e_int) (e_ix (e_var 1) e_int)) (e_op o_mul (e_ix (e_var 1) e_int) (e_ix (e_var 0) e_int)))))
  · exact fun _ _ h => h
--@ size
theorem d_size (T : Txt K mg) : Def P w K mg base 1 "size" ["one"] n_size := by
  refine d_of (k := 0) (F := m_size) T.h_size sc_size (fun f cdv A outer s H E hr => ?_) ?_
  ·
    have hu : (A.deeper (envOfC "size" (defScope st_size) s.heap.objs.size f cdv)).units + 64 < cLine := hr.units
    have hv : (A.deeper (envOfC "size" (defScope st_size) s.heap.objs.size f cdv)).units + 65 < cLine := room65 hr
    have nd := sc_size.nd
    exact (ss_one (s_ret (e_tup (a_cons (e_blt c_abs T.b_abs (by decide +kernel) (a_cons (e_ix (e_var 0) e_int) a_nil)) (a_cons (e_ix (e_var 0) e_int) a_nil)))))
  · exact fun _ _ h => h
--@ whole_part
theorem d_whole_part (T : Txt K mg) : Def P w K mg base 1 "whole_part" ["one"] n_whole_part := by
  refine d_of (k := 0) (F := m_whole_part) T.h_whole_part sc_whole_part (fun f cdv A outer s H E hr => ?_) ?_
  ·
    have hu : (A.deeper (envOfC "whole_part" (defScope st_whole_part) s.heap.objs.size f cdv)).units + 64 < cLine := hr.units
    have hv : (A.deeper (envOfC "whole_part" (defScope st_whole_part) s.heap.objs.size f cdv)).units + 65 < cLine := room65 hr
    have nd := sc_whole_part.nd
    exact (ss_one (s_ret (e_op o_fdiv (e_ix (e_var 0) e_int) (e_ix (e_var 0) e_int))))
  · exact fun _ _ h => h
--@ beats
theorem d_beats (T : Txt K mg) (d_fraction : Def P w K mg base 2 "fraction" ["upper", "lower"] n_fraction) : Def P w K mg base 3 "beats" ["pattern"] n_beats := by
  refine d_of (k := 2) (F := m_beats) T.h_beats sc_beats (fun f cdv A outer s H E hr => ?_) ?_
  ·
    have hu : (A.deeper (envOfC "beats" (defScope st_beats) s.heap.objs.size f cdv)).units + 64 < cLine := hr.units
    have hv : (A.deeper (envOfC "beats" (defScope st_beats) s.heap.objs.size f cdv)).units + 65 < cLine := room65 hr
    have nd := sc_beats.nd
    exact (ss_one (s_ret (e_def d_fraction hr (a_cons (e_ix (e_var 0) e_int) (a_cons (e_ix (e_var 0) e_int) a_nil)))))
  · exact fun _ _ h => h
--@ step_time
theorem d_step_time (T : Txt K mg) (d_times : Def P w K mg base 3 "times" ["number", "one"] n_times) (d_beats : Def P w K mg base 3 "beats" ["pattern"] n_beats) (d_added : Def P w K mg base 3 "added" ["one", "other"] n_added) (d_fraction : Def P w K mg base 2 "fraction" ["upper", "lower"] n_fraction) : Def P w K mg base 4 "step_time" ["swing", "pattern", "step"] n_step_time := by
  refine d_of (k := 3) (F := m_step_time) T.h_step_time sc_step_time (fun f cdv A outer s H E hr => ?_) ?_
  ·
    have hu : (A.deeper (envOfC "step_time" (defScope st_step_time) s.heap.objs.size f cdv)).units + 64 < cLine := hr.units
    have hv : (A.deeper (envOfC "step_time" (defScope st_step_time) s.heap.objs.size f cdv)).units + 65 < cLine := room65 hr
    have nd := sc_step_time.nd
    exact (ss_cons (s_asg (e_sl (e_var 1) p_no (p_so e_int)) (g_tup rfl (g_cons (g_name 4 nd) (g_cons (g_name 5 nd) g_nil)) (gl_cons (gl_cons gl_nil))))
    (ss_cons (s_set 3 nd (e_def d_times hr (a_cons (e_op o_fdiv (e_var 2) (e_var 4)) (a_cons (e_def d_beats hr (a_cons (e_var 1) a_nil)) a_nil))))
    (ss_cons (s_set 2 nd (e_op o_mod (e_var 2) (e_var 4)))
    (ss_cons (s_set 3 nd (e_def d_added hr (a_cons (e_var 3) (a_cons (e_def d_fraction hr (a_cons (e_op o_sub (e_var 2) (e_op o_mod (e_var 2) e_int)) (a_cons (e_var 5) a_nil))) a_nil))))
    (ss_cons (s_if (t_cmp (o_eq hu) (e_op o_mod (e_var 2) e_int) e_int)
      (ss_one (s_set 3 nd (e_def d_added hr (a_cons (e_var 3) (a_cons (e_def d_fraction hr (a_cons (e_op o_mul e_int (e_ix (e_var 0) e_int)) (a_cons (e_op o_mul (e_ix (e_var 0) e_int) (e_var 5)) a_nil))) a_nil)))))
      ss_nil)
    (ss_one (s_ret (e_var 3))))))))
  · exact fun _ _ h => h
--@ strikes_of
theorem d_strikes_of (T : Txt K mg) (d_step_time : Def P w K mg base 4 "step_time" ["swing", "pattern", "step"] n_step_time) : Def P w K mg base 5 "strikes_of" ["swing", "pattern"] n_strikes_of := by
  refine d_of (k := 4) (F := m_strikes_of) T.h_strikes_of sc_strikes_of (fun f cdv A outer s H E hr => ?_) ?_
  ·
    have hu : (A.deeper (envOfC "strikes_of" (defScope st_strikes_of) s.heap.objs.size f cdv)).units + 64 < cLine := hr.units
    have hv : (A.deeper (envOfC "strikes_of" (defScope st_strikes_of) s.heap.objs.size f cdv)).units + 65 < cLine := room65 hr
    have nd := sc_strikes_of.nd
    exact (ss_cons (s_own 2 nd (n_lst a_nil))
    (ss_cons (s_for PassesOwn.never rfl (i_range1 T.b_range (a_cons (e_ix (e_var 1) e_int) a_nil)) (g_name 3 nd)
      (ss_cons (s_set 4 nd (e_def d_step_time hr (a_cons (e_var 0) (a_cons (e_var 1) (a_cons (e_var 3) a_nil)))))
      (ss_one (s_for PassesOwn.never rfl (i_seq (e_ix (e_var 1) e_int)) (g_tup rfl (g_cons (g_name 5 nd) (g_cons (g_name 6 nd) g_nil)) (gl_cons (gl_cons gl_nil)))
        (ss_one (s_if (t_cmp (o_ne hu) (e_ix (e_var 6) (e_var 3)) (e_gs [46] T.c_REST))
          (ss_one (s_app 2 (e_tup (a_cons (e_var 4) (a_cons (e_var 5) (a_cons (e_cmp (o_eq hu) (e_ix (e_var 6) (e_var 3)) (e_gs [88] T.c_STRONG)) a_nil))))))
          ss_nil))))))
    (ss_frz 2 (ss_one (s_ret (e_tuple T.b_tuple (e_var 2)))))))
  · exact fun _ _ h => h
--@ pattern_of
theorem d_pattern_of (T : Txt K mg) : Def P w K mg base 1 "pattern_of" ["book", "name"] n_pattern_of := by
  refine d_of (k := 0) (F := m_pattern_of) T.h_pattern_of sc_pattern_of (fun f cdv A outer s H E hr => ?_) ?_
  ·
    have hu : (A.deeper (envOfC "pattern_of" (defScope st_pattern_of) s.heap.objs.size f cdv)).units + 64 < cLine := hr.units
    have hv : (A.deeper (envOfC "pattern_of" (defScope st_pattern_of) s.heap.objs.size f cdv)).units + 65 < cLine := room65 hr
    have nd := sc_pattern_of.nd
    exact (ss_cons (s_set 2 nd (e_ty (c_dict rfl) T.b_dict (by decide +kernel) (a_cons (e_ix (e_var 0) e_int) a_nil)))
    (ss_cons (s_if (t_cmp (o_nin hv) (e_var 1) (e_var 2))
      (ss_one s_stuck)
      ss_nil)
    (ss_one (s_ret (e_dix hv (e_var 2) (e_var 1))))))
  · exact fun _ _ h => h
--@ strikes
theorem d_strikes (T : Txt K mg) (d_strikes_of : Def P w K mg base 5 "strikes_of" ["swing", "pattern"] n_strikes_of) (d_pattern_of : Def P w K mg base 1 "pattern_of" ["book", "name"] n_pattern_of) : Def P w K mg base 6 "strikes" ["book", "name"] n_strikes := by
  refine d_of (k := 5) (F := m_strikes) T.h_strikes sc_strikes (fun f cdv A outer s H E hr => ?_) ?_
  ·
    have hu : (A.deeper (envOfC "strikes" (defScope st_strikes) s.heap.objs.size f cdv)).units + 64 < cLine := hr.units
    have hv : (A.deeper (envOfC "strikes" (defScope st_strikes) s.heap.objs.size f cdv)).units + 65 < cLine := room65 hr
    have nd := sc_strikes.nd
    exact (ss_one (s_ret (e_def d_strikes_of hr (a_cons (e_ix (e_var 0) e_int) (a_cons (e_def d_pattern_of hr (a_cons (e_var 0) (a_cons (e_var 1) a_nil))) a_nil)))))
  · exact fun _ _ h => h
--@ nearest
theorem d_nearest (T : Txt K mg) (d_beats : Def P w K mg base 3 "beats" ["pattern"] n_beats) (d_whole_part : Def P w K mg base 1 "whole_part" ["one"] n_whole_part) (d_less : Def P w K mg base 4 "less" ["one", "other"] n_less) (d_step_time : Def P w K mg base 4 "step_time" ["swing", "pattern", "step"] n_step_time) (d_is_less : Def P w K mg base 1 "is_less" ["one", "other"] n_is_less) (d_size : Def P w K mg base 1 "size" ["one"] n_size) : Def P w K mg base 5 "nearest" ["swing", "pattern", "time"] n_nearest := by
  refine d_of (k := 4) (F := m_nearest) T.h_nearest sc_nearest (fun f cdv A outer s H E hr => ?_) ?_
  ·
    have hu : (A.deeper (envOfC "nearest" (defScope st_nearest) s.heap.objs.size f cdv)).units + 64 < cLine := hr.units
    have hv : (A.deeper (envOfC "nearest" (defScope st_nearest) s.heap.objs.size f cdv)).units + 65 < cLine := room65 hr
    have nd := sc_nearest.nd
    exact (ss_cons (s_set 3 nd (e_def d_beats hr (a_cons (e_var 1) a_nil)))
    (ss_cons (s_set 4 nd (e_def d_whole_part hr (a_cons (e_tup (a_cons (e_op o_mul (e_ix (e_var 2) e_int) (e_ix (e_var 3) e_int)) (a_cons (e_op o_mul (e_ix (e_var 2) e_int) (e_ix (e_var 3) e_int)) a_nil))) a_nil)))
    (ss_cons (s_set 5 nd e_non)
    (ss_cons (s_for PassesOwn.never rfl (i_range2 T.b_range (a_cons (e_op o_mul (e_var 4) (e_ix (e_var 1) e_int)) (a_cons (e_op o_add (e_op o_mul (e_op o_add (e_var 4) e_int) (e_ix (e_var 1) e_int)) e_int) a_nil))) (g_name 6 nd)
      (ss_cons (s_set 7 nd (e_def d_less hr (a_cons (e_var 2) (a_cons (e_def d_step_time hr (a_cons (e_var 0) (a_cons (e_var 1) (a_cons (e_var 6) a_nil)))) a_nil))))
      (ss_one (s_if (PW.pt (t_or (t_cmp o_is (e_var 5) e_non) (t_or1 (t_val (e_def d_is_less hr (a_cons (e_def d_size hr (a_cons (e_var 7) a_nil)) (a_cons (e_def d_size hr (a_cons (e_ix (e_var 5) e_int) a_nil)) a_nil)))))))
        (ss_one (s_set 5 nd (e_tup (a_cons (e_var 6) (a_cons (e_var 7) a_nil)))))
        ss_nil))))
    (ss_one (s_ret (e_var 5)))))))
  · exact fun _ _ h => h
--@ _law_cell_at
theorem d__law_cell_at (T : Txt K mg) : Def P w K mg base 1 "_law_cell_at" ["script", "k"] n__law_cell_at := by
  refine d_of (k := 0) (F := m__law_cell_at) T.h__law_cell_at sc__law_cell_at (fun f cdv A outer s H E hr => ?_) ?_
  ·
    have hu : (A.deeper (envOfC "_law_cell_at" (defScope st__law_cell_at) s.heap.objs.size f cdv)).units + 64 < cLine := hr.units
    have hv : (A.deeper (envOfC "_law_cell_at" (defScope st__law_cell_at) s.heap.objs.size f cdv)).units + 65 < cLine := room65 hr
    have nd := sc__law_cell_at.nd
    exact (ss_cons (s_if (t_cmp o_lt (e_var 1) (e_blt c_len T.b_len (by decide +kernel) (a_cons (e_var 0) a_nil)))
      (ss_one (s_ret (e_ix (e_var 0) (e_var 1))))
      ss_nil)
    (ss_one (s_ret e_int)))
  · exact fun _ _ h => h
--@ _law_mixed
theorem d__law_mixed (T : Txt K mg) (d__law_cell_at : Def P w K mg base 1 "_law_cell_at" ["script", "k"] n__law_cell_at) : Def P w K mg base 2 "_law_mixed" ["script", "k"] n__law_mixed := by
  refine d_of (k := 1) (F := m__law_mixed) T.h__law_mixed sc__law_mixed (fun f cdv A outer s H E hr => ?_) ?_
  ·
    have hu : (A.deeper (envOfC "_law_mixed" (defScope st__law_mixed) s.heap.objs.size f cdv)).units + 64 < cLine := hr.units
    have hv : (A.deeper (envOfC "_law_mixed" (defScope st__law_mixed) s.heap.objs.size f cdv)).units + 65 < cLine := room65 hr
    have nd := sc__law_mixed.nd
    exact (ss_cons (s_set 2 nd (e_op o_mod (e_op o_mul (e_op o_add (e_op o_add (e_def d__law_cell_at hr (a_cons (e_var 0) (a_cons (e_var 1) a_nil))) (e_op o_mul e_int (e_var 1))) e_int) e_int) e_int))
    (ss_one (s_ret (e_op o_mod (e_op o_add (e_op o_add (e_op o_mul (e_var 2) (e_var 2)) (e_op o_mul e_int (e_var 2))) (e_var 1)) e_int))))
  · exact fun _ _ h => h
--@ _law_drawn
theorem d__law_drawn (T : Txt K mg) : Def P w K mg base 1 "_law_drawn" ["number", "k"] n__law_drawn := by
  refine d_of (k := 0) (F := m__law_drawn) T.h__law_drawn sc__law_drawn (fun f cdv A outer s H E hr => ?_) ?_
  ·
    have hu : (A.deeper (envOfC "_law_drawn" (defScope st__law_drawn) s.heap.objs.size f cdv)).units + 64 < cLine := hr.units
    have hv : (A.deeper (envOfC "_law_drawn" (defScope st__law_drawn) s.heap.objs.size f cdv)).units + 65 < cLine := room65 hr
    have nd := sc__law_drawn.nd
    exact (ss_cons (s_set 2 nd (e_op o_mod (e_op o_mul (e_op o_add (e_op o_add (e_var 0) (e_op o_mul e_int (e_var 1))) e_int) e_int) e_int))
    (ss_one (s_ret (e_op o_mod (e_op o_add (e_op o_add (e_op o_mul (e_var 2) (e_var 2)) (e_op o_mul e_int (e_var 2))) (e_var 1)) e_int))))
  · exact fun _ _ h => h
--@ _law_frac
theorem d__law_frac (T : Txt K mg) : Def P w K mg base 1 "_law_frac" ["upper", "lower"] n__law_frac := by
  refine d_of (k := 0) (F := m__law_frac) T.h__law_frac sc__law_frac (fun f cdv A outer s H E hr => ?_) ?_
  ·
    have hu : (A.deeper (envOfC "_law_frac" (defScope st__law_frac) s.heap.objs.size f cdv)).units + 64 < cLine := hr.units
    have hv : (A.deeper (envOfC "_law_frac" (defScope st__law_frac) s.heap.objs.size f cdv)).units + 65 < cLine := room65 hr
    have nd := sc__law_frac.nd
    exact (ss_cons (s_par 2 3 rfl nd (a_cons (e_blt c_abs T.b_abs (by decide +kernel) (a_cons (e_var 0) a_nil)) (a_cons (e_var 1) a_nil)))
    (ss_cons (s_while fuelN PassesOwn.never (t_cmp (o_ne hu) (e_var 3) e_int)
      (ss_one (s_par 2 3 rfl nd (a_cons (e_var 3) (a_cons (e_op o_mod (e_var 2) (e_var 3)) a_nil)))))
    (ss_one (s_ret (e_tup (a_cons (e_op o_fdiv (e_var 0) (e_var 2)) (a_cons (e_op o_fdiv (e_var 1) (e_var 2)) a_nil)))))))
  · exact fun _ _ h => h
--@ _law_add
theorem d__law_add (T : Txt K mg) (d__law_frac : Def P w K mg base 1 "_law_frac" ["upper", "lower"] n__law_frac) : Def P w K mg base 2 "_law_add" ["one", "other"] n__law_add := by
  refine d_of (k := 1) (F := m__law_add) T.h__law_add sc__law_add (fun f cdv A outer s H E hr => ?_) ?_
  ·
    have hu : (A.deeper (envOfC "_law_add" (defScope st__law_add) s.heap.objs.size f cdv)).units + 64 < cLine := hr.units
    have hv : (A.deeper (envOfC "_law_add" (defScope st__law_add) s.heap.objs.size f cdv)).units + 65 < cLine := room65 hr
    have nd := sc__law_add.nd
    exact (ss_one (s_ret (e_def d__law_frac hr (a_cons (e_op o_add (e_op o_mul (e_ix (e_var 0) e_int) (e_ix (e_var 1) e_int)) (e_op o_mul (e_ix (e_var 1) e_int) (e_ix (e_var 0) e_int))) (a_cons (e_op o_mul (e_ix (e_var 0) e_int) (e_ix (e_var 1) e_int)) a_nil)))))
  · exact fun _ _ h => h
--@ _law_marks
theorem d__law_marks (T : Txt K mg) (d__law_drawn : Def P w K mg base 1 "_law_drawn" ["number", "k"] n__law_drawn) : Def P w K mg base 2 "_law_marks" ["number", "steps"] n__law_marks := by
  refine d_of (k := 1) (F := m__law_marks) T.h__law_marks sc__law_marks (fun f cdv A outer s H E hr => ?_) ?_
  ·
    have hu : (A.deeper (envOfC "_law_marks" (defScope st__law_marks) s.heap.objs.size f cdv)).units + 64 < cLine := hr.units
    have hv : (A.deeper (envOfC "_law_marks" (defScope st__law_marks) s.heap.objs.size f cdv)).units + 65 < cLine := room65 hr
    have nd := sc__law_marks.nd
    exact (ss_cons (s_set 2 nd (e_str []))
    (ss_cons (s_for PassesOwn.never rfl (i_range1 T.b_range (a_cons (e_var 1) a_nil)) (g_name 3 nd)
      (ss_cons (s_set 4 nd (e_op o_fdiv (e_def d__law_drawn hr (a_cons (e_var 0) (a_cons (e_var 3) a_nil))) e_int))
      (ss_one (s_set 2 nd (e_op o_add (e_var 2) (e_ix (e_str [46, 46, 46, 120, 120, 88]) (e_op o_mod (e_var 4) e_int)))))))
    (ss_one (s_ret (e_var 2)))))
  · exact fun _ _ h => h
--@ _law_pattern
theorem d__law_pattern (T : Txt K mg) (d__law_drawn : Def P w K mg base 1 "_law_drawn" ["number", "k"] n__law_drawn) (d__law_marks : Def P w K mg base 2 "_law_marks" ["number", "steps"] n__law_marks) : Def P w K mg base 3 "_law_pattern" ["number"] n__law_pattern := by
  refine d_of (k := 2) (F := m__law_pattern) T.h__law_pattern sc__law_pattern (fun f cdv A outer s H E hr => ?_) ?_
  ·
    have hu : (A.deeper (envOfC "_law_pattern" (defScope st__law_pattern) s.heap.objs.size f cdv)).units + 64 < cLine := hr.units
    have hv : (A.deeper (envOfC "_law_pattern" (defScope st__law_pattern) s.heap.objs.size f cdv)).units + 65 < cLine := room65 hr
    have nd := sc__law_pattern.nd
    exact (ss_cons (s_set 1 nd (e_ix (e_tup (a_cons (e_op o_add e_int (e_op o_mod (e_op o_fdiv (e_var 0) e_int) e_int)) (a_cons e_int (a_cons e_int (a_cons (e_op o_add e_int (e_op o_mod (e_op o_fdiv (e_var 0) e_int) e_int)) a_nil))))) (e_op o_mod (e_var 0) e_int)))
    (ss_cons (s_set 2 nd (e_op o_add e_int (e_op o_mod (e_op o_fdiv (e_var 0) e_int) e_int)))
    (ss_cons (s_set 3 nd (e_tup a_nil))
    (ss_cons (s_for PassesOwn.never rfl (i_enum T.b_enumerate (e_tup (a_cons (e_str [97]) (a_cons (e_str [104]) (a_cons (e_str [107]) (a_cons (e_str [115]) (a_cons (e_str [122]) a_nil))))))) (g_tup rfl (g_cons (g_name 4 nd) (g_cons (g_name 5 nd) g_nil)) (gl_cons (gl_cons gl_nil)))
      (ss_cons (s_set 6 nd (e_op o_fdiv (e_def d__law_drawn hr (a_cons (e_var 0) (a_cons (e_op o_add e_int (e_var 4)) a_nil))) e_int))
      (ss_one (s_if (t_cmp o_lt (e_op o_mod (e_var 6) e_int) (e_op o_add e_int (e_op o_mod (e_op o_fdiv (e_var 0) e_int) e_int)))
        (ss_one (s_set 3 nd (e_op o_add (e_var 3) (e_tup (a_cons (e_tup (a_cons (e_var 5) (a_cons (e_def d__law_marks hr (a_cons (e_op o_fdiv (e_var 6) e_int) (a_cons (e_var 1) a_nil))) a_nil))) a_nil)))))
        ss_nil))))
    (ss_one (s_ret (e_tup (a_cons (e_var 1) (a_cons (e_var 2) (a_cons (e_var 3) a_nil))))))))))
  · exact fun _ _ h => h
--@ _law_book
theorem d__law_book (T : Txt K mg) (d__law_pattern : Def P w K mg base 3 "_law_pattern" ["number"] n__law_pattern) (d__law_drawn : Def P w K mg base 1 "_law_drawn" ["number", "k"] n__law_drawn) : Def P w K mg base 4 "_law_book" ["number"] n__law_book := by
  refine d_of (k := 3) (F := m__law_book) T.h__law_book sc__law_book (fun f cdv A outer s H E hr => ?_) ?_
  ·
    have hu : (A.deeper (envOfC "_law_book" (defScope st__law_book) s.heap.objs.size f cdv)).units + 64 < cLine := hr.units
    have hv : (A.deeper (envOfC "_law_book" (defScope st__law_book) s.heap.objs.size f cdv)).units + 65 < cLine := room65 hr
    have nd := sc__law_book.nd
    exact (ss_cons (s_set 1 nd (e_ix (e_tup (a_cons (e_tup (a_cons e_int (a_cons e_int a_nil))) (a_cons (e_tup (a_cons e_int (a_cons e_int a_nil))) (a_cons (e_tup (a_cons e_int (a_cons e_int a_nil))) (a_cons (e_tup (a_cons e_int (a_cons e_int a_nil))) (a_cons (e_tup (a_cons e_int (a_cons e_int a_nil))) (a_cons (e_tup (a_cons e_int (a_cons e_int a_nil))) a_nil))))))) (e_op o_mod (e_var 0) e_int)))
    (ss_cons (s_setLc 2 (own := [("k", 4), ("name", 5)]) rfl nd (i_enum T.b_enumerate (e_tup (a_cons (e_str [97]) (a_cons (e_str [98]) (a_cons (e_str [98, 98]) (a_cons (e_str [102, 105, 108, 108]) (a_cons (e_str [113]) a_nil))))))) (blkOk_by (by kernel_rfl)) (fun _ _ _ _ _ => (g_tup rfl (g_cons (g_name 4 nd) (g_cons (g_name 5 nd) g_nil)) (gl_cons (gl_cons gl_nil)))) (fun _ _ _ _ _ => (ts_one (t_cmp (o_eq hu) (e_op o_mod (e_op o_fdiv (e_var 0) (e_ix (e_tup (a_cons e_int (a_cons e_int (a_cons e_int (a_cons e_int (a_cons e_int a_nil)))))) (e_var 4))) e_int) e_int))) (fun _ _ _ _ _ => (e_var 5)) (sw_true rfl rfl rfl (by decide +kernel)))
    (ss_cons (s_set 3 nd (e_tup a_nil))
    (ss_cons (s_for PassesOwn.never rfl (i_enum T.b_enumerate (e_op o_add (e_var 2) (e_lst (a_cons (e_str [122]) a_nil)))) (g_tup rfl (g_cons (g_name 4 nd) (g_cons (g_name 5 nd) g_nil)) (gl_cons (gl_cons gl_nil)))
      (ss_one (s_set 3 nd (e_op o_add (e_var 3) (e_tup (a_cons (e_tup (a_cons (e_var 5) (a_cons (e_def d__law_pattern hr (a_cons (e_op o_fdiv (e_def d__law_drawn hr (a_cons (e_var 0) (a_cons (e_op o_add e_int (e_var 4)) a_nil))) e_int) a_nil)) a_nil))) a_nil))))))
    (ss_one (s_ret (e_tup (a_cons (e_var 1) (a_cons (e_var 3) a_nil)))))))))
  · exact fun _ _ h => h
--@ w put_right
theorem dw_put_right {Z : Wd} (T : Txt K mg) (d_nearest : Def P w K mg base 5 "nearest" ["swing", "pattern", "time"] n_nearest) (d_is_less : Def P w K mg base 1 "is_less" ["one", "other"] n_is_less) (d_size : Def P w K mg base 1 "size" ["one"] n_size) : DefW P w K mg base Z 6 "put_right" ["swing", "steps", "grid", "some", "bound"] wn_put_right := by
  refine dw_of (N := ["swing", "steps", "grid", "some", "bound", "pattern", "rows", "lost", "strike", "step", "off", "row", "pad"]) (ps := ["swing", "steps", "grid", "some", "bound"]) (k := 5) (M := w_put_right) T.h_put_right sc_put_right (fun f cdv A outer s H E hr => ?_)
  ·
    have hu : (A.deeper (envOfC "put_right" (defScope st_put_right) s.heap.objs.size f cdv)).units + 64 < cLine := hr.units
    have hv : (A.deeper (envOfC "put_right" (defScope st_put_right) s.heap.objs.size f cdv)).units + 65 < cLine := room65 hr
    have nd := sc_put_right.nd
    exact (wss_cons (ws_pure (s_set 5 nd (e_tup (a_cons (e_var 1) (a_cons (e_var 2) (a_cons (e_tup a_nil) a_nil))))))
    (wss_cons (ws_set 6 nd wp_newD)
    (wss_cons (ws_pure (s_set 7 nd (e_tup a_nil)))
    (wss_cons (ws_for (passes_of rfl) rfl (i_seq (e_var 3)) (g_name 8 nd)
      (wss_cons (ws_pure (s_asg (e_def d_nearest hr (a_cons (e_var 0) (a_cons (e_var 5) (a_cons (e_ix (e_var 8) e_int) a_nil)))) (g_tup rfl (g_cons (g_name 9 nd) (g_cons (g_name 10 nd) g_nil)) (gl_cons (gl_cons gl_nil)))))
      (wss_one (ws_if (wt_pure (t_val (e_def d_is_less hr (a_cons (e_var 4) (a_cons (e_def d_size hr (a_cons (e_var 10) a_nil)) a_nil)))))
        (wss_pure (ss_one (s_set 7 nd (e_op o_add (e_var 7) (e_tup (a_cons (e_var 8) a_nil))))))
        (wss_cons (ws_set 11 nd (wp_setd (wp_pure (e_var 6)) (wp_pure (e_ix (e_var 8) e_int)) (wp_newL (n_mul (e_lst (a_cons (e_gs [46] T.c_REST) a_nil)) (e_var 1))) ⟨rfl, rfl, rfl, rfl⟩))
        (wss_one (ws_if (wt_pure (t_val (e_ix (e_var 8) e_int)))
          (wss_one (ws_lput (wp_pure (e_var 11)) (wp_pure (e_op o_mod (e_var 9) (e_var 1))) (wp_pure (e_gs [88] T.c_STRONG))))
          (wss_one (ws_if (wt_cmp (o_eq hu) (wp_lix (wp_pure (e_var 11)) (wp_pure (e_op o_mod (e_var 9) (e_var 1)))) (wp_pure (e_gs [46] T.c_REST)))
            (wss_one (ws_lput (wp_pure (e_var 11)) (wp_pure (e_op o_mod (e_var 9) (e_var 1))) (wp_pure (e_gs [120] T.c_PLAIN))))
            wss_nil)))))))))
    (wss_frzD 6 (wss_pure (ss_one (s_ret (e_tup (a_cons (e_tup (a_cons (e_var 1) (a_cons (e_var 2) (a_cons (e_tuple T.b_tuple (e_lc (own := [("pad", 12)]) rfl nd (i_seq (e_blt (c_sortD rfl) T.b_sorted (by decide +kernel) (a_cons (e_var 6) a_nil))) (blkOk_by (by kernel_rfl)) (fun _ _ _ _ _ => (g_name 12 nd)) (fun _ _ _ _ _ => ts_nil) (fun _ _ _ _ _ => (e_tup (a_cons (e_var 12) (a_cons (e_join (e_str []) (e_dix hv (e_var 6) (e_var 12))) a_nil)))))) a_nil)))) (a_cons (e_var 7) a_nil)))))))))))
--@ w law
theorem ok_law {Z : Wd} {f : Addr} {fd : FuncData} (Fu : Fun K "law" "law" st_law f fd) (hZ : Z.T = []) (T : Txt K mg) (d__law_book : Def P w K mg base 4 "_law_book" ["number"] n__law_book) (d__law_mixed : Def P w K mg base 2 "_law_mixed" ["script", "k"] n__law_mixed) (d_strikes : Def P w K mg base 6 "strikes" ["book", "name"] n_strikes) (d__law_frac : Def P w K mg base 1 "_law_frac" ["upper", "lower"] n__law_frac) (d__law_add : Def P w K mg base 2 "_law_add" ["one", "other"] n__law_add) (d_beats : Def P w K mg base 3 "beats" ["pattern"] n_beats) (d_nearest : Def P w K mg base 5 "nearest" ["swing", "pattern", "time"] n_nearest) (d_step_time : Def P w K mg base 4 "step_time" ["swing", "pattern", "step"] n_step_time) (dw_put_right : DefW P w K mg base Z 6 "put_right" ["swing", "steps", "grid", "some", "bound"] wn_put_right) : FnOk P w K mg base (L2.CX P w) 7 f fd ["script"] (spLaw K) := by
  refine fnw_law hZ (fn_w (N := ["script", "book", "number", "swing", "some", "due", "late", "later", "bound", "far_on", "turns", "more", "again", "step", "here", "there", "middle", "part", "name", "pattern", "steps", "grid", "pads", "time", "pad", "strong"]) (ps := ["script"]) (k := 6) (M := w_law) Fu sc_law (fun cdv A outer s H E hr => ?_)) q_law
  ·
    have hu : (A.deeper (envOfC "law" (defScope st_law) s.heap.objs.size f cdv)).units + 64 < cLine := hr.units
    have hv : (A.deeper (envOfC "law" (defScope st_law) s.heap.objs.size f cdv)).units + 65 < cLine := room65 hr
    have nd := sc_law.nd
    exact (wss_cons (ws_pure (s_set 1 nd (e_def d__law_book hr (a_cons (e_def d__law_mixed hr (a_cons (e_var 0) (a_cons e_int a_nil))) a_nil))))
    (wss_cons (ws_pure (s_set 2 nd (e_def d__law_mixed hr (a_cons (e_var 0) (a_cons e_int a_nil)))))
    (wss_cons (ws_pure (s_asg (e_ix (e_ix (e_var 1) e_int) (e_op o_mod (e_var 2) (e_blt c_len T.b_len (by decide +kernel) (a_cons (e_ix (e_var 1) e_int) a_nil)))) (g_tup rfl (g_cons (g_name 18 nd) (g_cons (g_name 19 nd) g_nil)) (gl_cons (gl_cons gl_nil)))))
    (wss_cons (ws_pure (s_asg (e_var 19) (g_tup rfl (g_cons (g_name 20 nd) (g_cons (g_name 21 nd) (g_cons (g_name 22 nd) g_nil))) (gl_cons (gl_cons (gl_cons gl_nil))))))
    (wss_cons (ws_pure (s_set 3 nd (e_ix (e_var 1) e_int)))
    (wss_cons (ws_pure (s_set 4 nd (e_def d_strikes hr (a_cons (e_var 1) (a_cons (e_var 18) a_nil)))))
    (wss_cons (ws_pure (s_set 5 nd (e_tup (a_cons (e_var 20) (a_cons (e_var 21) (a_cons (e_tuple T.b_tuple (e_lc (own := [("part", 17)]) rfl nd (i_seq (e_var 22)) (blkOk_by (by kernel_rfl)) (fun _ _ _ _ _ => (g_name 17 nd)) (fun _ _ _ _ _ => (ts_one (t_cmp (o_ne hu) (e_ix (e_var 17) e_int) (e_op o_mul (e_str [46]) (e_var 20))))) (fun _ _ _ _ _ => (e_var 17)))) a_nil))))))
    (wss_cons (ws_if (wt_cmp (o_ne hu) (e_defw (takes_of rfl rfl rfl rfl) dw_put_right hr (wa_pure (a_cons (e_var 3) (a_cons (e_var 20) (a_cons (e_var 21) (a_cons (e_var 4) (a_cons (e_tup (a_cons e_int (a_cons e_int a_nil))) a_nil))))))) (wp_pure (e_tup (a_cons (e_var 5) (a_cons (e_tup a_nil) a_nil)))))
      (wss_pure (ss_one (s_ret e_bl)))
      wss_nil)
    (wss_cons (ws_pure (s_set 6 nd (e_def d__law_frac hr (a_cons (e_op o_add e_int (e_op o_mod (e_op o_fdiv (e_var 2) e_int) e_int)) (a_cons (e_op o_mul e_int (e_var 21)) a_nil)))))
    (wss_cons (ws_pure (s_set 7 nd (e_tuple T.b_tuple (e_lc (own := [("time", 23), ("pad", 24), ("strong", 25)]) rfl nd (i_seq (e_var 4)) (blkOk_by (by kernel_rfl)) (fun _ _ _ _ _ => (g_tup rfl (g_cons (g_name 23 nd) (g_cons (g_name 24 nd) (g_cons (g_name 25 nd) g_nil))) (gl_cons (gl_cons (gl_cons gl_nil))))) (fun _ _ _ _ _ => ts_nil) (fun _ _ _ _ _ => (e_tup (a_cons (e_def d__law_add hr (a_cons (e_var 23) (a_cons (e_var 6) a_nil))) (a_cons (e_var 24) (a_cons (e_var 25) a_nil)))))))))
    (wss_cons (ws_for (passes_of rfl) rfl (i_seq (e_tup (a_cons (e_var 6) (a_cons (e_tup (a_cons e_int (a_cons e_int a_nil))) a_nil)))) (g_name 8 nd)
      (wss_one (ws_if (wt_cmp (o_ne hu) (e_defw (takes_of rfl rfl rfl rfl) dw_put_right hr (wa_pure (a_cons (e_var 3) (a_cons (e_var 20) (a_cons (e_var 21) (a_cons (e_var 7) (a_cons (e_var 8) a_nil))))))) (wp_pure (e_tup (a_cons (e_var 5) (a_cons (e_tup a_nil) a_nil)))))
        (wss_pure (ss_one (s_ret e_bl)))
        wss_nil)))
    (wss_cons (ws_if (wt_cmp (o_ne hu) (e_defw (takes_of rfl rfl rfl rfl) dw_put_right hr (wa_pure (a_cons (e_var 3) (a_cons (e_var 20) (a_cons (e_var 21) (a_cons (e_var 7) (a_cons (e_tup (a_cons e_int (a_cons e_int a_nil))) a_nil))))))) (wp_pure (e_tup (a_cons (e_tup (a_cons (e_var 20) (a_cons (e_var 21) (a_cons (e_tup a_nil) a_nil)))) (a_cons (e_var 7) a_nil)))))
      (wss_pure (ss_one (s_ret e_bl)))
      wss_nil)
    (wss_cons (ws_pure (s_set 9 nd (e_def d_beats hr (a_cons (e_var 19) a_nil))))
    (wss_cons (ws_pure (s_set 10 nd (e_op o_add e_int (e_op o_mod (e_op o_fdiv (e_var 2) e_int) e_int))))
    (wss_cons (ws_pure (s_set 11 nd (e_tup (a_cons (e_op o_mul (e_var 10) (e_ix (e_var 9) e_int)) (a_cons (e_ix (e_var 9) e_int) a_nil)))))
    (wss_cons (ws_pure (s_set 12 nd (e_tuple T.b_tuple (e_lc (own := [("time", 23), ("pad", 24), ("strong", 25)]) rfl nd (i_seq (e_var 4)) (blkOk_by (by kernel_rfl)) (fun _ _ _ _ _ => (g_tup rfl (g_cons (g_name 23 nd) (g_cons (g_name 24 nd) (g_cons (g_name 25 nd) g_nil))) (gl_cons (gl_cons (gl_cons gl_nil))))) (fun _ _ _ _ _ => ts_nil) (fun _ _ _ _ _ => (e_tup (a_cons (e_def d__law_add hr (a_cons (e_var 23) (a_cons (e_var 11) a_nil))) (a_cons (e_var 24) (a_cons (e_var 25) a_nil)))))))))
    (wss_cons (ws_if (wt_cmp (o_ne hu) (e_defw (takes_of rfl rfl rfl rfl) dw_put_right hr (wa_pure (a_cons (e_var 3) (a_cons (e_var 20) (a_cons (e_var 21) (a_cons (e_var 12) (a_cons (e_tup (a_cons e_int (a_cons e_int a_nil))) a_nil))))))) (wp_pure (e_tup (a_cons (e_var 5) (a_cons (e_tup a_nil) a_nil)))))
      (wss_pure (ss_one (s_ret e_bl)))
      wss_nil)
    (wss_pure (ss_cons (s_set 13 nd (e_op o_mod (e_op o_fdiv (e_var 2) e_int) (e_op o_mul e_int (e_var 20))))
      (ss_cons (s_if (t_cmp (o_ne hu) (e_def d_nearest hr (a_cons (e_var 3) (a_cons (e_var 19) (a_cons (e_def d_step_time hr (a_cons (e_var 3) (a_cons (e_var 19) (a_cons (e_var 13) a_nil)))) a_nil)))) (e_tup (a_cons (e_var 13) (a_cons (e_tup (a_cons e_int (a_cons e_int a_nil))) a_nil))))
        (ss_one (s_ret e_bl))
        ss_nil)
      (ss_cons (s_set 14 nd (e_def d_step_time hr (a_cons (e_var 3) (a_cons (e_var 19) (a_cons (e_var 13) a_nil)))))
      (ss_cons (s_set 15 nd (e_def d_step_time hr (a_cons (e_var 3) (a_cons (e_var 19) (a_cons (e_op o_add (e_var 13) e_int) a_nil)))))
      (ss_cons (s_set 16 nd (e_def d__law_frac hr (a_cons (e_op o_add (e_op o_mul (e_ix (e_var 14) e_int) (e_ix (e_var 15) e_int)) (e_op o_mul (e_ix (e_var 15) e_int) (e_ix (e_var 14) e_int))) (a_cons (e_op o_mul (e_op o_mul e_int (e_ix (e_var 14) e_int)) (e_ix (e_var 15) e_int)) a_nil))))
      (ss_cons (s_if (t_cmp (o_ne hu) (e_ix (e_def d_nearest hr (a_cons (e_var 3) (a_cons (e_var 19) (a_cons (e_var 16) a_nil)))) e_int) (e_var 13))
        (ss_one (s_ret e_bl))
        ss_nil)
      (ss_cons (s_set 17 nd (e_def d__law_add hr (a_cons (e_var 16) (a_cons (e_tup (a_cons e_int (a_cons e_int a_nil))) a_nil))))
      (ss_one (s_ret (e_cmp (o_eq hu) (e_ix (e_def d_nearest hr (a_cons (e_var 3) (a_cons (e_var 19) (a_cons (e_var 17) a_nil)))) e_int) (e_op o_add (e_var 13) e_int)))))))))))))))))))))))))))))
end
--@ end
set_option maxHeartbeats 8000000 in
theorem all_mk {l : PySem.W.OpenLaw} {w : World} {K : PySem.W.Frag} {h : Heap} {mg : Str → Option Value} {fa : Addr} (X : K.In h) (G : h.Ns mainGlobals mg) (hfa : mg "law" = some (.ref fa))
    {od0 an0 : Option Addr} {sl0 : Array (Option Value)} {oc0 kV0 dc0 pm0 cd0 ct0 : Value} {f0 : Addr}
    {od1 an1 : Option Addr} {sl1 : Array (Option Value)} {oc1 kV1 dc1 pm1 cd1 ct1 : Value} {f1 : Addr}
    {od2 an2 : Option Addr} {sl2 : Array (Option Value)} {oc2 kV2 dc2 pm2 cd2 ct2 : Value} {f2 : Addr}
    {od3 an3 : Option Addr} {sl3 : Array (Option Value)} {oc3 kV3 dc3 pm3 cd3 ct3 : Value} {f3 : Addr}
    {od4 an4 : Option Addr} {sl4 : Array (Option Value)} {oc4 kV4 dc4 pm4 cd4 ct4 : Value} {f4 : Addr}
    {od5 an5 : Option Addr} {sl5 : Array (Option Value)} {oc5 kV5 dc5 pm5 cd5 ct5 : Value} {f5 : Addr}
    {od6 an6 : Option Addr} {sl6 : Array (Option Value)} {oc6 kV6 dc6 pm6 cd6 ct6 : Value} {f6 : Addr}
    {od7 an7 : Option Addr} {sl7 : Array (Option Value)} {oc7 kV7 dc7 pm7 cd7 ct7 : Value} {f7 : Addr}
    {od8 an8 : Option Addr} {sl8 : Array (Option Value)} {oc8 kV8 dc8 pm8 cd8 ct8 : Value} {f8 : Addr}
    {od9 an9 : Option Addr} {sl9 : Array (Option Value)} {oc9 kV9 dc9 pm9 cd9 ct9 : Value} {f9 : Addr}
    {od10 an10 : Option Addr} {sl10 : Array (Option Value)} {oc10 kV10 dc10 pm10 cd10 ct10 : Value} {f10 : Addr}
    {od11 an11 : Option Addr} {sl11 : Array (Option Value)} {oc11 kV11 dc11 pm11 cd11 ct11 : Value} {f11 : Addr}
    {od12 an12 : Option Addr} {sl12 : Array (Option Value)} {oc12 kV12 dc12 pm12 cd12 ct12 : Value} {f12 : Addr}
    {od13 an13 : Option Addr} {sl13 : Array (Option Value)} {oc13 kV13 dc13 pm13 cd13 ct13 : Value} {f13 : Addr}
    {od14 an14 : Option Addr} {sl14 : Array (Option Value)} {oc14 kV14 dc14 pm14 cd14 ct14 : Value} {f14 : Addr}
    {od15 an15 : Option Addr} {sl15 : Array (Option Value)} {oc15 kV15 dc15 pm15 cd15 ct15 : Value} {f15 : Addr}
    {od16 an16 : Option Addr} {sl16 : Array (Option Value)} {oc16 kV16 dc16 pm16 cd16 ct16 : Value} {f16 : Addr}
    {od17 an17 : Option Addr} {sl17 : Array (Option Value)} {oc17 kV17 dc17 pm17 cd17 ct17 : Value} {f17 : Addr}
    {od18 an18 : Option Addr} {sl18 : Array (Option Value)} {oc18 kV18 dc18 pm18 cd18 ct18 : Value} {f18 : Addr}
    {od19 an19 : Option Addr} {sl19 : Array (Option Value)} {oc19 kV19 dc19 pm19 cd19 ct19 : Value} {f19 : Addr}
    {od20 an20 : Option Addr} {sl20 : Array (Option Value)} {oc20 kV20 dc20 pm20 cd20 ct20 : Value} {f20 : Addr}
    {od21 an21 : Option Addr} {sl21 : Array (Option Value)} {oc21 kV21 dc21 pm21 cd21 ct21 : Value} {f21 : Addr}
    {od22 an22 : Option Addr} {sl22 : Array (Option Value)} {oc22 kV22 dc22 pm22 cd22 ct22 : Value} {f22 : Addr}
    {od23 an23 : Option Addr} {sl23 : Array (Option Value)} {oc23 kV23 dc23 pm23 cd23 ct23 : Value} {f23 : Addr}
    {t0 : Tok}
    {t1 : Tok}
    {t2 : Tok}
    (a0 : PySem.W.nsIn K mainGlobals "divisor" = some (some (.ref f0))) (l0 : K.lookup f0 = some ⟨oc0, od0, .func (PySem.W.fnOf "divisor" "divisor" (defArgs st_divisor) (defBody st_divisor) (defScope st_divisor) .none kV0 dc0 pm0 an0 cd0 ct0), sl0⟩) (c0 : PySem.W.codeIn K cd0 "divisor" = true) (k0 : PySem.W.keepIn K (.ref f0) = true)
    (a1 : PySem.W.nsIn K mainGlobals "fraction" = some (some (.ref f1))) (l1 : K.lookup f1 = some ⟨oc1, od1, .func (PySem.W.fnOf "fraction" "fraction" (defArgs st_fraction) (defBody st_fraction) (defScope st_fraction) .none kV1 dc1 pm1 an1 cd1 ct1), sl1⟩) (c1 : PySem.W.codeIn K cd1 "fraction" = true) (k1 : PySem.W.keepIn K (.ref f1) = true)
    (a2 : PySem.W.nsIn K mainGlobals "added" = some (some (.ref f2))) (l2 : K.lookup f2 = some ⟨oc2, od2, .func (PySem.W.fnOf "added" "added" (defArgs st_added) (defBody st_added) (defScope st_added) .none kV2 dc2 pm2 an2 cd2 ct2), sl2⟩) (c2 : PySem.W.codeIn K cd2 "added" = true) (k2 : PySem.W.keepIn K (.ref f2) = true)
    (a3 : PySem.W.nsIn K mainGlobals "less" = some (some (.ref f3))) (l3 : K.lookup f3 = some ⟨oc3, od3, .func (PySem.W.fnOf "less" "less" (defArgs st_less) (defBody st_less) (defScope st_less) .none kV3 dc3 pm3 an3 cd3 ct3), sl3⟩) (c3 : PySem.W.codeIn K cd3 "less" = true) (k3 : PySem.W.keepIn K (.ref f3) = true)
    (a4 : PySem.W.nsIn K mainGlobals "times" = some (some (.ref f4))) (l4 : K.lookup f4 = some ⟨oc4, od4, .func (PySem.W.fnOf "times" "times" (defArgs st_times) (defBody st_times) (defScope st_times) .none kV4 dc4 pm4 an4 cd4 ct4), sl4⟩) (c4 : PySem.W.codeIn K cd4 "times" = true) (k4 : PySem.W.keepIn K (.ref f4) = true)
    (a5 : PySem.W.nsIn K mainGlobals "is_less" = some (some (.ref f5))) (l5 : K.lookup f5 = some ⟨oc5, od5, .func (PySem.W.fnOf "is_less" "is_less" (defArgs st_is_less) (defBody st_is_less) (defScope st_is_less) .none kV5 dc5 pm5 an5 cd5 ct5), sl5⟩) (c5 : PySem.W.codeIn K cd5 "is_less" = true) (k5 : PySem.W.keepIn K (.ref f5) = true)
    (a6 : PySem.W.nsIn K mainGlobals "size" = some (some (.ref f6))) (l6 : K.lookup f6 = some ⟨oc6, od6, .func (PySem.W.fnOf "size" "size" (defArgs st_size) (defBody st_size) (defScope st_size) .none kV6 dc6 pm6 an6 cd6 ct6), sl6⟩) (c6 : PySem.W.codeIn K cd6 "size" = true) (k6 : PySem.W.keepIn K (.ref f6) = true)
    (a7 : PySem.W.nsIn K mainGlobals "whole_part" = some (some (.ref f7))) (l7 : K.lookup f7 = some ⟨oc7, od7, .func (PySem.W.fnOf "whole_part" "whole_part" (defArgs st_whole_part) (defBody st_whole_part) (defScope st_whole_part) .none kV7 dc7 pm7 an7 cd7 ct7), sl7⟩) (c7 : PySem.W.codeIn K cd7 "whole_part" = true) (k7 : PySem.W.keepIn K (.ref f7) = true)
    (a8 : PySem.W.nsIn K mainGlobals "beats" = some (some (.ref f8))) (l8 : K.lookup f8 = some ⟨oc8, od8, .func (PySem.W.fnOf "beats" "beats" (defArgs st_beats) (defBody st_beats) (defScope st_beats) .none kV8 dc8 pm8 an8 cd8 ct8), sl8⟩) (c8 : PySem.W.codeIn K cd8 "beats" = true) (k8 : PySem.W.keepIn K (.ref f8) = true)
    (a9 : PySem.W.nsIn K mainGlobals "step_time" = some (some (.ref f9))) (l9 : K.lookup f9 = some ⟨oc9, od9, .func (PySem.W.fnOf "step_time" "step_time" (defArgs st_step_time) (defBody st_step_time) (defScope st_step_time) .none kV9 dc9 pm9 an9 cd9 ct9), sl9⟩) (c9 : PySem.W.codeIn K cd9 "step_time" = true) (k9 : PySem.W.keepIn K (.ref f9) = true)
    (a10 : PySem.W.nsIn K mainGlobals "strikes_of" = some (some (.ref f10))) (l10 : K.lookup f10 = some ⟨oc10, od10, .func (PySem.W.fnOf "strikes_of" "strikes_of" (defArgs st_strikes_of) (defBody st_strikes_of) (defScope st_strikes_of) .none kV10 dc10 pm10 an10 cd10 ct10), sl10⟩) (c10 : PySem.W.codeIn K cd10 "strikes_of" = true) (k10 : PySem.W.keepIn K (.ref f10) = true)
    (a11 : PySem.W.nsIn K mainGlobals "pattern_of" = some (some (.ref f11))) (l11 : K.lookup f11 = some ⟨oc11, od11, .func (PySem.W.fnOf "pattern_of" "pattern_of" (defArgs st_pattern_of) (defBody st_pattern_of) (defScope st_pattern_of) .none kV11 dc11 pm11 an11 cd11 ct11), sl11⟩) (c11 : PySem.W.codeIn K cd11 "pattern_of" = true) (k11 : PySem.W.keepIn K (.ref f11) = true)
    (a12 : PySem.W.nsIn K mainGlobals "strikes" = some (some (.ref f12))) (l12 : K.lookup f12 = some ⟨oc12, od12, .func (PySem.W.fnOf "strikes" "strikes" (defArgs st_strikes) (defBody st_strikes) (defScope st_strikes) .none kV12 dc12 pm12 an12 cd12 ct12), sl12⟩) (c12 : PySem.W.codeIn K cd12 "strikes" = true) (k12 : PySem.W.keepIn K (.ref f12) = true)
    (a13 : PySem.W.nsIn K mainGlobals "nearest" = some (some (.ref f13))) (l13 : K.lookup f13 = some ⟨oc13, od13, .func (PySem.W.fnOf "nearest" "nearest" (defArgs st_nearest) (defBody st_nearest) (defScope st_nearest) .none kV13 dc13 pm13 an13 cd13 ct13), sl13⟩) (c13 : PySem.W.codeIn K cd13 "nearest" = true) (k13 : PySem.W.keepIn K (.ref f13) = true)
    (a14 : PySem.W.nsIn K mainGlobals "put_right" = some (some (.ref f14))) (l14 : K.lookup f14 = some ⟨oc14, od14, .func (PySem.W.fnOf "put_right" "put_right" (defArgs st_put_right) (defBody st_put_right) (defScope st_put_right) .none kV14 dc14 pm14 an14 cd14 ct14), sl14⟩) (c14 : PySem.W.codeIn K cd14 "put_right" = true) (k14 : PySem.W.keepIn K (.ref f14) = true)
    (a15 : PySem.W.nsIn K mainGlobals "_law_cell_at" = some (some (.ref f15))) (l15 : K.lookup f15 = some ⟨oc15, od15, .func (PySem.W.fnOf "_law_cell_at" "_law_cell_at" (defArgs st__law_cell_at) (defBody st__law_cell_at) (defScope st__law_cell_at) .none kV15 dc15 pm15 an15 cd15 ct15), sl15⟩) (c15 : PySem.W.codeIn K cd15 "_law_cell_at" = true) (k15 : PySem.W.keepIn K (.ref f15) = true)
    (a16 : PySem.W.nsIn K mainGlobals "_law_mixed" = some (some (.ref f16))) (l16 : K.lookup f16 = some ⟨oc16, od16, .func (PySem.W.fnOf "_law_mixed" "_law_mixed" (defArgs st__law_mixed) (defBody st__law_mixed) (defScope st__law_mixed) .none kV16 dc16 pm16 an16 cd16 ct16), sl16⟩) (c16 : PySem.W.codeIn K cd16 "_law_mixed" = true) (k16 : PySem.W.keepIn K (.ref f16) = true)
    (a17 : PySem.W.nsIn K mainGlobals "_law_drawn" = some (some (.ref f17))) (l17 : K.lookup f17 = some ⟨oc17, od17, .func (PySem.W.fnOf "_law_drawn" "_law_drawn" (defArgs st__law_drawn) (defBody st__law_drawn) (defScope st__law_drawn) .none kV17 dc17 pm17 an17 cd17 ct17), sl17⟩) (c17 : PySem.W.codeIn K cd17 "_law_drawn" = true) (k17 : PySem.W.keepIn K (.ref f17) = true)
    (a18 : PySem.W.nsIn K mainGlobals "_law_frac" = some (some (.ref f18))) (l18 : K.lookup f18 = some ⟨oc18, od18, .func (PySem.W.fnOf "_law_frac" "_law_frac" (defArgs st__law_frac) (defBody st__law_frac) (defScope st__law_frac) .none kV18 dc18 pm18 an18 cd18 ct18), sl18⟩) (c18 : PySem.W.codeIn K cd18 "_law_frac" = true) (k18 : PySem.W.keepIn K (.ref f18) = true)
    (a19 : PySem.W.nsIn K mainGlobals "_law_add" = some (some (.ref f19))) (l19 : K.lookup f19 = some ⟨oc19, od19, .func (PySem.W.fnOf "_law_add" "_law_add" (defArgs st__law_add) (defBody st__law_add) (defScope st__law_add) .none kV19 dc19 pm19 an19 cd19 ct19), sl19⟩) (c19 : PySem.W.codeIn K cd19 "_law_add" = true) (k19 : PySem.W.keepIn K (.ref f19) = true)
    (a20 : PySem.W.nsIn K mainGlobals "_law_marks" = some (some (.ref f20))) (l20 : K.lookup f20 = some ⟨oc20, od20, .func (PySem.W.fnOf "_law_marks" "_law_marks" (defArgs st__law_marks) (defBody st__law_marks) (defScope st__law_marks) .none kV20 dc20 pm20 an20 cd20 ct20), sl20⟩) (c20 : PySem.W.codeIn K cd20 "_law_marks" = true) (k20 : PySem.W.keepIn K (.ref f20) = true)
    (a21 : PySem.W.nsIn K mainGlobals "_law_pattern" = some (some (.ref f21))) (l21 : K.lookup f21 = some ⟨oc21, od21, .func (PySem.W.fnOf "_law_pattern" "_law_pattern" (defArgs st__law_pattern) (defBody st__law_pattern) (defScope st__law_pattern) .none kV21 dc21 pm21 an21 cd21 ct21), sl21⟩) (c21 : PySem.W.codeIn K cd21 "_law_pattern" = true) (k21 : PySem.W.keepIn K (.ref f21) = true)
    (a22 : PySem.W.nsIn K mainGlobals "_law_book" = some (some (.ref f22))) (l22 : K.lookup f22 = some ⟨oc22, od22, .func (PySem.W.fnOf "_law_book" "_law_book" (defArgs st__law_book) (defBody st__law_book) (defScope st__law_book) .none kV22 dc22 pm22 an22 cd22 ct22), sl22⟩) (c22 : PySem.W.codeIn K cd22 "_law_book" = true) (k22 : PySem.W.keepIn K (.ref f22) = true)
    (a23 : PySem.W.nsIn K mainGlobals "law" = some (some (.ref f23))) (l23 : K.lookup f23 = some ⟨oc23, od23, .func (PySem.W.fnOf "law" "law" (defArgs st_law) (defBody st_law) (defScope st_law) .none kV23 dc23 pm23 an23 cd23 ct23), sl23⟩) (c23 : PySem.W.codeIn K cd23 "law" = true) (k23 : PySem.W.keepIn K (.ref f23) = true)
    (z0 : PySem.W.nsIn K mainGlobals "abs" = some none)
    (z1 : PySem.W.nsIn K mainGlobals "dict" = some none)
    (z2 : PySem.W.nsIn K mainGlobals "enumerate" = some none)
    (z3 : PySem.W.nsIn K mainGlobals "len" = some none)
    (z4 : PySem.W.nsIn K mainGlobals "range" = some none)
    (z5 : PySem.W.nsIn K mainGlobals "sorted" = some none)
    (z6 : PySem.W.nsIn K mainGlobals "tuple" = some none)
    (y0 : PySem.W.nsIn K mainGlobals "PLAIN" = some (some (.str (Str.ofString "x") t0)))
    (y1 : PySem.W.nsIn K mainGlobals "REST" = some (some (.str (Str.ofString ".") t1)))
    (y2 : PySem.W.nsIn K mainGlobals "STRONG" = some (some (.str (Str.ofString "X") t2))) :
    ∃ fd : FuncData, (∀ (s : Shared) (v : Value), BindsTo s fd ⟨[v], []⟩ [("script", v)]) ∧ ∀ base : Heap, K.In base → base.Ns mainGlobals mg → FnOk l.prog w K mg base (L2.CX l.prog w) 7 fa fd ["script"] (spLaw K) := by
  have e := hfa.symm.trans (PySem.W.mg_of X G a23)
  cases e
  have F0 := fun_mk (st := st_divisor) l0 c0 k0
  have b0 := F0.binds (ps := ["one", "other"]) fun _ _ _ _ _ _ us hl => match us, hl with | [_, _], _ => rfl
  have F1 := fun_mk (st := st_fraction) l1 c1 k1
  have b1 := F1.binds (ps := ["upper", "lower"]) fun _ _ _ _ _ _ us hl => match us, hl with | [_, _], _ => rfl
  have F2 := fun_mk (st := st_added) l2 c2 k2
  have b2 := F2.binds (ps := ["one", "other"]) fun _ _ _ _ _ _ us hl => match us, hl with | [_, _], _ => rfl
  have F3 := fun_mk (st := st_less) l3 c3 k3
  have b3 := F3.binds (ps := ["one", "other"]) fun _ _ _ _ _ _ us hl => match us, hl with | [_, _], _ => rfl
  have F4 := fun_mk (st := st_times) l4 c4 k4
  have b4 := F4.binds (ps := ["number", "one"]) fun _ _ _ _ _ _ us hl => match us, hl with | [_, _], _ => rfl
  have F5 := fun_mk (st := st_is_less) l5 c5 k5
  have b5 := F5.binds (ps := ["one", "other"]) fun _ _ _ _ _ _ us hl => match us, hl with | [_, _], _ => rfl
  have F6 := fun_mk (st := st_size) l6 c6 k6
  have b6 := F6.binds (ps := ["one"]) fun _ _ _ _ _ _ us hl => match us, hl with | [_], _ => rfl
  have F7 := fun_mk (st := st_whole_part) l7 c7 k7
  have b7 := F7.binds (ps := ["one"]) fun _ _ _ _ _ _ us hl => match us, hl with | [_], _ => rfl
  have F8 := fun_mk (st := st_beats) l8 c8 k8
  have b8 := F8.binds (ps := ["pattern"]) fun _ _ _ _ _ _ us hl => match us, hl with | [_], _ => rfl
  have F9 := fun_mk (st := st_step_time) l9 c9 k9
  have b9 := F9.binds (ps := ["swing", "pattern", "step"]) fun _ _ _ _ _ _ us hl => match us, hl with | [_, _, _], _ => rfl
  have F10 := fun_mk (st := st_strikes_of) l10 c10 k10
  have b10 := F10.binds (ps := ["swing", "pattern"]) fun _ _ _ _ _ _ us hl => match us, hl with | [_, _], _ => rfl
  have F11 := fun_mk (st := st_pattern_of) l11 c11 k11
  have b11 := F11.binds (ps := ["book", "name"]) fun _ _ _ _ _ _ us hl => match us, hl with | [_, _], _ => rfl
  have F12 := fun_mk (st := st_strikes) l12 c12 k12
  have b12 := F12.binds (ps := ["book", "name"]) fun _ _ _ _ _ _ us hl => match us, hl with | [_, _], _ => rfl
  have F13 := fun_mk (st := st_nearest) l13 c13 k13
  have b13 := F13.binds (ps := ["swing", "pattern", "time"]) fun _ _ _ _ _ _ us hl => match us, hl with | [_, _, _], _ => rfl
  have F14 := fun_mk (st := st_put_right) l14 c14 k14
  have b14 := F14.binds (ps := ["swing", "steps", "grid", "some", "bound"]) fun _ _ _ _ _ _ us hl => match us, hl with | [_, _, _, _, _], _ => rfl
  have F15 := fun_mk (st := st__law_cell_at) l15 c15 k15
  have b15 := F15.binds (ps := ["script", "k"]) fun _ _ _ _ _ _ us hl => match us, hl with | [_, _], _ => rfl
  have F16 := fun_mk (st := st__law_mixed) l16 c16 k16
  have b16 := F16.binds (ps := ["script", "k"]) fun _ _ _ _ _ _ us hl => match us, hl with | [_, _], _ => rfl
  have F17 := fun_mk (st := st__law_drawn) l17 c17 k17
  have b17 := F17.binds (ps := ["number", "k"]) fun _ _ _ _ _ _ us hl => match us, hl with | [_, _], _ => rfl
  have F18 := fun_mk (st := st__law_frac) l18 c18 k18
  have b18 := F18.binds (ps := ["upper", "lower"]) fun _ _ _ _ _ _ us hl => match us, hl with | [_, _], _ => rfl
  have F19 := fun_mk (st := st__law_add) l19 c19 k19
  have b19 := F19.binds (ps := ["one", "other"]) fun _ _ _ _ _ _ us hl => match us, hl with | [_, _], _ => rfl
  have F20 := fun_mk (st := st__law_marks) l20 c20 k20
  have b20 := F20.binds (ps := ["number", "steps"]) fun _ _ _ _ _ _ us hl => match us, hl with | [_, _], _ => rfl
  have F21 := fun_mk (st := st__law_pattern) l21 c21 k21
  have b21 := F21.binds (ps := ["number"]) fun _ _ _ _ _ _ us hl => match us, hl with | [_], _ => rfl
  have F22 := fun_mk (st := st__law_book) l22 c22 k22
  have b22 := F22.binds (ps := ["number"]) fun _ _ _ _ _ _ us hl => match us, hl with | [_], _ => rfl
  have F23 := fun_mk (st := st_law) l23 c23 k23
  have T : Txt K mg := ⟨PySem.W.mg_none_of X G z0, PySem.W.mg_none_of X G z1, PySem.W.mg_none_of X G z2, PySem.W.mg_none_of X G z3, PySem.W.mg_none_of X G z4, PySem.W.mg_none_of X G z5, PySem.W.mg_none_of X G z6, ⟨_, PySem.W.mg_of X G y0⟩, ⟨_, PySem.W.mg_of X G y1⟩, ⟨_, PySem.W.mg_of X G y2⟩, ⟨_, _, F0, PySem.W.mg_of X G a0, b0⟩, ⟨_, _, F1, PySem.W.mg_of X G a1, b1⟩, ⟨_, _, F2, PySem.W.mg_of X G a2, b2⟩, ⟨_, _, F3, PySem.W.mg_of X G a3, b3⟩, ⟨_, _, F4, PySem.W.mg_of X G a4, b4⟩, ⟨_, _, F5, PySem.W.mg_of X G a5, b5⟩, ⟨_, _, F6, PySem.W.mg_of X G a6, b6⟩, ⟨_, _, F7, PySem.W.mg_of X G a7, b7⟩, ⟨_, _, F8, PySem.W.mg_of X G a8, b8⟩, ⟨_, _, F9, PySem.W.mg_of X G a9, b9⟩, ⟨_, _, F10, PySem.W.mg_of X G a10, b10⟩, ⟨_, _, F11, PySem.W.mg_of X G a11, b11⟩, ⟨_, _, F12, PySem.W.mg_of X G a12, b12⟩, ⟨_, _, F13, PySem.W.mg_of X G a13, b13⟩, ⟨_, _, F14, PySem.W.mg_of X G a14, b14⟩, ⟨_, _, F15, PySem.W.mg_of X G a15, b15⟩, ⟨_, _, F16, PySem.W.mg_of X G a16, b16⟩, ⟨_, _, F17, PySem.W.mg_of X G a17, b17⟩, ⟨_, _, F18, PySem.W.mg_of X G a18, b18⟩, ⟨_, _, F19, PySem.W.mg_of X G a19, b19⟩, ⟨_, _, F20, PySem.W.mg_of X G a20, b20⟩, ⟨_, _, F21, PySem.W.mg_of X G a21, b21⟩, ⟨_, _, F22, PySem.W.mg_of X G a22, b22⟩⟩
  let Z : Wd := { C := fa, cl := fun _ => fa, T := [] }
  refine ⟨PySem.W.fnOf "law" "law" (defArgs st_law) (defBody st_law) (defScope st_law) .none kV23 dc23 pm23 an23 cd23 ct23, fun s v => .of_eq rfl, fun base _ _ => ?_⟩
  have D__law_drawn := d__law_drawn (P := l.prog) (w := w) (base := base) T
  have D__law_marks := d__law_marks (P := l.prog) (w := w) (base := base) T D__law_drawn
  have D__law_pattern := d__law_pattern (P := l.prog) (w := w) (base := base) T D__law_drawn D__law_marks
  have D__law_book := d__law_book (P := l.prog) (w := w) (base := base) T D__law_pattern D__law_drawn
  have D__law_cell_at := d__law_cell_at (P := l.prog) (w := w) (base := base) T
  have D__law_mixed := d__law_mixed (P := l.prog) (w := w) (base := base) T D__law_cell_at
  have D_divisor := d_divisor (P := l.prog) (w := w) (base := base) T
  have D_fraction := d_fraction (P := l.prog) (w := w) (base := base) T D_divisor
  have D_times := d_times (P := l.prog) (w := w) (base := base) T D_fraction
  have D_beats := d_beats (P := l.prog) (w := w) (base := base) T D_fraction
  have D_added := d_added (P := l.prog) (w := w) (base := base) T D_fraction
  have D_step_time := d_step_time (P := l.prog) (w := w) (base := base) T D_times D_beats D_added D_fraction
  have D_strikes_of := d_strikes_of (P := l.prog) (w := w) (base := base) T D_step_time
  have D_pattern_of := d_pattern_of (P := l.prog) (w := w) (base := base) T
  have D_strikes := d_strikes (P := l.prog) (w := w) (base := base) T D_strikes_of D_pattern_of
  have D__law_frac := d__law_frac (P := l.prog) (w := w) (base := base) T
  have D__law_add := d__law_add (P := l.prog) (w := w) (base := base) T D__law_frac
  have D_whole_part := d_whole_part (P := l.prog) (w := w) (base := base) T
  have D_less := d_less (P := l.prog) (w := w) (base := base) T D_added
  have D_is_less := d_is_less (P := l.prog) (w := w) (base := base) T
  have D_size := d_size (P := l.prog) (w := w) (base := base) T
  have D_nearest := d_nearest (P := l.prog) (w := w) (base := base) T D_beats D_whole_part D_less D_step_time D_is_less D_size
  have W_put_right := dw_put_right (P := l.prog) (w := w) (base := base) (Z := Z) T D_nearest D_is_less D_size
  exact ok_law (Z := Z) F23 rfl T D__law_book D__law_mixed D_strikes D__law_frac D__law_add D_beats D_nearest D_step_time W_put_right
end K41
open PySem PySem.W PyProof.Rows
set_option maxRecDepth 100000 in
set_option maxHeartbeats 0 in
theorem PySem.Challenge.cw_padrows_k41_whole_put_right_holds : PySem.Challenge.rw_padrows_k41_whole_put_right.Holds := by
  w_on; o_law; k_head; (case hw => w_witness2)
  k_fill
  refine L2.walk_of (l := PySem.Challenge.rw_padrows_k41_whole_put_right) (n := 63) (k := 7) (x := "script") (CX := fun w => L2.CX (PySem.Challenge.rw_padrows_k41_whole_put_right).prog w) (sp := fun w => Dn.spLaw _) rfl (by decide) rfl ⟨rfl, by decide, by decide⟩ (fun w h Y => PySem.W.kIn_of Y) ?F (fun _ _ a ns hl _ hS => ⟨a, ns, rfl, hS, hl, fun _ => rfl⟩) (fun _ _ _ _ _ ⟨_, _, _, _, _, _, _, _, _, _, _, _, e⟩ => e)
  case F =>
    intro w mg fa h KX G hmg
    refine' K41.all_mk KX G hmg ?a0 ?l0 ?c0 ?k0 ?a1 ?l1 ?c1 ?k1 ?a2 ?l2 ?c2 ?k2 ?a3 ?l3 ?c3 ?k3 ?a4 ?l4 ?c4 ?k4 ?a5 ?l5 ?c5 ?k5 ?a6 ?l6 ?c6 ?k6 ?a7 ?l7 ?c7 ?k7 ?a8 ?l8 ?c8 ?k8 ?a9 ?l9 ?c9 ?k9 ?a10 ?l10 ?c10 ?k10 ?a11 ?l11 ?c11 ?k11 ?a12 ?l12 ?c12 ?k12 ?a13 ?l13 ?c13 ?k13 ?a14 ?l14 ?c14 ?k14 ?a15 ?l15 ?c15 ?k15 ?a16 ?l16 ?c16 ?k16 ?a17 ?l17 ?c17 ?k17 ?a18 ?l18 ?c18 ?k18 ?a19 ?l19 ?c19 ?k19 ?a20 ?l20 ?c20 ?k20 ?a21 ?l21 ?c21 ?k21 ?a22 ?l22 ?c22 ?k22 ?a23 ?l23 ?c23 ?k23 ?z0 ?z1 ?z2 ?z3 ?z4 ?z5 ?z6 ?y0 ?y1 ?y2
    (case a0 => k_is)
    (case l0 => k_is)
    (case c0 => k_is)
    (case k0 => k_is)
    (case a1 => k_is)
    (case l1 => k_is)
    (case c1 => k_is)
    (case k1 => k_is)
    (case a2 => k_is)
    (case l2 => k_is)
    (case c2 => k_is)
    (case k2 => k_is)
    (case a3 => k_is)
    (case l3 => k_is)
    (case c3 => k_is)
    (case k3 => k_is)
    (case a4 => k_is)
    (case l4 => k_is)
    (case c4 => k_is)
    (case k4 => k_is)
    (case a5 => k_is)
    (case l5 => k_is)
    (case c5 => k_is)
    (case k5 => k_is)
    (case a6 => k_is)
    (case l6 => k_is)
    (case c6 => k_is)
    (case k6 => k_is)
    (case a7 => k_is)
    (case l7 => k_is)
    (case c7 => k_is)
    (case k7 => k_is)
    (case a8 => k_is)
    (case l8 => k_is)
    (case c8 => k_is)
    (case k8 => k_is)
    (case a9 => k_is)
    (case l9 => k_is)
    (case c9 => k_is)
    (case k9 => k_is)
    (case a10 => k_is)
    (case l10 => k_is)
    (case c10 => k_is)
    (case k10 => k_is)
    (case a11 => k_is)
    (case l11 => k_is)
    (case c11 => k_is)
    (case k11 => k_is)
    (case a12 => k_is)
    (case l12 => k_is)
    (case c12 => k_is)
    (case k12 => k_is)
    (case a13 => k_is)
    (case l13 => k_is)
    (case c13 => k_is)
    (case k13 => k_is)
    (case a14 => k_is)
    (case l14 => k_is)
    (case c14 => k_is)
    (case k14 => k_is)
    (case a15 => k_is)
    (case l15 => k_is)
    (case c15 => k_is)
    (case k15 => k_is)
    (case a16 => k_is)
    (case l16 => k_is)
    (case c16 => k_is)
    (case k16 => k_is)
    (case a17 => k_is)
    (case l17 => k_is)
    (case c17 => k_is)
    (case k17 => k_is)
    (case a18 => k_is)
    (case l18 => k_is)
    (case c18 => k_is)
    (case k18 => k_is)
    (case a19 => k_is)
    (case l19 => k_is)
    (case c19 => k_is)
    (case k19 => k_is)
    (case a20 => k_is)
    (case l20 => k_is)
    (case c20 => k_is)
    (case k20 => k_is)
    (case a21 => k_is)
    (case l21 => k_is)
    (case c21 => k_is)
    (case k21 => k_is)
    (case a22 => k_is)
    (case l22 => k_is)
    (case c22 => k_is)
    (case k22 => k_is)
    (case a23 => k_is)
    (case l23 => k_is)
    (case c23 => k_is)
    (case k23 => k_is)
    (case z0 => k_is)
    (case z1 => k_is)
    (case z2 => k_is)
    (case z3 => k_is)
    (case z4 => k_is)
    (case z5 => k_is)
    (case z6 => k_is)
    (case y0 => k_is)
    (case y1 => k_is)
    (case y2 => k_is)
