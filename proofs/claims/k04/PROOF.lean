import PyProof.Rows.All
import Wide.All
import OpenK.AllK
import Wide.FinOn
import HandS.ForMost
import HandS.ForExc
import HandS.TupAny
import HandS.SortInts
import HandS.Conv
import HandS.Style
import HandS.Zip
import HandS.Walk
import HandS.Wide
import HandS.ExcInit
import HandS.Defaults
import HandS.IsInst
import HandS.TryMany
import KE.SortData
import KE.GoesMore
import KE.GoesEnum
import HandS.Strs
import HandS.More
import PySem.Challenge.RW_wholeorders_k04_whole_sums_and_parts

set_option Elab.async false
set_option linter.all false
set_option maxRecDepth 100000
set_option autoImplicit false
namespace Z
open PySem PySem.Spec PyProof.Rows L2

abbrev D := PyData
abbrev St := L2.St

/-! ### data in an abstract heap -/
/-- a tuple that has no dict of its own -/
def TupN (K : PySem.W.Frag) (H : Hp) (a : Addr) (xs : List V) : Prop := (∃ o, H a = some (.frz o (.tup xs)) ∧ o.dict = none) ∨
  ∃ (o : Obj) (its : Array Value) (n : Nat), K.lookup a = some o ∧ o.cls = .type "tuple" ∧ o.dict = none ∧ o.data = .seq its n ∧ its.size ≤ sizeLine ∧ Vals xs its.toList
mutual
inductive Dq (K : PySem.W.Frag) (H : Hp) : V → PyData → Prop
  | non : Dq K H .non .none
  | bl (b : Bool) : Dq K H (.bl b) (.bool b)
  | int (i : Int) : Dq K H (.int i) (.int i)
  | str (x : Str) : Dq K H (.str x) (.str x)
  | lst {a : Addr} {xs : List V} {ds : List PyData} : SqL K H a xs → DqAll K H xs ds → Dq K H (.ref a) (.list ds)
  | tup {a : Addr} {xs : List V} {ds : List PyData} : TupN K H a xs → DqAll K H xs ds → Dq K H (.ref a) (.tuple ds)
inductive DqAll (K : PySem.W.Frag) (H : Hp) : List V → List PyData → Prop
  | nil : DqAll K H [] []
  | cons {v : V} {vs : List V} {d : PyData} {ds : List PyData} : Dq K H v d → DqAll K H vs ds → DqAll K H (v :: vs) (d :: ds)
end
section
variable {K : PySem.W.Frag} {G H : Hp}
theorem TupN.sq {a : Addr} {xs : List V} (h : TupN K G a xs) : SqT K G a xs := by
  rcases h with ⟨o, h, _⟩ | ⟨o, its, n, h1, h2, _, h3⟩
  · exact .inl (.inr ⟨o, h⟩)
  · exact .inr ⟨o, its, n, h1, h2, h3⟩
theorem TupN.mono {a : Addr} {xs : List V} (e : Same G H) (h : TupN K G a xs) : TupN K H a xs := by
  rcases h with ⟨o, h, k⟩ | h
  · exact .inl ⟨o, e _ _ h, k⟩
  · exact .inr h
theorem TupN.new {a : Addr} {xs : List V} {o : Obj} (h : o.dict = none) : TupN K (upd G a (.frz o (.tup xs))) a xs := .inl ⟨o, upd_same, h⟩
mutual
theorem Dq.dp : ∀ (d : D) (v : V), Dq K G v d → Dp K G v d
  | .none, _, h => by cases h; exact .non
  | .bool b, _, h => by cases h; exact .bl b
  | .int i, _, h => by cases h; exact .int i
  | .str x, _, h => by cases h; exact .str x
  | .list ds, _, h => by
    cases h with
    | lst hs ha => exact .lst hs (DqAll.dp ds _ ha)
  | .tuple ds, _, h => by
    cases h with
    | tup hs ha => exact .tup hs.sq (DqAll.dp ds _ ha)
  | .dict _, _, h => by cases h
theorem DqAll.dp : ∀ (ds : List D) (vs : List V), DqAll K G vs ds → DpAll K G vs ds
  | [], _, h => by cases h; exact .nil
  | d :: ds, _, h => by
    cases h with
    | cons h1 h2 => exact .cons (Dq.dp d _ h1) (DqAll.dp ds _ h2)
end
mutual
theorem dp_mono (e : Same G H) : ∀ (d : D) (v : V), Dq K G v d → Dq K H v d
  | .none, _, h => by cases h; exact .non
  | .bool b, _, h => by cases h; exact .bl b
  | .int i, _, h => by cases h; exact .int i
  | .str x, _, h => by cases h; exact .str x
  | .list ds, _, h => by
    cases h with
    | lst hs ha => exact .lst (e.seq hs) (dpAll_mono e ds _ ha)
  | .tuple ds, _, h => by
    cases h with
    | tup hs ha => exact .tup (hs.mono e) (dpAll_mono e ds _ ha)
  | .dict _, _, h => by cases h
theorem dpAll_mono (e : Same G H) : ∀ (ds : List D) (vs : List V), DqAll K G vs ds → DqAll K H vs ds
  | [], _, h => by cases h; exact .nil
  | d :: ds, _, h => by
    cases h with
    | cons h1 h2 => exact .cons (dp_mono e d _ h1) (dpAll_mono e ds _ h2)
end
theorem dpa_length : ∀ {vs : List V} {ds : List D}, DqAll K G vs ds → vs.length = ds.length
  | _, _, .nil => rfl
  | _, _, .cons _ h => by rw [List.length_cons, List.length_cons, dpa_length h]
theorem dpa_append : ∀ {vs : List V} {ds : List D} {us : List V} {es : List D}, DqAll K G vs ds → DqAll K G us es → DqAll K G (vs ++ us) (ds ++ es)
  | _, _, _, _, .nil, h => h
  | _, _, _, _, .cons a b, h => .cons a (dpa_append b h)
theorem dpa_get : ∀ {vs : List V} {ds : List D} {i : Nat} {d : D}, DqAll K G vs ds → ds[i]? = some d → ∃ v, vs[i]? = some v ∧ Dq K G v d
  | _, _, _, _, .nil, h => by simp at h
  | _, _, 0, _, .cons a _, h => by
    simp at h
    subst h
    exact ⟨_, rfl, a⟩
  | _, _, i + 1, d, .cons _ b, h => by
    obtain ⟨v, h1, h2⟩ := dpa_get (i := i) b (by simpa using h)
    exact ⟨v, by simpa using h1, h2⟩
theorem dpa_get' : ∀ {vs : List V} {ds : List D} {i : Nat} {v : V}, DqAll K G vs ds → vs[i]? = some v → ∃ d, ds[i]? = some d ∧ Dq K G v d
  | _, _, _, _, .nil, h => by simp at h
  | _, _, 0, _, .cons a _, h => by
    simp at h
    subst h
    exact ⟨_, rfl, a⟩
  | _, _, i + 1, d, .cons _ b, h => by
    obtain ⟨v, h1, h2⟩ := dpa_get' (i := i) b (by simpa using h)
    exact ⟨v, by simpa using h1, h2⟩
theorem dpa_take : ∀ {vs : List V} {ds : List D} (n : Nat), DqAll K G vs ds → DqAll K G (vs.take n) (ds.take n)
  | _, _, 0, _ => by simp; exact .nil
  | _, _, _ + 1, .nil => .nil
  | _, _, n + 1, .cons a b => .cons a (dpa_take n b)
theorem dpa_drop : ∀ {vs : List V} {ds : List D} (n : Nat), DqAll K G vs ds → DqAll K G (vs.drop n) (ds.drop n)
  | _, _, 0, h => h
  | _, _, _ + 1, .nil => .nil
  | _, _, n + 1, .cons _ b => dpa_drop n b
theorem dpa_set {v : V} {d : D} (r : Dq K G v d) : ∀ {vs : List V} {ds : List D} (i : Nat), DqAll K G vs ds → DqAll K G (vs.set i v) (ds.set i d)
  | _, _, _, .nil => .nil
  | _, _, 0, .cons _ b => .cons r b
  | _, _, i + 1, .cons a b => .cons a (dpa_set r i b)
theorem dpa_reverse {vs : List V} {ds : List D} (h : DqAll K G vs ds) : DqAll K G vs.reverse ds.reverse := by
  induction ds generalizing vs with
  | nil => cases h; exact .nil
  | cons d ds ih =>
    cases h with
    | cons a b =>
      rw [List.reverse_cons, List.reverse_cons]
      exact dpa_append (ih b) (.cons a .nil)
theorem dpa_ints : ∀ (ns : List Int), DqAll K G (ns.map V.int) (ns.map PyData.int)
  | [] => .nil
  | n :: ns => .cons (.int n) (dpa_ints ns)
theorem dpa_ints' : ∀ {ns : List Int} {vs : List V}, DqAll K G vs (ns.map PyData.int) → vs = ns.map V.int
  | [], _, h => by cases h; rfl
  | n :: ns, _, h => by
    cases h with
    | cons a b =>
      cases a
      rw [dpa_ints' b]
      rfl
theorem dpa_of_get : ∀ {vs : List V} {ds : List D}, vs.length = ds.length → (∀ (i : Nat) (v : V) (d : D), vs[i]? = some v → ds[i]? = some d → Dq K G v d) → DqAll K G vs ds
  | [], [], _, _ => .nil
  | [], _ :: _, h, _ => by simp at h
  | _ :: _, [], h, _ => by simp at h
  | v :: vs, d :: ds, h, k => .cons (k 0 v d rfl rfl) (dpa_of_get (by simpa using h) fun i v' d' h1 h2 => k (i + 1) v' d' (by simpa using h1) (by simpa using h2))
end

/-! ### slots, results, states -/
inductive SV where
  /-- not known -/
  | u
  /-- data that stays -/
  | d (x : D)
  /-- a list that is read alone (an argument) -/
  | a (xs : List D)
  /-- a list of one's own; true: the argument that is changed -/
  | own (m : Bool) (xs : List D)
abbrev En := List SV
inductive Rs where
  | d (x : D)
  | sl (i : Nat)
/-- what comes of a run: nothing that is spoken of, a value, an exception -/
inductive Ro (α : Type) where
  | bad
  | ok (x : α) (g : En)
  | ex (c : Str) (x : D) (g : En)
abbrev M (α : Type) := En → Ro α
def bnd {α β : Type} (m : M α) (f : α → M β) : M β := fun g => match m g with
  | .bad => .bad
  | .ok x g' => f x g'
  | .ex c x g' => .ex c x g'
def rt {α : Type} (x : α) : M α := fun g => .ok x g
def lif {α : Type} (o : Option α) : M α := fun g => match o with
  | some x => .ok x g
  | none => .bad

/-- an argument's slot: what is a list is read alone -/
def svA : D → SV
  | .list xs => .a xs
  | x => .d x

/-- what a run leaves as it is: all that the frame holds; the lists that are read alone; places that a step may not make its own -/
structure Fr where
  f : Hp
  a : Hp
  k : Addr → Prop
  af : Same a f
  kf : ∀ l, k l → f l ≠ none
instance : CoeFun Fr (fun _ => Addr → Option HO) := ⟨Fr.f⟩
instance : Coe Fr Hp := ⟨Fr.f⟩
def SlotRel (K : PySem.W.Frag) (F : Fr) (G H : Hp) (Mu : Option Addr) (sv : SV) (s : Option V) : Prop := match sv with
  | .u => True
  | .d x => ∃ v, s = some v ∧ Dq K G v x
  | .a xs => ∃ l vs, s = some (.ref l) ∧ SqL K F.a l vs ∧ DqAll K G vs xs
  | .own m xs => ∃ l vs, s = some (.ref l) ∧ H l = some (.lst vs) ∧ DqAll K G vs xs ∧ F l = none ∧ G l = none ∧ (m = true → Mu = some l) ∧ (m = false → Mu ≠ some l)
def Owns (Γ : En) (σ : St) (i : Nat) (l : Addr) : Prop := ∃ m xs, Γ[i]? = some (.own m xs) ∧ σ[i]? = some (some (.ref l))
structure Rel (K : PySem.W.Frag) (F : Fr) (G : Hp) (Mu : Option Addr) (Γ : En) (σ : St) (H : Hp) : Prop where
  fh : Same F.f H
  lk : ∀ l, F.k l → G l = none
  gh : Same G H
  mu : ∀ l, Mu = some l → F l = none ∧ G l = none ∧ H l ≠ none
  len : Γ.length = σ.length
  sl : ∀ (i : Nat) (sv : SV), Γ[i]? = some sv → SlotRel K F G H Mu sv (σ[i]?.join)
  sep : ∀ (i j : Nat) (l : Addr), Owns Γ σ i l → Owns Γ σ j l → i = j

section
variable {K : PySem.W.Frag} {F : Fr} {G H H' G' : Hp} {Mu : Option Addr} {Γ : En} {σ : St}
theorem join_some {α : Type} {o : Option (Option α)} {v : α} (h : o.join = some v) : o = some (some v) := by
  cases o with
  | none => cases h
  | some x =>
    cases x with
    | none => cases h
    | some y =>
      cases h
      rfl
theorem Rel.owned (R : Rel K F G Mu Γ σ H) {i : Nat} {m : Bool} {xs : List D} (h : Γ[i]? = some (.own m xs)) : ∃ l vs, σ[i]? = some (some (.ref l)) ∧ H l = some (.lst vs) ∧ DqAll K G vs xs ∧ F l = none ∧ G l = none ∧ (m = true → Mu = some l) ∧ (m = false → Mu ≠ some l) ∧ Owns Γ σ i l := by
  obtain ⟨l, vs, h1, h2, h3, h4, h5, h6, h7⟩ := R.sl i _ h
  have e := join_some h1
  exact ⟨l, vs, e, h2, h3, h4, h5, h6, h7, m, xs, h, e⟩
theorem Rel.data (R : Rel K F G Mu Γ σ H) {i : Nat} {x : D} (h : Γ[i]? = some (.d x)) : ∃ v, σ[i]? = some (some v) ∧ Dq K G v x := by
  obtain ⟨v, h1, h2⟩ := R.sl i _ h
  exact ⟨v, join_some h1, h2⟩
theorem Rel.arg (R : Rel K F G Mu Γ σ H) {i : Nat} {xs : List D} (h : Γ[i]? = some (.a xs)) : ∃ l vs, σ[i]? = some (some (.ref l)) ∧ SqL K F.a l vs ∧ DqAll K G vs xs := by
  obtain ⟨l, vs, h1, h2, h3⟩ := R.sl i _ h
  exact ⟨l, vs, join_some h1, h2, h3⟩
theorem Rel.mono {Mu' : Option Addr} (R : Rel K F G Mu Γ σ H) (f : Same F.f H') (g : Same G G') (gh : Same G' H') (mu : ∀ l, Mu = some l → G' l = none ∧ H' l ≠ none)
    (own : ∀ i l, Owns Γ σ i l → G' l = none ∧ H' l = H l) (lk : ∀ l, F.k l → G' l = none) : Rel K F G' Mu Γ σ H' where
  fh := f
  lk := lk
  gh := gh
  mu := fun l e => ⟨(R.mu l e).1, (mu l e).1, (mu l e).2⟩
  len := R.len
  sl := fun i sv h => by
    have q := R.sl i sv h
    cases sv with
    | u => exact True.intro
    | d x =>
      obtain ⟨v, h1, h2⟩ := q
      exact ⟨v, h1, dp_mono g x v h2⟩
    | a xs =>
      obtain ⟨l, vs, h1, h2, h3⟩ := q
      exact ⟨l, vs, h1, h2, dpAll_mono g _ _ h3⟩
    | own m xs =>
      obtain ⟨l, vs, h1, h2, h3, h4, h5, h6, h7⟩ := q
      obtain ⟨o1, o2⟩ := own i l ⟨m, xs, h, join_some h1⟩
      exact ⟨l, vs, h1, by rw [o2]; exact h2, dpAll_mono g _ _ h3, h4, o1, h6, h7⟩
  sep := R.sep
theorem Rel.there (R : Rel K F G Mu Γ σ H) {i : Nat} {l : Addr} (h : Owns Γ σ i l) : F l = none ∧ G l = none ∧ ∃ vs, H l = some (.lst vs) := by
  obtain ⟨m, xs, h1, h2⟩ := h
  obtain ⟨l', vs, e, h3, _, h4, h5, _⟩ := R.owned h1
  rw [h2] at e
  cases e
  exact ⟨h4, h5, vs, h3⟩
theorem same_upd {p : Addr} {o : HO} (n : H p = none) : Same H (upd H p o) := fun b x e => by
  rw [upd_ne (ne_of_none e n)]
  exact e
theorem same_upd2 {p : Addr} {o : HO} (e : Same G H) : Same (upd G p o) (upd H p o) := fun b x h => by
  by_cases hb : b = p
  · subst hb
    rw [upd_same] at h ⊢
    exact h
  · rw [upd_ne hb] at h ⊢
    exact e b x h
theorem same_updR {p : Addr} {o : HO} (e : Same G H) (n : G p = none) : Same G (upd H p o) := fun b x h => by
  rw [upd_ne (ne_of_none h n)]
  exact e b x h
/-- a new object that stays -/
theorem Rel.new (R : Rel K F G Mu Γ σ H) {p : Addr} {o : HO} (n : H p = none) : Rel K F (upd G p o) Mu Γ σ (upd H p o) ∧ Same G (upd G p o) := by
  have nG : G p = none := R.gh.free n
  refine ⟨R.mono (Mu' := Mu) (fun b x h => same_upd n b x (R.fh b x h)) (same_upd nG) (same_upd2 R.gh) (fun l e => ?_) (fun i l h => ?_) (fun l e => ?_), same_upd nG⟩
  · obtain ⟨_, h2, h3⟩ := R.mu l e
    have hne : l ≠ p := fun z => by rw [z] at h3; exact h3 n
    rw [upd_ne hne, upd_ne hne]
    exact ⟨h2, h3⟩
  · obtain ⟨h1, h2, vs, h3⟩ := R.there h
    have hne : l ≠ p := ne_of_none h3 n
    rw [upd_ne hne, upd_ne hne]
    exact ⟨h2, rfl⟩
  · have hne : l ≠ p := fun z => by
      obtain ⟨o, q⟩ := Option.ne_none_iff_exists'.mp (F.kf l e)
      have := R.fh l o q
      rw [z, n] at this
      cases this
    rw [upd_ne hne]
    exact R.lk l e
/-- a new object that is not told of -/
theorem Rel.newX (R : Rel K F G Mu Γ σ H) {p : Addr} {o : HO} (n : H p = none) : Rel K F G Mu Γ σ (upd H p o) := by
  refine R.mono (Mu' := Mu) (fun b x h => same_upd n b x (R.fh b x h)) (Same.refl _) (fun b x h => same_upd n b x (R.gh b x h)) (fun l e => ?_) (fun i l h => ?_) R.lk
  · obtain ⟨_, h2, h3⟩ := R.mu l e
    have hne : l ≠ p := fun z => by rw [z] at h3; exact h3 n
    rw [upd_ne hne]
    exact ⟨h2, h3⟩
  · obtain ⟨h1, h2, vs, h3⟩ := R.there h
    have hne : l ≠ p := ne_of_none h3 n
    rw [upd_ne hne]
    exact ⟨h2, rfl⟩
theorem owns_set {i j : Nat} {sv : SV} {l : Addr} (h : Owns (Γ.set j sv) σ i l) (hn : ∀ m xs, sv ≠ .own m xs) : Owns Γ σ i l ∧ i ≠ j := by
  obtain ⟨m, xs, h1, h2⟩ := h
  by_cases e : i = j
  · subst e
    by_cases hl : i < Γ.length
    · rw [List.getElem?_set_self hl] at h1
      cases h1
      exact absurd rfl (hn m xs)
    · rw [List.getElem?_eq_none (by simpa using hl)] at h1
      cases h1
  · rw [List.getElem?_set_ne (Ne.symm e)] at h1
    exact ⟨⟨m, xs, h1, h2⟩, e⟩
/-- an own list becomes data that stays -/
theorem Rel.freeze (R : Rel K F G Mu Γ σ H) {i : Nat} {xs : List D} (h : Γ[i]? = some (.own false xs)) :
    ∃ (l : Addr) (G' : Hp), σ[i]? = some (some (.ref l)) ∧ Rel K F G' Mu (Γ.set i (.d (.list xs))) σ H ∧ Same G G' ∧ Dq K G' (.ref l) (.list xs) := by
  obtain ⟨l, vs, e, h2, h3, h4, h5, _, h7, ho⟩ := R.owned h
  have hs : Same G (upd G l (.lst vs)) := same_upd h5
  have gh : Same (upd G l (.lst vs)) H := fun b x q => by
    by_cases hb : b = l
    · subst hb
      rw [upd_same] at q
      rw [h2]
      exact q
    · rw [upd_ne hb] at q
      exact R.gh b x q
  have lk' : ∀ l', F.k l' → upd G l (.lst vs) l' = none := fun l' e' => by
    rw [upd_ne (fun z => F.kf l' e' (by rw [z]; exact h4))]
    exact R.lk l' e'
  have dp : Dq K (upd G l (.lst vs)) (.ref l) (.list xs) := .lst (.of upd_same) (dpAll_mono hs _ _ h3)
  have hi : i < Γ.length := by
    have := (List.getElem?_eq_some_iff.mp h).1
    exact this
  refine ⟨l, _, e, ⟨R.fh, lk', gh, fun l' q => ?_, by rw [List.length_set]; exact R.len, fun j sv hj => ?_, fun j k l' a b => ?_⟩, hs, dp⟩
  · obtain ⟨m1, m2, m3⟩ := R.mu l' q
    have hne : l' ≠ l := fun z => h7 rfl (by rw [q, z])
    rw [upd_ne hne]
    exact ⟨m1, m2, m3⟩
  · by_cases hji : j = i
    · subst hji
      rw [List.getElem?_set_self hi] at hj
      cases hj
      exact ⟨_, by rw [e] <;> rfl, dp⟩
    · rw [List.getElem?_set_ne (Ne.symm hji)] at hj
      have q := R.sl j sv hj
      cases sv with
      | u => exact True.intro
      | d x =>
        obtain ⟨v, q1, q2⟩ := q
        exact ⟨v, q1, dp_mono hs x v q2⟩
      | a ys =>
        obtain ⟨l', vs', q1, q2, q3⟩ := q
        exact ⟨l', vs', q1, q2, dpAll_mono hs _ _ q3⟩
      | own m ys =>
        obtain ⟨l', vs', q1, q2, q3, q4, q5, q6, q7⟩ := q
        have hne : l' ≠ l := fun z => by
          subst z
          exact hji (R.sep j i l' ⟨m, ys, hj, join_some q1⟩ ho)
        exact ⟨l', vs', q1, q2, dpAll_mono hs _ _ q3, q4, by rw [upd_ne hne]; exact q5, q6, q7⟩
  · obtain ⟨a1, _⟩ := owns_set a (fun _ _ z => nomatch z)
    obtain ⟨b1, _⟩ := owns_set b (fun _ _ z => nomatch z)
    exact R.sep j k l' a1 b1
/-- an own list's content is another -/
theorem Rel.change (R : Rel K F G Mu Γ σ H) {i : Nat} {m : Bool} {xs ys : List D} {l : Addr} {us : List V} (h : Γ[i]? = some (.own m xs)) (e : σ[i]? = some (some (.ref l))) (d : DqAll K G us ys) :
    Rel K F G Mu (Γ.set i (.own m ys)) σ (upd H l (.lst us)) := by
  obtain ⟨l0, vs, e0, h2, h3, h4, h5, h6, h7, ho⟩ := R.owned h
  rw [e] at e0
  cases e0
  have hi : i < Γ.length := (List.getElem?_eq_some_iff.mp h).1
  have own' : ∀ j l', Owns (Γ.set i (.own m ys)) σ j l' → Owns Γ σ j l' := fun j l' z => by
    obtain ⟨m', zs, z1, z2⟩ := z
    by_cases hji : j = i
    · subst hji
      rw [e] at z2
      cases z2
      exact ho
    · rw [List.getElem?_set_ne (Ne.symm hji)] at z1
      exact ⟨m', zs, z1, z2⟩
  refine ⟨same_updR R.fh h4, R.lk, same_updR R.gh h5, fun l' q => ?_, by rw [List.length_set]; exact R.len, fun j sv hj => ?_, fun j k l' a b => R.sep j k l' (own' _ _ a) (own' _ _ b)⟩
  · obtain ⟨m1, m2, m3⟩ := R.mu l' q
    refine ⟨m1, m2, ?_⟩
    by_cases hl : l' = l
    · rw [hl, upd_same]
      exact fun z => nomatch z
    · rw [upd_ne hl]
      exact m3
  · by_cases hji : j = i
    · subst hji
      rw [List.getElem?_set_self hi] at hj
      cases hj
      exact ⟨l, us, by rw [e] <;> rfl, upd_same, d, h4, h5, h6, h7⟩
    · rw [List.getElem?_set_ne (Ne.symm hji)] at hj
      have q := R.sl j sv hj
      cases sv with
      | u => exact True.intro
      | d x => exact q
      | a ys => exact q
      | own m' zs =>
        obtain ⟨l', vs', q1, q2, q3, q4, q5, q6, q7⟩ := q
        have hne : l' ≠ l := fun z => by
          subst z
          exact hji (R.sep j i l' ⟨m', zs, hj, join_some q1⟩ ho)
        exact ⟨l', vs', q1, by rw [upd_ne hne]; exact q2, q3, q4, q5, q6, q7⟩
/-- a slot is stored -/
theorem Rel.store (R : Rel K F G Mu Γ σ H) {i : Nat} {sv : SV} {v : V} (q : SlotRel K F G H Mu sv (some v)) (hn : ∀ m xs, sv = .own m xs → ∀ j l, v = .ref l → Owns Γ σ j l → j = i) : Rel K F G Mu (Γ.set i sv) (σ.set i (some v)) H := by
  have own' : ∀ j l', Owns (Γ.set i sv) (σ.set i (some v)) j l' → (j ≠ i ∧ Owns Γ σ j l') ∨ (j = i ∧ (∃ m xs, sv = .own m xs) ∧ v = .ref l') := fun j l' z => by
    obtain ⟨m', zs, z1, z2⟩ := z
    by_cases hji : j = i
    · subst hji
      have hi : j < Γ.length := by
        have := (List.getElem?_eq_some_iff.mp z1).1
        simpa using this
      rw [List.getElem?_set_self hi] at z1
      rw [List.getElem?_set_self (by rw [← R.len]; exact hi)] at z2
      cases z1
      cases z2
      exact .inr ⟨rfl, ⟨_, _, rfl⟩, rfl⟩
    · rw [List.getElem?_set_ne (Ne.symm hji)] at z1 z2
      exact .inl ⟨hji, m', zs, z1, z2⟩
  refine ⟨R.fh, R.lk, R.gh, R.mu, by rw [List.length_set, List.length_set]; exact R.len, fun j sv' hj => ?_, fun j k l' a b => ?_⟩
  · by_cases hji : j = i
    · subst hji
      have hi : j < Γ.length := by
        have := (List.getElem?_eq_some_iff.mp hj).1
        simpa using this
      rw [List.getElem?_set_self hi] at hj
      cases hj
      rw [List.getElem?_set_self (by rw [← R.len]; exact hi)]
      exact q
    · rw [List.getElem?_set_ne (Ne.symm hji)] at hj
      rw [List.getElem?_set_ne (Ne.symm hji)]
      exact R.sl j sv' hj
  · rcases own' j l' a with ⟨a1, a2⟩ | ⟨a1, ⟨m, xs, a2⟩, a3⟩
    · rcases own' k l' b with ⟨b1, b2⟩ | ⟨b1, ⟨m, xs, b2⟩, b3⟩
      · exact R.sep j k l' a2 b2
      · exact absurd (hn m xs b2 j l' b3 a2) a1
    · rcases own' k l' b with ⟨b1, b2⟩ | ⟨b1, ⟨m', xs', b2⟩, b3⟩
      · exact absurd (hn m xs a2 k l' a3 b2) b1
      · rw [a1, b1]
/-- a slot is forgotten -/
theorem Rel.forget (R : Rel K F G Mu Γ σ H) (i : Nat) {o : Option V} : Rel K F G Mu (Γ.set i .u) (σ.set i o) H := by
  have own' : ∀ j l', Owns (Γ.set i .u) (σ.set i o) j l' → Owns Γ σ j l' := fun j l' z => by
    obtain ⟨m', zs, z1, z2⟩ := z
    by_cases hji : j = i
    · subst hji
      have hi : j < Γ.length := by
        have := (List.getElem?_eq_some_iff.mp z1).1
        simpa using this
      rw [List.getElem?_set_self hi] at z1
      cases z1
    · rw [List.getElem?_set_ne (Ne.symm hji)] at z1 z2
      exact ⟨m', zs, z1, z2⟩
  refine ⟨R.fh, R.lk, R.gh, R.mu, by rw [List.length_set, List.length_set]; exact R.len, fun j sv' hj => ?_, fun j k l' a b => R.sep j k l' (own' _ _ a) (own' _ _ b)⟩
  by_cases hji : j = i
  · subst hji
    have hi : j < Γ.length := by
      have := (List.getElem?_eq_some_iff.mp hj).1
      simpa using this
    rw [List.getElem?_set_self hi] at hj
    cases hj
    exact True.intro
  · rw [List.getElem?_set_ne (Ne.symm hji)] at hj
    rw [List.getElem?_set_ne (Ne.symm hji)]
    exact R.sl j sv' hj
end
end Z
set_option Elab.async false
set_option linter.all false
set_option maxRecDepth 100000
set_option autoImplicit false
set_option maxHeartbeats 1000000
namespace Z
open PySem PySem.Spec PyProof.Rows L2

/-! ### what an operation that changes nothing may leave -/
structure Ext (G H G' H' : Hp) : Prop where
  g : Same G G'
  gh : Same G' H'
  h : Same H H'
  out : ∀ l, H l ≠ none → G' l = G l
section
variable {K : PySem.W.Frag} {F : Fr} {G H H' G' : Hp} {Mu : Option Addr} {Γ : En} {σ : St}
theorem Ext.refl (e : Same G H) : Ext G H G H := ⟨Same.refl _, e, Same.refl _, fun _ _ => rfl⟩
theorem Ext.new {p : Addr} {o : HO} (e : Same G H) (n : H p = none) : Ext G H (upd G p o) (upd H p o) :=
  ⟨same_upd (e.free n), same_upd2 e, same_upd n, fun l h => by rw [upd_ne (fun z => h (by rw [z]; exact n))]⟩
theorem Ext.trans {G1 H1 : Hp} (a : Ext G H G1 H1) (b : Ext G1 H1 G' H') : Ext G H G' H' :=
  ⟨a.g.trans b.g, b.gh, a.h.trans b.h, fun l h => (b.out l (fun z => h (a.h.free z))).trans (a.out l h)⟩
theorem Rel.ext (R : Rel K F G Mu Γ σ H) (e : Ext G H G' H') : Rel K F G' Mu Γ σ H' := by
  refine R.mono (Mu' := Mu) (R.fh.trans e.h) e.g e.gh (fun l q => ?_) (fun i l h => ?_) (fun l q => ?_)
  · obtain ⟨_, h2, h3⟩ := R.mu l q
    exact ⟨(e.out l h3).trans h2, fun z => h3 (e.h.free z)⟩
  · obtain ⟨h1, h2, vs, h3⟩ := R.there h
    exact ⟨(e.out l (by rw [h3]; exact fun z => nomatch z)).trans h2, by rw [h3]; exact e.h l _ h3⟩
  · obtain ⟨o, w⟩ := Option.ne_none_iff_exists'.mp (F.kf l q)
    exact (e.out l (by rw [R.fh l o w]; exact fun z => nomatch z)).trans (R.lk l q)
end

/-! ### readings -/
abbrev Rho (α β : Type) := PySem.W.Frag → Fr → Hp → Option Addr → En → St → Hp → α → β → Prop
def zpost {α β : Type} (X : Cx) (W : WX) (σ : St) (ρ : Rho α β) (F : Fr) (G : Hp) (Mu : Option Addr) (Q : β → Hp → Prop) (o : Ro α) : Prop := match o with
  | .bad => False
  | .ok r Γ' => ∀ v H' G', Same G G' → Rel X.K F G' Mu Γ' σ H' → ρ X.K F G' Mu Γ' σ H' r v → Q v H'
  | .ex c x Γ' => ∀ C a v H' G', X.mg c = some (.ref C) → Same G G' → Rel X.K F G' Mu Γ' σ H' → H' a = some (.xd [("value", v)]) → Dq X.K G' v x → W (.ref C) (some a) σ H'
def zt {α β : Type} (X : Cx) (W : WX) (ρ : Rho α β) (m : M α) : St → Hp → (β → Hp → Prop) → Prop := fun σ H Q =>
  ∃ F G Mu Γ, Rel X.K F G Mu Γ σ H ∧ zpost X W σ ρ F G Mu Q (m Γ)
def rhoD : Rho D V := fun K _ G _ _ _ _ x v => Dq K G v x
def rhoR : Rho Rs V := fun K _ G _ _ σ _ r v => match r with
  | .d x => Dq K G v x
  | .sl i => σ[i]? = some (some v)
def rhoO : Rho (List D) V := fun K F G Mu Γ σ H xs v => ∃ l vs, v = .ref l ∧ H l = some (.lst vs) ∧ DqAll K G vs xs ∧ F l = none ∧ G l = none ∧ Mu ≠ some l ∧ ∀ i, ¬ Owns Γ σ i l
def rhoB : Rho Bool Bool := fun _ _ _ _ _ _ _ x b => x = b
def rhoDs : Rho (List D) (List V) := fun K _ G _ _ _ _ xs vs => DqAll K G vs xs
def RsAll (K : PySem.W.Frag) (G : Hp) (σ : St) : List Rs → List V → Prop
  | [], vs => vs = []
  | r :: rs, vs => ∃ v us, vs = v :: us ∧ (match r with | .d x => Dq K G v x | .sl i => σ[i]? = some (some v)) ∧ RsAll K G σ rs us
def rhoRs : Rho (List Rs) (List V) := fun K _ G _ _ σ _ rs vs => RsAll K G σ rs vs

/-- an expression gives data that stays -/
def DP (X : Cx) (e : Expr) (m : M D) : Prop := ∀ W, Takes X W → PE X e (zt X W rhoD m)
/-- .. data, or a name -/
def DV (X : Cx) (e : Expr) (m : M Rs) : Prop := ∀ W, Takes X W → PE X e (zt X W rhoR m)
/-- .. a new list -/
def DO (X : Cx) (e : Expr) (m : M (List D)) : Prop := ∀ W, Takes X W → PE X e (zt X W rhoO m)
def DT (X : Cx) (e : Expr) (m : M Bool) : Prop := ∀ W, Takes X W → PT X e (zt X W rhoB m)
/-- .. as a part of and, or -/
def DW (X : Cx) (e : Expr) (m : M Bool) : Prop := ∀ W, Takes X W → PW X e (zt X W rhoB m)
def DPs (X : Cx) (es : List Expr) (m : M (List D)) : Prop := ∀ W, Takes X W → PA X es (zt X W rhoDs m)
def DVs (X : Cx) (es : List Expr) (m : M (List Rs)) : Prop := ∀ W, Takes X W → PA X es (zt X W rhoRs m)

theorem pe_imp {X : Cx} {e : Expr} {t t' : TE} (p : PE X e t) (h : ∀ σ H Q, t' σ H Q → t σ H Q) : PE X e t' := ⟨fun pins s σ H Q I q => p.run pins s σ H Q I (h σ H Q q)⟩
theorem pt_imp {X : Cx} {e : Expr} {t t' : TT} (p : PT X e t) (h : ∀ σ H Q, t' σ H Q → t σ H Q) : PT X e t' := ⟨fun pins s σ H Q I q => p.run pins s σ H Q I (h σ H Q q)⟩
theorem pw_imp {X : Cx} {e : Expr} {t t' : TT} (p : PW X e t) (h : ∀ σ H Q, t' σ H Q → t σ H Q) : PW X e t' := ⟨fun wh pins s σ H Q I q => p.run wh pins s σ H Q I (h σ H Q q)⟩
theorem pa_imp {X : Cx} {es : List Expr} {t t' : TA} (p : PA X es t) (h : ∀ σ H Q, t' σ H Q → t σ H Q) : PA X es t' := ⟨fun pos pins s σ H Q I q => p.run pos pins s σ H Q I (h σ H Q q)⟩
theorem ps_imp {X : Cx} {st : Stmt} {t t' : TS} (p : PS X st t) (h : ∀ D σ H, t' D σ H → t D σ H) : PS X st t' := ⟨fun pins s σ H D I q => p.run pins s σ H D I (h D σ H q)⟩
theorem pss_imp {X : Cx} {st : List Stmt} {t t' : TS} (p : PSs X st t) (h : ∀ D σ H, t' D σ H → t D σ H) : PSs X st t' := ⟨fun pins s σ H D I q => p.run pins s σ H D I (h D σ H q)⟩

section
variable {X : Cx} {W : WX} {σ : St} {H : Hp} {α β γ δ ε ζ : Type} {ρ : Rho α β} {ρ' : Rho γ δ} {ρ'' : Rho ε ζ} {F : Fr} {G G' : Hp} {Mu : Option Addr}
theorem zpost.rebase {Q : β → Hp → Prop} {o : Ro α} (e : Same G G') (p : zpost X W σ ρ F G Mu Q o) : zpost X W σ ρ F G' Mu Q o := by
  cases o with
  | bad => exact p
  | ok r Γ' => exact fun v H' G2 h => p v H' G2 (e.trans h)
  | ex c x Γ' => exact fun C a v H' G2 h1 h2 => p C a v H' G2 h1 (e.trans h2)
theorem zpost.imp {Q Q' : β → Hp → Prop} {o : Ro α} (p : zpost X W σ ρ F G Mu Q o) (h : ∀ v H', Q v H' → Q' v H') : zpost X W σ ρ F G Mu Q' o := by
  cases o with
  | bad => exact p
  | ok r Γ' => exact fun v H' G2 h1 h2 h3 => h _ _ (p v H' G2 h1 h2 h3)
  | ex c x Γ' => exact p
theorem zt.imp {m : M α} {Q Q' : β → Hp → Prop} (p : zt X W ρ m σ H Q) (h : ∀ v H', Q v H' → Q' v H') : zt X W ρ m σ H Q' := by
  obtain ⟨F, G, Mu, Γ, R, q⟩ := p
  exact ⟨F, G, Mu, Γ, R, q.imp h⟩
/-- the first part of a run, the rest behind it -/
theorem zt_bnd {m : M α} {f : α → M γ} {Q : δ → Hp → Prop} (p : zt X W ρ' (bnd m f) σ H Q) :
    zt X W ρ m σ H fun v H1 => ∃ r F G Mu Γ, Rel X.K F G Mu Γ σ H1 ∧ ρ X.K F G Mu Γ σ H1 r v ∧ zpost X W σ ρ' F G Mu Q (f r Γ) := by
  obtain ⟨F, G, Mu, Γ, R, q⟩ := p
  refine ⟨F, G, Mu, Γ, R, ?_⟩
  unfold bnd at q
  cases e : m Γ with
  | bad => rw [e] at q; exact q
  | ok r Γ1 =>
    rw [e] at q
    exact fun v H1 G1 h1 R1 h2 => ⟨r, F, G1, Mu, Γ1, R1, h2, q.rebase h1⟩
  | ex c x Γ1 => rw [e] at q; exact q
/-- two parts in a row; what the first gave still stands -/
theorem zt_bnd2 {m : M α} {n : M γ} {f : α → γ → M ε} {Q : ζ → Hp → Prop} (st : ∀ K F G Mu Γ σ H r v F' G' Mu' Γ' H', Same G G' → ρ K F G Mu Γ σ H r v → ρ K F' G' Mu' Γ' σ H' r v)
    (p : zt X W ρ'' (bnd m fun r => bnd n fun s => f r s) σ H Q) :
    zt X W ρ m σ H fun v H1 => zt X W ρ' n σ H1 fun u H2 => ∃ r s F G Mu Γ, Rel X.K F G Mu Γ σ H2 ∧ ρ X.K F G Mu Γ σ H2 r v ∧ ρ' X.K F G Mu Γ σ H2 s u ∧ zpost X W σ ρ'' F G Mu Q (f r s Γ) := by
  obtain ⟨F, G, Mu, Γ, R, q⟩ := p
  refine ⟨F, G, Mu, Γ, R, ?_⟩
  unfold bnd at q
  cases e : m Γ with
  | bad => rw [e] at q; exact q
  | ok r Γ1 =>
    rw [e] at q
    refine fun v H1 G1 h1 R1 h2 => ⟨F, G1, Mu, Γ1, R1, ?_⟩
    dsimp only at q
    cases e2 : n Γ1 with
    | bad => rw [e2] at q; exact q
    | ok s Γ2 =>
      rw [e2] at q
      exact fun u H2 G2 k1 R2 k2 => ⟨r, s, F, G2, Mu, Γ2, R2, st _ _ _ _ _ _ _ _ _ _ _ _ _ _ k1 h2, k2, q.rebase (h1.trans k1)⟩
    | ex c x Γ2 => rw [e2] at q; exact q.rebase h1
  | ex c x Γ1 => rw [e] at q; exact q
end
theorem stD : ∀ K F G Mu Γ σ H r v F' G' Mu' Γ' H', Same G G' → rhoD K F G Mu Γ σ H r v → rhoD K F' G' Mu' Γ' σ H' r v := fun _ _ _ _ _ _ _ _ _ _ _ _ _ _ e h => dp_mono e _ _ h
theorem stR : ∀ K F G Mu Γ σ H r v F' G' Mu' Γ' H', Same G G' → rhoR K F G Mu Γ σ H r v → rhoR K F' G' Mu' Γ' σ H' r v := fun _ _ _ _ _ _ _ r _ _ _ _ _ _ e h => by
  cases r with
  | d x => exact dp_mono e _ _ h
  | sl i => exact h
theorem stB : ∀ K F G Mu Γ σ H r v F' G' Mu' Γ' H', Same G G' → rhoB K F G Mu Γ σ H r v → rhoB K F' G' Mu' Γ' σ H' r v := fun _ _ _ _ _ _ _ _ _ _ _ _ _ _ _ h => h

/-! ### names; what a name holds -/
def vl (g : En) : Rs → Option D
  | .d x => some x
  | .sl i => match g[i]? with
    | some (.d x) => some x
    | some (.a xs) => some (.list xs)
    | some (.own _ xs) => some (.list xs)
    | _ => none
/-- what is read: data, or a list whose items are such -/
def Rdb (K : PySem.W.Frag) (G H : Hp) (v : V) (x : D) : Prop := Dq K G v x ∨ ∃ l vs xs, v = .ref l ∧ x = .list xs ∧ SqL K H l vs ∧ DqAll K G vs xs
section
variable {K : PySem.W.Frag} {F : Fr} {G H H' G' : Hp} {Mu : Option Addr} {Γ : En} {σ : St}
theorem Rdb.dp (e : Same G H) {v : V} {x : D} (h : Rdb K G H v x) : Dq K H v x := by
  rcases h with h | ⟨l, vs, xs, rfl, rfl, h1, h2⟩
  · exact dp_mono e _ _ h
  · exact .lst h1 (dpAll_mono e _ _ h2)
theorem Rdb.list (e : Same G H) {v : V} {xs : List D} (h : Rdb K G H v (.list xs)) : ∃ l vs, v = .ref l ∧ SqL K H l vs ∧ DqAll K G vs xs := by
  rcases h with h | ⟨l, vs, xs, rfl, q, h1, h2⟩
  · cases h with
    | lst h1 h2 => exact ⟨_, _, rfl, e.seq h1, h2⟩
  · cases q
    exact ⟨l, vs, rfl, h1, h2⟩
theorem Rdb.tup (e : Same G H) {v : V} {xs : List D} (h : Rdb K G H v (.tuple xs)) : ∃ l vs, v = .ref l ∧ TupN K H l vs ∧ DqAll K G vs xs := by
  rcases h with h | ⟨l, vs, xs, rfl, q, h1, h2⟩
  · cases h with
    | tup h1 h2 => exact ⟨_, _, rfl, h1.mono e, h2⟩
  · cases q
theorem Rdb.int {v : V} {i : Int} (h : Rdb K G H v (.int i)) : v = .int i := by
  rcases h with h | ⟨l, vs, xs, rfl, q, h1, h2⟩
  · cases h; rfl
  · cases q
theorem Rdb.bool {v : V} {i : Bool} (h : Rdb K G H v (.bool i)) : v = .bl i := by
  rcases h with h | ⟨l, vs, xs, rfl, q, h1, h2⟩
  · cases h; rfl
  · cases q
theorem Rdb.str {v : V} {i : Str} (h : Rdb K G H v (.str i)) : v = .str i := by
  rcases h with h | ⟨l, vs, xs, rfl, q, h1, h2⟩
  · cases h; rfl
  · cases q
theorem Rdb.none {v : V} (h : Rdb K G H v .none) : v = .non := by
  rcases h with h | ⟨l, vs, xs, rfl, q, h1, h2⟩
  · cases h; rfl
  · cases q
theorem Rel.read (R : Rel K F G Mu Γ σ H) {r : Rs} {v : V} {x : D} (h : rhoR K F G Mu Γ σ H r v) (e : vl Γ r = some x) : Rdb K G H v x := by
  cases r with
  | d y =>
    cases e
    exact .inl h
  | sl i =>
    have h' : σ[i]? = some (some v) := h
    unfold vl at e
    dsimp only at e
    split at e
    · rename_i y q
      cases e
      obtain ⟨v', h1, h2⟩ := R.data q
      rw [h'] at h1
      cases h1
      exact .inl h2
    · rename_i ys q
      cases e
      obtain ⟨l, vs, h1, h2, h3⟩ := R.arg q
      rw [h'] at h1
      cases h1
      exact .inr ⟨l, vs, ys, rfl, rfl, (F.af.trans R.fh).seq h2, h3⟩
    · rename_i m ys q
      cases e
      obtain ⟨l, vs, h1, h2, h3, _⟩ := R.owned q
      rw [h'] at h1
      cases h1
      exact .inr ⟨l, vs, ys, rfl, rfl, .of h2, h3⟩
    · cases e
end
def dName (i : Nat) : M Rs := fun g => match g[i]? with
  | some (.d x) => .ok (.d x) g
  | some (.a _) => .ok (.sl i) g
  | some (.own _ _) => .ok (.sl i) g
  | _ => .bad
def dv (m : M D) : M Rs := bnd m fun x => rt (.d x)
/-- to let a name's list go into data: an own one stays as it is from now on -/
def esc (r : Rs) : M D := fun g => match r with
  | .d x => .ok x g
  | .sl i => match g[i]? with
    | some (.d x) => .ok x g
    | some (.own false xs) => .ok (.list xs) (g.set i (.d (.list xs)))
    | _ => .bad
def dEsc (m : M Rs) : M D := bnd m esc
def dFz (m : M (List D)) : M D := bnd m fun xs => rt (.list xs)
section
variable {X : Cx} {e : Expr} {es : List Expr} {pos : Pos}
theorem zpost_ok {α β : Type} {W : WX} {σ : St} {ρ : Rho α β} {F : Fr} {G H : Hp} {Mu : Option Addr} {Γ : En} {Q : β → Hp → Prop} {r : α} {v : β} (R : Rel X.K F G Mu Γ σ H) (h : ρ X.K F G Mu Γ σ H r v) (p : zpost X W σ ρ F G Mu Q (.ok r Γ)) : Q v H := p v H G (Same.refl _) R h
theorem dv_name {i : Nat} {x : Str} (hN : X.N[i]? = some x) (hv : Vis X.env.scope x) (hd : (x == ("__debug__" : Str)) = false := by decide) (hcd : (x == ("__classdict__" : Str)) = false := by decide) : DV X (.Name x pos) (dName i) := fun W _ => by
  refine pe_imp (pe_var hN hv hd hcd) fun σ H Q h => ?_
  obtain ⟨F, G, Mu, Γ, R, p⟩ := h
  unfold dName at p
  split at p
  · rename_i y q
    obtain ⟨v, h1, h2⟩ := R.data q
    exact ⟨v, h1, zpost_ok R (show rhoR _ _ _ _ _ _ _ (.d y) v from h2) p⟩
  · rename_i ys q
    obtain ⟨l, vs, h1, h2, h3⟩ := R.arg q
    exact ⟨_, h1, zpost_ok R (show rhoR _ _ _ _ _ _ _ (.sl i) _ from h1) p⟩
  · rename_i m ys q
    obtain ⟨l, vs, h1, h2, h3, _⟩ := R.owned q
    exact ⟨_, h1, zpost_ok R (show rhoR _ _ _ _ _ _ _ (.sl i) _ from h1) p⟩
  · exact p.elim
theorem dv_of {m : M D} (h : DP X e m) : DV X e (dv m) := fun W tk => by
  refine pe_imp (h W tk) fun σ H Q p => ?_
  refine (zt_bnd (ρ := rhoD) p).imp fun v H1 ⟨r, F, G, Mu, Γ, R, h1, q⟩ => ?_
  exact zpost_ok R (show rhoR _ _ _ _ _ _ _ (.d r) v from h1) q
theorem dp_esc {m : M Rs} (h : DV X e m) : DP X e (dEsc m) := fun W tk => by
  refine pe_imp (h W tk) fun σ H Q p => ?_
  refine (zt_bnd (ρ := rhoR) p).imp fun v H1 ⟨r, F, G, Mu, Γ, R, h1, q⟩ => ?_
  unfold esc at q
  cases r with
  | d x => exact zpost_ok R (show rhoD _ _ _ _ _ _ _ x v from h1) q
  | sl i =>
    have h1' : σ[i]? = some (some v) := h1
    dsimp only at q
    split at q
    · rename_i y g
      obtain ⟨v', k1, k2⟩ := R.data g
      rw [h1'] at k1
      cases k1
      exact zpost_ok R (show rhoD _ _ _ _ _ _ _ y v from k2) q
    · rename_i ys g
      obtain ⟨l, G', k1, R', k2, k3⟩ := R.freeze g
      rw [h1'] at k1
      cases k1
      exact q _ H1 G' k2 R' k3
    · exact q.elim
/-- a new list that stays -/
theorem Rel.keep {K : PySem.W.Frag} {F : Fr} {G H : Hp} {Mu : Option Addr} {Γ : En} {σ : St} {xs : List D} {v : V} (R : Rel K F G Mu Γ σ H) (h : rhoO K F G Mu Γ σ H xs v) : ∃ G', Same G G' ∧ Rel K F G' Mu Γ σ H ∧ Dq K G' v (.list xs) := by
  obtain ⟨l, vs, rfl, h1, h2, h3, h4, h5, h6⟩ := h
  have hs : Same G (upd G l (.lst vs)) := same_upd h4
  have gh : Same (upd G l (.lst vs)) H := fun b x q => by
    by_cases hb : b = l
    · subst hb
      rw [upd_same] at q
      rw [h1]
      exact q
    · rw [upd_ne hb] at q
      exact R.gh b x q
  refine ⟨_, hs, R.mono (Mu' := Mu) R.fh hs gh (fun l' q => ?_) (fun i l' ho => ?_) (fun l' q => ?_), .lst (.of upd_same) (dpAll_mono hs _ _ h2)⟩
  · obtain ⟨_, m2, m3⟩ := R.mu l' q
    have hne : l' ≠ l := fun z => h5 (by rw [q, z])
    rw [upd_ne hne]
    exact ⟨m2, m3⟩
  · have hne : l' ≠ l := fun z => h6 i (by rw [← z]; exact ho)
    rw [upd_ne hne]
    exact ⟨(R.there ho).2.1, rfl⟩
  · rw [upd_ne (fun z => F.kf l' q (by rw [z]; exact h3))]
    exact R.lk l' q
theorem dp_fz {m : M (List D)} (h : DO X e m) : DP X e (dFz m) := fun W tk => by
  refine pe_imp (h W tk) fun σ H Q p => ?_
  refine (zt_bnd (ρ := rhoO) p).imp fun v H1 ⟨r, F, G, Mu, Γ, R, h1, q⟩ => ?_
  obtain ⟨G', k1, R', k2⟩ := R.keep h1
  exact q v H1 G' k1 R' k2

/-! ### constants -/
def dC (x : D) : M D := rt x
theorem zt_c {W : WX} {σ : St} {H : Hp} {Q : VK} {x : D} {v : V} (hv : ∀ K G, Dq K G v x) (h : zt X W rhoD (dC x) σ H Q) : Q v H := by
  obtain ⟨F, G, Mu, Γ, R, p⟩ := h
  exact zpost_ok R (show rhoD _ _ _ _ _ _ _ x v from hv _ _) p
theorem dp_int {i : Int} {j} : DP X (.Constant (.int i) j pos) (dC (.int i)) := fun W _ => pe_imp pe_int fun σ H Q h => zt_c (fun _ _ => .int i) h
theorem dp_bool {b : Bool} {j} : DP X (.Constant (.bool b) j pos) (dC (.bool b)) := fun W _ => pe_imp pe_bl fun σ H Q h => zt_c (fun _ _ => .bl b) h
theorem dp_none {j} : DP X (.Constant .none j pos) (dC .none) := fun W _ => pe_imp pe_non fun σ H Q h => zt_c (fun _ _ => .non) h
theorem dp_str {x : Str} {j} : DP X (.Constant (.str x) j pos) (dC (.str x)) := fun W _ => pe_imp pe_str fun σ H Q h => zt_c (fun _ _ => .str x) h

/-! ### arguments -/
def dNil : M (List D) := rt []
def dCons (m : M D) (n : M (List D)) : M (List D) := bnd m fun x => bnd n fun xs => rt (x :: xs)
theorem dps_nil : DPs X [] dNil := fun W _ => pa_imp pa_nil fun σ H Q ⟨F, G, Mu, Γ, R, p⟩ => zpost_ok R (show rhoDs _ _ _ _ _ _ _ [] [] from .nil) p
theorem dps_cons {m : M D} {n : M (List D)} (h : DP X e m) (k : DPs X es n) (hs : starEach (e :: es) X.env = (false, eval e X.env) :: starEach es X.env := by rfl) : DPs X (e :: es) (dCons m n) := fun W tk => by
  refine pa_imp (pa_cons (h W tk) (k W tk) hs) fun σ H Q p => ?_
  refine (zt_bnd2 (ρ := rhoD) (ρ' := rhoDs) stD p).imp fun v H1 q => q.imp fun vs H2 ⟨x, xs, F, G, Mu, Γ, R, h1, h2, q2⟩ => ?_
  exact zpost_ok R (show rhoDs _ _ _ _ _ _ _ (x :: xs) (v :: vs) from .cons h1 h2) q2
def vNil : M (List Rs) := rt []
def vCons (m : M Rs) (n : M (List Rs)) : M (List Rs) := bnd m fun x => bnd n fun xs => rt (x :: xs)
theorem dvs_nil : DVs X [] vNil := fun W _ => pa_imp pa_nil fun σ H Q ⟨F, G, Mu, Γ, R, p⟩ => zpost_ok R (show rhoRs _ _ _ _ _ _ _ [] [] from rfl) p
theorem dvs_cons {m : M Rs} {n : M (List Rs)} (h : DV X e m) (k : DVs X es n) (hs : starEach (e :: es) X.env = (false, eval e X.env) :: starEach es X.env := by rfl) : DVs X (e :: es) (vCons m n) := fun W tk => by
  refine pa_imp (pa_cons (h W tk) (k W tk) hs) fun σ H Q p => ?_
  refine (zt_bnd2 (ρ := rhoR) (ρ' := rhoRs) stR p).imp fun v H1 q => q.imp fun vs H2 ⟨x, xs, F, G, Mu, Γ, R, h1, h2, q2⟩ => ?_
  exact zpost_ok R (show rhoRs _ _ _ _ _ _ _ (x :: xs) (v :: vs) from ⟨v, vs, rfl, h1, h2⟩) q2
end
def vls (g : En) : List Rs → Option (List D)
  | [] => some []
  | r :: rs => match vl g r with
    | none => none
    | some x => match vls g rs with
      | none => none
      | some xs => some (x :: xs)
def RdbAll (K : PySem.W.Frag) (G H : Hp) : List V → List D → Prop
  | [], xs => xs = []
  | v :: vs, xs => ∃ y ys, xs = y :: ys ∧ Rdb K G H v y ∧ RdbAll K G H vs ys
theorem Rel.reads {K : PySem.W.Frag} {F : Fr} {G H : Hp} {Mu : Option Addr} {Γ : En} {σ : St} (R : Rel K F G Mu Γ σ H) : ∀ {rs : List Rs} {vs : List V} {xs : List D}, RsAll K G σ rs vs → vls Γ rs = some xs → RdbAll K G H vs xs
  | [], vs, xs, h, e => by
    cases (show vs = [] from h)
    cases e
    rfl
  | r :: rs, vs, xs, h, e => by
    obtain ⟨v, us, rfl, h1, h2⟩ := h
    unfold vls at e
    split at e
    · cases e
    · rename_i y q
      split at e
      · cases e
      · rename_i ys q2
        cases e
        exact ⟨y, ys, rfl, R.read (show rhoR K F G Mu Γ σ H r v from h1) q, R.reads h2 q2⟩
theorem RdbAll.one {K : PySem.W.Frag} {G H : Hp} {vs : List V} {x : D} (h : RdbAll K G H vs [x]) : ∃ v, vs = [v] ∧ Rdb K G H v x := by
  cases vs with
  | nil => cases (show [x] = [] from h)
  | cons v us =>
    obtain ⟨y, ys, e, h1, h2⟩ := h
    cases e
    cases us with
    | nil => exact ⟨v, rfl, h1⟩
    | cons _ _ =>
      obtain ⟨_, _, e, _⟩ := h2
      cases e
theorem RdbAll.two {K : PySem.W.Frag} {G H : Hp} {vs : List V} {x y : D} (h : RdbAll K G H vs [x, y]) : ∃ v u, vs = [v, u] ∧ Rdb K G H v x ∧ Rdb K G H u y := by
  cases vs with
  | nil => cases (show [x, y] = [] from h)
  | cons v us =>
    obtain ⟨_, _, e, h1, h2⟩ := h
    cases e
    obtain ⟨u, rfl, h3⟩ := RdbAll.one h2
    exact ⟨v, u, rfl, h1, h3⟩

/-! ### operations by data -/
def op2 (f : D → D → Option D) (m n : M Rs) : M D := bnd m fun r => bnd n fun s => fun g => match vl g r with
  | none => .bad
  | some x => match vl g s with
    | none => .bad
    | some y => match f x y with
      | none => .bad
      | some z => .ok z g
def rD2 (K : PySem.W.Frag) (f : D → D → Option D) : R2 := fun x y H Q => ∃ G dx dy z, Same G H ∧ Rdb K G H x dx ∧ Rdb K G H y dy ∧ f dx dy = some z ∧ ∀ v H' G', Ext G H G' H' → Dq K G' v z → Q v H'
theorem op2_run {X : Cx} {W : WX} {σ : St} {H : Hp} {Q : VK} {f : D → D → Option D} {m n : M Rs} (p : zt X W rhoD (op2 f m n) σ H Q) : tOp (rD2 X.K f) (zt X W rhoR m) (zt X W rhoR n) σ H Q := by
  refine (zt_bnd2 (ρ := rhoR) (ρ' := rhoR) stR p).imp fun v H1 q => q.imp fun u H2 ⟨r, s, F, G, Mu, Γ, R, h1, h2, q2⟩ => ?_
  cases e1 : vl Γ r with
  | none => rw [e1] at q2; exact q2.elim
  | some x =>
    cases e2 : vl Γ s with
    | none => rw [e1, e2] at q2; exact q2.elim
    | some y =>
      cases e3 : f x y with
      | none =>
        rw [e1, e2] at q2
        dsimp only at q2
        rw [e3] at q2
        exact q2.elim
      | some z =>
        rw [e1, e2] at q2
        dsimp only at q2
        rw [e3] at q2
        exact ⟨G, x, y, z, R.gh, R.read h1 e1, R.read h2 e2, e3, fun w H' G' ex d => q2 w H' G' ex.g (R.ext ex) d⟩
/-- .. with a new list -/
def op2o (f : D → D → Option (List D)) (m n : M Rs) : M (List D) := bnd m fun r => bnd n fun s => fun g => match vl g r with
  | none => .bad
  | some x => match vl g s with
    | none => .bad
    | some y => match f x y with
      | none => .bad
      | some z => .ok z g
def rO2 (K : PySem.W.Frag) (f : D → D → Option (List D)) : R2 := fun x y H Q => ∃ G dx dy zs, Same G H ∧ Rdb K G H x dx ∧ Rdb K G H y dy ∧ f dx dy = some zs ∧ ∀ l vs, H l = none → DqAll K G vs zs → Q (.ref l) (upd H l (.lst vs))
theorem Rel.newO {K : PySem.W.Frag} {F : Fr} {G H : Hp} {Mu : Option Addr} {Γ : En} {σ : St} {l : Addr} {vs : List V} {zs : List D} (R : Rel K F G Mu Γ σ H) (n : H l = none) (d : DqAll K G vs zs) : Rel K F G Mu Γ σ (upd H l (.lst vs)) ∧ rhoO K F G Mu Γ σ (upd H l (.lst vs)) zs (.ref l) :=
  ⟨R.newX n, l, vs, rfl, upd_same, d, R.fh.free n, R.gh.free n, fun z => (R.mu l z).2.2 n, fun i h => by
    obtain ⟨_, _, us, q⟩ := R.there h
    rw [n] at q
    cases q⟩
theorem op2o_run {X : Cx} {W : WX} {σ : St} {H : Hp} {Q : VK} {f : D → D → Option (List D)} {m n : M Rs} (p : zt X W rhoO (op2o f m n) σ H Q) : tOp (rO2 X.K f) (zt X W rhoR m) (zt X W rhoR n) σ H Q := by
  refine (zt_bnd2 (ρ := rhoR) (ρ' := rhoR) stR p).imp fun v H1 q => q.imp fun u H2 ⟨r, s, F, G, Mu, Γ, R, h1, h2, q2⟩ => ?_
  cases e1 : vl Γ r with
  | none => rw [e1] at q2; exact q2.elim
  | some x =>
    cases e2 : vl Γ s with
    | none => rw [e1, e2] at q2; exact q2.elim
    | some y =>
      cases e3 : f x y with
      | none =>
        rw [e1, e2] at q2
        dsimp only at q2
        rw [e3] at q2
        exact q2.elim
      | some z =>
        rw [e1, e2] at q2
        dsimp only at q2
        rw [e3] at q2
        refine ⟨G, x, y, z, R.gh, R.read h1 e1, R.read h2 e2, e3, fun l vs n d => ?_⟩
        obtain ⟨R', o⟩ := R.newO n d
        exact q2 _ _ G (Same.refl _) R' o
def op1 (f : D → Option D) (m : M Rs) : M D := bnd m fun r => fun g => match vl g r with
  | none => .bad
  | some x => match f x with
    | none => .bad
    | some z => .ok z g
def rD1 (K : PySem.W.Frag) (f : D → Option D) : V → Hp → VK → Prop := fun x H Q => ∃ G dx z, Same G H ∧ Rdb K G H x dx ∧ f dx = some z ∧ ∀ v H' G', Ext G H G' H' → Dq K G' v z → Q v H'
theorem op1_run {X : Cx} {W : WX} {σ : St} {H : Hp} {Q : VK} {f : D → Option D} {m : M Rs} (p : zt X W rhoD (op1 f m) σ H Q) : tUn (rD1 X.K f) (zt X W rhoR m) σ H Q := by
  refine (zt_bnd (ρ := rhoR) p).imp fun v H1 ⟨r, F, G, Mu, Γ, R, h1, q2⟩ => ?_
  cases e1 : vl Γ r with
  | none => rw [e1] at q2; exact q2.elim
  | some x =>
    cases e3 : f x with
    | none =>
      rw [e1] at q2
      dsimp only at q2
      rw [e3] at q2
      exact q2.elim
    | some z =>
      rw [e1] at q2
      dsimp only at q2
      rw [e3] at q2
      exact ⟨G, x, z, R.gh, R.read h1 e1, e3, fun w H' G' ex d => q2 w H' G' ex.g (R.ext ex) d⟩
/-- a built-in by its arguments -/
def opN (f : List D → Option D) (m : M (List Rs)) : M D := bnd m fun rs => fun g => match vls g rs with
  | none => .bad
  | some xs => match f xs with
    | none => .bad
    | some z => .ok z g
def rDN (K : PySem.W.Frag) (f : List D → Option D) : List V → Hp → VK → Prop := fun vs H Q => ∃ G xs z, Same G H ∧ RdbAll K G H vs xs ∧ f xs = some z ∧ ∀ v H' G', Ext G H G' H' → Dq K G' v z → Q v H'
theorem opN_run {X : Cx} {W : WX} {σ : St} {H : Hp} {Q : VK} {f : List D → Option D} {m : M (List Rs)} (p : zt X W rhoD (opN f m) σ H Q) : tCB (rDN X.K f) (zt X W rhoRs m) σ H Q := by
  refine (zt_bnd (ρ := rhoRs) p).imp fun v H1 ⟨r, F, G, Mu, Γ, R, h1, q2⟩ => ?_
  cases e1 : vls Γ r with
  | none => rw [e1] at q2; exact q2.elim
  | some x =>
    cases e3 : f x with
    | none =>
      rw [e1] at q2
      dsimp only at q2
      rw [e3] at q2
      exact q2.elim
    | some z =>
      rw [e1] at q2
      dsimp only at q2
      rw [e3] at q2
      exact ⟨G, x, z, R.gh, R.reads h1 e1, e3, fun w H' G' ex d => q2 w H' G' ex.g (R.ext ex) d⟩
def opNo (f : List D → Option (List D)) (m : M (List Rs)) : M (List D) := bnd m fun rs => fun g => match vls g rs with
  | none => .bad
  | some xs => match f xs with
    | none => .bad
    | some z => .ok z g
def rON (K : PySem.W.Frag) (f : List D → Option (List D)) : List V → Hp → VK → Prop := fun vs H Q => ∃ G xs zs, Same G H ∧ RdbAll K G H vs xs ∧ f xs = some zs ∧ ∀ l vs, H l = none → DqAll K G vs zs → Q (.ref l) (upd H l (.lst vs))
theorem opNo_run {X : Cx} {W : WX} {σ : St} {H : Hp} {Q : VK} {f : List D → Option (List D)} {m : M (List Rs)} (p : zt X W rhoO (opNo f m) σ H Q) : tCB (rON X.K f) (zt X W rhoRs m) σ H Q := by
  refine (zt_bnd (ρ := rhoRs) p).imp fun v H1 ⟨r, F, G, Mu, Γ, R, h1, q2⟩ => ?_
  cases e1 : vls Γ r with
  | none => rw [e1] at q2; exact q2.elim
  | some x =>
    cases e3 : f x with
    | none =>
      rw [e1] at q2
      dsimp only at q2
      rw [e3] at q2
      exact q2.elim
    | some z =>
      rw [e1] at q2
      dsimp only at q2
      rw [e3] at q2
      refine ⟨G, x, z, R.gh, R.reads h1 e1, e3, fun l vs n d => ?_⟩
      obtain ⟨R', o⟩ := R.newO n d
      exact q2 _ _ G (Same.refl _) R' o
section
variable {X : Cx} {a b e : Expr} {es : List Expr} {pos : Pos}
theorem dp_bin {op : Operator} {f : D → D → Option D} {m n : M Rs} (ho : OpR X (binaryOp op) (rD2 X.K f)) (ha : DV X a m) (hb : DV X b n) : DP X (.BinOp a op b pos) (op2 f m n) := fun W tk => pe_imp (pe_op ho (ha W tk) (hb W tk)) fun _ _ _ p => op2_run p
theorem do_bin {op : Operator} {f : D → D → Option (List D)} {m n : M Rs} (ho : OpR X (binaryOp op) (rO2 X.K f)) (ha : DV X a m) (hb : DV X b n) : DO X (.BinOp a op b pos) (op2o f m n) := fun W tk => pe_imp (pe_op ho (ha W tk) (hb W tk)) fun _ _ _ p => op2o_run p
theorem dp_un {op : UnaryOp} {f : D → Option D} {m : M Rs} (ho : UnR X (unaryOp op) (rD1 X.K f)) (ha : DV X a m) : DP X (.UnaryOp op a pos) (op1 f m) := fun W tk => pe_imp (pe_un ho (ha W tk)) fun _ _ _ p => op1_run p
theorem dp_cmp {op : CmpOp} {f : D → D → Option D} {m n : M Rs} (ho : OpR X (compareOp op) (rD2 X.K f)) (ha : DV X a m) (hb : DV X b n) (hm : behindInMarks op b = false) : DP X (.Compare a [op] [b] pos) (op2 f m n) := fun W tk => pe_imp (pe_cmpR ho (ha W tk) (hb W tk) hm) fun _ _ _ p => op2_run p
theorem dp_ix {f : D → D → Option D} {m n : M Rs} (ho : IxR X (rD2 X.K f)) (ha : DV X a m) (hb : DV X b n) (hs : PlainIx b) : DP X (.Subscript a b pos) (op2 f m n) := fun W tk => pe_imp (pe_ix ho (ha W tk) (hb W tk) hs) fun _ _ _ p => op2_run p
end
end Z
set_option Elab.async false
set_option linter.all false
set_option maxRecDepth 100000
set_option autoImplicit false
set_option maxHeartbeats 1000000
namespace Z
open PySem PySem.Spec PyProof.Rows L2
/-! ### tuples made: without a dict of their own -/
section
variable {X : Cx} {pins : List (Addr × Obj)} {σ : St} {H : Hp} {s : Shared}
/-- the tuple just pushed is tracked, its object known -/
theorem laidT {its : List Value} {xs : List V} {h : Heap} {tk : Nat} (I : L2.Inv X pins σ H { s with heap := h, toks := tk }) (r : Vals xs its) (hz : xs.length ≤ sizeLine) :
    L2.Inv X pins σ (upd H h.objs.size (.frz { cls := .type "tuple", data := .seq its.toArray } (.tup xs))) { s with heap := h.push { cls := .type "tuple", data := .seq its.toArray }, toks := tk } := by
  have e := Heap.get?_push_size h (o := { cls := .type "tuple", data := .seq its.toArray }) rfl
  exact I.laid (t' := tk) (o := .frz { cls := .type "tuple", data := .seq its.toArray } (.tup xs)) (fun b u q => Heap.get?_push_of_some _ q) (Nat.le_refl _)
    ⟨e, hz, its, r, IsTup.new _ _⟩
theorem tryNew {its : List Value} {xs : List V} {Q : VK} (I : L2.Inv X pins σ H s) (r : Vals xs its) (hz : xs.length ≤ sizeLine)
    (q : ∀ p o, H p = none → o.dict = none → Q (.ref p) (upd H p (.frz o (.tup xs)))) : EP X pins σ Q (.ref s.heap.objs.size) { s with heap := s.heap.push { cls := .type "tuple", data := .seq its.toArray } } :=
  ⟨.ref s.heap.objs.size, _, laidT (tk := s.toks) I r hz, rfl, q _ _ (I.hok.fresh (Nat.le_refl _)) rfl⟩
end
def tTupZ (t : TA) : TE := fun σ H Q => t σ H fun xs H1 => xs.length ≤ sizeLine ∧ ∀ p o, H1 p = none → o.dict = none → Q (.ref p) (upd H1 p (.frz o (.tup xs)))
section
variable {X : Cx} {es : List Expr} {t : TA} {pos : Pos}
theorem pe_tupZ {k} (h : PA X es t) : PE X (.Tuple es k pos) (tTupZ t) := by
  refine ⟨fun pins s σ H Q I hq => wpAny_Tuple_spliced (thn (h.run pos pins s σ H _ I hq) fun us s1 ⟨xs, H1, I1, r, z, q⟩ => ⟨by rw [← r.length]; exact z, ?_⟩)⟩
  exact tryNew I1 r z q
/-- t + u -/
def rCatZ (K : PySem.W.Frag) : R2 := fun x y H Q => ∃ a b xs ys, x = .ref a ∧ y = .ref b ∧ SqT K H a xs ∧ SqT K H b ys ∧ xs.length + ys.length ≤ sizeLine ∧
  (xs = [] → Q (.ref b) H) ∧ (xs ≠ [] → ys = [] → Q (.ref a) H) ∧ (xs ≠ [] → ys ≠ [] → ∀ p o, H p = none → o.dict = none → Q (.ref p) (upd H p (.frz o (.tup (xs ++ ys)))))
theorem op_catZ : OpR X (binaryOp .Add) (rCatZ X.K) := by
  intro pins s σ H x y v u Q I rx ry h
  obtain ⟨a, b, xs, ys, rfl, rfl, ha, hb, hz, q0, q1, q2⟩ := h
  cases rx
  cases ry
  obtain ⟨ia, ra, pa, _⟩ := I.tuple ha
  obtain ⟨ib, rb, pb, _⟩ := I.tuple hb
  by_cases hx : xs = []
  · subst hx
    cases ra
    exact cat_tup0 pa pb ⟨.ref b, H, I, rfl, q0 rfl⟩
  · refine HT.cat_tup pa pb (fun z => hx (ra.nil_iff.mp z)) (fun z => ⟨.ref a, H, I, rfl, q1 hx (rb.nil_iff.mp z)⟩) (fun z => ?_) (by rw [← ra.length, ← rb.length]; exact hz)
    exact tryNew I (ra.append rb) (by rw [List.length_append]; exact hz) (q2 hx fun w => z (rb.nil_iff.mpr w))
/-- t[lo:hi] -/
def rSlZ (K : PySem.W.Frag) : V → Option Int → Option Int → Hp → VK → Prop := fun x lo hi H Q => ∃ a xs, x = .ref a ∧ SqT K H a xs ∧
  (HT.sIx xs.length 0 lo = 0 ∧ HT.sIx xs.length xs.length hi = xs.length → Q (.ref a) H) ∧
  (¬ (HT.sIx xs.length 0 lo = 0 ∧ HT.sIx xs.length xs.length hi = xs.length) → ∀ p o, H p = none → o.dict = none → Q (.ref p) (upd H p (.frz o (.tup (cutV xs lo hi)))))
theorem sl_tupZ : SlR X (rSlZ X.K) := by
  intro pins s σ H x v vl vu lo hi sl Q I rx hs pl pu h
  obtain ⟨a, xs, rfl, hx, q1, q2⟩ := h
  cases rx
  obtain ⟨its, r, ht, hz⟩ := I.tuple hx
  have hn : its.toArray.size = xs.length := by rw [List.size_toArray]; exact r.length.symm
  refine ⟨"tuple", _, PyProof.Rows.slot_tuple_getitem.lookup, ht.typeIs, ?_⟩
  by_cases hw : HT.sIx xs.length 0 lo = 0 ∧ HT.sIx xs.length xs.length hi = xs.length
  · exact getItem_tuple_whole ht hs pl pu (by rw [hn]; exact hw) ⟨.ref a, H, I, rfl, q1 hw⟩
  · refine HT.getItem_tuple_cut ht hs pl pu (by rw [hn]; exact hw) ?_ (by rw [hn]; exact hz)
    rw [hn]
    exact tryNew I ((r.drop (HT.sIx xs.length 0 lo)).take (HT.sIx xs.length xs.length hi - HT.sIx xs.length 0 lo)) (Nat.le_trans (cutV_length xs lo hi) hz) (q2 hw)
/-- tuple(x) -/
theorem call_tupleZ : CallR X (.type "tuple") (fun xs H Q => ∃ p ys, xs = [.ref p] ∧ ((SqL X.K H p ys ∧ ∀ l o, H l = none → o.dict = none → Q (.ref l) (upd H l (.frz o (.tup ys)))) ∨ (SqT X.K H p ys ∧ Q (.ref p) H))) := by
  intro pins s σ H xs us Q I r h
  obtain ⟨p, ys, rfl, h⟩ := h
  obtain ⟨u, rfl, rx⟩ := vals1 r
  cases rx
  rcases h with ⟨hq, q⟩ | ⟨hq, q⟩
  · obtain ⟨its, rv, pl, hz⟩ := I.list hq
    refine call_tuple_list pl.isList (fun h' kp => ?_) (by rw [List.size_toArray, ← rv.length]; exact hz)
    have J : L2.Inv X pins σ H { s with heap := h' } := I.kept (t' := s.toks) kp
    exact tryNew J rv hz q
  · obtain ⟨its, rv, pl, hz⟩ := I.tuple hq
    exact call_tuple_same pl ⟨.ref p, H, I, rfl, q⟩
def tTupRgZ (te : St → Hp → (Int → Int → Hp → Prop) → Prop) : TE := fun σ H Q => te σ H fun a b H1 => RgOk a b ∧ ∀ q o, H1 q = none → o.dict = none → Q (.ref q) (upd H1 q (.frz o (.tup (rgV a b))))
theorem pe_tupRgZ {e : Expr} {te : St → Hp → (Int → Int → Hp → Prop) → Prop} {p pos : Pos} (hc : X.calm = true) (hg : Gl X "tuple") (hm : X.mg "tuple" = none) (he : PRg X e te) (na : starEach [e] X.env = (false, eval e X.env) :: starEach [] X.env := by rfl) :
    PE X (.Call (.Name "tuple" p) [e] [] pos) (tTupRgZ te) := by
  refine ⟨fun pins s σ H Q I h => Call_ (ld_blt I hg hm boot_tuple (PyProof.Rows.callWith_type1 (args_cons (thn (he pins s σ H _ I h) fun x s1 ⟨r, a, b, t, u, v, H1, ex, hr, I1, ok, q⟩ => args_nil ?_) na) na))⟩
  subst ex
  obtain ⟨b1, b2, b3, b4, b5⟩ := ok
  refine call_tuple_range (n := (b - a).toNat) (I1.ok.hd hc) hr (small_one b1 b2 b3 b4) (rangeSize_nat a b) b5 fun h' tk acc hk hi => ?_
  have J : L2.Inv X pins σ H1 { s1 with heap := h', toks := tk } := I1.kept hk
  have K2 := laidT (its := acc.toList) (xs := rgV a b) (h := h') (tk := tk) J (vals_rg hi) (by rw [rgV_length, sizeLine_eq]; omega)
  rw [Array.toArray_toList] at K2
  exact ⟨.ref h'.objs.size, _, K2, rfl, q _ _ (J.hok.fresh (Nat.le_refl _)) rfl⟩
end
end Z
set_option Elab.async false
set_option linter.all false
set_option maxRecDepth 100000
set_option autoImplicit false
set_option maxHeartbeats 1000000
namespace Z
open PySem PySem.Spec PyProof.Rows L2

/-! ### operators by data -/
def fAdd : D → D → Option D
  | .int i, .int j => some (.int (i + j))
  | .str a, .str b => if a.length + b.length ≤ sizeLine then some (.str (a ++ b)) else none
  | .tuple xs, .tuple ys => if xs.length + ys.length ≤ sizeLine then some (.tuple (xs ++ ys)) else none
  | _, _ => none
def fSub : D → D → Option D
  | .int i, .int j => some (.int (i - j))
  | _, _ => none
def okMul (i j : Int) : Bool := decide (i.natAbs < 18446744073709551616) || decide (j.natAbs < 18446744073709551616) || decide (i.natAbs.log2 + j.natAbs.log2 < 1000000)
def fMul : D → D → Option D
  | .int i, .int j => if okMul i j then some (.int (i * j)) else none
  | _, _ => none
def okDiv (j : Int) : Bool := decide (0 < j) && (decide (j < 1073741824) || decide (j.natAbs.log2 < 9000))
def fDiv : D → D → Option D
  | .int i, .int j => if okDiv j then some (.int (i / j)) else none
  | _, _ => none
def fMod : D → D → Option D
  | .int i, .int j => if 0 < j then some (.int (i % j)) else none
  | _, _ => none
def fPow : D → D → Option D
  | .int i, .int j => if 0 ≤ j ∧ j ≤ 1000000 ∧ i.natAbs < 18446744073709551616 then some (.int (i ^ j.toNat)) else none
  | _, _ => none
def fNeg : D → Option D
  | .int i => some (.int (-i))
  | _ => none
/-- comparisons of ints -/
def fCmpI (p : Int → Int → Bool) : D → D → Option D
  | .int i, .int j => some (.bool (p i j))
  | _, _ => none
def fLt := fCmpI fun i j => decide (i < j)
def fLe := fCmpI fun i j => decide (i ≤ j)
def fGt := fCmpI fun i j => decide (j < i)
def fGe := fCmpI fun i j => decide (j ≤ i)
def fEq (x y : D) : Option D := if SeqAt.shaped x && SeqAt.shaped y then some (.bool (PyData.eqv x y)) else none
def fNe (x y : D) : Option D := if SeqAt.shaped x && SeqAt.shaped y then some (.bool (!PyData.eqv x y)) else none
def isNone : D → Bool
  | .none => true
  | _ => false
def fIsN (x y : D) : Option D := if isNone y then some (.bool (isNone x)) else none
def fNotN (x y : D) : Option D := if isNone y then some (.bool (!isNone x)) else none
section
variable {X : Cx}
theorem rel_int {i : Int} {v : Value} (r : RelV (.int i) v) : ∃ t, v = Value.int i t := r
theorem or_ints {F : Value → Value → Sem Value} {f : D → D → Option D} {c : Int → Int → Prop} {g : Int → Int → Int} (ho : OpR X F (rI c fun i j => .int (g i j)))
    (hf : ∀ x y z, f x y = some z → ∃ i j, x = .int i ∧ y = .int j ∧ c i j ∧ z = .int (g i j)) : OpR X F (rD2 X.K f) := by
  intro pins s σ H x y v u Q I rx ry h
  obtain ⟨G, dx, dy, z, gh, r1, r2, e, q⟩ := h
  obtain ⟨i, j, rfl, rfl, hc, rfl⟩ := hf _ _ _ e
  have e1 := r1.int
  have e2 := r2.int
  subst e1 e2
  exact ho pins s σ H _ _ v u Q I rx ry ⟨i, j, rfl, rfl, hc, q _ _ _ (Ext.refl gh) (.int _)⟩
theorem or_cmpI {F : Value → Value → Sem Value} {g : Int → Int → Bool} (ho : OpR X F (rI0 fun i j => .bl (g i j))) : OpR X F (rD2 X.K (fCmpI g)) := by
  intro pins s σ H x y v u Q I rx ry h
  obtain ⟨G, dx, dy, z, gh, r1, r2, e, q⟩ := h
  unfold fCmpI at e
  split at e
  · cases e
    have e1 := r1.int
    have e2 := r2.int
    subst e1 e2
    exact ho pins s σ H _ _ v u Q I rx ry ⟨_, _, rfl, rfl, q _ _ _ (Ext.refl gh) (.bl _)⟩
  · cases e
theorem or_lt : OpR X (compareOp .Lt) (rD2 X.K fLt) := or_cmpI op_lt
theorem or_le : OpR X (compareOp .LtE) (rD2 X.K fLe) := or_cmpI op_le
theorem or_gt : OpR X (compareOp .Gt) (rD2 X.K fGt) := or_cmpI op_gt
theorem or_ge : OpR X (compareOp .GtE) (rD2 X.K fGe) := or_cmpI op_ge
theorem or_sub : OpR X (binaryOp .Sub) (rD2 X.K fSub) := by
  refine or_ints (c := fun _ _ => True) (g := fun i j => i - j) ?_ fun x y z e => ?_
  · exact opI fun _ _ _ _ _ _ _ _ q => sub_int q
  · unfold fSub at e
    split at e
    · cases e
      exact ⟨_, _, rfl, rfl, trivial, rfl⟩
    · cases e
theorem okMul_ok {i j : Int} (h : okMul i j = true) : IntMulOk i j := by
  unfold okMul at h
  simp only [Bool.or_eq_true, decide_eq_true_eq] at h
  rcases h with (h | h) | h
  · exact CMul.ok (.inl (by omega))
  · exact CMul.ok (.inr (by omega))
  · exact CMulW.ok h
theorem or_mul : OpR X (binaryOp .Mult) (rD2 X.K fMul) := by
  refine or_ints (c := fun i j => okMul i j = true) (g := fun i j => i * j) ?_ fun x y z e => ?_
  · exact opI fun _ _ _ _ _ _ _ hc q => mul_int q (okMul_ok hc)
  · unfold fMul at e
    split at e
    · split at e
      · cases e
        exact ⟨_, _, rfl, rfl, by assumption, rfl⟩
      · cases e
    · cases e
theorem or_div : OpR X (binaryOp .FloorDiv) (rD2 X.K fDiv) := by
  refine or_ints (c := fun _ j => okDiv j = true) (g := fun i j => i / j) ?_ fun x y z e => ?_
  · refine opI fun i j _ _ _ _ _ hc q => ?_
    unfold okDiv at hc
    simp only [Bool.and_eq_true, Bool.or_eq_true, decide_eq_true_eq] at hc
    obtain ⟨h1, h2⟩ := hc
    refine floordiv_int (by omega) (by rw [Int.fdiv_eq_ediv_of_nonneg i (by omega)]; exact q) ?_
    rcases h2 with h2 | h2
    · exact .inl (PyProof.noPylong_small (by omega))
    · exact .inl (PyProof.noPylong_of_log2 h2)
  · unfold fDiv at e
    split at e
    · split at e
      · cases e
        exact ⟨_, _, rfl, rfl, by assumption, rfl⟩
      · cases e
    · cases e
theorem or_mod : OpR X (binaryOp .Mod) (rD2 X.K fMod) := by
  refine or_ints (c := fun _ j => 0 < j) (g := fun i j => i % j) op_mod fun x y z e => ?_
  unfold fMod at e
  split at e
  · split at e
    · cases e
      exact ⟨_, _, rfl, rfl, by assumption, rfl⟩
    · cases e
  · cases e
theorem or_pow : OpR X (binaryOp .Pow) (rD2 X.K fPow) := by
  refine or_ints (c := fun i j => 0 ≤ j ∧ j ≤ 1000000 ∧ i.natAbs < 18446744073709551616) (g := fun i j => i ^ j.toNat) ?_ fun x y z e => ?_
  · exact opI fun _ _ _ _ _ _ _ hc q => pow_int_small hc.1 hc.2.1 hc.2.2 q
  · unfold fPow at e
    split at e
    · split at e
      · cases e
        exact ⟨_, _, rfl, rfl, by assumption, rfl⟩
      · cases e
    · cases e
theorem or_add : OpR X (binaryOp .Add) (rD2 X.K fAdd) := by
  intro pins s σ H x y v u Q I rx ry h
  obtain ⟨G, dx, dy, z, gh, r1, r2, e, q⟩ := h
  unfold fAdd at e
  split at e
  · cases e
    have e1 := r1.int
    have e2 := r2.int
    subst e1 e2
    exact op_add pins s σ H _ _ v u Q I rx ry ⟨_, _, rfl, rfl, q _ _ _ (Ext.refl gh) (.int _)⟩
  · split at e
    · cases e
      have e1 := r1.str
      have e2 := r2.str
      subst e1 e2
      exact op_add_str pins s σ H _ _ v u Q I rx ry ⟨_, _, rfl, rfl, by assumption, q _ _ _ (Ext.refl gh) (.str _)⟩
    · cases e
  · rename_i xs ys
    split at e
    · rename_i hz
      cases e
      obtain ⟨l1, vs1, rfl, s1, d1⟩ := r1.tup gh
      obtain ⟨l2, vs2, rfl, s2, d2⟩ := r2.tup gh
      have n1 := dpa_length d1
      have n2 := dpa_length d2
      have dt1 : Dq X.K G (.ref l1) (.tuple xs) := by
        rcases r1 with r1 | ⟨_, _, _, _, c, _⟩
        · exact r1
        · cases c
      have dt2 : Dq X.K G (.ref l2) (.tuple ys) := by
        rcases r2 with r2 | ⟨_, _, _, _, c, _⟩
        · exact r2
        · cases c
      refine op_catZ pins s σ H _ _ v u Q I rx ry ⟨l1, l2, vs1, vs2, rfl, rfl, s1.sq, s2.sq, by omega, fun z => ?_, fun _ z => ?_, fun _ _ p o n ho => ?_⟩
      · subst z
        have : xs = [] := by
          cases xs with
          | nil => rfl
          | cons _ _ => simp at n1
        subst this
        exact q _ _ _ (Ext.refl gh) dt2
      · subst z
        have : ys = [] := by
          cases ys with
          | nil => rfl
          | cons _ _ => simp at n2
        subst this
        rw [List.append_nil] at q
        exact q _ _ _ (Ext.refl gh) dt1
      · have E := Ext.new (o := .frz o (.tup (vs1 ++ vs2))) gh n
        exact q _ _ _ E (.tup (.new ho) (dpAll_mono E.g _ _ (dpa_append d1 d2)))
    · cases e
  · cases e
theorem un_negD : UnR X (unaryOp .USub) (rD1 X.K fNeg) := by
  intro pins s σ H x v Q I rx h
  obtain ⟨G, dx, z, gh, r1, e, q⟩ := h
  unfold fNeg at e
  split at e
  · cases e
    have e1 := r1.int
    subst e1
    exact un_neg pins s σ H _ v Q I rx ⟨_, rfl, q _ _ _ (Ext.refl gh) (.int _)⟩
  · cases e
theorem or_eq (hu : X.A.units + 64 < cLine) : OpR X (compareOp .Eq) (rD2 X.K fEq) := by
  intro pins s σ H x y v u Q I rx ry h
  obtain ⟨G, dx, dy, z, gh, r1, r2, e, q⟩ := h
  unfold fEq at e
  split at e
  · rename_i hs
    cases e
    rw [Bool.and_eq_true] at hs
    exact op_eqD hu pins s σ H _ _ v u Q I rx ry ⟨dx, dy, (r1.dp gh).dp, (r2.dp gh).dp, hs.1, hs.2, q _ _ _ (Ext.refl gh) (.bl _)⟩
  · cases e
theorem or_ne (hu : X.A.units + 64 < cLine) : OpR X (compareOp .NotEq) (rD2 X.K fNe) := by
  intro pins s σ H x y v u Q I rx ry h
  obtain ⟨G, dx, dy, z, gh, r1, r2, e, q⟩ := h
  unfold fNe at e
  split at e
  · rename_i hs
    cases e
    rw [Bool.and_eq_true] at hs
    exact op_neD hu pins s σ H _ _ v u Q I rx ry ⟨dx, dy, (r1.dp gh).dp, (r2.dp gh).dp, hs.1, hs.2, q _ _ _ (Ext.refl gh) (.bl _)⟩
  · cases e
theorem none_dec {K : PySem.W.Frag} {G H : Hp} {v : V} {x : D} (r : Rdb K G H v x) : decide (v = .non) = isNone x := by
  rcases r with r | ⟨l, vs, xs, rfl, rfl, _, _⟩
  · cases r <;> rfl
  · rfl
theorem or_isN : OpR X (compareOp .Is) (rD2 X.K fIsN) := by
  intro pins s σ H x y v u Q I rx ry h
  obtain ⟨G, dx, dy, z, gh, r1, r2, e, q⟩ := h
  unfold fIsN at e
  split at e
  · rename_i hn
    cases e
    cases dy with
    | none =>
      have e2 := r2.none
      subst e2
      exact op_isN pins s σ H _ _ v u Q I rx ry ⟨rfl, by rw [none_dec r1]; exact q _ _ _ (Ext.refl gh) (.bl _)⟩
    | _ => cases hn
  · cases e
theorem or_notN : OpR X (compareOp .IsNot) (rD2 X.K fNotN) := by
  intro pins s σ H x y v u Q I rx ry h
  obtain ⟨G, dx, dy, z, gh, r1, r2, e, q⟩ := h
  unfold fNotN at e
  split at e
  · rename_i hn
    cases e
    cases dy with
    | none =>
      have e2 := r2.none
      subst e2
      exact op_notN pins s σ H _ _ v u Q I rx ry ⟨rfl, by rw [none_dec r1]; exact q _ _ _ (Ext.refl gh) (.bl _)⟩
    | _ => cases hn
  · cases e
end

/-! ### items, slices -/
def fIx : D → D → Option D
  | .list xs, .int i => atI xs i
  | .tuple xs, .int i => atI xs i
  | _, _ => none
theorem dpa_at {K : PySem.W.Frag} {G : Hp} {vs : List V} {xs : List D} {i : Int} {d : D} (h : DqAll K G vs xs) (e : atI xs i = some d) : ∃ v, atI vs i = some v ∧ Dq K G v d := by
  unfold atI at e ⊢
  rw [dpa_length h]
  cases q : ixN xs.length i with
  | none => rw [q] at e; cases e
  | some j =>
    rw [q] at e
    exact dpa_get h e
theorem ixr {X : Cx} : IxR X (rD2 X.K fIx) := by
  intro value slice pins s σ H x y v u Q I rx ry h hs
  obtain ⟨G, dx, dy, z, gh, r1, r2, e, q⟩ := h
  unfold fIx at e
  split at e
  · obtain ⟨l, vs, rfl, s1, d1⟩ := r1.list gh
    have e2 := r2.int
    subst e2
    obtain ⟨w, k1, k2⟩ := dpa_at d1 e
    exact ix_list value slice pins s σ H _ _ v u Q I rx ry ⟨l, vs, _, w, rfl, rfl, s1, k1, q _ _ _ (Ext.refl gh) k2⟩ hs
  · obtain ⟨l, vs, rfl, s1, d1⟩ := r1.tup gh
    have e2 := r2.int
    subst e2
    obtain ⟨w, k1, k2⟩ := dpa_at d1 e
    exact ix_tup value slice pins s σ H _ _ v u Q I rx ry ⟨l, vs, _, w, rfl, rfl, s1.sq, k1, q _ _ _ (Ext.refl gh) k2⟩ hs
  · cases e
/-- the items from lo to hi -/
def cutD {α : Type} (xs : List α) (lo hi : Option Int) : List α := (xs.drop (HT.sIx xs.length 0 lo)).take (HT.sIx xs.length xs.length hi - HT.sIx xs.length 0 lo)
theorem dpa_cut {K : PySem.W.Frag} {G : Hp} {vs : List V} {xs : List D} (lo hi : Option Int) (h : DqAll K G vs xs) : DqAll K G (cutV vs lo hi) (cutD xs lo hi) := by
  unfold cutV cutD
  rw [dpa_length h]
  exact dpa_take _ (dpa_drop _ h)
def fCutT (x : D) (lo hi : Option Int) : Option D := match x with
  | .tuple xs => some (.tuple (cutD xs lo hi))
  | _ => none
def fCutL (x : D) (lo hi : Option Int) : Option (List D) := match x with
  | .list xs => some (cutD xs lo hi)
  | _ => none
/-- a slice's bound -/
def DPo (X : Cx) (e : Option Expr) (m : M (Option Int)) : Prop := ∀ W, Takes X W → PO X e (zt X W (fun _ _ _ _ _ _ _ x y => x = y) m)
def oNone : M (Option Int) := rt none
def oSome (m : M D) : M (Option Int) := bnd m fun x => match x with
  | .int i => rt (some i)
  | _ => fun _ => .bad
theorem po_imp {X : Cx} {e : Option Expr} {t t' : TO} (p : PO X e t) (h : ∀ σ H Q, t' σ H Q → t σ H Q) : PO X e t' := ⟨fun pins s σ H Q I q => p.run pins s σ H Q I (h σ H Q q)⟩
section
variable {X : Cx} {e : Expr} {pos p2 : Pos} {lo hi : Option Expr}
theorem dpo_none : DPo X none oNone := fun W _ => po_imp po_none fun σ H Q ⟨F, G, Mu, Γ, R, p⟩ => p none H G (Same.refl _) R rfl
theorem dpo_some {m : M D} (h : DP X e m) : DPo X (some e) (oSome m) := fun W tk => by
  refine po_imp (po_some (h W tk)) fun σ H Q p => ?_
  refine (zt_bnd (ρ := rhoD) p).imp fun v H1 ⟨r, F, G, Mu, Γ, R, h1, q⟩ => ?_
  cases r with
  | int i =>
    cases h1
    exact ⟨i, rfl, q _ _ G (Same.refl _) R rfl⟩
  | _ => exact q.elim
def dCutT (m : M Rs) (a b : M (Option Int)) : M D := bnd m fun r => bnd a fun lo => bnd b fun hi => fun g => match vl g r with
  | none => .bad
  | some x => match fCutT x lo hi with
    | none => .bad
    | some z => .ok z g
def dCutL (m : M Rs) (a b : M (Option Int)) : M (List D) := bnd m fun r => bnd a fun lo => bnd b fun hi => fun g => match vl g r with
  | none => .bad
  | some x => match fCutL x lo hi with
    | none => .bad
    | some z => .ok z g
theorem stO {α : Type} : ∀ (K : PySem.W.Frag) (F : Fr) (G : Hp) (Mu : Option Addr) (Γ : En) (σ : St) (H : Hp) (r v : α) (F' : Fr) (G' : Hp) (Mu' : Option Addr) (Γ' : En) (H' : Hp), Same G G' → r = v → r = v := fun _ _ _ _ _ _ _ _ _ _ _ _ _ _ _ h => h
theorem zt_bnd3 {W : WX} {σ : St} {H : Hp} {α ζ : Type} {ρ'' : Rho α ζ} {m : M Rs} {a b : M (Option Int)} {f : Rs → Option Int → Option Int → M α} {Q : ζ → Hp → Prop} (p : zt X W ρ'' (bnd m fun r => bnd a fun lo => bnd b fun hi => f r lo hi) σ H Q) :
    zt X W rhoR m σ H fun v H1 => zt X W (fun _ _ _ _ _ _ _ x y => x = y) a σ H1 fun l H2 => zt X W (fun _ _ _ _ _ _ _ x y => x = y) b σ H2 fun u H3 =>
      ∃ r F G Mu Γ, Rel X.K F G Mu Γ σ H3 ∧ rhoR X.K F G Mu Γ σ H3 r v ∧ zpost X W σ ρ'' F G Mu Q (f r l u Γ) := by
  obtain ⟨F, G, Mu, Γ, R, q⟩ := p
  refine ⟨F, G, Mu, Γ, R, ?_⟩
  unfold bnd at q
  cases e : m Γ with
  | bad => rw [e] at q; exact q
  | ex c x Γ1 => rw [e] at q; exact q
  | ok r Γ1 =>
    rw [e] at q
    refine fun v H1 G1 h1 R1 h2 => ⟨F, G1, Mu, Γ1, R1, ?_⟩
    dsimp only at q
    cases e2 : a Γ1 with
    | bad => rw [e2] at q; exact q
    | ex c x Γ2 => rw [e2] at q; exact q.rebase h1
    | ok l Γ2 =>
      rw [e2] at q
      refine fun l' H2 G2 k1 R2 k2 => ⟨F, G2, Mu, Γ2, R2, ?_⟩
      subst k2
      dsimp only at q
      cases e3 : b Γ2 with
      | bad => rw [e3] at q; exact q
      | ex c x Γ3 => rw [e3] at q; exact q.rebase (h1.trans k1)
      | ok u Γ3 =>
        rw [e3] at q
        refine fun u' H3 G3 j1 R3 j2 => ?_
        subst j2
        exact ⟨r, F, G3, Mu, Γ3, R3, stR _ _ _ _ _ _ _ _ _ _ _ _ _ _ (k1.trans j1) h2, q.rebase ((h1.trans k1).trans j1)⟩
theorem dp_cutT {m : M Rs} {a b : M (Option Int)} (h : DV X e m) (ha : DPo X lo a) (hb : DPo X hi b) : DP X (.Subscript e (.Slice lo hi none p2) pos) (dCutT m a b) := fun W tk => by
  refine pe_imp (pe_slice sl_tupZ (h W tk) (ha W tk) (hb W tk)) fun σ H Q p => ?_
  refine (zt_bnd3 p).imp fun v H1 q1 => q1.imp fun l H2 q2 => q2.imp fun u H3 ⟨r, F, G, Mu, Γ, R, h1, q⟩ => ?_
  cases e1 : vl Γ r with
  | none => rw [e1] at q; exact q.elim
  | some x =>
    rw [e1] at q
    have rd := R.read h1 e1
    cases x with
    | tuple xs =>
      obtain ⟨a, vs, rfl, s1, d1⟩ := rd.tup R.gh
      have dt : Dq X.K G (.ref a) (.tuple xs) := by
        rcases rd with rd | ⟨_, _, _, _, c, _⟩
        · exact rd
        · cases c
      have n1 := dpa_length d1
      refine ⟨a, vs, rfl, s1.sq, fun w => ?_, fun _ p o n ho => ?_⟩
      · have : cutD xs l u = xs := by
          unfold cutD
          rw [← n1, w.1, w.2, List.drop_zero, Nat.sub_zero, n1, List.take_length]
        have q' : zpost X W σ rhoD F G Mu Q (.ok (.tuple (cutD xs l u)) Γ) := q
        rw [this] at q'
        exact q' _ _ G (Same.refl _) R dt
      · have E := Ext.new (o := .frz o (.tup (cutV vs l u))) R.gh n
        exact q _ _ _ E.g (R.ext E) (show rhoD _ _ _ _ _ _ _ (.tuple (cutD xs l u)) _ from .tup (.new ho) (dpAll_mono E.g _ _ (dpa_cut l u d1)))
    | _ => exact q.elim
theorem do_cutL {m : M Rs} {a b : M (Option Int)} (h : DV X e m) (ha : DPo X lo a) (hb : DPo X hi b) : DO X (.Subscript e (.Slice lo hi none p2) pos) (dCutL m a b) := fun W tk => by
  refine pe_imp (pe_slice sl_list (h W tk) (ha W tk) (hb W tk)) fun σ H Q p => ?_
  refine (zt_bnd3 p).imp fun v H1 q1 => q1.imp fun l H2 q2 => q2.imp fun u H3 ⟨r, F, G, Mu, Γ, R, h1, q⟩ => ?_
  cases e1 : vl Γ r with
  | none => rw [e1] at q; exact q.elim
  | some x =>
    rw [e1] at q
    have rd := R.read h1 e1
    cases x with
    | list xs =>
      obtain ⟨a, vs, rfl, s1, d1⟩ := rd.list R.gh
      refine ⟨a, vs, rfl, s1, fun p n => ?_⟩
      obtain ⟨R', o⟩ := R.newO n (dpa_cut l u d1)
      exact q _ _ G (Same.refl _) R' o
    | _ => exact q.elim
end
end Z
set_option Elab.async false
set_option linter.all false
set_option maxRecDepth 100000
set_option autoImplicit false
set_option maxHeartbeats 1000000
namespace Z
open PySem PySem.Spec PyProof.Rows L2

/-! ### displays -/
def dTup (m : M (List D)) : M D := bnd m fun xs => if xs.length ≤ sizeLine then rt (.tuple xs) else fun _ => .bad
def dLst (m : M (List D)) : M (List D) := bnd m fun xs => if xs.length ≤ sizeLine then rt xs else fun _ => .bad
section
variable {X : Cx} {a b c e : Expr} {es : List Expr} {pos : Pos}
theorem dp_tup {k} {m : M (List D)} (h : DPs X es m) : DP X (.Tuple es k pos) (dTup m) := fun W tk => by
  refine pe_imp (pe_tupZ (h W tk)) fun σ H Q p => ?_
  refine (zt_bnd (ρ := rhoDs) p).imp fun vs H1 ⟨xs, F, G, Mu, Γ, R, h1, q⟩ => ?_
  have n1 := dpa_length h1
  split at q
  · rename_i hz
    refine ⟨by omega, fun p o n ho => ?_⟩
    have E := Ext.new (o := .frz o (.tup vs)) R.gh n
    exact q _ _ _ E.g (R.ext E) (show rhoD _ _ _ _ _ _ _ (.tuple xs) _ from .tup (.new ho) (dpAll_mono E.g _ _ h1))
  · exact q.elim
theorem do_lst {m : M (List D)} (h : DPs X es m) : DO X (.List es pos) (dLst m) := fun W tk => by
  refine pe_imp (pe_lst (h W tk)) fun σ H Q p => ?_
  refine (zt_bnd (ρ := rhoDs) p).imp fun vs H1 ⟨xs, F, G, Mu, Γ, R, h1, q⟩ => ?_
  have n1 := dpa_length h1
  split at q
  · rename_i hz
    refine ⟨by omega, fun p n => ?_⟩
    obtain ⟨R', o⟩ := R.newO n h1
    exact q _ _ G (Same.refl _) R' o
  · exact q.elim

/-! ### calls of built-ins -/
theorem dp_callB {id : String} {f : List D → Option D} {x : Str} {p : Pos} {m : M (List Rs)} (hc : CallR X (.builtin id) (rDN X.K f)) (hg : Gl X x) (hm : X.mg x = none) (hv : bootBuiltins x = some (.builtin id)) (ha : DVs X (e :: es) m)
    (hn : x ≠ "__name__" := by decide) (hdb : (x == ("__debug__" : Str)) = false := by decide) (he : starEach (e :: es) X.env = (false, eval e X.env) :: starEach es X.env := by rfl) (hpl : (backTo pos (starEach es X.env)).any (·.1) = false := by rfl) :
    DP X (.Call (.Name x p) (e :: es) [] pos) (opN f m) := fun W tk => pe_imp (pe_callB hc hg hm hv (ha W tk) hn hdb he hpl) fun _ _ _ p => opN_run p
theorem dp_callTy {T : String} {f : List D → Option D} {x : Str} {p : Pos} {m : M (List Rs)} (hc : CallR X (.type T) (rDN X.K f)) (hg : Gl X x) (hm : X.mg x = none) (hv : bootBuiltins x = some (.type T)) (ha : DVs X (e :: es) m)
    (hn : x ≠ "__name__" := by decide) (hdb : (x == ("__debug__" : Str)) = false := by decide) (he : starEach (e :: es) X.env = (false, eval e X.env) :: starEach es X.env := by rfl) (hpl : (backTo pos (starEach es X.env)).any (·.1) = false := by rfl) :
    DP X (.Call (.Name x p) (e :: es) [] pos) (opN f m) := fun W tk => pe_imp (pe_callTy hc hg hm hv (ha W tk) hn hdb he hpl) fun _ _ _ p => opN_run p
theorem do_callB {id : String} {f : List D → Option (List D)} {x : Str} {p : Pos} {m : M (List Rs)} (hc : CallR X (.builtin id) (rON X.K f)) (hg : Gl X x) (hm : X.mg x = none) (hv : bootBuiltins x = some (.builtin id)) (ha : DVs X (e :: es) m)
    (hn : x ≠ "__name__" := by decide) (hdb : (x == ("__debug__" : Str)) = false := by decide) (he : starEach (e :: es) X.env = (false, eval e X.env) :: starEach es X.env := by rfl) (hpl : (backTo pos (starEach es X.env)).any (·.1) = false := by rfl) :
    DO X (.Call (.Name x p) (e :: es) [] pos) (opNo f m) := fun W tk => pe_imp (pe_callB hc hg hm hv (ha W tk) hn hdb he hpl) fun _ _ _ p => opNo_run p
theorem do_callTy {T : String} {f : List D → Option (List D)} {x : Str} {p : Pos} {m : M (List Rs)} (hc : CallR X (.type T) (rON X.K f)) (hg : Gl X x) (hm : X.mg x = none) (hv : bootBuiltins x = some (.type T)) (ha : DVs X (e :: es) m)
    (hn : x ≠ "__name__" := by decide) (hdb : (x == ("__debug__" : Str)) = false := by decide) (he : starEach (e :: es) X.env = (false, eval e X.env) :: starEach es X.env := by rfl) (hpl : (backTo pos (starEach es X.env)).any (·.1) = false := by rfl) :
    DO X (.Call (.Name x p) (e :: es) [] pos) (opNo f m) := fun W tk => pe_imp (pe_callTy hc hg hm hv (ha W tk) hn hdb he hpl) fun _ _ _ p => opNo_run p
end
def toInts : List D → Option (List Int)
  | [] => some []
  | .int i :: r => (toInts r).map (i :: ·)
  | _ :: _ => none
def toBools : List D → Option (List Bool)
  | [] => some []
  | .bool i :: r => (toBools r).map (i :: ·)
  | _ :: _ => none
theorem toInts_ok : ∀ {xs : List D} {ns : List Int}, toInts xs = some ns → xs = ns.map PyData.int
  | [], _, h => by cases h; rfl
  | x :: r, ns, h => by
    unfold toInts at h
    split at h
    · cases ‹_ = []›
    · rename_i i r' e
      cases e
      obtain ⟨ms, h1, h2⟩ := Option.map_eq_some_iff.mp h
      subst h2
      rw [toInts_ok h1]
      rfl
    · cases h
theorem toInts_map (ns : List Int) : toInts (ns.map PyData.int) = some ns := by
  induction ns with
  | nil => rfl
  | cons n r ih =>
    show (toInts (r.map PyData.int)).map (n :: ·) = _
    rw [ih]
    rfl
theorem toBools_ok : ∀ {xs : List D} {ns : List Bool}, toBools xs = some ns → xs = ns.map PyData.bool
  | [], _, h => by cases h; rfl
  | x :: r, ns, h => by
    unfold toBools at h
    split at h
    · cases ‹_ = []›
    · rename_i i r' e
      cases e
      obtain ⟨ms, h1, h2⟩ := Option.map_eq_some_iff.mp h
      subst h2
      rw [toBools_ok h1]
      rfl
    · cases h
theorem toBools_map (ns : List Bool) : toBools (ns.map PyData.bool) = some ns := by
  induction ns with
  | nil => rfl
  | cons n r ih =>
    show (toBools (r.map PyData.bool)).map (n :: ·) = _
    rw [ih]
    rfl
theorem dpa_bools' {K : PySem.W.Frag} {G : Hp} : ∀ {ns : List Bool} {vs : List V}, DqAll K G vs (ns.map PyData.bool) → vs = ns.map V.bl
  | [], _, h => by cases h; rfl
  | n :: ns, _, h => by
    cases h with
    | cons a b =>
      cases a
      rw [dpa_bools' b]
      rfl
def fLen : List D → Option D
  | [.list xs] => some (.int xs.length)
  | [.tuple xs] => some (.int xs.length)
  | [.str z] => if z.length ≤ sizeLine then some (.int z.length) else none
  | _ => none
def fInt : List D → Option D
  | [.int i] => some (.int i)
  | [.bool b] => some (.int (if b then 1 else 0))
  | _ => none
def lmax : Int → List Int → Int
  | m, [] => m
  | m, x :: r => lmax (if x > m then x else m) r
def lmin : Int → List Int → Int
  | m, [] => m
  | m, x :: r => lmin (if x < m then x else m) r
theorem lmax_spec : ∀ (r : List Int) (m : Int), (lmax m r = m ∨ lmax m r ∈ r) ∧ m ≤ lmax m r ∧ ∀ y ∈ r, y ≤ lmax m r
  | [], m => ⟨.inl rfl, Int.le_refl _, fun _ h => nomatch h⟩
  | x :: r, m => by
    obtain ⟨h1, h2, h3⟩ := lmax_spec r (if x > m then x else m)
    show (lmax (if x > m then x else m) r = m ∨ lmax (if x > m then x else m) r ∈ x :: r) ∧ m ≤ lmax (if x > m then x else m) r ∧ ∀ y ∈ x :: r, y ≤ lmax (if x > m then x else m) r
    refine ⟨?_, ?_, fun y hy => ?_⟩
    · rcases h1 with h1 | h1
      · by_cases hx : x > m
        · rw [if_pos hx] at h1 ⊢
          rw [h1]
          exact .inr List.mem_cons_self
        · rw [if_neg hx] at h1 ⊢
          exact .inl h1
      · exact .inr (List.mem_cons_of_mem _ h1)
    · refine Int.le_trans ?_ h2
      split <;> omega
    · rcases List.mem_cons.mp hy with e | hy
      · subst e
        refine Int.le_trans ?_ h2
        split <;> omega
      · exact h3 y hy
theorem lmin_spec : ∀ (r : List Int) (m : Int), (lmin m r = m ∨ lmin m r ∈ r) ∧ lmin m r ≤ m ∧ ∀ y ∈ r, lmin m r ≤ y
  | [], m => ⟨.inl rfl, Int.le_refl _, fun _ h => nomatch h⟩
  | x :: r, m => by
    obtain ⟨h1, h2, h3⟩ := lmin_spec r (if x < m then x else m)
    show (lmin (if x < m then x else m) r = m ∨ lmin (if x < m then x else m) r ∈ x :: r) ∧ lmin (if x < m then x else m) r ≤ m ∧ ∀ y ∈ x :: r, lmin (if x < m then x else m) r ≤ y
    refine ⟨?_, ?_, fun y hy => ?_⟩
    · rcases h1 with h1 | h1
      · by_cases hx : x < m
        · rw [if_pos hx] at h1 ⊢
          rw [h1]
          exact .inr List.mem_cons_self
        · rw [if_neg hx] at h1 ⊢
          exact .inl h1
      · exact .inr (List.mem_cons_of_mem _ h1)
    · refine Int.le_trans h2 ?_
      split <;> omega
    · rcases List.mem_cons.mp hy with e | hy
      · subst e
        refine Int.le_trans h2 ?_
        split <;> omega
      · exact h3 y hy
theorem the_max {ns : List Int} {a b : Int} (ha : a ∈ ns) (hb : b ∈ ns) (h1 : ∀ y ∈ ns, y ≤ a) (h2 : ∀ y ∈ ns, y ≤ b) : a = b := Int.le_antisymm (h2 a ha) (h1 b hb)
theorem the_min {ns : List Int} {a b : Int} (ha : a ∈ ns) (hb : b ∈ ns) (h1 : ∀ y ∈ ns, a ≤ y) (h2 : ∀ y ∈ ns, b ≤ y) : a = b := Int.le_antisymm (h1 b hb) (h2 a ha)
def fMax : List D → Option D
  | [.int i, .int j] => some (.int (if j > i then j else i))
  | [.list xs] => match toInts xs with
    | some (n :: ns) => some (.int (lmax n ns))
    | _ => none
  | _ => none
def fMin : List D → Option D
  | [.int i, .int j] => some (.int (if j < i then j else i))
  | [.list xs] => match toInts xs with
    | some (n :: ns) => some (.int (lmin n ns))
    | _ => none
  | _ => none
def fSum : List D → Option D
  | [.list xs] => (toInts xs).map fun ns => .int ns.sum
  | _ => none
def fAll : List D → Option D
  | [.list xs] => (toBools xs).map fun bs => .bool (bs.all id)
  | _ => none
def fAny : List D → Option D
  | [.list xs] => (toBools xs).map fun bs => .bool (bs.any id)
  | _ => none
def fList : List D → Option (List D)
  | [.list xs] => some xs
  | [.tuple xs] => some xs
  | _ => none
def fTuple : List D → Option D
  | [.list xs] => some (.tuple xs)
  | [.tuple xs] => some (.tuple xs)
  | _ => none
section
variable {X : Cx}
theorem cd_len : CallR X (.builtin "len") (rDN X.K fLen) := by
  intro pins s σ H vs us Q I r h
  obtain ⟨G, xs, z, gh, rd, e, q⟩ := h
  unfold fLen at e
  split at e
  · cases e
    obtain ⟨v, rfl, rv⟩ := rd.one
    obtain ⟨l, ws, rfl, s1, d1⟩ := rv.list gh
    rw [← dpa_length d1] at q
    exact call_len_seq pins s σ H _ us Q I r ⟨l, ws, rfl, .inl s1, q _ _ _ (Ext.refl gh) (.int _)⟩
  · cases e
    obtain ⟨v, rfl, rv⟩ := rd.one
    obtain ⟨l, ws, rfl, s1, d1⟩ := rv.tup gh
    rw [← dpa_length d1] at q
    exact call_len_seq pins s σ H _ us Q I r ⟨l, ws, rfl, .inr s1.sq, q _ _ _ (Ext.refl gh) (.int _)⟩
  · split at e
    · cases e
      obtain ⟨v, rfl, rv⟩ := rd.one
      have e1 := rv.str
      subst e1
      exact call_len_str pins s σ H _ us Q I r ⟨_, rfl, by assumption, q _ _ _ (Ext.refl gh) (.int _)⟩
    · cases e
  · cases e
theorem cd_int : CallR X (.type "int") (rDN X.K fInt) := by
  intro pins s σ H vs us Q I r h
  obtain ⟨G, xs, z, gh, rd, e, q⟩ := h
  unfold fInt at e
  split at e
  · cases e
    obtain ⟨v, rfl, rv⟩ := rd.one
    have e1 := rv.int
    subst e1
    exact call_int1 pins s σ H _ us Q I r (.inl ⟨_, rfl, q _ _ _ (Ext.refl gh) (.int _)⟩)
  · cases e
    obtain ⟨v, rfl, rv⟩ := rd.one
    have e1 := rv.bool
    subst e1
    exact call_int1 pins s σ H _ us Q I r (.inr ⟨_, rfl, q _ _ _ (Ext.refl gh) (.int _)⟩)
  · cases e
theorem cd_max (hc : X.calm = true) : CallR X (.builtin "max") (rDN X.K fMax) := by
  intro pins s σ H vs us Q I r h
  obtain ⟨G, xs, z, gh, rd, e, q⟩ := h
  unfold fMax at e
  split at e
  · cases e
    obtain ⟨v, u, rfl, r1, r2⟩ := rd.two
    have e1 := r1.int
    have e2 := r2.int
    subst e1 e2
    exact call_max2 hc pins s σ H _ us Q I r ⟨_, _, rfl, q _ _ _ (Ext.refl gh) (.int _)⟩
  · rename_i xs'
    split at e
    · rename_i n ns hi
      cases e
      obtain ⟨v, rfl, rv⟩ := rd.one
      obtain ⟨l, ws, rfl, s1, d1⟩ := rv.list gh
      rw [toInts_ok hi] at d1
      have e1 := dpa_ints' d1
      subst e1
      refine cr_max hc pins s σ H _ us Q I r ⟨l, n :: ns, rfl, s1, by simp, fun m hm hy => ?_⟩
      obtain ⟨k1, k2, k3⟩ := lmax_spec ns n
      have e2 : m = lmax n ns := the_max hm (by rcases k1 with k | k <;> simp [k]) hy fun y hy => by
        rcases List.mem_cons.mp hy with e | hy
        · subst e
          exact k2
        · exact k3 y hy
      rw [e2]
      exact q _ _ _ (Ext.refl gh) (.int _)
    · cases e
  · cases e
theorem cd_min (hc : X.calm = true) : CallR X (.builtin "min") (rDN X.K fMin) := by
  intro pins s σ H vs us Q I r h
  obtain ⟨G, xs, z, gh, rd, e, q⟩ := h
  unfold fMin at e
  split at e
  · cases e
    obtain ⟨v, u, rfl, r1, r2⟩ := rd.two
    have e1 := r1.int
    have e2 := r2.int
    subst e1 e2
    exact call_min2 hc pins s σ H _ us Q I r ⟨_, _, rfl, q _ _ _ (Ext.refl gh) (.int _)⟩
  · rename_i xs'
    split at e
    · rename_i n ns hi
      cases e
      obtain ⟨v, rfl, rv⟩ := rd.one
      obtain ⟨l, ws, rfl, s1, d1⟩ := rv.list gh
      rw [toInts_ok hi] at d1
      have e1 := dpa_ints' d1
      subst e1
      refine cr_min hc pins s σ H _ us Q I r ⟨l, n :: ns, rfl, s1, by simp, fun m hm hy => ?_⟩
      obtain ⟨k1, k2, k3⟩ := lmin_spec ns n
      have e2 : m = lmin n ns := the_min hm (by rcases k1 with k | k <;> simp [k]) hy fun y hy => by
        rcases List.mem_cons.mp hy with e | hy
        · subst e
          exact k2
        · exact k3 y hy
      rw [e2]
      exact q _ _ _ (Ext.refl gh) (.int _)
    · cases e
  · cases e
theorem cd_sum (hc : X.calm = true) : CallR X (.builtin "sum") (rDN X.K fSum) := by
  intro pins s σ H vs us Q I r h
  obtain ⟨G, xs, z, gh, rd, e, q⟩ := h
  unfold fSum at e
  split at e
  · obtain ⟨ns, hi, e⟩ := Option.map_eq_some_iff.mp e
    cases e
    obtain ⟨v, rfl, rv⟩ := rd.one
    obtain ⟨l, ws, rfl, s1, d1⟩ := rv.list gh
    rw [toInts_ok hi] at d1
    have e1 := dpa_ints' d1
    subst e1
    exact cr_sum hc pins s σ H _ us Q I r ⟨l, ns, rfl, s1, q _ _ _ (Ext.refl gh) (.int _)⟩
  · cases e
theorem cd_all (hc : X.calm = true) : CallR X (.builtin "all") (rDN X.K fAll) := by
  intro pins s σ H vs us Q I r h
  obtain ⟨G, xs, z, gh, rd, e, q⟩ := h
  unfold fAll at e
  split at e
  · obtain ⟨ns, hi, e⟩ := Option.map_eq_some_iff.mp e
    cases e
    obtain ⟨v, rfl, rv⟩ := rd.one
    obtain ⟨l, ws, rfl, s1, d1⟩ := rv.list gh
    rw [toBools_ok hi] at d1
    have e1 := dpa_bools' d1
    subst e1
    exact cr_all hc pins s σ H _ us Q I r ⟨l, ns, rfl, s1, q _ _ _ (Ext.refl gh) (.bl _)⟩
  · cases e
theorem cd_any (hc : X.calm = true) : CallR X (.builtin "any") (rDN X.K fAny) := by
  intro pins s σ H vs us Q I r h
  obtain ⟨G, xs, z, gh, rd, e, q⟩ := h
  unfold fAny at e
  split at e
  · obtain ⟨ns, hi, e⟩ := Option.map_eq_some_iff.mp e
    cases e
    obtain ⟨v, rfl, rv⟩ := rd.one
    obtain ⟨l, ws, rfl, s1, d1⟩ := rv.list gh
    rw [toBools_ok hi] at d1
    have e1 := dpa_bools' d1
    subst e1
    exact cr_any hc pins s σ H _ us Q I r ⟨l, ns, rfl, s1, q _ _ _ (Ext.refl gh) (.bl _)⟩
  · cases e
theorem cd_list : CallR X (.type "list") (rON X.K fList) := by
  intro pins s σ H vs us Q I r h
  obtain ⟨G, xs, zs, gh, rd, e, q⟩ := h
  unfold fList at e
  split at e
  · cases e
    obtain ⟨v, rfl, rv⟩ := rd.one
    obtain ⟨l, ws, rfl, s1, d1⟩ := rv.list gh
    exact call_list_of pins s σ H _ us Q I r ⟨l, ws, rfl, .inl s1, fun p n => q p ws n d1⟩
  · cases e
    obtain ⟨v, rfl, rv⟩ := rd.one
    obtain ⟨l, ws, rfl, s1, d1⟩ := rv.tup gh
    exact call_list_of pins s σ H _ us Q I r ⟨l, ws, rfl, .inr s1.sq, fun p n => q p ws n d1⟩
  · cases e
theorem cd_tuple : CallR X (.type "tuple") (rDN X.K fTuple) := by
  intro pins s σ H vs us Q I r h
  obtain ⟨G, xs, zs, gh, rd, e, q⟩ := h
  unfold fTuple at e
  split at e
  · cases e
    obtain ⟨v, rfl, rv⟩ := rd.one
    obtain ⟨l, ws, rfl, s1, d1⟩ := rv.list gh
    refine call_tupleZ pins s σ H _ us Q I r ⟨l, ws, rfl, .inl ⟨s1, fun p o n ho => ?_⟩⟩
    have E := Ext.new (o := .frz o (.tup ws)) gh n
    exact q _ _ _ E (.tup (.new ho) (dpAll_mono E.g _ _ d1))
  · cases e
    obtain ⟨v, rfl, rv⟩ := rd.one
    obtain ⟨l, ws, rfl, s1, d1⟩ := rv.tup gh
    refine call_tupleZ pins s σ H _ us Q I r ⟨l, ws, rfl, .inr ⟨s1.sq, ?_⟩⟩
    rcases rv with rv | ⟨_, _, _, _, c, _⟩
    · exact q _ _ _ (Ext.refl gh) rv
    · cases c
  · cases e
end
end Z
set_option Elab.async false
set_option linter.all false
set_option maxRecDepth 100000
set_option autoImplicit false
set_option maxHeartbeats 1000000
namespace Z
open PySem PySem.Spec PyProof.Rows L2

/-! ### tests -/
def dB (m : M D) : M Bool := bnd m fun x => match x with
  | .bool b => rt b
  | _ => fun _ => .bad
/-- a test as a value -/
def dBv (m : M Bool) : M D := bnd m fun b => rt (.bool b)
def dNot (m : M Bool) : M Bool := bnd m fun b => rt (!b)
def dAnd (m n : M Bool) : M Bool := bnd m fun b => if b = true then n else rt false
def dOr (m n : M Bool) : M Bool := bnd m fun b => if b = true then rt true else n
def dIfE (t : M Bool) (m n : M D) : M D := bnd t fun b => if b = true then m else n
def dAndV (m n : M D) : M D := bnd m fun x => match x with
  | .bool b => if b = true then n else rt (.bool false)
  | _ => fun _ => .bad
def dOrV (m n : M D) : M D := bnd m fun x => match x with
  | .bool b => if b = true then rt (.bool true) else n
  | _ => fun _ => .bad
def dNotV (m : M D) : M D := bnd m fun x => match x with
  | .bool b => rt (.bool (!b))
  | _ => fun _ => .bad
section
variable {X : Cx} {a b c e : Expr} {rest : List Expr} {pos : Pos}
theorem b_run {W : WX} {σ : St} {H : Hp} {m : M D} {Q : Bool → Hp → Prop} (p : zt X W rhoB (dB m) σ H Q) : zt X W rhoD m σ H fun v H1 => ∃ k, v = .bl k ∧ Q k H1 := by
  refine (zt_bnd (ρ := rhoD) p).imp fun v H1 ⟨r, F, G, Mu, Γ, R, h1, q⟩ => ?_
  cases r with
  | bool k =>
    cases h1
    exact ⟨k, rfl, zpost_ok R (show rhoB _ _ _ _ _ _ _ k k from rfl) q⟩
  | _ => exact q.elim
theorem dt_val {m : M D} (h : DP X e m) (he : ∀ whole, isTrue e X.env whole = (do let v ← whole; standAt e.pos; holding [v] (truthy v)) := by intro _; rfl) : DT X e (dB m) := fun W tk =>
  pt_imp (pt_val (h W tk) he) fun σ H Q p => b_run p
theorem dt_cmp {op : CmpOp} {f : D → D → Option D} {m n : M Rs} (ho : OpR X (compareOp op) (rD2 X.K f)) (ha : DV X a m) (hb : DV X b n) (hm : behindInMarks op b = false) : DT X (.Compare a [op] [b] pos) (dB (op2 f m n)) := fun W tk =>
  pt_imp (pt_cmpR ho (ha W tk) (hb W tk) hm) fun σ H Q p => op2_run (b_run p)
theorem dt_not {m : M Bool} (h : DT X a m) : DT X (.UnaryOp .Not a pos) (dNot m) := fun W tk => pt_imp (pt_not (h W tk)) fun σ H Q p => by
  refine (zt_bnd (ρ := rhoB) p).imp fun v H1 ⟨r, F, G, Mu, Γ, R, h1, q⟩ => ?_
  have e0 : r = v := h1
  subst e0
  exact zpost_ok R (show rhoB _ _ _ _ _ _ _ (!r) (!r) from rfl) q
theorem dw_and1 {m : M Bool} (h : DT X a m) : DW X (.BoolOp .And [a] pos) m := fun W tk => pw_and1 (h W tk)
theorem dw_or1 {m : M Bool} (h : DT X a m) : DW X (.BoolOp .Or [a] pos) m := fun W tk => pw_or1 (h W tk)
theorem dw_and {m n : M Bool} (h : DT X a m) (k : DW X (.BoolOp .And (b :: rest) pos) n) : DW X (.BoolOp .And (a :: b :: rest) pos) (dAnd m n) := fun W tk => pw_imp (pw_and (h W tk) (k W tk)) fun σ H Q p => by
  refine (zt_bnd (ρ := rhoB) p).imp fun v H1 ⟨r, F, G, Mu, Γ, R, h1, q⟩ => ?_
  have e0 : r = v := h1
  subst e0
  cases r with
  | true => exact ⟨F, G, Mu, Γ, R, q⟩
  | false => exact zpost_ok R (show rhoB _ _ _ _ _ _ _ false false from rfl) q
theorem dw_or {m n : M Bool} (h : DT X a m) (k : DW X (.BoolOp .Or (b :: rest) pos) n) : DW X (.BoolOp .Or (a :: b :: rest) pos) (dOr m n) := fun W tk => pw_imp (pw_or (h W tk) (k W tk)) fun σ H Q p => by
  refine (zt_bnd (ρ := rhoB) p).imp fun v H1 ⟨r, F, G, Mu, Γ, R, h1, q⟩ => ?_
  have e0 : r = v := h1
  subst e0
  cases r with
  | false => exact ⟨F, G, Mu, Γ, R, q⟩
  | true => exact zpost_ok R (show rhoB _ _ _ _ _ _ _ true true from rfl) q
theorem dt_w {m : M Bool} (h : DW X e m) : DT X e m := fun W tk => (h W tk).pt
theorem dp_ifE {t : M Bool} {m n : M D} (ht : DT X c t) (ha : DP X a m) (hb : DP X b n) : DP X (.IfExp c a b pos) (dIfE t m n) := fun W tk => pe_imp (pe_ifExp (ht W tk) (ha W tk) (hb W tk)) fun σ H Q p => by
  refine (zt_bnd (ρ := rhoB) p).imp fun v H1 ⟨r, F, G, Mu, Γ, R, h1, q⟩ => ?_
  have e0 : r = v := h1
  subst e0
  cases r with
  | true => exact ⟨F, G, Mu, Γ, R, q⟩
  | false => exact ⟨F, G, Mu, Γ, R, q⟩
theorem dp_one {op} {m : M D} (h : DP X a m) : DP X (.BoolOp op [a] pos) m := fun W tk => pe_one (h W tk)
theorem dp_and {m n : M D} (h : DP X a m) (k : DP X (.BoolOp .And (b :: rest) pos) n) : DP X (.BoolOp .And (a :: b :: rest) pos) (dAndV m n) := fun W tk => pe_imp (pe_and (h W tk) (k W tk)) fun σ H Q p => by
  refine (zt_bnd (ρ := rhoD) p).imp fun v H1 ⟨r, F, G, Mu, Γ, R, h1, q⟩ => ?_
  cases r with
  | bool k =>
    cases h1
    refine ⟨k, rfl, ?_⟩
    cases k with
    | true => exact ⟨F, G, Mu, Γ, R, q⟩
    | false => exact zpost_ok R (show rhoD _ _ _ _ _ _ _ (.bool false) (.bl false) from .bl _) q
  | _ => exact q.elim
theorem dp_or {m n : M D} (h : DP X a m) (k : DP X (.BoolOp .Or (b :: rest) pos) n) : DP X (.BoolOp .Or (a :: b :: rest) pos) (dOrV m n) := fun W tk => pe_imp (pe_or (h W tk) (k W tk)) fun σ H Q p => by
  refine (zt_bnd (ρ := rhoD) p).imp fun v H1 ⟨r, F, G, Mu, Γ, R, h1, q⟩ => ?_
  cases r with
  | bool k =>
    cases h1
    refine ⟨k, rfl, ?_⟩
    cases k with
    | false => exact ⟨F, G, Mu, Γ, R, q⟩
    | true => exact zpost_ok R (show rhoD _ _ _ _ _ _ _ (.bool true) (.bl true) from .bl _) q
  | _ => exact q.elim
theorem dp_not {m : M D} (h : DP X a m) : DP X (.UnaryOp .Not a pos) (dNotV m) := fun W tk => pe_imp (pe_not (h W tk)) fun σ H Q p => by
  refine (zt_bnd (ρ := rhoD) p).imp fun v H1 ⟨r, F, G, Mu, Γ, R, h1, q⟩ => ?_
  cases r with
  | bool k =>
    cases h1
    exact ⟨k, rfl, zpost_ok R (show rhoD _ _ _ _ _ _ _ (.bool (!k)) (.bl (!k)) from .bl _) q⟩
  | _ => exact q.elim
end

/-! ### a op b op c -/
def dChain (f g : D → D → Option D) (m n o : M Rs) : M D := bnd m fun r => bnd n fun s => fun Γ => match vl Γ r, vl Γ s with
  | some x, some y => match f x y with
    | some (.bool k) => if k = true then bnd o (fun t => fun Γ' => match vl Γ' s, vl Γ' t with
      | some y', some z => match g y' z with
        | some w => .ok w Γ'
        | none => .bad
      | _, _ => .bad) Γ else .ok (.bool false) Γ
    | _ => .bad
  | _, _ => .bad
section
variable {X : Cx} {a b c : Expr} {pos : Pos} {f g : D → D → Option D}
theorem chain_run {W : WX} {σ : St} {H : Hp} {Q : VK} {m n o : M Rs} (p : zt X W rhoD (dChain f g m n o) σ H Q) : tChain (rD2 X.K f) (rD2 X.K g) (zt X W rhoR m) (zt X W rhoR n) (zt X W rhoR o) σ H Q := by
  refine (zt_bnd2 (ρ := rhoR) (ρ' := rhoR) stR p).imp fun v H1 q => q.imp fun u H2 ⟨r, s, F, G, Mu, Γ, R, h1, h2, q2⟩ => ?_
  cases e1 : vl Γ r with
  | none => rw [e1] at q2; exact q2.elim
  | some x =>
    cases e2 : vl Γ s with
    | none => rw [e1, e2] at q2; exact q2.elim
    | some y =>
      rw [e1, e2] at q2
      dsimp only at q2
      cases e3 : f x y with
      | none => rw [e3] at q2; exact q2.elim
      | some z =>
        rw [e3] at q2
        refine ⟨G, x, y, z, R.gh, R.read h1 e1, R.read h2 e2, e3, fun w H' G' ex d => ?_⟩
        cases z with
        | bool k =>
          cases d
          refine ⟨k, rfl, ?_⟩
          have R' := R.ext ex
          have q3 := q2.rebase ex.g
          cases k with
          | false => exact zpost_ok R' (show rhoD _ _ _ _ _ _ _ (.bool false) (.bl false) from .bl _) q3
          | true =>
            refine ⟨F, G', Mu, Γ, R', ?_⟩
            dsimp only at q3
            rw [if_pos rfl] at q3
            unfold bnd at q3
            cases e4 : o Γ with
            | bad => rw [e4] at q3; exact q3
            | ex c x Γ1 => rw [e4] at q3; exact q3
            | ok t Γ1 =>
              rw [e4] at q3
              dsimp only at q3
              refine fun w4 H4 G4 j1 R4 j2 => ?_
              cases e5 : vl Γ1 s with
              | none => rw [e5] at q3; exact q3.elim
              | some y' =>
                cases e6 : vl Γ1 t with
                | none => rw [e5, e6] at q3; exact q3.elim
                | some z' =>
                  rw [e5, e6] at q3
                  dsimp only at q3
                  cases e7 : g y' z' with
                  | none => rw [e7] at q3; exact q3.elim
                  | some w7 =>
                    rw [e7] at q3
                    refine ⟨G4, y', z', w7, R4.gh, R4.read (stR _ _ _ _ _ _ _ _ _ _ _ _ _ _ (ex.g.trans j1) h2) e5, R4.read j2 e6, e7, fun w H' G' ex' d => ?_⟩
                    exact q3 w H' G' (j1.trans ex'.g) (R4.ext ex') d
        | _ => exact q2.elim
theorem dp_chain {op op' : CmpOp} {m n o : M Rs} (ho : OpR X (compareOp op) (rD2 X.K f)) (ho' : OpR X (compareOp op') (rD2 X.K g)) (ha : DV X a m) (hb : DV X b n) (hc : DV X c o)
    (hm : lastMarks [op, op'] [b, c] = false := by with_unfolding_all rfl) : DP X (.Compare a [op, op'] [b, c] pos) (dChain f g m n o) := fun W tk => pe_imp (pe_chain ho ho' (ha W tk) (hb W tk) (hc W tk) hm) fun _ _ _ p => chain_run p
theorem dt_chain {op op' : CmpOp} {m n o : M Rs} (ho : OpR X (compareOp op) (rD2 X.K f)) (ho' : OpR X (compareOp op') (rD2 X.K g)) (ha : DV X a m) (hb : DV X b n) (hc : DV X c o)
    (hm : lastMarks [op, op'] [b, c] = false := by with_unfolding_all rfl) : DT X (.Compare a [op, op'] [b, c] pos) (dB (dChain f g m n o)) := fun W tk => pt_imp (pt_chain ho ho' (ha W tk) (hb W tk) (hc W tk) hm) fun _ _ _ p => chain_run (b_run p)
end

/-! ### isinstance of built-in classes -/
inductive Ty where
  | int | bool | str | list | tuple
def Ty.name : Ty → String
  | .int => "int"
  | .bool => "bool"
  | .str => "str"
  | .list => "list"
  | .tuple => "tuple"
def tyD : D → String
  | .none => "NoneType"
  | .bool _ => "bool"
  | .int _ => "int"
  | .str _ => "str"
  | .list _ => "list"
  | .tuple _ => "tuple"
  | .dict _ => "dict"
def isTy : D → Ty → Bool
  | .bool _, .int => true
  | .bool _, .bool => true
  | .int _, .int => true
  | .str _, .str => true
  | .list _, .list => true
  | .tuple _, .tuple => true
  | _, _ => false
def isTys (x : D) (ts : List Ty) : Bool := ts.any (isTy x)
def fIs (ts : List Ty) (x : D) : Option D := some (.bool (isTys x ts))
section
variable {X : Cx} {pos p p2 : Pos} {a : Expr}
theorem rdb_ty {K : PySem.W.Frag} {G H : Hp} {v : V} {x : D} (gh : Same G H) (r : Rdb K G H v x) : TyX K H v (.type (tyD x)) := by
  have d := r.dp gh
  cases d with
  | non => exact .base .non
  | bl b => exact .base (.bl b)
  | int i => exact .base (.int i)
  | str z => exact .base (.str z)
  | lst h1 h2 =>
    rcases h1 with (h1 | ⟨o, h1⟩) | ⟨o, _, _, h1, h3, _⟩
    · exact .base (.lst h1)
    · exact .base (.frz h1)
    · exact .kList h1 h3
  | tup h1 h2 =>
    rcases h1 with ⟨o, h1, _⟩ | ⟨o, _, _, h1, h3, _⟩
    · exact .fTuple h1
    · exact .kTuple h1 h3
theorem kit_D (K : PySem.W.Frag) (x : D) (h : ∀ kvs, x ≠ .dict kvs) : ∀ t : Ty, PySem.W.kitOne K (.type (tyD x)) (.type t.name) = some (isTy x t) := by
  intro t
  cases x with
  | dict kvs => exact absurd rfl (h kvs)
  | none => cases t <;> exact kit_ty (by decide +kernel)
  | bool b =>
    cases t
    · exact kit_ty (show kitB "bool" "int" = some (isTy (.bool true) .int) by decide +kernel)
    · exact kit_ty (show kitB "bool" "bool" = some (isTy (.bool true) .bool) by decide +kernel)
    · exact kit_ty (show kitB "bool" "str" = some (isTy (.bool true) .str) by decide +kernel)
    · exact kit_ty (show kitB "bool" "list" = some (isTy (.bool true) .list) by decide +kernel)
    · exact kit_ty (show kitB "bool" "tuple" = some (isTy (.bool true) .tuple) by decide +kernel)
  | int b =>
    cases t
    · exact kit_ty (show kitB "int" "int" = some (isTy (.int 0) .int) by decide +kernel)
    · exact kit_ty (show kitB "int" "bool" = some (isTy (.int 0) .bool) by decide +kernel)
    · exact kit_ty (show kitB "int" "str" = some (isTy (.int 0) .str) by decide +kernel)
    · exact kit_ty (show kitB "int" "list" = some (isTy (.int 0) .list) by decide +kernel)
    · exact kit_ty (show kitB "int" "tuple" = some (isTy (.int 0) .tuple) by decide +kernel)
  | str b =>
    cases t
    · exact kit_ty (show kitB "str" "int" = some (isTy (.str "") .int) by decide +kernel)
    · exact kit_ty (show kitB "str" "bool" = some (isTy (.str "") .bool) by decide +kernel)
    · exact kit_ty (show kitB "str" "str" = some (isTy (.str "") .str) by decide +kernel)
    · exact kit_ty (show kitB "str" "list" = some (isTy (.str "") .list) by decide +kernel)
    · exact kit_ty (show kitB "str" "tuple" = some (isTy (.str "") .tuple) by decide +kernel)
  | list b =>
    cases t
    · exact kit_ty (show kitB "list" "int" = some (isTy (.list []) .int) by decide +kernel)
    · exact kit_ty (show kitB "list" "bool" = some (isTy (.list []) .bool) by decide +kernel)
    · exact kit_ty (show kitB "list" "str" = some (isTy (.list []) .str) by decide +kernel)
    · exact kit_ty (show kitB "list" "list" = some (isTy (.list []) .list) by decide +kernel)
    · exact kit_ty (show kitB "list" "tuple" = some (isTy (.list []) .tuple) by decide +kernel)
  | tuple b =>
    cases t
    · exact kit_ty (show kitB "tuple" "int" = some (isTy (.tuple []) .int) by decide +kernel)
    · exact kit_ty (show kitB "tuple" "bool" = some (isTy (.tuple []) .bool) by decide +kernel)
    · exact kit_ty (show kitB "tuple" "str" = some (isTy (.tuple []) .str) by decide +kernel)
    · exact kit_ty (show kitB "tuple" "list" = some (isTy (.tuple []) .list) by decide +kernel)
    · exact kit_ty (show kitB "tuple" "tuple" = some (isTy (.tuple []) .tuple) by decide +kernel)
theorem kit_Ds (K : PySem.W.Frag) (x : D) (h : ∀ kvs, x ≠ .dict kvs) : ∀ ts : List Ty, PySem.W.kitAny K (.type (tyD x)) (ts.map fun t => Value.type t.name) = some (isTys x ts)
  | [] => kitAny_nil
  | t :: ts => kitAny_cons (kit_D K x h t) (fun e => by
      rw [kit_Ds K x h ts]
      show some (isTys x ts) = some (isTy x t || isTys x ts)
      rw [e, Bool.false_or]) (fun e => by
      show (isTy x t || isTys x ts) = true
      rw [e, Bool.true_or])
theorem rdb_nodict {K : PySem.W.Frag} {G H : Hp} {v : V} {x : D} (gh : Same G H) (r : Rdb K G H v x) : ∀ kvs, x ≠ .dict kvs := fun kvs e => by
  subst e
  cases r.dp gh
theorem dp_isi {T : Str} {t : Ty} {m : M Rs} (hg : Gl X "isinstance") (hm : X.mg "isinstance" = none) (ha : DV X a m) (hgT : Gl X T) (hmT : X.mg T = none) (hv : bootBuiltins T = some (.type t.name))
    (hnT : T ≠ "__name__" := by decide) (hdT : (T == ("__debug__" : Str)) = false := by decide) (hs : starEach [a, .Name T p2] X.env = (false, eval a X.env) :: starEach [.Name T p2] X.env := by rfl) (hs2 : starEach [.Name T p2] X.env = (false, eval (.Name T p2) X.env) :: starEach [] X.env := by rfl)
    (hpl : (backTo pos (starEach [.Name T p2] X.env)).any (·.1) = false := by rfl) :
    DP X (.Call (.Name "isinstance" p) [a, .Name T p2] [] pos) (op1 (fIs [t]) m) := fun W tk => by
  refine pe_imp (pe_callB call_isi hg hm (by decide +kernel) (pa_cons (ha W tk) (pa_cons (pe_bltn (v := .ty t.name) hgT hmT hv rfl hnT hdT) pa_nil hs2) hs) (he := hs) (hpl := hpl)) fun σ H Q p => ?_
  refine (op1_run p).imp fun v H1 ⟨G, dx, z, gh, r1, e, q⟩ => ?_
  cases e
  refine ⟨v, .ty t.name, .type (tyD dx), .type t.name, isTy dx t, rfl, .ty _, rdb_ty gh r1, kit_D _ _ (rdb_nodict gh r1) t, ?_⟩
  have q' := q (.bl (isTys dx [t])) H1 G (Ext.refl gh) (.bl _)
  have e2 : isTys dx [t] = isTy dx t := Bool.or_false _
  rw [e2] at q'
  exact q'
end
end Z
set_option Elab.async false
set_option linter.all false
set_option maxRecDepth 100000
set_option autoImplicit false
set_option maxHeartbeats 1000000
namespace Z
open PySem PySem.Spec PyProof.Rows L2

section
variable {K : PySem.W.Frag} {G H H' : Hp}
theorem Rdb.mono (e : Same H H') {v : V} {x : D} (h : Rdb K G H v x) : Rdb K G H' v x := by
  rcases h with h | ⟨l, vs, xs, rfl, rfl, h1, h2⟩
  · exact .inl h
  · exact .inr ⟨l, vs, xs, rfl, rfl, e.seq h1, h2⟩
end
/-! ### isinstance of one of several -/
def tTys (ts : List Ty) : TA := fun _ H Q => Q (ts.map fun t => V.ty t.name) H
section
variable {X : Cx} {pos p p2 : Pos} {a : Expr} {es : List Expr} {k : Nat}
theorem ty_nil : PA X [] (tTys []) := pa_nil
theorem ty_cons {T : Str} {t : Ty} {ts : List Ty} (hgT : Gl X T) (hmT : X.mg T = none) (hv : bootBuiltins T = some (.type t.name)) (h : PA X es (tTys ts))
    (hnT : T ≠ "__name__" := by decide) (hdT : (T == ("__debug__" : Str)) = false := by decide) (hs : starEach (.Name T p :: es) X.env = (false, eval (.Name T p) X.env) :: starEach es X.env := by rfl) : PA X (.Name T p :: es) (tTys (t :: ts)) :=
  pa_cons (pe_bltn (v := .ty t.name) hgT hmT hv rfl hnT hdT) h hs
theorem paired_cls : ∀ ts : List Ty, Paired ClsV (ts.map fun t => V.ty t.name) (ts.map fun t => Value.type t.name)
  | [] => .nil
  | t :: ts => .cons (.ty _) (paired_cls ts)
theorem dp_isiT {ts : List Ty} {m : M Rs} (hg : Gl X "isinstance") (hm : X.mg "isinstance" = none) (ha : DV X a m) (h : PA X es (tTys ts)) (hl : ts.length ≤ 100)
    (hs : starEach [a, .Tuple es k p2] X.env = (false, eval a X.env) :: starEach [.Tuple es k p2] X.env := by rfl) (hs2 : starEach [.Tuple es k p2] X.env = (false, eval (.Tuple es k p2) X.env) :: starEach [] X.env := by rfl)
    (hpl : (backTo pos (starEach [.Tuple es k p2] X.env)).any (·.1) = false := by rfl) :
    DP X (.Call (.Name "isinstance" p) [a, .Tuple es k p2] [] pos) (op1 (fIs ts) m) := fun W tk => by
  refine pe_imp (pe_callB call_isiT hg hm (by decide +kernel) (pa_cons (ha W tk) (pa_cons (pe_tup h) pa_nil hs2) hs) (he := hs) (hpl := hpl)) fun σ H Q p => ?_
  refine (zt_bnd (ρ := rhoR) p).imp fun v H1 ⟨r, F, G, Mu, Γ, R, h1, q⟩ => ?_
  have hz : sizeLine = 16777216 := sizeLine_eq
  refine ⟨by rw [List.length_map]; omega, fun tp n => ?_⟩
  cases e1 : vl Γ r with
  | none => rw [e1] at q; exact q.elim
  | some x =>
    rw [e1] at q
    have r1 := R.read h1 e1
    have gh2 := same_updR (o := .tup (ts.map fun t => V.ty t.name)) R.gh (R.gh.free n)
    have r2 := r1.mono (same_upd (o := .tup (ts.map fun t => V.ty t.name)) n)
    refine ⟨v, tp, _, .type (tyD x), _, isTys x ts, rfl, upd_same, paired_cls ts, rdb_ty gh2 r2, kit_Ds _ _ (rdb_nodict R.gh r1) ts, ?_⟩
    exact q _ _ G (Same.refl _) (R.newX n) (show rhoD _ _ _ _ _ _ _ (.bool (isTys x ts)) (.bl (isTys x ts)) from .bl _)
end

/-! ### lists put together, repeated -/
def fCat : D → D → Option (List D)
  | .list xs, .list ys => if xs.length + ys.length ≤ sizeLine then some (xs ++ ys) else none
  | _, _ => none
section
variable {X : Cx}
theorem or_cat : OpR X (binaryOp .Add) (rO2 X.K fCat) := by
  intro pins s σ H x y v u Q I rx ry h
  obtain ⟨G, dx, dy, zs, gh, r1, r2, e, q⟩ := h
  unfold fCat at e
  split at e
  · split at e
    · rename_i hz
      cases e
      obtain ⟨l1, vs1, rfl, s1, d1⟩ := r1.list gh
      obtain ⟨l2, vs2, rfl, s2, d2⟩ := r2.list gh
      have n1 := dpa_length d1
      have n2 := dpa_length d2
      cases rx
      cases ry
      obtain ⟨its, ra, ⟨o1, k1, e1, c1, dn1, t1⟩, _⟩ := I.list s1
      obtain ⟨its2, rb, ⟨o2, k2, e2, c2, dn2, t2⟩, _⟩ := I.list s2
      have m1 := ra.length
      have m2 := rb.length
      obtain ⟨cls1, dd1, dt1, sl1⟩ := o1
      obtain ⟨cls2, dd2, dt2, sl2⟩ := o2
      simp only at c1 dn1 t1 c2 dn2 t2
      subst c1 dn1 t1 c2 dn2 t2
      have ea : its.toArray ++ its2.toArray = (its ++ its2).toArray := by simp
      refine concat_meets ⟨_, e1, rfl⟩ ⟨_, e2, rfl⟩ noFill_list_add seq_list_add PySem.F.slot_list_add PySem.F.entry_list_add (PySem.F.args_list_add_2 _ _)
        (list_addW l1 l2 its.toArray its2.toArray k1 k2 none none sl1 sl2 (by rw [List.size_toArray, List.size_toArray]; omega)) ⟨e1, e2, ?_⟩
      rw [ea]
      exact ⟨.ref _, _, I.lnew (t' := s.toks) (ra.append rb) (by rw [List.length_append]; omega), rfl, q _ _ I.fresh (dpa_append d1 d2)⟩
    · cases e
  · cases e
end
/-- a new list that stays, told at its place -/
def rhoF : Rho (List D) V := fun K _ G _ _ _ _ xs v => ∃ l vs, v = .ref l ∧ G l = some (.lst vs) ∧ DqAll K G vs xs
def DF (X : Cx) (e : Expr) (m : M (List D)) : Prop := ∀ W, Takes X W → PE X e (zt X W rhoF m)
theorem stF : ∀ K F G Mu Γ σ H r v F' G' Mu' Γ' H', Same G G' → rhoF K F G Mu Γ σ H r v → rhoF K F' G' Mu' Γ' σ H' r v := fun _ _ _ _ _ _ _ _ _ _ _ _ _ _ e ⟨l, vs, h1, h2, h3⟩ => ⟨l, vs, h1, e _ _ h2, dpAll_mono e _ _ h3⟩
def fRep (xs : List D) (y : D) : Option (List D) := match y with
  | .int k => if -(2 ^ 63) ≤ k ∧ k < 2 ^ 63 ∧ xs.length * k.toNat ≤ sizeLine then some (List.replicate k.toNat xs).flatten else none
  | _ => none
def dRep (m : M (List D)) (n : M Rs) : M (List D) := bnd m fun xs => bnd n fun s => fun g => match vl g s with
  | none => .bad
  | some y => match fRep xs y with
    | none => .bad
    | some z => .ok z g
theorem dpa_rep {K : PySem.W.Frag} {G : Hp} {vs : List V} {xs : List D} (h : DqAll K G vs xs) : ∀ k : Nat, DqAll K G (List.replicate k vs).flatten (List.replicate k xs).flatten
  | 0 => .nil
  | k + 1 => by
    rw [List.replicate_succ, List.replicate_succ, List.flatten_cons, List.flatten_cons]
    exact dpa_append h (dpa_rep h k)
section
variable {X : Cx} {a b e : Expr} {pos : Pos}
theorem df_of {m : M (List D)} (h : DO X e m) : DF X e m := fun W tk => by
  refine pe_imp (h W tk) fun σ H Q ⟨F, G, Mu, Γ, R, p⟩ => ⟨F, G, Mu, Γ, R, ?_⟩
  cases e1 : m Γ with
  | bad => rw [e1] at p; exact p
  | ex c x Γ' => rw [e1] at p; exact p
  | ok xs Γ' =>
    rw [e1] at p
    intro v H' G' hs R' hr
    obtain ⟨l, vs, rfl, h1, h2, h3, h4, h5, h6⟩ := hr
    have hs2 : Same G' (upd G' l (.lst vs)) := same_upd h4
    have gh : Same (upd G' l (.lst vs)) H' := fun b x q => by
      by_cases hb : b = l
      · subst hb
        rw [upd_same] at q
        rw [h1]
        exact q
      · rw [upd_ne hb] at q
        exact R'.gh b x q
    refine p _ H' _ (hs.trans hs2) (R'.mono (Mu' := Mu) R'.fh hs2 gh (fun l' q => ?_) (fun i l' ho => ?_) (fun l' q => ?_)) ⟨l, vs, rfl, upd_same, dpAll_mono hs2 _ _ h2⟩
    · obtain ⟨_, m2, m3⟩ := R'.mu l' q
      have hne : l' ≠ l := fun z => h5 (by rw [q, z])
      rw [upd_ne hne]
      exact ⟨m2, m3⟩
    · have hne : l' ≠ l := fun z => h6 i (by rw [← z]; exact ho)
      rw [upd_ne hne]
      exact ⟨(R'.there ho).2.1, rfl⟩
    · rw [upd_ne (fun z => F.kf l' q (by rw [z]; exact h3))]
      exact R'.lk l' q
theorem do_rep {m : M (List D)} {n : M Rs} (ha : DF X a m) (hb : DV X b n) : DO X (.BinOp a .Mult b pos) (dRep m n) := fun W tk => by
  refine pe_imp (pe_op op_rep (ha W tk) (hb W tk)) fun σ H Q p => ?_
  refine (zt_bnd2 (ρ := rhoF) (ρ' := rhoR) stF p).imp fun v H1 q => q.imp fun u H2 ⟨xs, s, F, G, Mu, Γ, R, ⟨l, vs, ev, h1, h2⟩, h3, q2⟩ => ?_
  subst ev
  cases e2 : vl Γ s with
  | none => rw [e2] at q2; exact q2.elim
  | some y =>
    rw [e2] at q2
    dsimp only at q2
    cases y with
    | int k =>
      unfold fRep at q2
      dsimp only at q2
      split at q2
      · exact q2.elim
      · rename_i z ez
        split at ez
        · rename_i hk
          cases ez
          have e3 := (R.read h3 e2).int
          subst e3
          refine ⟨l, k, vs, rfl, rfl, R.gh _ _ h1, hk.1, hk.2.1, by rw [dpa_length h2]; exact hk.2.2, fun p n => ?_⟩
          obtain ⟨R', o⟩ := R.newO n (dpa_rep h2 k.toNat)
          exact q2 _ _ G (Same.refl _) R' o
        · cases ez
    | _ => exact q2.elim
end

/-! ### list(range(..)), tuple(range(..)) -/
def rgD (a b : Int) : List D := (List.range (b - a).toNat).map fun i => .int (a + (i : Nat))
theorem dpa_rg {K : PySem.W.Frag} {G : Hp} (a b : Int) : DqAll K G (rgV a b) (rgD a b) := by
  refine dpa_of_get (by unfold rgD rgV; rw [List.length_map, List.length_map]) fun i v d h1 h2 => ?_
  unfold rgV at h1
  unfold rgD at h2
  rw [List.getElem?_map] at h1 h2
  cases e : (List.range (b - a).toNat)[i]? with
  | none => rw [e] at h1; cases h1
  | some j =>
    rw [e] at h1 h2
    cases h1
    cases h2
    exact .int _
def okRg (a b : Int) : Bool := decide (-(2 ^ 62) ≤ a) && decide (a < 2 ^ 62) && decide (-(2 ^ 62) ≤ b) && decide (b < 2 ^ 62) && decide ((b - a).toNat ≤ 16777216)
theorem okRg_ok {a b : Int} (h : okRg a b = true) : RgOk a b := by
  unfold okRg at h
  simp only [Bool.and_eq_true, decide_eq_true_eq] at h
  exact ⟨h.1.1.1.1, h.1.1.1.2, h.1.1.2, h.1.2, h.2⟩
/-- the bounds of a range, as values -/
def rg1 (m : M Rs) : M (Int × Int) := bnd m fun r => fun g => match vl g r with
  | some (.int n) => .ok (0, n) g
  | _ => .bad
def rg2 (m n : M Rs) : M (Int × Int) := bnd m fun r => bnd n fun s => fun g => match vl g r, vl g s with
  | some (.int i), some (.int j) => .ok (i, j) g
  | _, _ => .bad
def rhoI : Rho (Int × Int) (Int × Int) := fun _ _ _ _ _ _ _ x y => x = y
def DRg (X : Cx) (e : Expr) (m : M (Int × Int)) : Prop := ∀ W, Takes X W → PRg X e (fun σ H Q => zt X W rhoI m σ H fun ij H1 => Q ij.1 ij.2 H1)
section
variable {X : Cx} {a b e : Expr} {p pos : Pos}
theorem rg1_run {W : WX} {σ : St} {H : Hp} {m : M Rs} {Q : Int × Int → Hp → Prop} (q : zt X W rhoI (rg1 m) σ H Q) : zt X W rhoR m σ H fun x H1 => ∃ n, x = .int n ∧ Q (0, n) H1 := by
  refine (zt_bnd (ρ := rhoR) q).imp fun v H1 ⟨r, F, G, Mu, Γ, R, h1, q2⟩ => ?_
  split at q2
  · rename_i n e1
    exact ⟨n, (R.read h1 e1).int, q2 _ H1 G (Same.refl _) R rfl⟩
  · exact q2.elim
theorem rg2_run {W : WX} {σ : St} {H : Hp} {m n : M Rs} {Q : Int × Int → Hp → Prop} (q : zt X W rhoI (rg2 m n) σ H Q) : zt X W rhoR m σ H fun x H1 => zt X W rhoR n σ H1 fun y H2 => ∃ i j, x = .int i ∧ y = .int j ∧ Q (i, j) H2 := by
  refine (zt_bnd2 (ρ := rhoR) (ρ' := rhoR) stR q).imp fun v H1 q1 => q1.imp fun u H2 ⟨r, s, F, G, Mu, Γ, R, h1, h2, q2⟩ => ?_
  split at q2
  · rename_i i j e1 e2
    exact ⟨i, j, (R.read h1 e1).int, (R.read h2 e2).int, q2 _ H2 G (Same.refl _) R rfl⟩
  · exact q2.elim
theorem prg_imp {e : Expr} {t t' : St → Hp → (Int → Int → Hp → Prop) → Prop} (k : PRg X e t) (h : ∀ σ H Q, t' σ H Q → t σ H Q) : PRg X e t' := fun pins s σ H Q I q => k pins s σ H Q I (h σ H Q q)
theorem drg1 {m : M Rs} (hg : Gl X "range") (hm : X.mg "range" = none) (ha : DV X a m) (na : starEach [a] X.env = (false, eval a X.env) :: starEach [] X.env := by rfl) : DRg X (.Call (.Name "range" p) [a] [] pos) (rg1 m) := fun W tk =>
  prg_imp (prg_1 hg hm (ha W tk) na) fun _ _ _ q => rg1_run q
theorem drg2 {m n : M Rs} (hg : Gl X "range") (hm : X.mg "range" = none) (ha : DV X a m) (hb : DV X b n) (na : starEach [a, b] X.env = (false, eval a X.env) :: starEach [b] X.env := by rfl)
    (nb : starEach [b] X.env = (false, eval b X.env) :: starEach [] X.env := by rfl) (hp : (backTo pos (starEach [b] X.env)).any (·.1) = false := by rfl) : DRg X (.Call (.Name "range" p) [a, b] [] pos) (rg2 m n) := fun W tk =>
  prg_imp (prg_2 hg hm (ha W tk) (hb W tk) na nb hp) fun _ _ _ q => rg2_run q
def dLstRg (m : M (Int × Int)) : M (List D) := bnd m fun ij => if okRg ij.1 ij.2 then rt (rgD ij.1 ij.2) else fun _ => .bad
def dTupRg (m : M (Int × Int)) : M D := bnd m fun ij => if okRg ij.1 ij.2 then rt (.tuple (rgD ij.1 ij.2)) else fun _ => .bad
theorem do_lstRg {m : M (Int × Int)} (hc : X.calm = true) (hg : Gl X "list") (hm : X.mg "list" = none) (he : DRg X e m) (na : starEach [e] X.env = (false, eval e X.env) :: starEach [] X.env := by rfl) : DO X (.Call (.Name "list" p) [e] [] pos) (dLstRg m) := fun W tk => by
  refine pe_imp (pe_listRg hc hg hm (he W tk) na) fun σ H Q q => ?_
  refine (zt_bnd (ρ := rhoI) q).imp fun v H1 ⟨r, F, G, Mu, Γ, R, h1, q2⟩ => ?_
  have e0 : r = v := h1
  subst e0
  split at q2
  · rename_i hk
    refine ⟨okRg_ok hk, fun l n => ?_⟩
    obtain ⟨R', o⟩ := R.newO n (dpa_rg r.1 r.2)
    exact q2 _ _ G (Same.refl _) R' o
  · exact q2.elim
theorem dp_tupRg {m : M (Int × Int)} (hc : X.calm = true) (hg : Gl X "tuple") (hm : X.mg "tuple" = none) (he : DRg X e m) (na : starEach [e] X.env = (false, eval e X.env) :: starEach [] X.env := by rfl) : DP X (.Call (.Name "tuple" p) [e] [] pos) (dTupRg m) := fun W tk => by
  refine pe_imp (pe_tupRgZ hc hg hm (he W tk) na) fun σ H Q q => ?_
  refine (zt_bnd (ρ := rhoI) q).imp fun v H1 ⟨r, F, G, Mu, Γ, R, h1, q2⟩ => ?_
  have e0 : r = v := h1
  subst e0
  split at q2
  · rename_i hk
    refine ⟨okRg_ok hk, fun l o n ho => ?_⟩
    have E := Ext.new (o := .frz o (.tup (rgV r.1 r.2))) R.gh n
    exact q2 _ _ _ E.g (R.ext E) (show rhoD _ _ _ _ _ _ _ (.tuple (rgD r.1 r.2)) _ from .tup (.new ho) (dpa_rg _ _))
  · exact q2.elim
end

/-! ### the place of an item -/
def isIntD (k : Int) : D → Bool
  | .int i => i == k
  | _ => false
def ixOf (k : Int) : List Int → Option Nat
  | [] => none
  | n :: r => if n = k then some 0 else (ixOf k r).map (· + 1)
theorem ixOf_some : ∀ {ns : List Int} {k : Int} {j : Nat}, ixOf k ns = some j → ns[j]? = some k ∧ ∀ m, m < j → ns[m]? ≠ some k
  | [], _, _, h => by cases h
  | n :: r, k, j, h => by
    unfold ixOf at h
    split at h
    · rename_i e
      cases h
      exact ⟨by rw [← e] <;> rfl, fun m hm => absurd hm (Nat.not_lt_zero _)⟩
    · rename_i e
      obtain ⟨i, h1, h2⟩ := Option.map_eq_some_iff.mp h
      subst h2
      obtain ⟨k1, k2⟩ := ixOf_some h1
      refine ⟨by simpa using k1, fun m hm => ?_⟩
      cases m with
      | zero => simpa using e
      | succ m => simpa using k2 m (by omega)
def fIndex (x : D) (ys : List D) : Option D := match x, ys with
  | .tuple xs, [.int k] => match toInts xs with
    | some ns => (ixOf k ns).map fun j => .int (j : Nat)
    | none => none
  | .list xs, [.int k] => match toInts xs with
    | some ns => (ixOf k ns).map fun j => .int (j : Nat)
    | none => none
  | _, _ => none
theorem flat_ints (ns : List Int) : (ns.map V.int).all flatV = true := by
  rw [List.all_map]
  exact List.all_eq_true.mpr fun _ _ => rfl
section
variable {X : Cx}
theorem mt_tup_indexI : MtR X "tuple.index" (fun x xs H Q => ∃ p, ∃ ns : List Int, ∃ k j, x = .ref p ∧ xs = [.int k] ∧ SqT X.K H p (ns.map V.int) ∧ ixOf k ns = some j ∧ Q (.int (j : Nat)) H) := by
  intro pins s σ H x xs v us Q I rx rs h
  obtain ⟨p, ns, k, j, rfl, rfl, hq, hy, q⟩ := h
  obtain ⟨hj0, hno⟩ := ixOf_some hy
  cases rx
  obtain ⟨u, rfl, t, rfl⟩ := vals1 rs
  obtain ⟨its, r, pl, hz⟩ := I.tuple hq
  obtain ⟨⟨cls, dd, dt, sl⟩, ho, hc, n, hd⟩ := pl
  simp only at hc hd
  subst hc hd
  have hl : its.toArray.size = ns.length := by rw [List.size_toArray, ← r.length, List.length_map]
  have hj : j < its.toArray.size := by rw [hl]; exact (List.getElem?_eq_some_iff.mp hj0).1
  have each : ∀ (m : Nat) (hm : m < its.toArray.size), ∃ y t', ns[m]? = some y ∧ its.toArray[m] = Value.int y t' := fun m hm => by
    have hm' : m < ns.length := by rw [← hl]; exact hm
    obtain ⟨w, hw, t', hw'⟩ := r.get (i := m) (x := .int ns[m]) (by simp [hm'])
    refine ⟨ns[m], t', List.getElem?_eq_getElem hm', ?_⟩
    have e := (List.getElem?_eq_some_iff.mp hw).2
    rw [← hw', ← e]
    simp
  refine call_meets PySem.F.slot_tuple_index ⟨_, ho, rfl⟩ PySem.F.entry_tuple_index (PySem.F.args_tuple_index_2 _ _) (TI.tuple_indexAt p its.toArray n dd sl (.int k t) (eqU (.int k)) j hj ?_ ?_)
    ⟨ho, fun w hw => mem_eqAt (x := .int k) ⟨t, rfl⟩ rfl r (flat_ints ns) w (by simpa using hw), ⟨.int (j : Nat), H, I.tok _, ⟨_, rfl⟩, q⟩⟩
  · obtain ⟨y, t', h1, h2⟩ := each j hj
    rw [hj0] at h1
    cases h1
    rw [h2]
    show (k == k) = true
    exact beq_self_eq_true k
  · intro m hm hmj
    obtain ⟨y, t', h1, h2⟩ := each m hm
    rw [h2]
    show (y == k) = false
    exact beq_eq_false_iff_ne.mpr fun e => hno m hmj (e ▸ h1)
end
end Z
set_option Elab.async false
set_option linter.all false
set_option maxRecDepth 100000
set_option autoImplicit false
set_option maxHeartbeats 1000000
namespace Z
open PySem PySem.Spec PyProof.Rows L2

/-! ### t[::-1] -/
section
variable {prog : Program} {w : World} {A : Around} {E : Value → Shared → Prop} {s : Shared}
theorem back_places (n : Nat) : Builtin.Slice.slicePlaces ((n : Int) - 1) (-1) (-1) = n := by
  unfold Builtin.Slice.slicePlaces
  have h1 : ¬ ((-1 : Int) > 0) := by decide
  simp only [h1, if_false]
  split
  · rw [show (- -1 : Int) = 1 by decide, Int.ediv_one]
    omega
  · omega
theorem fm_congr {α β : Type} {f g : α → Option β} : ∀ (l : List α), (∀ x ∈ l, f x = g x) → l.filterMap f = l.filterMap g
  | [], _ => rfl
  | x :: l, h => by
    rw [List.filterMap_cons, List.filterMap_cons, h x List.mem_cons_self, fm_congr l fun y hy => h y (List.mem_cons_of_mem _ hy)]
theorem back_adjust (n : Nat) : Builtin.Slice.sliceAdjust none none (-1) (n : Int) = ((n : Int) - 1, -1) := by
  first
  | rfl
  | (unfold Builtin.Slice.sliceAdjust; simp)
theorem back_applied {sl : Addr} {t : Tok} {n : Nat} {Q : Int × Int × Nat → Shared → Prop} (hs : s.heap.IsSliceOf sl .none .none (.int (-1) t))
    (h : Q ((n : Int) - 1, -1, n) s) : wpAny (model prog w) A (Builtin.Slice.sliceApplied (.ref sl) (pure (n : Int))) Q E s := by
  obtain ⟨ob, hob, _, hfd⟩ := id hs
  unfold Builtin.Slice.sliceApplied Builtin.Slice.sliceFields
  refine wpAny_bind (wpAny_bind (wpAny_field hob hfd (x := .none) rfl (wpAny_bind (wpAny_field hob hfd (x := .none) rfl (wpAny_bind (wpAny_field hob hfd (x := .int (-1) t) rfl (wpAny_pure ?_)))))))
  refine wpAny_bind (HT.slicePart_ (.int (-1) t) ?_)
  show wpAny _ _ (if ((-1 : Int) == 0) = true then _ else _) _ _ s
  rw [if_neg (by decide)]
  refine wpAny_bind (HT.slicePart_ .none (wpAny_bind (HT.slicePart_ .none (wpAny_bind (wpAny_pure ?_)))))
  show wpAny _ _ (match Builtin.Slice.sliceAdjust none none (-1) (n : Int) with | (lo, hi) => pure (lo, (-1 : Int), Builtin.Slice.slicePlaces lo hi (-1))) _ _ s
  rw [back_adjust n]
  show wpAny _ _ (pure ((n : Int) - 1, (-1 : Int), Builtin.Slice.slicePlaces ((n : Int) - 1) (-1) (-1))) _ _ s
  rw [back_places]
  exact wpAny_pure h
theorem back_pick (xs : Array Value) : ((List.range xs.size).filterMap fun (m : Nat) => xs[(((xs.size : Int) - 1) + (m : Int) * (-1)).toNat]?).toArray = xs.toList.reverse.toArray := by
  have h : ((List.range xs.size).filterMap fun (m : Nat) => xs[(((xs.size : Int) - 1) + (m : Int) * (-1)).toNat]?) = xs.toList.reverse := by
    rw [← PySem.W.krv_all xs, ← List.filterMap_reverse, ← PySem.W.krv_range, List.filterMap_map]
    refine fm_congr _ fun m hm => ?_
    have := List.mem_range.mp hm
    show xs[(((xs.size : Int) - 1) + (m : Int) * (-1)).toNat]? = xs[xs.size - 1 - m]?
    rw [show (((xs.size : Int) - 1) + (m : Int) * (-1)).toNat = xs.size - 1 - m by omega]
  rw [h]
theorem back_tuple {t sl : Addr} {items : Array Value} {tk : Tok} {Q : Value → Shared → Prop} (ht : IsTup s.heap t items) (hs : s.heap.IsSliceOf sl .none .none (.int (-1) tk))
    (h : Q (.ref s.heap.objs.size) { s with heap := s.heap.push { cls := .type "tuple", data := .seq items.toList.reverse.toArray } }) (hsz : items.size ≤ sizeLine) : wpAny (model prog w) A (getItem (.ref t) (.ref sl)) Q E s := by
  have hfit : sizeOk (.seq items.toList.reverse.toArray) := by
    show items.toList.reverse.toArray.size ≤ sizeLine
    rw [List.size_toArray, List.length_reverse, Array.length_toList]
    exact hsz
  obtain ⟨ob, hob, hcb, _⟩ := id hs
  have hTs : s.TypeIs (.ref sl) "slice" := ⟨ob, hob, hcb⟩
  unfold getItem
  try with_reducible refine wpAny_holding ?_
  first | refine wpAny_bind (wpAny_pure ?_) | skip
  refine wpAny_bind (wpAny_sequenceKey ht.typeIs (by decide) (wpAny_bind (wpAny_callSpecial?_slot (name := Str.ofString "__getitem__") ht.typeIs PyProof.Rows.slot_tuple_getitem
    (wpAny_call_entry PyProof.Rows.slot_tuple_getitem ht.typeIs entry_tuple_getitem ?_ (args_tuple_getitem _ _)))))
  show wpAny _ _ (Builtin.Tuple.tupleItemsOf (.ref t) >>= _) _ _ s
  refine wpAny_bind (tupleItemsOf_ ht (wpAny_bind (wpAny_typeOf hTs ?_)))
  rw [if_pos (by decide)]
  refine wpAny_bind (back_applied hs ?_)
  have hno : ¬ ((((items.size : Int) - 1) == 0 && (-1 : Int) == 1 && items.size == items.size) = true) := by simp
  show wpAny _ _ (if (((items.size : Int) - 1) == 0 && (-1 : Int) == 1 && items.size == items.size) = true then _ else _) _ _ s
  rw [if_neg hno, back_pick]
  first
    | exact wpAny_bind (m := Builtin.Tuple.tupleExact _) (wpAny_newObj_type (wpAny_pure ⟨_, rfl, wpAny_pure h⟩) hfit)
    | exact wpAny_bind (m := Builtin.Tuple.tupleExact _) (wpAny_newObj_type (wpAny_bind (wpAny_pure (wpAny_pure ⟨_, rfl, wpAny_pure h⟩))) hfit)
    | exact wpAny_bind (wpAny_bind (m := Builtin.Tuple.tupleExact _) (wpAny_newObj_type (wpAny_pure (wpAny_pure ⟨_, rfl, wpAny_pure h⟩)) hfit))
    | exact wpAny_bind (wpAny_bind (m := Builtin.Tuple.tupleExact _) (wpAny_newObj_type (wpAny_pure ⟨_, rfl, wpAny_pure h⟩) hfit))
end
def fBack : D → Option D
  | .tuple xs => some (.tuple xs.reverse)
  | _ => none
def fBackL : D → Option (List D)
  | .list xs => some xs.reverse
  | _ => none
def op1o (f : D → Option (List D)) (m : M Rs) : M (List D) := bnd m fun r => fun g => match vl g r with
  | none => .bad
  | some x => match f x with
    | none => .bad
    | some z => .ok z g
section
variable {X : Cx} {e : Expr} {k : Nat} {p1 p2 p3 pos : Pos}
theorem dp_back {m : M Rs} (h : DV X e m) : DP X (.Subscript e (.Slice none none (some (.UnaryOp .USub (.Constant (.int 1) k p1) p2)) p3) pos) (op1 fBack m) := fun W tk => by
  refine ⟨fun pins s σ H Q I hq => Subscript_ (thn ((h W tk).run pins s σ H _ I (op1_run hq)) fun v s1 ⟨x, H1, I1, r1, G, dx, z, gh, rd, e, q⟩ => ?_)⟩
  have hst : PO X (some (.UnaryOp .USub (.Constant (.int 1) k p1) p2)) (tPart (tUn (rU fun i => .int (-i)) (tC (.int 1)))) := po_some (pe_un un_neg pe_int)
  refine wpAny_Slice (thn (po_none.run pins s1 σ H1 (fun o H2 => o = none ∧ H2 = H1) I1 ⟨rfl, rfl⟩) fun vl s2 ⟨l, H2, I2, pl, el, e2⟩ => ?_)
  subst el e2
  refine thn (po_none.run pins s2 σ H2 (fun o H3 => o = none ∧ H3 = H2) I2 ⟨rfl, rfl⟩) fun vu s3 ⟨u, H3, I3, pu, eu, e3⟩ => ?_
  subst eu e3
  refine thn (hst.run pins s3 σ H3 (fun o H4 => o = some (-1) ∧ H4 = H3) I3 ⟨1, rfl, -1, rfl, rfl, rfl⟩) fun vs s4 ⟨o, H4, I4, ps, eo, e4⟩ => ?_
  subst eo e4
  cases pl
  cases pu
  cases ps with
  | int i t =>
    have I5 : L2.Inv X pins σ H4 { s4 with heap := s4.heap.push { cls := .type "slice", data := .fields #[.none, .none, .int (-1) t] } } := I4.kept (t' := s4.toks) fun b ob q => Heap.get?_push_of_some _ q
    cases dx with
    | tuple xs =>
      cases e
      obtain ⟨a, ws, rfl, s1', d1⟩ := rd.tup gh
      cases r1
      obtain ⟨its, r, ht, hz⟩ := I5.tuple s1'.sq
      show wpAny (model X.prog X.w) X.A (subscriptTail e (.Slice none none (some (.UnaryOp .USub (.Constant (.int 1) k p1) p2)) p3) (.ref a) (.ref s4.heap.objs.size)) (EP X pins σ Q) X.xe { s4 with heap := s4.heap.push { cls := .type "slice", data := .fields #[.none, .none, .int (-1) t] } }
      refine tail_any (ops := [.ref a, .ref s4.heap.objs.size]) ht.typeIs PyProof.Rows.slot_tuple_getitem.lookup ?_ (by with_unfolding_all rfl)
      refine back_tuple ht (Heap.IsSliceOf.new ..) ?_ (by rw [List.size_toArray, ← r.length]; exact hz)
      have er : (its.toArray.toList.reverse.toArray) = its.reverse.toArray := by simp
      rw [er]
      refine tryNew I5 r.reverse (by rw [List.length_reverse]; exact hz) fun p o n ho => ?_
      have E := Ext.new (o := .frz o (.tup ws.reverse)) gh n
      exact q _ _ _ E (.tup (.new ho) (dpAll_mono E.g _ _ (dpa_reverse d1)))
    | _ => cases e
theorem do_backL {m : M Rs} (h : DV X e m) : DO X (.Subscript e (.Slice none none (some (.UnaryOp .USub (.Constant (.int 1) k p1) p2)) p3) pos) (op1o fBackL m) := fun W tk => by
  refine pe_imp (pe_revL (h W tk)) fun σ H Q q => ?_
  refine (zt_bnd (ρ := rhoR) q).imp fun v H1 ⟨r, F, G, Mu, Γ, R, h1, q2⟩ => ?_
  cases e1 : vl Γ r with
  | none => rw [e1] at q2; exact q2.elim
  | some x =>
    rw [e1] at q2
    cases x with
    | list xs =>
      obtain ⟨a, ws, rfl, s1', d1⟩ := (R.read h1 e1).list R.gh
      refine ⟨a, ws, rfl, s1', fun l n => ?_⟩
      obtain ⟨R', o⟩ := R.newO n (dpa_reverse d1)
      exact q2 _ _ G (Same.refl _) R' o
    | _ => exact q2.elim
end

/-! ### t.index(x) -/
section
variable {X : Cx} {o e : Expr} {apos cpos : Pos} {to : TE} {t : TA} {es : List Expr} {name : Str} {id : String} {r : V → List V → Hp → VK → Prop}
theorem tupN_is {pins : List (Addr × Obj)} {σ : St} {H : Hp} {s : Shared} {a : Addr} {xs : List V} (I : L2.Inv X pins σ H s) (h : TupN X.K H a xs) : s.TypeIs (.ref a) "tuple" ∧ ∀ b, Value.ref a = .ref b → ∃ ob, s.heap.get? b = some ob ∧ ob.dict = none := by
  refine ⟨let ⟨_, _, ht, _⟩ := I.tuple h.sq; ht.typeIs, fun b e => ?_⟩
  cases e
  rcases h with ⟨o, h, k⟩ | ⟨o, _, _, h, _, k, _⟩
  · obtain ⟨e, _⟩ := I.hok _ _ h
    exact ⟨o, e, k⟩
  · exact ⟨o, I.kIn _ _ h, k⟩
theorem pe_tm (pa : PlainAttrs "tuple") (slot : Slot "tuple" name id) (hty : typeOf (.builtin id) = pure (.type "method_descriptor")) (hm : MtR X id r) (ho : PE X o to) (ha : PA X (e :: es) t)
    (hbase : attributeBase o name X.env (eval o X.env) = eval o X.env := by rfl)
    (hfew : ((backTo cpos (starEach (e :: es) X.env)).all (fun x => !x.1) && (backToKw cpos (keywordEach [] X.env)).all (fun x => x.1.isSome)
      && decide ((e :: es).length + ([] : List Keyword).length + (if ([] : List Keyword).isEmpty then 0 else 1) < 30)) = true := by rfl)
    (hline : (apos.endLine == cpos.line) = true := by rfl) (hs : starEach (e :: es) X.env = (false, eval e X.env) :: starEach es X.env := by rfl) (hplain : (backTo cpos (starEach es X.env)).any (·.1) = false := by rfl) :
    PE X (.Call (.Attribute o name apos) (e :: es) [] cpos) (fun σ H Q => to σ H fun x H1 => (∃ a xs, x = .ref a ∧ TupN X.K H1 a xs) ∧ t σ H1 fun xs H2 => r x xs H2 Q) := by
  refine ⟨fun pins s σ H Q I h => wpAny_Call_method_late hbase hfew hline rfl (thn (ho.run pins s σ H _ I h) fun v s1 ⟨x, H1, I1, r1, ⟨a, xs, ex, tn⟩, q1⟩ => ?_)⟩
  subst ex
  cases r1
  obtain ⟨h1, h2⟩ := tupN_is I1 tn
  refine ⟨"tuple", id, pa, slot, hty, h1, h2, ?_⟩
  have hA := ha.run cpos pins s1 σ H1 _ I1 q1
  rw [hs] at hA ⊢
  refine Calls.callWith_builtin (by show (false || (backTo cpos (starEach es X.env)).any (·.1)) = false; rw [hplain] <;> rfl) (Calls.evalArgs_plain (thn hA fun us s2 ⟨vs, H2, I2, r2, q2⟩ => ?_))
  exact hm pins s2 σ H2 (.ref a) vs (.ref a) us Q I2 rfl r2 q2
def fIxT : D → D → Option D
  | .tuple xs, .int k => match toInts xs with
    | some ns => (ixOf k ns).map fun j => .int (j : Nat)
    | none => none
  | _, _ => none
def isTupD : D → Bool
  | .tuple _ => true
  | _ => false
/-- the receiver is looked at ahead of the argument -/
def dIndexT (m n : M Rs) : M D := bnd m fun r => fun g => match vl g r with
  | some (.tuple _) => op2 fIxT (rt r) n g
  | _ => .bad
theorem dp_indexT {m n : M Rs} (ho : DV X o m) (ha : DV X e n) (hbase : attributeBase o "index" X.env (eval o X.env) = eval o X.env := by rfl)
    (hfew : ((backTo cpos (starEach [e] X.env)).all (fun x => !x.1) && (backToKw cpos (keywordEach [] X.env)).all (fun x => x.1.isSome)
      && decide (([e] : List Expr).length + ([] : List Keyword).length + (if ([] : List Keyword).isEmpty then 0 else 1) < 30)) = true := by rfl)
    (hline : (apos.endLine == cpos.line) = true := by rfl) (hs : starEach [e] X.env = (false, eval e X.env) :: starEach [] X.env := by rfl) :
    DP X (.Call (.Attribute o "index" apos) [e] [] cpos) (dIndexT m n) := fun W tk => by
  refine pe_imp (pe_tm PySem.F.plainAttrs_tuple PySem.F.slot_tuple_index PySem.F.type_tuple_index mt_tup_indexI (ho W tk) (pa_cons (ha W tk) pa_nil hs) hbase hfew hline hs) fun σ H Q q => ?_
  refine (zt_bnd (ρ := rhoR) q).imp fun v H1 ⟨r, F, G, Mu, Γ, R, h1, q2⟩ => ?_
  split at q2
  · rename_i xs e1
    obtain ⟨a, ws, rfl, tn, d1⟩ := (R.read h1 e1).tup R.gh
    refine ⟨⟨a, ws, rfl, tn⟩, F, G, Mu, Γ, R, ?_⟩
    unfold op2 bnd rt at q2
    dsimp only at q2
    cases e2 : n Γ with
    | bad => rw [e2] at q2; exact q2
    | ex c x Γ1 => rw [e2] at q2; exact q2
    | ok s Γ1 =>
      rw [e2] at q2
      dsimp only at q2
      intro u H2 G2 k1 R2 k2
      cases e3 : vl Γ1 r with
      | none => rw [e3] at q2; exact q2.elim
      | some x =>
        rw [e3] at q2
        dsimp only at q2
        cases e4 : vl Γ1 s with
        | none => rw [e4] at q2; exact q2.elim
        | some y =>
          rw [e4] at q2
          dsimp only at q2
          cases e5 : fIxT x y with
          | none => rw [e5] at q2; exact q2.elim
          | some z =>
            rw [e5] at q2
            have rx := R2.read (stR _ _ _ _ _ _ _ _ _ _ _ _ _ _ k1 h1) e3
            have ry := R2.read k2 e4
            unfold fIxT at e5
            split at e5
            · split at e5
              · rename_i ns hn
                obtain ⟨j, hj, e6⟩ := Option.map_eq_some_iff.mp e5
                subst e6
                obtain ⟨a', ws', e7, tn', d'⟩ := rx.tup R2.gh
                cases e7
                rw [toInts_ok hn] at d'
                have e8 := dpa_ints' d'
                subst e8
                have e9 := ry.int
                subst e9
                exact ⟨a, ns, _, j, rfl, rfl, tn'.sq, hj, q2 _ H2 G2 k1 R2 (show rhoD _ _ _ _ _ _ _ (.int (j : Nat)) _ from .int _)⟩
              · cases e5
            · cases e5
  · exact q2.elim
end
end Z
set_option Elab.async false
set_option linter.all false
set_option maxRecDepth 100000
set_option autoImplicit false
set_option maxHeartbeats 1000000
namespace Z
open PySem PySem.Spec PyProof.Rows L2

/-! ### methods that change a list of one's own: the name's slot, the arguments that stay -/
def dMut (i : Nat) (f : List D → List D → Option (List D × D)) (m : M (List D)) : M D := fun g => match g[i]? with
  | some (.own _ _) => bnd m (fun args => fun g' => match g'[i]? with
    | some (.own b xs) => match f xs args with
      | some (ys, r) => .ok r (g'.set i (.own b ys))
      | none => .bad
    | _ => .bad) g
  | _ => .bad
def rMut (K : PySem.W.Frag) (f : List D → List D → Option (List D × D)) : V → List V → Hp → VK → Prop := fun x vs H Q => ∃ l us xs args ys r G, x = .ref l ∧ H l = some (.lst us) ∧ DqAll K G us xs ∧ DqAll K G vs args ∧ f xs args = some (ys, r) ∧ Same G H ∧
  ∀ us' v, DqAll K G us' ys → Dq K G v r → Q v (upd H l (.lst us'))
def mAppend (xs : List D) (as : List D) : Option (List D × D) := match as with
  | [y] => if xs.length < sizeLine then some (xs ++ [y], .none) else none
  | _ => none
def mInsert (xs : List D) (as : List D) : Option (List D × D) := match as with
  | [.int i, y] => if xs.length < sizeLine ∧ 0 ≤ i ∧ i < 2 ^ 63 then some (xs.take i.toNat ++ [y] ++ xs.drop i.toNat, .none) else none
  | _ => none
def mReverse (xs : List D) (as : List D) : Option (List D × D) := match as with
  | [] => some (xs.reverse, .none)
  | _ => none
def mPop (xs : List D) (as : List D) : Option (List D × D) := match as with
  | [] => match xs[xs.length - 1]? with
    | some y => some (xs.dropLast, y)
    | none => none
  | _ => none
theorem dpa_dropLast {K : PySem.W.Frag} {G : Hp} {vs : List V} {xs : List D} (h : DqAll K G vs xs) : DqAll K G vs.dropLast xs.dropLast := by
  rw [List.dropLast_eq_take, List.dropLast_eq_take, dpa_length h]
  exact dpa_take _ h
theorem dpa_two {K : PySem.W.Frag} {G : Hp} {vs : List V} {x y : D} (h : DqAll K G vs [x, y]) : ∃ v u, vs = [v, u] ∧ Dq K G v x ∧ Dq K G u y := by
  cases h with
  | cons a b =>
    cases b with
    | cons c d =>
      cases d
      exact ⟨_, _, rfl, a, c⟩
theorem dpa_one {K : PySem.W.Frag} {G : Hp} {vs : List V} {x : D} (h : DqAll K G vs [x]) : ∃ v, vs = [v] ∧ Dq K G v x := by
  cases h with
  | cons a b =>
    cases b
    exact ⟨_, rfl, a⟩
section
variable {X : Cx}
theorem mr_append : MtR X "list.append" (rMut X.K mAppend) := by
  intro pins s σ H x vs v us Q I rx rv h
  obtain ⟨l, ws, xs, args, ys, r, G, rfl, hl, d1, d2, e, gh, q⟩ := h
  unfold mAppend at e
  split at e
  · split at e
    · rename_i hz
      cases e
      obtain ⟨w, rfl, d3⟩ := dpa_one d2
      refine mt_append pins s σ H _ _ v us Q I rx rv ⟨l, ws, w, rfl, rfl, hl, by rw [dpa_length d1]; exact hz, ?_⟩
      exact q _ _ (dpa_append d1 (.cons d3 .nil)) .non
    · cases e
  · cases e
theorem mr_insert : MtR X "list.insert" (rMut X.K mInsert) := by
  intro pins s σ H x vs v us Q I rx rv h
  obtain ⟨l, ws, xs, args, ys, r, G, rfl, hl, d1, d2, e, gh, q⟩ := h
  unfold mInsert at e
  split at e
  · split at e
    · rename_i hz
      cases e
      obtain ⟨w1, w2, rfl, d3, d4⟩ := dpa_two d2
      cases d3
      refine mt_insert pins s σ H _ _ v us Q I rx rv ⟨l, ws, _, w2, rfl, rfl, hl, by rw [dpa_length d1]; exact hz.1, hz.2.1, hz.2.2, ?_⟩
      exact q _ _ (dpa_append (dpa_append (dpa_take _ d1) (.cons d4 .nil)) (dpa_drop _ d1)) .non
    · cases e
  · cases e
theorem mr_reverse : MtR X "list.reverse" (rMut X.K mReverse) := by
  intro pins s σ H x vs v us Q I rx rv h
  obtain ⟨l, ws, xs, args, ys, r, G, rfl, hl, d1, d2, e, gh, q⟩ := h
  unfold mReverse at e
  split at e
  · cases e
    cases d2
    exact mt_reverse pins s σ H _ _ v us Q I rx rv ⟨l, ws, rfl, rfl, hl, q _ _ (dpa_reverse d1) .non⟩
  · cases e
theorem mr_pop : MtR X "list.pop" (rMut X.K mPop) := by
  intro pins s σ H x vs v us Q I rx rv h
  obtain ⟨l, ws, xs, args, ys, r, G, rfl, hl, d1, d2, e, gh, q⟩ := h
  unfold mPop at e
  split at e
  · split at e
    · rename_i y hy
      cases e
      cases d2
      obtain ⟨w, hw, d3⟩ := dpa_get d1 hy
      exact mt_pop pins s σ H _ _ v us Q I rx rv ⟨l, ws, w, rfl, rfl, hl, by rw [dpa_length d1]; exact hw, q _ _ (dpa_dropLast d1) d3⟩
    · cases e
  · cases e
end
section
variable {X : Cx} {e : Expr} {es : List Expr} {apos cpos p : Pos} {x name : Str} {id : String} {i : Nat} {f : List D → List D → Option (List D × D)}
theorem mut_end {W : WX} {σ : St} {F : Fr} {G H : Hp} {Mu : Option Addr} {Γ : En} {Q : VK} {args : List D} {vs : List V} {l : Addr} (R : Rel X.K F G Mu Γ σ H) (hv : DqAll X.K G vs args) (hl : σ[i]? = some (some (.ref l)))
    (q : zpost X W σ rhoD F G Mu Q (match Γ[i]? with
      | some (.own b xs) => match f xs args with
        | some (ys, r) => .ok r (Γ.set i (.own b ys))
        | none => .bad
      | _ => .bad)) : rMut X.K f (.ref l) vs H Q := by
  split at q
  · rename_i b xs hg
    split at q
    · rename_i ys r hf
      obtain ⟨l', us, h1, h2, h3, h4, h5, h6, h7, ho⟩ := R.owned hg
      rw [hl] at h1
      cases h1
      exact ⟨l, us, xs, args, ys, r, G, rfl, h2, h3, hv, hf, R.gh, fun us' v k1 k2 => q v _ G (Same.refl _) (R.change hg hl k1) k2⟩
    · exact q.elim
  · exact q.elim
theorem dp_mut {m : M (List D)} (hN : X.N[i]? = some x) (hv : Vis X.env.scope x) (slot : Slot "list" name id) (hty : typeOf (.builtin id) = pure (.type "method_descriptor")) (hm : MtR X id (rMut X.K f)) (ha : DPs X (e :: es) m)
    (hd : (x == ("__debug__" : Str)) = false := by decide) (hcd : (x == ("__classdict__" : Str)) = false := by decide)
    (hbase : attributeBase (.Name x p) name X.env (eval (.Name x p) X.env) = eval (.Name x p) X.env := by rfl)
    (hfew : ((backTo cpos (starEach (e :: es) X.env)).all (fun x => !x.1) && (backToKw cpos (keywordEach [] X.env)).all (fun x => x.1.isSome)
      && decide ((e :: es).length + ([] : List Keyword).length + (if ([] : List Keyword).isEmpty then 0 else 1) < 30)) = true := by rfl)
    (hline : (apos.endLine == cpos.line) = true := by rfl) (hs : starEach (e :: es) X.env = (false, eval e X.env) :: starEach es X.env := by rfl) (hplain : (backTo cpos (starEach es X.env)).any (·.1) = false := by rfl) :
    DP X (.Call (.Attribute (.Name x p) name apos) (e :: es) [] cpos) (dMut i f m) := fun W tk => by
  refine pe_imp (pe_bm PySem.F.plainAttrs_list slot hty hm (pe_var hN hv hd hcd) (ha W tk) hbase hfew hline hs hplain) fun σ H Q ⟨F, G, Mu, Γ, R, q⟩ => ?_
  unfold dMut at q
  split at q
  · rename_i b xs hg
    obtain ⟨l, us, h1, h2, h3, h4, h5, h6, h7, ho⟩ := R.owned hg
    refine ⟨_, h1, .inl ⟨rfl, us, .of h2⟩, F, G, Mu, Γ, R, ?_⟩
    unfold bnd at q
    dsimp only at q
    cases e1 : m Γ with
    | bad => rw [e1] at q; exact q
    | ex c y Γ1 => rw [e1] at q; exact q
    | ok args Γ1 =>
      rw [e1] at q
      intro vs H1 G1 k1 R1 k2
      exact mut_end (W := W) R1 k2 h1 (q.rebase k1)
  · exact q.elim
theorem dp_mut0 (hN : X.N[i]? = some x) (hv : Vis X.env.scope x) (slot : Slot "list" name id) (hty : typeOf (.builtin id) = pure (.type "method_descriptor")) (hm : MtR X id (rMut X.K f))
    (hd : (x == ("__debug__" : Str)) = false := by decide) (hcd : (x == ("__classdict__" : Str)) = false := by decide)
    (hbase : attributeBase (.Name x p) name X.env (eval (.Name x p) X.env) = eval (.Name x p) X.env := by rfl) (hline : (apos.endLine == cpos.line) = true := by rfl) :
    DP X (.Call (.Attribute (.Name x p) name apos) [] [] cpos) (dMut i f (rt [])) := fun W tk => by
  refine pe_imp (pe_bm0 PySem.F.plainAttrs_list slot hty hm (pe_var hN hv hd hcd) hbase hline) fun σ H Q ⟨F, G, Mu, Γ, R, q⟩ => ?_
  unfold dMut at q
  split at q
  · rename_i b xs hg
    obtain ⟨l, us, h1, h2, h3, h4, h5, h6, h7, ho⟩ := R.owned hg
    exact ⟨_, h1, .inl ⟨rfl, us, .of h2⟩, mut_end (W := W) R .nil h1 q⟩
  · exact q.elim
/-- xs.extend(a new list) -/
def mExtend (xs zs : List D) : Option (List D × D) := if xs.length + zs.length ≤ sizeLine then some (xs ++ zs, .none) else none
theorem dp_extend {m : M (List D)} (hN : X.N[i]? = some x) (hv : Vis X.env.scope x) (ha : DF X e m)
    (hd : (x == ("__debug__" : Str)) = false := by decide) (hcd : (x == ("__classdict__" : Str)) = false := by decide)
    (hbase : attributeBase (.Name x p) "extend" X.env (eval (.Name x p) X.env) = eval (.Name x p) X.env := by rfl)
    (hfew : ((backTo cpos (starEach [e] X.env)).all (fun x => !x.1) && (backToKw cpos (keywordEach [] X.env)).all (fun x => x.1.isSome)
      && decide (([e] : List Expr).length + ([] : List Keyword).length + (if ([] : List Keyword).isEmpty then 0 else 1) < 30)) = true := by rfl)
    (hline : (apos.endLine == cpos.line) = true := by rfl) (hs : starEach [e] X.env = (false, eval e X.env) :: starEach [] X.env := by rfl) :
    DP X (.Call (.Attribute (.Name x p) "extend" apos) [e] [] cpos) (dMut i mExtend m) := fun W tk => by
  refine pe_imp (pe_bm PySem.F.plainAttrs_list PySem.F.slot_list_extend PySem.F.type_list_extend mt_extend (pe_var hN hv hd hcd) (pa_cons (ha W tk) pa_nil hs) hbase hfew hline hs) fun σ H Q ⟨F, G, Mu, Γ, R, q⟩ => ?_
  unfold dMut at q
  split at q
  · rename_i b xs hg
    obtain ⟨l, us, h1, h2, h3, h4, h5, h6, h7, ho⟩ := R.owned hg
    refine ⟨_, h1, .inl ⟨rfl, us, .of h2⟩, F, G, Mu, Γ, R, ?_⟩
    unfold bnd at q
    dsimp only at q
    cases e1 : m Γ with
    | bad => rw [e1] at q; exact q
    | ex c y Γ1 => rw [e1] at q; exact q
    | ok zs Γ1 =>
      rw [e1] at q
      intro v H1 G1 k1 R1 ⟨b1, ws, ev, k2, k3⟩
      subst ev
      dsimp only at q
      split at q
      · rename_i b' xs' hg'
        split at q
        · rename_i ys r hf
          obtain ⟨l', us', j1, j2, j3, j4, j5, j6, j7, jo⟩ := R1.owned hg'
          rw [h1] at j1
          cases j1
          unfold mExtend at hf
          split at hf
          · rename_i hz
            cases hf
            refine ⟨l, b1, us', ws, rfl, rfl, j2, R1.gh _ _ k2, by rw [dpa_length j3, dpa_length k3]; exact hz, ?_⟩
            exact q _ _ G1 k1 (R1.change hg' h1 (dpa_append j3 k3)) (show rhoD _ _ _ _ _ _ _ .none .non from .non)
          · cases hf
        · exact q.elim
      · exact q.elim
  · exact q.elim
end
end Z
set_option Elab.async false
set_option linter.all false
set_option maxRecDepth 100000
set_option autoImplicit false
set_option maxHeartbeats 1000000
namespace Z
open PySem PySem.Spec PyProof.Rows L2

/-! ### statements -/
inductive Rt where
  | d (x : D)
  | own (xs : List D)
inductive Fl where
  | nx
  | rt (r : Rt)
  | bk
  | ct
def rhoT : Rho Rt V := fun K F G Mu Γ σ H r v => match r with
  | .d x => Dq K G v x
  | .own xs => rhoO K F G Mu Γ σ H xs v
def spost (X : Cx) (W : WX) (F : Fr) (G : Hp) (Mu : Option Addr) (D : Ends) (o : Ro Fl) : Prop := match o with
  | .bad => False
  | .ok .nx Γ' => ∀ σ' H' G', Same G G' → Rel X.K F G' Mu Γ' σ' H' → D.nx σ' H'
  | .ok (.rt r) Γ' => ∀ v σ' H' G', Same G G' → Rel X.K F G' Mu Γ' σ' H' → rhoT X.K F G' Mu Γ' σ' H' r v → D.rt v H'
  | .ok .bk Γ' => ∀ σ' H' G', Same G G' → Rel X.K F G' Mu Γ' σ' H' → D.bk σ' H'
  | .ok .ct Γ' => ∀ σ' H' G', Same G G' → Rel X.K F G' Mu Γ' σ' H' → D.ct σ' H'
  | .ex c x Γ' => ∀ C a v σ' H' G', X.mg c = some (.ref C) → Same G G' → Rel X.K F G' Mu Γ' σ' H' → H' a = some (.xd [("value", v)]) → Dq X.K G' v x → W (.ref C) (some a) σ' H'
def st (X : Cx) (W : WX) (m : M Fl) : TS := fun D σ H => ∃ F G Mu Γ, Rel X.K F G Mu Γ σ H ∧ spost X W F G Mu D (m Γ)
def DS (X : Cx) (s : Stmt) (m : M Fl) : Prop := ∀ W, Takes X W → PS X s (st X W m)
def DSs (X : Cx) (ss : List Stmt) (m : M Fl) : Prop := ∀ W, Takes X W → PSs X ss (st X W m)
def dSeq (a b : M Fl) : M Fl := fun g => match a g with
  | .ok .nx g' => b g'
  | o => o
def sNx : M Fl := fun g => .ok .nx g
def sBk : M Fl := fun g => .ok .bk g
def sCt : M Fl := fun g => .ok .ct g
section
variable {X : Cx} {W : WX} {F : Fr} {G G' : Hp} {Mu : Option Addr} {D D' : Ends}
theorem spost.rebase {o : Ro Fl} (e : Same G G') (p : spost X W F G Mu D o) : spost X W F G' Mu D o := by
  cases o with
  | bad => exact p
  | ok r Γ' =>
    cases r with
    | nx => exact fun σ' H' G2 h => p σ' H' G2 (e.trans h)
    | rt r => exact fun v σ' H' G2 h => p v σ' H' G2 (e.trans h)
    | bk => exact fun σ' H' G2 h => p σ' H' G2 (e.trans h)
    | ct => exact fun σ' H' G2 h => p σ' H' G2 (e.trans h)
  | ex c x Γ' => exact fun C a v σ' H' G2 h1 h2 => p C a v σ' H' G2 h1 (e.trans h2)
end
section
variable {X : Cx} {s : Stmt} {ss : List Stmt} {e c : Expr} {pos : Pos}
theorem dss_nil : DSs X [] sNx := fun W _ => pss_imp pss_nil fun D σ H ⟨F, G, Mu, Γ, R, p⟩ => p σ H G (Same.refl _) R
theorem dss_cons {m n : M Fl} (h : DS X s m) (k : DSs X ss n) : DSs X (s :: ss) (dSeq m n) := fun W tk => pss_imp (pss_cons (h W tk) (k W tk)) fun D σ H ⟨F, G, Mu, Γ, R, p⟩ => by
  refine ⟨F, G, Mu, Γ, R, ?_⟩
  unfold dSeq at p
  cases e1 : m Γ with
  | bad => rw [e1] at p; exact p
  | ex c x Γ' => rw [e1] at p; exact p
  | ok r Γ' =>
    rw [e1] at p
    cases r with
    | nx => exact fun σ' H' G' h R' => ⟨F, G', Mu, Γ', R', p.rebase h⟩
    | rt r => exact p
    | bk => exact p
    | ct => exact p
theorem dss_one {m : M Fl} (h : DS X s m) : DSs X [s] m := fun W tk => pss_one (h W tk)
theorem ds_pass : DS X (.Pass pos) sNx := fun W _ => ps_imp ps_pass fun D σ H ⟨F, G, Mu, Γ, R, p⟩ => p σ H G (Same.refl _) R
theorem ds_break : DS X (.Break pos) sBk := fun W _ => ps_imp ps_break fun D σ H ⟨F, G, Mu, Γ, R, p⟩ => p σ H G (Same.refl _) R
theorem ds_continue : DS X (.Continue pos) sCt := fun W _ => ps_imp ps_continue fun D σ H ⟨F, G, Mu, Γ, R, p⟩ => p σ H G (Same.refl _) R
theorem ds_doc {x : Str} {j pos'} : DS X (.Expr (.Constant (.str x) j pos) pos') sNx := fun W _ => ps_imp ps_doc fun D σ H ⟨F, G, Mu, Γ, R, p⟩ => p σ H G (Same.refl _) R

/-! from an expression's end to a statement's -/
/-- an expression, then what is done with what it gave -/
def sOf {α : Type} (m : M α) (f : α → M Fl) : M Fl := bnd m f
theorem st_bnd {α β : Type} {ρ : Rho α β} {W : WX} {σ : St} {H : Hp} {D : Ends} {m : M α} {f : α → M Fl} (p : st X W (bnd m f) D σ H) : zt X W ρ m σ H fun v H1 => ∃ r F G Mu Γ, Rel X.K F G Mu Γ σ H1 ∧ ρ X.K F G Mu Γ σ H1 r v ∧ spost X W F G Mu D (f r Γ) := by
  obtain ⟨F, G, Mu, Γ, R, q⟩ := p
  refine ⟨F, G, Mu, Γ, R, ?_⟩
  unfold bnd at q
  cases e : m Γ with
  | bad => rw [e] at q; exact q
  | ok r Γ1 =>
    rw [e] at q
    exact fun v H1 G1 h1 R1 h2 => ⟨r, F, G1, Mu, Γ1, R1, h2, q.rebase h1⟩
  | ex c x Γ1 =>
    rw [e] at q
    exact fun C a v H' G' => q C a v σ H' G'
def sExpr (m : M D) : M Fl := bnd m fun _ => sNx
def sRet (m : M D) : M Fl := bnd m fun x => fun g => .ok (.rt (.d x)) g
def sRetO (m : M (List D)) : M Fl := bnd m fun x => fun g => .ok (.rt (.own x)) g
def sRetN : M Fl := fun g => .ok (.rt (.d .none)) g
def sSet (i : Nat) (m : M D) : M Fl := bnd m fun x => fun g => .ok .nx (g.set i (.d x))
def sSetO (i : Nat) (m : M (List D)) : M Fl := bnd m fun x => fun g => .ok .nx (g.set i (.own false x))
def sIf (t : M Bool) (a b : M Fl) : M Fl := bnd t fun k => if k = true then a else b
theorem ds_expr {m : M D} (h : DP X e m) (hs : swapsWith e none pos.line X.env = pure false := by rfl) : DS X (.Expr e pos) (sExpr m) := fun W tk => ps_imp (ps_expr (h W tk) hs) fun D σ H p =>
  (st_bnd (ρ := rhoD) p).imp fun v H1 ⟨r, F, G, Mu, Γ, R, _, q⟩ => q σ H1 G (Same.refl _) R
theorem ds_ret {m : M D} (h : DP X e m) : DS X (.Return (some e) pos) (sRet m) := fun W tk => ps_imp (ps_ret (h W tk)) fun D σ H p =>
  (st_bnd (ρ := rhoD) p).imp fun v H1 ⟨r, F, G, Mu, Γ, R, h1, q⟩ => q v σ H1 G (Same.refl _) R h1
theorem ds_retO {m : M (List D)} (h : DO X e m) : DS X (.Return (some e) pos) (sRetO m) := fun W tk => ps_imp (ps_ret (h W tk)) fun D σ H p =>
  (st_bnd (ρ := rhoO) p).imp fun v H1 ⟨r, F, G, Mu, Γ, R, h1, q⟩ => q v σ H1 G (Same.refl _) R h1
theorem ds_retN : DS X (.Return none pos) sRetN := fun W _ => ps_imp ps_retN fun D σ H ⟨F, G, Mu, Γ, R, p⟩ => p .non σ H G (Same.refl _) R .non
/-- return of a name that holds a list of one's own: it is the caller's -/
def sRetV (i : Nat) : M Fl := fun g => match g[i]? with
  | some (.own false xs) => .ok (.rt (.own xs)) (g.set i .u)
  | some (.d x) => .ok (.rt (.d x)) g
  | _ => .bad
theorem ds_retV {i : Nat} {x : Str} {p : Pos} (hN : X.N[i]? = some x) (hv : Vis X.env.scope x) (hd : (x == ("__debug__" : Str)) = false := by decide) (hcd : (x == ("__classdict__" : Str)) = false := by decide) : DS X (.Return (some (.Name x p)) pos) (sRetV i) := fun W _ =>
  ps_imp (ps_ret (pe_var hN hv hd hcd)) fun D σ H ⟨F, G, Mu, Γ, R, q⟩ => by
    unfold sRetV at q
    split at q
    · rename_i xs hg
      obtain ⟨l, us, h1, h2, h3, h4, h5, h6, h7, ho⟩ := R.owned hg
      have e : σ.set i (σ[i]?.join) = σ := by
        rw [h1]
        exact List.ext_getElem? fun j => by
          by_cases hj : i = j
          · subst hj
            have hi := (List.getElem?_eq_some_iff.mp h1).1
            rw [List.getElem?_set_self hi, h1]
            rfl
          · rw [List.getElem?_set_ne hj]
      have R' := R.forget i (o := σ[i]?.join)
      rw [e] at R'
      refine ⟨_, h1, q _ σ H G (Same.refl _) R' ⟨l, us, rfl, h2, h3, h4, h5, h7 rfl, fun j hj => ?_⟩⟩
      obtain ⟨k1, k2⟩ := owns_set hj (fun _ _ z => nomatch z)
      exact k2 (R.sep j i l k1 ho)
    · rename_i y hg
      obtain ⟨v, h1, h2⟩ := R.data hg
      exact ⟨v, h1, q v σ H G (Same.refl _) R h2⟩
    · exact q.elim
theorem ds_if {t : M Bool} {m n : M Fl} {a b : List Stmt} (hc : DT X c t) (ha : DSs X a m) (hb : DSs X b n) : DS X (.If c a b pos) (sIf t m n) := fun W tk => ps_imp (ps_if (hc W tk) (ha W tk) (hb W tk)) fun D σ H p =>
  (st_bnd (ρ := rhoB) p).imp fun v H1 ⟨r, F, G, Mu, Γ, R, h1, q⟩ => by
    have e0 : r = v := h1
    subst e0
    cases r with
    | true => exact ⟨F, G, Mu, Γ, R, q⟩
    | false => exact ⟨F, G, Mu, Γ, R, q⟩
variable {i : Nat} {x : Str} {pos' : Pos}
theorem ds_set {m : M D} (hN : X.N.Nodup) (hi : X.N[i]? = some x) (hx : Loc X.env.scope x) (h : DP X e m) (hs : swapsWith e (some (.Name x pos')) pos.line X.env = pure false := by rfl)
    (hf : X.fn x = true ∨ X.env.scope.names.lookup x = some .local := by first | exact .inl rfl | exact .inr rfl | assumption) : DS X (.Assign [.Name x pos'] e pos) (sSet i m) := fun W tk =>
  ps_imp (ps_set hN hi hx (h W tk) hs hf) fun D σ H p => (st_bnd (ρ := rhoD) p).imp fun v H1 ⟨r, F, G, Mu, Γ, R, h1, q⟩ =>
    q _ H1 G (Same.refl _) (R.store (sv := .d r) ⟨v, rfl, h1⟩ fun _ _ z => nomatch z)
theorem Rel.storeO {K : PySem.W.Frag} {F : Fr} {G H : Hp} {Mu : Option Addr} {Γ : En} {σ : St} {xs : List Z.D} {v : V} (R : Rel K F G Mu Γ σ H) (h : rhoO K F G Mu Γ σ H xs v) (i : Nat) : Rel K F G Mu (Γ.set i (.own false xs)) (σ.set i (some v)) H := by
  obtain ⟨l, vs, rfl, h1, h2, h3, h4, h5, h6⟩ := h
  exact R.store (sv := .own false xs) ⟨l, vs, rfl, h1, h2, h3, h4, (fun z => nomatch z), fun _ => h5⟩ fun _ _ _ j l' e ho => by
    cases e
    exact absurd ho (h6 j)
theorem ds_setO {m : M (List Z.D)} (hN : X.N.Nodup) (hi : X.N[i]? = some x) (hx : Loc X.env.scope x) (h : DO X e m) (hs : swapsWith e (some (.Name x pos')) pos.line X.env = pure false := by rfl)
    (hf : X.fn x = true ∨ X.env.scope.names.lookup x = some .local := by first | exact .inl rfl | exact .inr rfl | assumption) : DS X (.Assign [.Name x pos'] e pos) (sSetO i m) := fun W tk =>
  ps_imp (ps_set hN hi hx (h W tk) hs hf) fun D σ H p => (st_bnd (ρ := rhoO) p).imp fun v H1 ⟨r, F, G, Mu, Γ, R, h1, q⟩ => q _ H1 G (Same.refl _) (R.storeO h1 i)
/-- x op= e -/
def sAug (i : Nat) (f : Z.D → Z.D → Option Z.D) (m : M Rs) : M Fl := fun g => match g[i]? with
  | some (.d x) => bnd m (fun s => fun g' => match vl g' s with
    | some y => match f x y with
      | some z => .ok .nx (g'.set i (.d z))
      | none => .bad
    | none => .bad) g
  | _ => .bad
theorem ds_aug {op : Operator} {f : Z.D → Z.D → Option Z.D} {m : M Rs} (hN : X.N.Nodup) (hi : X.N[i]? = some x) (hx : Loc X.env.scope x) (he : DV X e m) (ho : OpR X (inplaceOp op) (rD2 X.K f))
    (hf : X.fn x = true ∨ X.env.scope.names.lookup x = some .local := by first | exact .inl rfl | exact .inr rfl | assumption) : DS X (.AugAssign (.Name x pos') op e pos) (sAug i f m) := fun W tk =>
  ps_imp (ps_aug hN hi hx (he W tk) ho hf) fun D σ H ⟨F, G, Mu, Γ, R, q⟩ => by
    unfold sAug at q
    split at q
    · rename_i y hg
      obtain ⟨v, h1, h2⟩ := R.data hg
      refine ⟨v, h1, F, G, Mu, Γ, R, ?_⟩
      unfold bnd at q
      dsimp only at q
      cases e1 : m Γ with
      | bad => rw [e1] at q; exact q
      | ex c z Γ1 =>
        rw [e1] at q
        exact fun C a v H' G' => q C a v σ H' G'
      | ok s Γ1 =>
        rw [e1] at q
        intro u H1 G1 k1 R1 k2
        dsimp only at q
        split at q
        · rename_i y2 e2
          split at q
          · rename_i z e3
            exact ⟨G1, y, y2, z, R1.gh, .inl (dp_mono k1 _ _ h2), R1.read k2 e2, e3, fun w H' G' ex d => q _ H' G' (k1.trans ex.g) ((R1.ext ex).store (sv := .d z) ⟨w, rfl, d⟩ fun _ _ z => nomatch z)⟩
          · exact q.elim
        · exact q.elim
    · exact q.elim
/-- xs[k] = v, xs a name's own list -/
def sSub (i : Nat) (m : M Z.D) (k : M Rs) : M Fl := bnd m fun y => fun g => match g[i]? with
  | some (.own _ _) => bnd k (fun s => fun g' => match g'[i]?, vl g' s with
    | some (.own b xs), some (.int n) => match ixN xs.length n with
      | some j => .ok .nx (g'.set i (.own b (xs.set j y)))
      | none => .bad
    | _, _ => .bad) g
  | _ => .bad
theorem ds_sub {m : M Z.D} {k : M Rs} {ix : Expr} {pn ps : Pos} (hi : X.N[i]? = some x) (hv : Vis X.env.scope x) (he : DP X e m) (hk : DV X ix k) (hd : (x == ("__debug__" : Str)) = false := by decide) (hcd : (x == ("__classdict__" : Str)) = false := by decide)
    (ha : ∀ v, assign (.Subscript (.Name x pn) ix ps) X.env v = (do
      let ov ← holding [v] (eval (.Name x pn) X.env)
      let iv ← holding [v, ov] (eval ix X.env)
      standAt ps
      holding [v, ov, iv] (setItem ov iv v)
      release [v, ov, iv] []) := by intro _; rfl) (hs : swapsWithSole [.Subscript (.Name x pn) ix ps] e pos.line X.env = pure false := by rfl) (hw : swappedStores [.Subscript (.Name x pn) ix ps] e X.env = pure none := by rfl)
    (h1 : (assignEach [.Subscript (.Name x pn) ix ps] X.env).map (·.2) = [assign (.Subscript (.Name x pn) ix ps) X.env] := by rfl) : DS X (.Assign [.Subscript (.Name x pn) ix ps] e pos) (sSub i m k) := fun W tk =>
  ps_imp (ps_asg (he W tk) (pg_sub (pe_var hi hv hd hcd) (hk W tk) set_list ha) hs hw h1) fun D σ H p => (st_bnd (ρ := rhoD) p).imp fun v H1 ⟨y, F, G, Mu, Γ, R, d1, q⟩ => by
    split at q
    · rename_i b xs hg
      obtain ⟨l, us, j1, j2, j3, j4, j5, j6, j7, jo⟩ := R.owned hg
      refine ⟨_, j1, F, G, Mu, Γ, R, ?_⟩
      unfold bnd at q
      cases e1 : k Γ with
      | bad => rw [e1] at q; exact q
      | ex c z Γ1 =>
        rw [e1] at q
        exact fun C a v H' G' => q C a v σ H' G'
      | ok s Γ1 =>
        rw [e1] at q
        intro u H2 G2 k1 R2 k2
        dsimp only at q
        split at q
        · rename_i b' xs' n hg' e2
          split at q
          · rename_i j hj
            obtain ⟨l', us', i1, i2, i3, i4, i5, i6, i7, io⟩ := R2.owned hg'
            rw [j1] at i1
            cases i1
            have e3 := (R2.read k2 e2).int
            subst e3
            refine ⟨l, us', n, j, rfl, rfl, i2, by rw [dpa_length i3]; exact hj, ?_⟩
            exact q σ _ G2 k1 (R2.change hg' j1 (dpa_set (dp_mono k1 _ _ d1) j i3))
          · exact q.elim
        · exact q.elim
    · exact q.elim
end
end Z
set_option Elab.async false
set_option linter.all false
set_option maxRecDepth 100000
set_option autoImplicit false
set_option maxHeartbeats 1000000
namespace Z
open PySem PySem.Spec PyProof.Rows L2

/-! ### a place that steps leave alone -/
def Fr.lock (F : Fr) (l : Addr) (o : HO) (n : F l = none) : Fr where
  f := upd F.f l o
  a := F.a
  k := fun b => F.k b ∨ b = l
  af := F.af.trans (same_upd n)
  kf := fun b h => by
    rcases h with h | h
    · rw [upd_ne (fun z => F.kf b h (by rw [z]; exact n))]
      exact F.kf b h
    · rw [h, upd_same]
      exact fun z => nomatch z
section
variable {K : PySem.W.Frag} {F : Fr} {G H H' G' : Hp} {Mu : Option Addr} {Γ : En} {σ : St} {l : Addr} {o : HO}
theorem Rel.lock (R : Rel K F G Mu Γ σ H) (n : F l = none) (h : H l = some o) (g : G l = none) (m : Mu ≠ some l) (ow : ∀ i, ¬ Owns Γ σ i l) : Rel K (F.lock l o n) G Mu Γ σ H where
  fh := fun b x q => by
    by_cases hb : b = l
    · subst hb
      rw [show (F.lock b o n).f b = some o from upd_same] at q
      rw [h]
      exact q
    · rw [show (F.lock l o n).f b = F.f b from upd_ne hb] at q
      exact R.fh b x q
  lk := fun b q => by
    rcases q with q | q
    · exact R.lk b q
    · rw [q]
      exact g
  gh := R.gh
  mu := fun b q => by
    obtain ⟨h1, h2, h3⟩ := R.mu b q
    have hne : b ≠ l := fun z => m (by rw [q, z])
    exact ⟨(upd_ne hne).trans h1, h2, h3⟩
  len := R.len
  sl := fun i sv q => by
    have p := R.sl i sv q
    cases sv with
    | u => exact p
    | d x => exact p
    | a xs => exact p
    | own b xs =>
      obtain ⟨l', vs, p1, p2, p3, p4, p5, p6, p7⟩ := p
      have hne : l' ≠ l := fun z => ow i (by rw [← z]; exact ⟨b, xs, q, join_some p1⟩)
      exact ⟨l', vs, p1, p2, p3, (upd_ne hne).trans p4, p5, p6, p7⟩
  sep := R.sep
theorem Rel.unlock {n : F l = none} (R : Rel K (F.lock l o n) G Mu Γ σ H) : Rel K F G Mu Γ σ H ∧ H l = some o ∧ G l = none ∧ Mu ≠ some l ∧ ∀ i, ¬ Owns Γ σ i l := by
  have back : ∀ b, (F.lock l o n) b = none → F b = none := fun b q => by
    by_cases hb : b = l
    · rw [hb]
      exact n
    · rw [show (F.lock l o n) b = F.f b from upd_ne hb] at q
      exact q
  have at_l : (F.lock l o n) l = some o := upd_same
  refine ⟨⟨fun b x q => R.fh b x (same_upd n b x q), fun b q => R.lk b (.inl q), R.gh, fun b q => ⟨back b (R.mu b q).1, (R.mu b q).2⟩, R.len, fun i sv q => ?_, R.sep⟩, R.fh _ _ at_l, R.lk l (.inr rfl), fun q => ?_, fun i q => ?_⟩
  · have p := R.sl i sv q
    cases sv with
    | u => exact p
    | d x => exact p
    | a xs => exact p
    | own b xs =>
      obtain ⟨l', vs, p1, p2, p3, p4, p5, p6, p7⟩ := p
      exact ⟨l', vs, p1, p2, p3, back l' p4, p5, p6, p7⟩
  · have := (R.mu l q).1
    rw [at_l] at this
    cases this
  · have := (R.there q).1
    rw [at_l] at this
    cases this
end

/-! ### several values, lists of one's own among them -/
def Apart (l : V) : List Rt → List V → Prop
  | [], _ => True
  | .d _ :: rs, vs => Apart l rs vs.tail
  | .own _ :: rs, vs => vs.head? ≠ some l ∧ Apart l rs vs.tail
def RtAll (K : PySem.W.Frag) (F : Fr) (G : Hp) (Mu : Option Addr) (Γ : En) (σ : St) (H : Hp) : List Rt → List V → Prop
  | [], vs => vs = []
  | .d x :: rs, vs => ∃ v us, vs = v :: us ∧ Dq K G v x ∧ RtAll K F G Mu Γ σ H rs us
  | .own xs :: rs, vs => ∃ v us, vs = v :: us ∧ rhoO K F G Mu Γ σ H xs v ∧ Apart v rs us ∧ RtAll K F G Mu Γ σ H rs us
def rhoMs : Rho (List Rt) (List V) := fun K F G Mu Γ σ H rs vs => RtAll K F G Mu Γ σ H rs vs
def DMs (X : Cx) (es : List Expr) (m : M (List Rt)) : Prop := ∀ W, Takes X W → PA X es (zt X W rhoMs m)
def msNil : M (List Rt) := rt []
def msD (m : M D) (n : M (List Rt)) : M (List Rt) := bnd m fun x => bnd n fun xs => rt (.d x :: xs)
def msO (m : M (List D)) (n : M (List Rt)) : M (List Rt) := bnd m fun x => bnd n fun xs => rt (.own x :: xs)
section
variable {K : PySem.W.Frag} {F : Fr} {G H H' G' : Hp} {Mu : Option Addr} {Γ : En} {σ : St} {l : Addr} {o : HO} {n : F l = none}
theorem rtAll_unlock : ∀ {rs : List Rt} {vs : List V}, RtAll K (F.lock l o n) G Mu Γ σ H rs vs → RtAll K F G Mu Γ σ H rs vs ∧ Apart (.ref l) rs vs
  | [], _, h => ⟨h, trivial⟩
  | .d x :: rs, _, h => by
    obtain ⟨v, us, rfl, h1, h2⟩ := h
    obtain ⟨k1, k2⟩ := rtAll_unlock h2
    exact ⟨⟨v, us, rfl, h1, k1⟩, k2⟩
  | .own x :: rs, _, h => by
    obtain ⟨v, us, rfl, h1, h2, h3⟩ := h
    obtain ⟨k1, k2⟩ := rtAll_unlock h3
    obtain ⟨l', ws, rfl, p1, p2, p3, p4, p5, p6⟩ := h1
    have hne : l' ≠ l := fun z => by
      rw [show (F.lock l o n) l' = upd F.f l o l' from rfl, z, upd_same] at p3
      cases p3
    exact ⟨⟨_, us, rfl, ⟨l', ws, rfl, p1, p2, by rw [show (F.lock l o n) l' = F.f l' from upd_ne hne] at p3; exact p3, p4, p5, p6⟩, h2, k1⟩, fun z => hne (by injection z with z; injection z), k2⟩
end
section
variable {X : Cx} {e : Expr} {es : List Expr} {pos : Pos}
theorem dms_nil : DMs X [] msNil := fun W _ => pa_imp pa_nil fun σ H Q ⟨F, G, Mu, Γ, R, p⟩ => zpost_ok R (show rhoMs _ _ _ _ _ _ _ [] [] from rfl) p
theorem dms_d {m : M D} {n : M (List Rt)} (h : DP X e m) (k : DMs X es n) (hs : starEach (e :: es) X.env = (false, eval e X.env) :: starEach es X.env := by rfl) : DMs X (e :: es) (msD m n) := fun W tk => by
  refine pa_imp (pa_cons (h W tk) (k W tk) hs) fun σ H Q p => ?_
  refine (zt_bnd2 (ρ := rhoD) (ρ' := rhoMs) stD p).imp fun v H1 q => q.imp fun vs H2 ⟨x, xs, F, G, Mu, Γ, R, h1, h2, q2⟩ => ?_
  exact zpost_ok R (show rhoMs _ _ _ _ _ _ _ (.d x :: xs) (v :: vs) from ⟨v, vs, rfl, h1, h2⟩) q2
theorem dms_o {m : M (List D)} {n : M (List Rt)} (h : DO X e m) (k : DMs X es n) (hs : starEach (e :: es) X.env = (false, eval e X.env) :: starEach es X.env := by rfl) : DMs X (e :: es) (msO m n) := fun W tk => by
  refine pa_imp (pa_cons (h W tk) (k W tk) hs) fun σ H Q p => ?_
  refine (zt_bnd (ρ := rhoO) p).imp fun v H1 ⟨xs, F, G, Mu, Γ, R, ⟨l, us, ev, o1, o2, o3, o4, o5, o6⟩, q⟩ => ?_
  subst ev
  refine ⟨F.lock l _ o3, G, Mu, Γ, R.lock o3 o1 o4 o5 o6, ?_⟩
  unfold bnd at q
  cases e1 : n Γ with
  | bad => rw [e1] at q; exact q
  | ex c x Γ1 =>
    rw [e1] at q
    exact fun C a v H' G' w1 w2 w3 => q C a v H' G' w1 w2 w3.unlock.1
  | ok rs Γ1 =>
    rw [e1] at q
    intro vs H2 G2 k1 R2 k2
    obtain ⟨R3, j1, j2, j3, j4⟩ := R2.unlock
    obtain ⟨a1, a2⟩ := rtAll_unlock k2
    exact q (.ref l :: vs) H2 G2 k1 R3 ⟨.ref l, vs, rfl, ⟨l, us, rfl, j1, dpAll_mono k1 _ _ o2, o3, j2, j3, j4⟩, a2, a1⟩
end

/-! ### storing them -/
def setRs : List Nat → List Rt → En → Option En
  | [], [], g => some g
  | i :: is, .d x :: rs, g => setRs is rs (g.set i (.d x))
  | i :: is, .own xs :: rs, g => setRs is rs (g.set i (.own false xs))
  | _, _, _ => none
def stV : List Nat → List V → St → St
  | i :: is, v :: vs, σ => stV is vs (σ.set i (some v))
  | _, _, σ => σ
section
variable {K : PySem.W.Frag} {F : Fr} {G H : Hp} {Mu : Option Addr}
theorem rhoO_set {Γ : En} {σ : St} {xs : List D} {v w : V} {i : Nat} {sv : SV} (h : rhoO K F G Mu Γ σ H xs w) (hn : (∀ m ys, sv ≠ .own m ys) ∨ v ≠ w) : rhoO K F G Mu (Γ.set i sv) (σ.set i (some v)) H xs w := by
  obtain ⟨l, us, rfl, h1, h2, h3, h4, h5, h6⟩ := h
  refine ⟨l, us, rfl, h1, h2, h3, h4, h5, fun j hj => ?_⟩
  obtain ⟨m, ys, k1, k2⟩ := hj
  by_cases e : j = i
  · subst e
    have hj1 : j < Γ.length := by
      have := (List.getElem?_eq_some_iff.mp k1).1
      simpa using this
    have hj2 : j < σ.length := by
      have := (List.getElem?_eq_some_iff.mp k2).1
      simpa using this
    rw [List.getElem?_set_self hj1] at k1
    rw [List.getElem?_set_self hj2] at k2
    cases k1
    cases k2
    rcases hn with hn | hn
    · exact hn m ys rfl
    · exact hn rfl
  · rw [List.getElem?_set_ne (Ne.symm e)] at k1 k2
    exact h6 j ⟨m, ys, k1, k2⟩
theorem rtAll_set {Γ : En} {σ : St} {v : V} {i : Nat} {sv : SV} : ∀ {rs : List Rt} {vs : List V}, RtAll K F G Mu Γ σ H rs vs → ((∀ m ys, sv ≠ .own m ys) ∨ Apart v rs vs) → RtAll K F G Mu (Γ.set i sv) (σ.set i (some v)) H rs vs
  | [], _, h, _ => h
  | .d x :: rs, _, h, hn => by
    obtain ⟨w, us, rfl, h1, h2⟩ := h
    exact ⟨w, us, rfl, h1, rtAll_set h2 hn⟩
  | .own x :: rs, _, h, hn => by
    obtain ⟨w, us, rfl, h1, h2, h3⟩ := h
    refine ⟨w, us, rfl, rhoO_set h1 (hn.imp id fun z e => z.1 (by rw [e]; rfl)), h2, rtAll_set h3 (hn.imp id fun z => z.2)⟩
theorem Rel.setRs : ∀ {is : List Nat} {rs : List Rt} {vs : List V} {Γ Γ' : En} {σ : St}, Rel K F G Mu Γ σ H → RtAll K F G Mu Γ σ H rs vs → Z.setRs is rs Γ = some Γ' → Rel K F G Mu Γ' (stV is vs σ) H ∧ vs.length = is.length
  | [], [], vs, _, _, _, R, h, e => by
    cases (show vs = [] from h)
    cases e
    exact ⟨R, rfl⟩
  | i :: is, .d x :: rs, _, _, _, _, R, h, e => by
    obtain ⟨w, us, rfl, h1, h2⟩ := h
    have := Rel.setRs (is := is) (R.store (i := i) (sv := .d x) ⟨w, rfl, h1⟩ fun _ _ z => nomatch z) (rtAll_set h2 (.inl fun _ _ z => nomatch z)) e
    exact ⟨this.1, by rw [List.length_cons, List.length_cons, this.2]⟩
  | i :: is, .own x :: rs, _, _, _, _, R, h, e => by
    obtain ⟨w, us, rfl, h1, h2, h3⟩ := h
    have := Rel.setRs (is := is) (R.storeO h1 i) (rtAll_set h3 (.inr h2)) e
    exact ⟨this.1, by rw [List.length_cons, List.length_cons, this.2]⟩
  | [], _ :: _, _, _, _, _, _, _, e => by cases e
  | _ :: _, [], _, _, _, _, _, _, e => by cases e
end
def sPar (is : List Nat) (m : M (List Rt)) : M Fl := bnd m fun rs => fun g => match setRs is rs g with
  | some g' => .ok .nx g'
  | none => .bad
section
variable {X : Cx} {pos : Pos}
theorem par_end {W : WX} {D : Ends} {σ : St} {H : Hp} {is : List Nat} {m : M (List Rt)} (p : st X W (sPar is m) D σ H) : zt X W rhoMs m σ H fun vs H1 => vs.length = is.length ∧ D.nx (stV is vs σ) H1 :=
  (st_bnd (ρ := rhoMs) p).imp fun v H1 ⟨r, F, G, Mu, Γ, R, h1, q⟩ => by
    split at q
    · rename_i g' e
      obtain ⟨R', hl⟩ := R.setRs h1 e
      exact ⟨hl, q _ H1 G (Same.refl _) R'⟩
    · exact q.elim
theorem ds_par {i j : Nat} {x y : Str} {a b : Expr} {px py pt : Pos} {kt k2 pt2} {m : M (List Rt)} (hc : X.calm = true) (hN : X.N.Nodup) (hi : X.N[i]? = some x) (hj : X.N[j]? = some y) (hij : i ≠ j)
    (hx : X.env.scope.names.lookup x = some .local) (hy : X.env.scope.names.lookup y = some .local) (ha : DMs X [a, b] m)
    (hw : swappedStores [.Tuple [.Name x px, .Name y py] kt pt] (.Tuple [a, b] k2 pt2) X.env = pure (some [x, y]) := by rfl)
    (hs : swapsWithSole [.Tuple [.Name x px, .Name y py] kt pt] (.Tuple [a, b] k2 pt2) pos.line X.env = pure false := by rfl) :
    DS X (.Assign [.Tuple [.Name x px, .Name y py] kt pt] (.Tuple [a, b] k2 pt2) pos) (sPar [i, j] m) := fun W tk =>
  ps_imp (ps_par hc hN hi hj hij hx hy (ha W tk) hw hs) fun D σ H p => (par_end p).imp fun vs H1 ⟨hl, q⟩ => by
    match vs, hl, q with
    | [v, w], _, q => exact ⟨v, w, rfl, q⟩
theorem ds_par3 {i j l : Nat} {x y z : Str} {a b c : Expr} {px py pz pt : Pos} {kt k2 pt2} {m : M (List Rt)} (hc : X.calm = true) (hN : X.N.Nodup) (hi : X.N[i]? = some x) (hj : X.N[j]? = some y) (hl : X.N[l]? = some z) (hij : i ≠ j) (hil : i ≠ l) (hjl : j ≠ l)
    (hx : X.env.scope.names.lookup x = some .local) (hy : X.env.scope.names.lookup y = some .local) (hz : X.env.scope.names.lookup z = some .local) (ha : DMs X [a, b, c] m)
    (hw : swappedStores [.Tuple [.Name x px, .Name y py, .Name z pz] kt pt] (.Tuple [a, b, c] k2 pt2) X.env = pure (some [x, y, z]) := by rfl)
    (hs : swapsWithSole [.Tuple [.Name x px, .Name y py, .Name z pz] kt pt] (.Tuple [a, b, c] k2 pt2) pos.line X.env = pure false := by rfl) :
    DS X (.Assign [.Tuple [.Name x px, .Name y py, .Name z pz] kt pt] (.Tuple [a, b, c] k2 pt2) pos) (sPar [i, j, l] m) := fun W tk =>
  ps_imp (ps_par3 hc hN hi hj hl hij hil hjl hx hy hz (ha W tk) hw hs) fun D σ H p => (par_end p).imp fun vs H1 ⟨hl, q⟩ => by
    match vs, hl, q with
    | [u, v, w], _, q => exact ⟨u, v, w, rfl, q⟩
end

/-! ### targets -/
inductive Tg where
  | nm (i : Nat)
  | tup (ts : List Tg)
mutual
def setT : Tg → D → En → Option En
  | .nm i, x, g => some (g.set i (.d x))
  | .tup ts, .tuple xs, g => setTs ts xs g
  | .tup _, _, _ => none
def setTs : List Tg → List D → En → Option En
  | [], [], g => some g
  | t :: ts, x :: xs, g => match setT t x g with
    | some g' => setTs ts xs g'
    | none => none
  | _, _, _ => none
end
mutual
def tgS : Tg → List Nat
  | .nm i => [i]
  | .tup ts => tgsS ts
def tgsS : List Tg → List Nat
  | [] => []
  | t :: ts => tgS t ++ tgsS ts
end
theorem setTs_len : ∀ {ts : List Tg} {xs : List D} {g g' : En}, setTs ts xs g = some g' → xs.length = ts.length
  | [], [], _, _, _ => rfl
  | [], _ :: _, _, _, e => by
    unfold setTs at e
    cases e
  | _ :: _, [], _, _, e => by
    unfold setTs at e
    cases e
  | t :: ts, x :: xs, _, _, e => by
    unfold setTs at e
    split at e
    · rw [List.length_cons, List.length_cons, setTs_len e]
    · cases e
/-- two states that are the same outside of some slots -/
def Off (is : List Nat) (σ σ' : St) : Prop := σ'.length = σ.length ∧ ∀ j, j ∉ is → σ'[j]? = σ[j]?
theorem Off.refl {is : List Nat} {σ : St} : Off is σ σ := ⟨rfl, fun _ _ => rfl⟩
theorem Off.trans {is js : List Nat} {σ σ' σ'' : St} (a : Off is σ σ') (b : Off js σ' σ'') : Off (is ++ js) σ σ'' := ⟨b.1.trans a.1, fun j hj => by
  rw [b.2 j (fun z => hj (List.mem_append_right _ z)), a.2 j (fun z => hj (List.mem_append_left _ z))]⟩
def zG (X : Cx) (t : Tg) : TG := fun v σ H Q => ∃ F G Mu Γ Γ' x, Rel X.K F G Mu Γ σ H ∧ Dq X.K G v x ∧ setT t x Γ = some Γ' ∧ ∀ σ', Rel X.K F G Mu Γ' σ' H → Off (tgS t) σ σ' → Q σ' H
def zGs (X : Cx) (ts : List Tg) : TGs := fun vs σ H Q => ∃ F G Mu Γ Γ' xs, Rel X.K F G Mu Γ σ H ∧ DqAll X.K G vs xs ∧ setTs ts xs Γ = some Γ' ∧ ∀ σ', Rel X.K F G Mu Γ' σ' H → Off (tgsS ts) σ σ' → Q σ' H
def DG (X : Cx) (e : Expr) (t : Tg) : Prop := PG X e (zG X t)
def DGs (X : Cx) (es : List Expr) (ts : List Tg) : Prop := PGs X es (zGs X ts)
theorem pg_imp {X : Cx} {e : Expr} {t t' : TG} (p : PG X e t) (h : ∀ v σ H Q, t' v σ H Q → t v σ H Q) : PG X e t' := ⟨fun pins s σ H v u Q I r q => p.run pins s σ H v u Q I r (h v σ H Q q)⟩
theorem pgs_imp {X : Cx} {es : List Expr} {t t' : TGs} (p : PGs X es t) (h : ∀ v σ H Q, t' v σ H Q → t v σ H Q) : PGs X es t' := ⟨fun pins s σ H v u Q I r q => p.run pins s σ H v u Q I r (h v σ H Q q)⟩
section
variable {X : Cx} {pos : Pos} {x : Str} {i : Nat} {e : Expr} {es : List Expr}
theorem dg_name (hN : X.N.Nodup) (hi : X.N[i]? = some x) (hx : Loc X.env.scope x) (hf : X.fn x = true ∨ X.env.scope.names.lookup x = some .local := by first | exact .inl rfl | exact .inr rfl | assumption) : DG X (.Name x pos) (.nm i) :=
  pg_imp (pg_name hN hi hx hf) fun v σ H Q ⟨F, G, Mu, Γ, Γ', y, R, h1, h2, q⟩ => by
    unfold setT at h2
    cases h2
    refine q _ (R.store (sv := .d y) ⟨v, rfl, h1⟩ fun _ _ z => nomatch z) ⟨by rw [List.length_set], fun j hj => ?_⟩
    unfold tgS at hj
    rw [List.getElem?_set_ne (fun z => hj (by rw [z]; exact List.mem_singleton_self _))]
theorem dgs_nil : DGs X [] [] := pgs_imp pgs_nil fun vs σ H Q ⟨F, G, Mu, Γ, Γ', ys, R, h1, h2, q⟩ => by
  cases ys with
  | nil =>
    unfold setTs at h2
    cases h2
    cases h1
    exact ⟨rfl, q _ R .refl⟩
  | cons y ys =>
    unfold setTs at h2
    cases h2
theorem dgs_cons {t : Tg} {ts : List Tg} (h : DG X e t) (k : DGs X es ts) (hs : (assignEach (e :: es) X.env).map (·.2) = assign e X.env :: (assignEach es X.env).map (·.2) := by rfl) : DGs X (e :: es) (t :: ts) :=
  pgs_imp (pgs_cons h k hs) fun vs σ H Q ⟨F, G, Mu, Γ, Γ', ys, R, h1, h2, q⟩ => by
    cases ys with
    | nil => cases h2
    | cons y ys =>
      cases h1 with
      | cons d1 d2 =>
        unfold setTs at h2
        split at h2
        · rename_i g' e1
          exact ⟨_, _, rfl, F, G, Mu, Γ, g', y, R, d1, e1, fun σ1 R1 o1 => ⟨F, G, Mu, g', Γ', ys, R1, d2, h2, fun σ2 R2 o2 => q σ2 R2 (by unfold tgsS; exact o1.trans o2)⟩⟩
        · cases h2
theorem dg_tup {k : Nat} {ts : List Tg} {n : Nat} (hc : X.calm = true) (h : DGs X es ts) (hn : (assignEach es X.env).length = n := by rfl) (hst : (assignEach es X.env).findIdx? (·.1) = none := by rfl) (hl : ts.length = n := by rfl) : DG X (.Tuple es k pos) (.tup ts) :=
  pg_imp (pg_tup hc h hn hst) fun v σ H Q ⟨F, G, Mu, Γ, Γ', y, R, h1, h2, q⟩ => by
    cases y with
    | tuple ys =>
      unfold setT at h2
      cases h1 with
      | tup a b =>
        refine ⟨_, _, rfl, (a.mono R.gh).sq, ?_, F, G, Mu, Γ, Γ', ys, R, b, h2, fun σ' R' o => q σ' R' (by unfold tgS; exact o)⟩
        rw [dpa_length b, ← hl]
        exact setTs_len h2
    | _ => cases h2
end
end Z
set_option Elab.async false
set_option linter.all false
set_option maxRecDepth 100000
set_option autoImplicit false
set_option maxHeartbeats 1000000
namespace Z
open PySem PySem.Spec PyProof.Rows L2

/-! ### what is walked: the things come as data that stays (false), or as new tuples (true) -/
def YV (b : Bool) (K : PySem.W.Frag) (G H : Hp) (v : V) (x : D) (H' : Hp) : Prop := match b with
  | false => H' = H ∧ Dq K G v x
  | true => ∃ T us ds, v = .ref T ∧ x = .tuple ds ∧ H T = none ∧ H' = upd H T (.tup us) ∧ DqAll K G us ds
def Src (b : Bool) (K : PySem.W.Frag) (F : Fr) (G : Hp) (J : It) (xs : List D) : Prop := Walk J xs.length (fun H => Same F.f H ∧ Same G H) (fun i H v H' => ∃ x, xs[i]? = some x ∧ YV b K G H v x H')
def rhoW (b : Bool) : Rho (List D) It := fun K F G _ _ _ _ xs J => Src b K F G J xs
def DI (b : Bool) (X : Cx) (tg e : Expr) (m : M (List D)) : Prop := ∀ W, Takes X W → PI X tg e (zt X W (rhoW b) m)
theorem pi_imp {X : Cx} {tg e : Expr} {t t' : TI} (p : PI X tg e t) (h : ∀ σ H Q, t' σ H Q → t σ H Q) : PI X tg e t' := ⟨fun pins s σ H Q I q => p.run pins s σ H Q I (h σ H Q q)⟩
theorem src_list {K : PySem.W.Frag} {F : Fr} {G : Hp} {l : Addr} {vs : List V} {xs : List D} (q : ∀ H, Same F.f H → Same G H → SqL K H l vs) (h : DqAll K G vs xs) : Src false K F G (Itl K l) xs := by
  have w := (walk_list (K := K) (a := l) (xs := vs)).mono (G' := fun H => Same F.f H ∧ Same G H) (Y' := fun i H v H' => ∃ x, xs[i]? = some x ∧ YV false K G H v x H') (fun H e => q H e.1 e.2) fun i H v H' hi _ y => by
    obtain ⟨x, h1, h2⟩ := dpa_get' h y.2
    exact ⟨x, h1, y.1, h2⟩
  rw [dpa_length h] at w
  exact w
theorem src_tup {K : PySem.W.Frag} {F : Fr} {G : Hp} {l : Addr} {vs : List V} {xs : List D} (q : ∀ H, Same F.f H → Same G H → SqT K H l vs) (h : DqAll K G vs xs) : Src false K F G (Itt K l) xs := by
  have w := (walk_tup (K := K) (a := l) (xs := vs)).mono (G' := fun H => Same F.f H ∧ Same G H) (Y' := fun i H v H' => ∃ x, xs[i]? = some x ∧ YV false K G H v x H') (fun H e => q H e.1 e.2) fun i H v H' hi _ y => by
    obtain ⟨x, h1, h2⟩ := dpa_get' h y.2
    exact ⟨x, h1, y.1, h2⟩
  rw [dpa_length h] at w
  exact w
/-- lo, lo + c, .. -/
def rngD (lo c : Int) (n : Nat) : List D := (List.range n).map fun (i : Nat) => .int (lo + (i : Int) * c)
theorem rngD_len {lo c : Int} {n : Nat} : (rngD lo c n).length = n := by simp [rngD]
theorem rngD_get {lo c : Int} {n i : Nat} (h : i < n) : (rngD lo c n)[i]? = some (.int (lo + (i : Int) * c)) := by simp [rngD, h]
theorem src_range {K : PySem.W.Frag} {F : Fr} {G : Hp} {lo : Int} {n : Nat} : Src false K F G (Itr lo n) (rngD lo 1 n) := by
  have w := (walk_range (lo := lo) (n := n)).mono (G' := fun H => Same F.f H ∧ Same G H) (Y' := fun i H v H' => ∃ x, (rngD lo 1 n)[i]? = some x ∧ YV false K G H v x H') (fun _ _ => trivial) fun i H v H' hi _ y =>
    ⟨_, rngD_get hi, y.1, by rw [y.2, Int.mul_one]; exact .int _⟩
  unfold Src
  rw [rngD_len]
  exact w
theorem src_rangeC {K : PySem.W.Frag} {F : Fr} {G : Hp} {lo c : Int} {n : Nat} : Src false K F G (Itc lo c n) (rngD lo c n) := by
  have w := (walk_rangeC (lo := lo) (c := c) (n := n)).mono (G' := fun H => Same F.f H ∧ Same G H) (Y' := fun i H v H' => ∃ x, (rngD lo c n)[i]? = some x ∧ YV false K G H v x H') (fun _ _ => trivial) fun i H v H' hi _ y =>
    ⟨_, rngD_get hi, y.1, by rw [y.2]; exact .int _⟩
  unfold Src
  rw [rngD_len]
  exact w

/-! ### a list or a tuple by its value -/
def iSq (K : PySem.W.Frag) (te : TE) : TI := fun σ H R => te σ H fun x H1 => ∃ a, x = .ref a ∧ ((∃ vs, SqL K H1 a vs ∧ R (Itl K a) H1) ∨ ∃ vs, SqT K H1 a vs ∧ R (Itt K a) H1)
theorem pi_sq {X : Cx} {tg e : Expr} {te : TE} (he : PE X e te) : PI X tg e (iSq X.K te) := by
  refine ⟨fun pins s σ H R I h => thn (he.run pins s σ H _ I h) fun v s1 ⟨x, H1, I1, r1, q1⟩ => ?_⟩
  obtain ⟨a, rfl, q⟩ := q1
  cases r1
  rcases q with ⟨vs, hq, q⟩ | ⟨vs, hq, q⟩
  · obtain ⟨its, _, p, _⟩ := I1.list hq
    exact wpAny_pyIter_list p.isList (pi_one (tk := s1.toks) I1 _ (turn_list a _) ⟨_, Heap.get?_push_size _ rfl, rfl, rfl⟩ q)
  · obtain ⟨its, _, p, _⟩ := I1.tuple hq
    exact wpAny_pyIter_tuple (show s1.heap.IsTuple a its.toArray from p) (pi_one (tk := s1.toks) I1 _ (turn_tuple a _) ⟨_, Heap.get?_push_size _ rfl, rfl, rfl⟩ q)
def seqD : D → Option (List D)
  | .list xs => some xs
  | .tuple xs => some xs
  | _ => none
def itR (r : Rs) : M (List D) := fun g => match r with
  | .d x => match seqD x with
    | some xs => .ok xs g
    | none => .bad
  | .sl i => match g[i]? with
    | some (.d x) => match seqD x with
      | some xs => .ok xs g
      | none => .bad
    | some (.a xs) => .ok xs g
    | some (.own false xs) => .ok xs (g.set i (.d (.list xs)))
    | _ => .bad
def iV (m : M Rs) : M (List D) := bnd m itR
theorem it_data {X : Cx} {W : WX} {σ : St} {F : Fr} {G H : Hp} {Mu : Option Addr} {Γ : En} {R : It → Hp → Prop} {v : V} {x : D} (Rl : Rel X.K F G Mu Γ σ H) (h : Dq X.K G v x) (q : zpost X W σ (rhoW false) F G Mu R (match seqD x with
      | some xs => .ok xs Γ
      | none => .bad)) : ∃ a, v = .ref a ∧ ((∃ vs, SqL X.K H a vs ∧ R (Itl X.K a) H) ∨ ∃ vs, SqT X.K H a vs ∧ R (Itt X.K a) H) := by
  cases h with
  | lst a b =>
    rename_i l vs xs
    exact ⟨l, rfl, .inl ⟨vs, Rl.gh.seq a, zpost_ok Rl (src_list (fun H' _ e => e.seq a) b) q⟩⟩
  | tup a b =>
    rename_i l vs xs
    exact ⟨l, rfl, .inr ⟨vs, (a.mono Rl.gh).sq, zpost_ok Rl (src_tup (fun H' _ e => (a.mono e).sq) b) q⟩⟩
  | _ => exact q.elim
theorem di_val {X : Cx} {tg e : Expr} {m : M Rs} (he : DV X e m) : DI false X tg e (iV m) := fun W tk =>
  pi_imp (pi_sq (he W tk)) fun σ H R p => (zt_bnd (ρ := rhoR) p).imp fun v H1 ⟨r, F, G, Mu, Γ, Rl, h1, q⟩ => by
    unfold itR at q
    cases r with
    | d x => exact it_data Rl h1 q
    | sl i =>
      have h1' : σ[i]? = some (some v) := h1
      dsimp only at q
      split at q
      · rename_i x g
        obtain ⟨u, k1, k2⟩ := Rl.data g
        rw [h1'] at k1
        cases k1
        exact it_data Rl k2 q
      · rename_i xs g
        obtain ⟨l, vs, k1, k2, k3⟩ := Rl.arg g
        rw [h1'] at k1
        cases k1
        exact ⟨l, rfl, .inl ⟨vs, (F.af.trans Rl.fh).seq k2, zpost_ok Rl (src_list (fun H' e _ => (F.af.trans e).seq k2) k3) q⟩⟩
      · rename_i xs g
        obtain ⟨l, G', k1, R', k2, k3⟩ := Rl.freeze g
        rw [h1'] at k1
        cases k1
        cases k3 with
        | lst a b => exact ⟨l, rfl, .inl ⟨_, R'.gh.seq a, q _ H1 G' k2 R' (src_list (fun H' _ e => e.seq a) b)⟩⟩
      · exact q.elim
/-- a new list -/
def iO (m : M (List D)) : M (List D) := m
theorem di_own {X : Cx} {tg e : Expr} {m : M (List D)} (he : DO X e m) : DI false X tg e (iO m) := fun W tk =>
  pi_imp (pi_sq (he W tk)) fun σ H R ⟨F, G, Mu, Γ, Rl, p⟩ => by
    refine ⟨F, G, Mu, Γ, Rl, ?_⟩
    unfold iO at p
    cases e1 : m Γ with
    | bad => rw [e1] at p; exact p
    | ex c x Γ1 => rw [e1] at p; exact p
    | ok xs Γ1 =>
      rw [e1] at p
      intro v H1 G1 k1 R1 k2
      obtain ⟨G2, j1, R2, j2⟩ := R1.keep k2
      cases j2 with
      | lst a b => exact ⟨_, rfl, .inl ⟨_, R2.gh.seq a, p _ H1 G2 (k1.trans j1) R2 (src_list (fun H' _ e => e.seq a) b)⟩⟩

/-! ### ranges -/
def rgLim (i : Int) : Prop := -(2 ^ 62) ≤ i ∧ i < 2 ^ 62
instance {i : Int} : Decidable (rgLim i) := by unfold rgLim; infer_instance
def iR1 (m : M (List Rs)) : M (List D) := bnd m fun rs => fun g => match vls g rs with
  | some [.int j] => if rgLim j then .ok (rngD 0 1 j.toNat) g else .bad
  | _ => .bad
def iR2 (m : M (List Rs)) : M (List D) := bnd m fun rs => fun g => match vls g rs with
  | some [.int i, .int j] => if rgLim i ∧ rgLim j then .ok (rngD i 1 (j - i).toNat) g else .bad
  | _ => .bad
def iR3 (m : M (List Rs)) : M (List D) := bnd m fun rs => fun g => match vls g rs with
  | some [.int i, .int j, .int c] => if rgLim i ∧ rgLim j ∧ c = -1 then .ok (rngD i (-1) (i - j).toNat) g else .bad
  | _ => .bad
section
variable {X : Cx} {tg a b c : Expr} {m : M (List Rs)} {p pos : Pos}
theorem di_range1 (hg : Gl X "range") (hm : X.mg "range" = none) (ha : DVs X [a] m) (hs : starEach [a] X.env = [(false, eval a X.env)] := by rfl) : DI false X tg (.Call (.Name "range" p) [a] [] pos) (iR1 m) := fun W tk =>
  pi_imp (pi_range1 hg hm (ha W tk) hs) fun σ H R q => (zt_bnd (ρ := rhoRs) q).imp fun vs H1 ⟨r, F, G, Mu, Γ, Rl, h1, q⟩ => by
    split at q
    · rename_i j e
      split at q
      · rename_i hj
        obtain ⟨v, rfl, h2⟩ := (Rl.reads h1 e).one
        cases h2.int
        exact ⟨j, rfl, hj.1, hj.2, zpost_ok Rl src_range q⟩
      · exact q.elim
    · exact q.elim
theorem di_range2 (hg : Gl X "range") (hm : X.mg "range" = none) (ha : DVs X [a, b] m) (hs : starEach [a, b] X.env = [(false, eval a X.env), (false, eval b X.env)] := by rfl) (hs2 : starEach [b] X.env = [(false, eval b X.env)] := by rfl) :
    DI false X tg (.Call (.Name "range" p) [a, b] [] pos) (iR2 m) := fun W tk =>
  pi_imp (pi_range2 hg hm (ha W tk) hs hs2) fun σ H R q => (zt_bnd (ρ := rhoRs) q).imp fun vs H1 ⟨r, F, G, Mu, Γ, Rl, h1, q⟩ => by
    split at q
    · rename_i i j e
      split at q
      · rename_i hj
        obtain ⟨v, u, rfl, h2, h3⟩ := (Rl.reads h1 e).two
        cases h2.int
        cases h3.int
        exact ⟨i, j, rfl, ⟨hj.1.1, hj.1.2, hj.2.1, hj.2.2⟩, zpost_ok Rl src_range q⟩
      · exact q.elim
    · exact q.elim
theorem RdbAll.three {K : PySem.W.Frag} {G H : Hp} {vs : List V} {x y z : D} (h : RdbAll K G H vs [x, y, z]) : ∃ v u w, vs = [v, u, w] ∧ Rdb K G H v x ∧ Rdb K G H u y ∧ Rdb K G H w z := by
  cases vs with
  | nil => cases (show [x, y, z] = [] from h)
  | cons v us =>
    obtain ⟨_, _, e, h1, h2⟩ := h
    cases e
    obtain ⟨u, w, rfl, h3, h4⟩ := RdbAll.two h2
    exact ⟨v, u, w, rfl, h1, h3, h4⟩
theorem di_range3 (hg : Gl X "range") (hm : X.mg "range" = none) (ha : DVs X [a, b, c] m) (hs : starEach [a, b, c] X.env = (false, eval a X.env) :: starEach [b, c] X.env := by rfl) (hpl : (backTo pos (starEach [b, c] X.env)).any (·.1) = false := by rfl) :
    DI false X tg (.Call (.Name "range" p) [a, b, c] [] pos) (iR3 m) := fun W tk =>
  pi_imp (pi_range3 hg hm (ha W tk) hs hpl) fun σ H R q => (zt_bnd (ρ := rhoRs) q).imp fun vs H1 ⟨r, F, G, Mu, Γ, Rl, h1, q⟩ => by
    split at q
    · rename_i i j c e
      split at q
      · rename_i hj
        obtain ⟨v, u, w, rfl, h2, h3, h4⟩ := (Rl.reads h1 e).three
        cases h2.int
        cases h3.int
        cases h4.int
        obtain ⟨h5, h6, rfl⟩ := hj
        exact ⟨i, j, -1, _, rfl, RgC.neg h5.1 h5.2 h6.1 h6.2, zpost_ok Rl src_rangeC q⟩
      · exact q.elim
    · exact q.elim
end

/-! ### targets of what is walked -/
def zGb (b : Bool) (X : Cx) (t : Tg) : TG := fun v σ H Q => ∃ F G Mu Γ Γ' x H0, Rel X.K F G Mu Γ σ H0 ∧ YV b X.K G H0 v x H ∧ setT t x Γ = some Γ' ∧ ∀ σ', Rel X.K F G Mu Γ' σ' H → Off (tgS t) σ σ' → Q σ' H
def DGb (b : Bool) (X : Cx) (e : Expr) (t : Tg) : Prop := PG X e (zGb b X t)
section
variable {X : Cx} {pos : Pos} {e : Expr} {es : List Expr}
theorem dgb_any {t : Tg} (h : DG X e t) : DGb false X e t := pg_imp h fun v σ H Q ⟨F, G, Mu, Γ, Γ', x, H0, R, ⟨e1, d⟩, s, q⟩ => by
  subst e1
  exact ⟨F, G, Mu, Γ, Γ', x, R, d, s, q⟩
theorem dgb_tup {k : Nat} {ts : List Tg} {n : Nat} (hc : X.calm = true) (h : DGs X es ts) (hn : (assignEach es X.env).length = n := by rfl) (hst : (assignEach es X.env).findIdx? (·.1) = none := by rfl) (hl : ts.length = n := by rfl) : DGb true X (.Tuple es k pos) (.tup ts) :=
  pg_imp (pg_tup hc h hn hst) fun v σ H Q ⟨F, G, Mu, Γ, Γ', x, H0, R, ⟨T, us, ds, ev, ex, nT, eH, d⟩, s, q⟩ => by
    subst ev ex eH
    unfold setT at s
    exact ⟨T, us, rfl, .inl (.inl upd_same), by rw [dpa_length d, ← hl]; exact setTs_len s, F, G, Mu, Γ, Γ', ds, R.newX nT, d, s, fun σ' R' o => q σ' R' (by unfold tgS; exact o)⟩
end

/-! ### for -/
def fgt : List Nat → En → En
  | [], g => g
  | i :: is, g => fgt is (g.set i .u)
theorem Rel.forget' {K : PySem.W.Frag} {F : Fr} {G H : Hp} {Mu : Option Addr} {Γ : En} {σ : St} (R : Rel K F G Mu Γ σ H) (i : Nat) : Rel K F G Mu (Γ.set i .u) σ H := by
  cases h : σ[i]? with
  | none =>
    have hl : Γ.length ≤ i := by rw [R.len]; exact List.getElem?_eq_none_iff.mp h
    rw [List.set_eq_of_length_le hl]
    exact R
  | some o =>
    have e : σ.set i o = σ := List.ext_getElem? fun j => by
      by_cases hj : i = j
      · subst hj
        have hi := (List.getElem?_eq_some_iff.mp h).1
        rw [List.getElem?_set_self hi, h]
      · rw [List.getElem?_set_ne hj]
    have R' := R.forget i (o := o)
    rw [e] at R'
    exact R'
theorem Rel.fgt {K : PySem.W.Frag} {F : Fr} {G H : Hp} {Mu : Option Addr} {σ : St} : ∀ {is : List Nat} {Γ : En}, Rel K F G Mu Γ σ H → Rel K F G Mu (Z.fgt is Γ) σ H
  | [], _, R => R
  | i :: is, _, R => Rel.fgt (is := is) (R.forget' i)
/-- a for over xs; ms: the slots that are of no more use behind a turn -/
def forG (t : Tg) (ms : List Nat) (b : M Fl) : List D → M Fl
  | [], g => .ok .nx (fgt ms g)
  | x :: xs, g => match setT t x g with
    | none => .bad
    | some g1 => match b g1 with
      | .ok .nx g2 => forG t ms b xs (fgt ms g2)
      | .ok .ct g2 => forG t ms b xs (fgt ms g2)
      | .ok .bk g2 => .ok .nx (fgt ms g2)
      | o => o
def sFor (t : Tg) (ms : List Nat) (mi : M (List D)) (b : M Fl) : M Fl := bnd mi fun xs => forG t ms b xs
theorem ds_for {X : Cx} {b : Bool} {tg iter : Expr} {body : List Stmt} {pos : Pos} {t : Tg} {mi : M (List D)} {mb : M Fl} (ms : List Nat) (hp : PassesOwn (model X.prog X.w) X.A X.env X.xe) (hc : X.calm = true) (hi : DI b X tg iter mi) (hg : DGb b X tg t) (hb : DSs X body mb)
    (hs : ∀ x, foldedSetIterable iter X.env x = pure x := by intro _; rfl) : DS X (.For tg iter body [] pos) (sFor t ms mi mb) := fun W tk =>
  ps_imp (ps_for hp hc (hi W tk) hg (hb W tk) hs) fun D σ H p => (st_bnd (ρ := rhoW b) p).imp fun J H1 ⟨xs, F, G, Mu, Γ, R, h1, q⟩ => by
    refine for_it h1 (fun i σ' H' => ∃ G' Γ', Same G G' ∧ Rel X.K F G' Mu Γ' σ' H' ∧ spost X W F G' Mu D (forG t ms mb (xs.drop i) Γ')) ⟨G, Γ, Same.refl _, R, q⟩
      (fun i σ' H' _ ⟨G', Γ', g, R', _⟩ => ⟨R'.fh, g.trans R'.gh⟩) (fun i v σ' H' H2 hi ⟨G', Γ', g, R', p'⟩ ⟨x, hx, y⟩ => ?_) fun σ' H' ⟨G', Γ', g, R', p'⟩ => ?_
    · have hd : xs.drop i = x :: xs.drop (i + 1) := by
        obtain ⟨hl, e⟩ := List.getElem?_eq_some_iff.mp hx
        rw [← e]
        exact List.drop_eq_getElem_cons hl
      rw [hd] at p'
      unfold forG at p'
      cases e1 : setT t x Γ' with
      | none => rw [e1] at p'; exact p'.elim
      | some g1 =>
        rw [e1] at p'
        dsimp only at p'
        have y' : YV b X.K G' H' v x H2 := by
          cases b with
          | false => exact ⟨y.1, dp_mono g _ _ y.2⟩
          | true =>
            obtain ⟨T, us, ds, a1, a2, a3, a4, a5⟩ := y
            exact ⟨T, us, ds, a1, a2, a3, a4, dpAll_mono g _ _ a5⟩
        refine ⟨F, G', Mu, Γ', g1, x, H', R', y', e1, fun σ2 R2 _ => ⟨F, G', Mu, g1, R2, ?_⟩⟩
        cases e2 : mb g1 with
        | bad => rw [e2] at p'; exact p'
        | ex c z Γ2 => rw [e2] at p'; exact p'
        | ok f Γ2 =>
          rw [e2] at p'
          cases f with
          | nx => exact fun σ3 H3 G3 k R3 => ⟨G3, _, g.trans k, R3.fgt, p'.rebase k⟩
          | ct => exact fun σ3 H3 G3 k R3 => ⟨G3, _, g.trans k, R3.fgt, p'.rebase k⟩
          | rt r => exact p'
          | bk => exact fun σ3 H3 G3 k R3 => p' σ3 H3 G3 k R3.fgt
    · rw [List.drop_length] at p'
      exact p' σ' H' G' (Same.refl _) R'.fgt
end Z
set_option Elab.async false
set_option linter.all false
set_option maxRecDepth 100000
set_option autoImplicit false
set_option maxHeartbeats 1000000
namespace Z
open PySem PySem.Spec PyProof.Rows L2

/-! ### a block's own slots -/
def wipG (g : En) : List Nat → En
  | [] => g
  | v :: vs => (wipG g vs).set v .u
def rstG (g g' : En) : List Nat → En
  | [] => g'
  | v :: vs => match g[v]? with
    | some sv => (rstG g g' vs).set v sv
    | none => rstG g g' vs
def noOwn (g : En) (vs : List Nat) : Bool := vs.all fun v => match g[v]? with
  | some (.own _ _) => false
  | _ => true
theorem wipG_len {g : En} : ∀ {vs : List Nat}, (wipG g vs).length = g.length
  | [] => rfl
  | v :: vs => by
    unfold wipG
    rw [List.length_set, wipG_len]
theorem rstG_len {g g' : En} : ∀ {vs : List Nat}, (rstG g g' vs).length = g'.length
  | [] => rfl
  | v :: vs => by
    unfold rstG
    split
    · rw [List.length_set, rstG_len]
    · exact rstG_len
theorem rstG_in {g g' : En} (hl : g'.length = g.length) {i : Nat} : ∀ {vs : List Nat}, i ∈ vs → (rstG g g' vs)[i]? = g[i]?
  | [], h => nomatch h
  | v :: vs, h => by
    unfold rstG
    by_cases e : v = i
    · subst e
      split
      · rename_i sv hv
        rw [List.getElem?_set_self (by rw [rstG_len, hl]; exact (List.getElem?_eq_some_iff.mp hv).1), hv]
      · rename_i hv
        rw [hv, List.getElem?_eq_none_iff, rstG_len, hl]
        exact List.getElem?_eq_none_iff.mp hv
    · have h2 : i ∈ vs := by
        rcases List.mem_cons.mp h with z | z
        · exact absurd z.symm e
        · exact z
      split
      · rw [List.getElem?_set_ne e]
        exact rstG_in hl h2
      · exact rstG_in hl h2
theorem rstG_out {g g' : En} {i : Nat} : ∀ {vs : List Nat}, i ∉ vs → (rstG g g' vs)[i]? = g'[i]?
  | [], _ => rfl
  | v :: vs, h => by
    have h1 : v ≠ i := fun e => h (by rw [e]; exact List.mem_cons_self)
    have h2 : i ∉ vs := fun m => h (List.mem_cons_of_mem _ m)
    unfold rstG
    split
    · rw [List.getElem?_set_ne h1]
      exact rstG_out h2
    · exact rstG_out h2
theorem wipe_in {σ : St} {i : Nat} : ∀ {vs : List Nat}, i ∈ vs → (wipe σ vs)[i]? = (σ[i]?).map fun _ => none
  | [], h => nomatch h
  | v :: vs, h => by
    unfold wipe
    by_cases e : v = i
    · subst e
      cases hv : σ[v]? with
      | none =>
        rw [Option.map_none, List.getElem?_eq_none_iff, List.length_set, wipe_length]
        exact List.getElem?_eq_none_iff.mp hv
      | some o =>
        rw [List.getElem?_set_self (by rw [wipe_length]; exact (List.getElem?_eq_some_iff.mp hv).1)]
        rfl
    · have h2 : i ∈ vs := by
        rcases List.mem_cons.mp h with z | z
        · exact absurd z.symm e
        · exact z
      rw [List.getElem?_set_ne e]
      exact wipe_in h2
theorem wipe_off {σ σ' : St} {is vs : List Nat} (h : Off is (wipe σ vs) σ') (hs : ∀ i ∈ is, i ∈ vs) : wipe σ' vs = wipe σ vs := List.ext_getElem? fun j => by
  by_cases hj : j ∈ vs
  · rw [wipe_in hj, wipe_in hj]
    have hl : σ'.length = σ.length := h.1.trans (wipe_length σ vs)
    cases e : σ[j]? with
    | none =>
      have : σ'[j]? = none := by
        rw [List.getElem?_eq_none_iff, hl]
        exact List.getElem?_eq_none_iff.mp e
      rw [this]
    | some o =>
      have hj2 : j < σ'.length := by
        rw [hl]
        exact (List.getElem?_eq_some_iff.mp e).1
      rw [List.getElem?_eq_getElem hj2]
      rfl
  · rw [wipe_out hj, wipe_out hj, h.2 j (fun z => hj (hs j z)), wipe_out hj]
section
variable {K : PySem.W.Frag} {F : Fr} {G H G' H' : Hp} {Mu : Option Addr} {Γ Γ' : En} {σ : St}
theorem Rel.wipe (R : Rel K F G Mu Γ σ H) : ∀ vs : List Nat, Rel K F G Mu (wipG Γ vs) (L2.wipe σ vs) H
  | [] => R
  | v :: vs => (Rel.wipe R vs).forget v
/-- back out of a block -/
theorem Rel.back {vs : List Nat} (R : Rel K F G Mu Γ σ H) (R' : Rel K F G' Mu Γ' (L2.wipe σ vs) H') (g : Same G G') (no : noOwn Γ vs = true) : Rel K F G' Mu (rstG Γ Γ' vs) σ H' := by
  have hl : Γ'.length = Γ.length := by rw [R'.len, R.len, wipe_length]
  have nin : ∀ {j : Nat} {m : Bool} {xs : List D}, (rstG Γ Γ' vs)[j]? = some (.own m xs) → j ∉ vs := fun {j m xs} e hj => by
    rw [rstG_in hl hj] at e
    have := List.all_eq_true.mp no j hj
    rw [e] at this
    cases this
  have own' : ∀ {j : Nat} {l : Addr}, Owns (rstG Γ Γ' vs) σ j l → Owns Γ' (L2.wipe σ vs) j l := fun {j l} ⟨m, xs, h1, h2⟩ => by
    have hj := nin h1
    exact ⟨m, xs, by rw [← rstG_out hj]; exact h1, by rw [wipe_out hj]; exact h2⟩
  refine ⟨R'.fh, R'.lk, R'.gh, R'.mu, by rw [rstG_len, hl, R.len], fun j sv e => ?_, fun i j l a b => R'.sep i j l (own' a) (own' b)⟩
  by_cases hj : j ∈ vs
  · rw [rstG_in hl hj] at e
    have q := R.sl j sv e
    cases sv with
    | u => exact True.intro
    | d x =>
      obtain ⟨v, h1, h2⟩ := q
      exact ⟨v, h1, dp_mono g _ _ h2⟩
    | a xs =>
      obtain ⟨l, us, h1, h2, h3⟩ := q
      exact ⟨l, us, h1, h2, dpAll_mono g _ _ h3⟩
    | own m xs => exact absurd hj (nin (by rw [rstG_in hl hj]; exact e))
  · rw [rstG_out hj] at e
    have q := R'.sl j sv e
    rw [wipe_out hj] at q
    exact q
theorem Rel.poke (R : Rel K F G Mu Γ σ H) {l : Addr} {o : HO} (n : F l = none) (g : G l = none) (m : Mu ≠ some l) (ow : ∀ i, ¬ Owns Γ σ i l) : Rel K F G Mu Γ σ (upd H l o) := by
  refine R.mono (Mu' := Mu) (same_updR R.fh n) (Same.refl _) (same_updR R.gh g) (fun b q => ?_) (fun i b h => ?_) R.lk
  · obtain ⟨_, h2, h3⟩ := R.mu b q
    rw [upd_ne (fun z => m (by rw [q, z]))]
    exact ⟨h2, h3⟩
  · rw [upd_ne (fun z => ow i (by rw [← z]; exact h))]
    exact ⟨(R.there h).2.1, rfl⟩
end

/-! ### [elt for tg in iter if test] -/
def compG (vs : List Nat) (t : Tg) (mt : M Bool) (me : M D) : List D → List D → M (List D)
  | [], ys, g => .ok ys g
  | x :: xs, ys, g => match setT t x g with
    | none => .bad
    | some g1 => match mt g1 with
      | .ok true g2 => match me g2 with
        | .ok y g3 => compG vs t mt me xs (ys ++ [y]) (wipG g3 vs)
        | _ => .bad
      | .ok false g2 => compG vs t mt me xs ys (wipG g2 vs)
      | _ => .bad
def compB (vs : List Nat) (t : Tg) (mt : M Bool) (me : M D) (xs : List D) : M (List D) := fun g => if xs.length ≤ sizeLine ∧ noOwn g vs = true then match compG vs t mt me xs [] (wipG g vs) with
    | .ok ys g' => .ok ys (rstG g g' vs)
    | _ => .bad
  else .bad
def compL (vs : List Nat) (t : Tg) (mi : M (List D)) (mt : M Bool) (me : M D) : M (List D) := bnd mi (compB vs t mt me)
def DTs (X : Cx) (ifs : List Expr) (m : M Bool) : Prop := ∀ W, Takes X W → PTs X ifs (zt X W rhoB m)
theorem pts_imp {X : Cx} {es : List Expr} {t t' : TT} (p : PTs X es t) (h : ∀ σ H Q, t' σ H Q → t σ H Q) : PTs X es t' := ⟨fun pins s σ H Q I q => p.run pins s σ H Q I (h σ H Q q)⟩
theorem dts_nil {X : Cx} : DTs X [] (rt true) := fun W _ => pts_imp pts_nil fun σ H Q ⟨F, G, Mu, Γ, R, p⟩ => zpost_ok R (show rhoB _ _ _ _ _ _ _ true true from rfl) p
theorem dts_one {X : Cx} {c : Expr} {m : M Bool} (h : DT X c m) : DTs X [c] m := fun W tk => pts_one (h W tk)
abbrev W0 : WX := fun _ _ _ _ => False
theorem comp_run {X : Cx} {b : Bool} {W : WX} {σ : St} {H : Hp} {Q : VK} {vs : List Nat} {t : Tg} {mi : M (List D)} {mt : M Bool} {me : M D} (hv : ∀ i ∈ tgS t, i ∈ vs) (p : zt X W rhoO (compL vs t mi mt me) σ H Q) :
    tLc (zt X W (rhoW b) mi) (zGb b X t) (zt X W0 rhoB mt) (zt X W0 rhoD me) vs σ H Q :=
  (zt_bnd (ρ := rhoW b) p).imp fun J H1 ⟨xs, F, G, Mu, Γ, R, h1, q⟩ l nl => by
    unfold compB at q
    split at q
    · rename_i hz
      obtain ⟨hz, no⟩ := hz
      have nF : F l = none := R.fh.free nl
      have nG : G l = none := R.gh.free nl
      have nM : Mu ≠ some l := fun z => (R.mu l z).2.2 nl
      have nO : ∀ i, ¬ Owns (wipG Γ vs) (wipe σ vs) i l := fun i h => by
        obtain ⟨_, _, us, z⟩ := (R.wipe vs).there h
        rw [nl] at z
        cases z
      cases e1 : compG vs t mt me xs [] (wipG Γ vs) with
      | bad => rw [e1] at q; exact q.elim
      | ex c y Γ1 => rw [e1] at q; exact q.elim
      | ok zs Γz =>
        rw [e1] at q
        refine lc_it h1 (fun i H' => ∃ G' Γ' acc ys, Same G G' ∧ Rel X.K (F.lock l (.lst acc) nF) G' Mu Γ' (wipe σ vs) H' ∧ DqAll X.K G' acc ys ∧ ys.length ≤ i ∧ compG vs t mt me (xs.drop i) ys Γ' = .ok zs Γz) ?_
          (fun i H' _ ⟨G', Γ', acc, ys, g, R', _⟩ => ⟨fun a o z => R'.unlock.1.fh a o z, g.trans R'.gh⟩) (fun i v H' H2 hi ⟨G', Γ', acc, ys, g, R', hd, hy, hc⟩ ⟨x, hx, y⟩ => ?_) fun H' ⟨G', Γ', acc, ys, g, R', hd, hy, hc⟩ => ?_
        · exact ⟨G, wipG Γ vs, [], [], Same.refl _, ((R.wipe vs).newX nl).lock nF upd_same nG nM (fun i h => nO i h), .nil, Nat.le_refl _, e1⟩
        · have hdr : xs.drop i = x :: xs.drop (i + 1) := by
            obtain ⟨hl, e⟩ := List.getElem?_eq_some_iff.mp hx
            rw [← e]
            exact List.drop_eq_getElem_cons hl
          rw [hdr] at hc
          unfold compG at hc
          split at hc
          · cases hc
          · rename_i g1 e2
            have y' : YV b X.K G' H' v x H2 := by
              cases b with
              | false => exact ⟨y.1, dp_mono g _ _ y.2⟩
              | true =>
                obtain ⟨T, us, ds, a1, a2, a3, a4, a5⟩ := y
                exact ⟨T, us, ds, a1, a2, a3, a4, dpAll_mono g _ _ a5⟩
            refine ⟨_, G', Mu, Γ', g1, x, H', R', y', e2, fun σ2 R2 off => ⟨wipe_off off hv, ?_⟩⟩
            have ew := wipe_off off hv
            split at hc
            · rename_i g2 e3
              split at hc
              · rename_i z g3 e4
                refine ⟨_, G', Mu, g1, R2, ?_⟩
                rw [e3]
                intro bb H3 G3 k3 R3 hb
                cases (show true = bb from hb)
                rw [if_pos rfl]
                refine ⟨_, G3, Mu, g2, R3, ?_⟩
                rw [e4]
                intro u H4 G4 k4 R4 hu
                obtain ⟨R5, j1, j2, j3, j4⟩ := R4.unlock
                refine ⟨acc, j1, ?_, G4, wipG g3 vs, acc ++ [u], ys ++ [z], (g.trans k3).trans k4, ?_, dpa_append (dpAll_mono k4 _ _ (dpAll_mono k3 _ _ hd)) (.cons hu .nil), by rw [List.length_append]; exact Nat.add_le_add_right hy 1, hc⟩
                · rw [dpa_length hd]
                  omega
                · have R6 := R5.wipe vs
                  rw [ew] at R6
                  have o6 : ∀ i, ¬ Owns (wipG g3 vs) (wipe σ vs) i l := fun i h => by
                    obtain ⟨w1, w2, w3⟩ := R6.there h
                    have R7 := R4.wipe vs
                    rw [ew] at R7
                    have := (R7.there h).1
                    rw [show (F.lock l (HO.lst acc) nF) l = some (.lst acc) from upd_same] at this
                    cases this
                  exact (R6.poke (o := .lst (acc ++ [u])) nF j2 j3 o6).lock nF upd_same j2 j3 o6
              · cases hc
            · rename_i g2 e3
              refine ⟨_, G', Mu, g1, R2, ?_⟩
              rw [e3]
              intro bb H3 G3 k3 R3 hb
              cases (show false = bb from hb)
              rw [if_neg Bool.false_ne_true]
              have R6 := R3.wipe vs
              rw [ew] at R6
              exact ⟨G3, wipG g2 vs, acc, ys, g.trans k3, R6, dpAll_mono k3 _ _ hd, by omega, hc⟩
            · cases hc
        · rw [List.drop_length] at hc
          unfold compG at hc
          cases hc
          obtain ⟨R5, j1, j2, j3, j4⟩ := R'.unlock
          have R6 := R.back R5 g no
          refine q _ H' G' g R6 ⟨l, acc, rfl, j1, hd, nF, j2, j3, fun i h => ?_⟩
          obtain ⟨m, ws, w1, w2⟩ := h
          have hni : i ∉ vs := fun hin => by
            rw [rstG_in (by rw [R5.len, R.len, wipe_length]) hin] at w1
            have := List.all_eq_true.mp no i hin
            rw [w1] at this
            cases this
          exact j4 i ⟨m, ws, by rw [← rstG_out hni]; exact w1, by rw [wipe_out hni]; exact w2⟩
    · exact q.elim
section
variable {X : Cx} {b : Bool} {elt tg iter : Expr} {ifs : List Expr} {scope : Scope} {pos : Pos} {t : Tg} {mi : M (List D)} {mt : M Bool} {me : M D}
theorem do_comp (own : List (Str × Nat)) (hc : X.calm = true) (hN : X.N.Nodup) (hi : DI b X tg iter mi) (ok : BlkOk X.N X.env.scope scope own)
    (hg : ∀ (s : Shared) (H : Hp) (C : Addr) (cl : List (Str × Addr)) (fp : List Addr), DGb b (X.blk s H scope (compEnvC scope cl C X.env) fp) tg t) (ht : ∀ (s : Shared) (H : Hp) (C : Addr) (cl : List (Str × Addr)) (fp : List Addr), DTs (X.blk s H scope (compEnvC scope cl C X.env) fp) ifs mt)
    (he : ∀ (s : Shared) (H : Hp) (C : Addr) (cl : List (Str × Addr)) (fp : List Addr), DP (X.blk s H scope (compEnvC scope cl C X.env) fp) elt me) (hv : ∀ i ∈ tgS t, i ∈ own.map (·.2)) (hs : ∀ x, foldedSetIterable iter X.env x = pure x := by intro _; rfl) :
    DO X (.ListComp elt [⟨tg, iter, ifs, 0⟩] scope pos) (compL (own.map (·.2)) t mi mt me) := fun W tk =>
  pe_imp (pe_lc (g := zGb b X t) (tt := zt X W0 rhoB mt) (te := zt X W0 rhoD me) hc hN (hi W tk) ok (fun s H C cl fp => hg s H C cl fp) (fun s H C cl fp => ht s H C cl fp W0 takes0) (fun s H C cl fp => he s H C cl fp W0 takes0) hs) fun σ H Q p => comp_run hv p
theorem ds_setComp (own : List (Str × Nat)) {i : Nat} {y : Str} {py spos : Pos} (hc : X.calm = true) (hN : X.N.Nodup) (hy : X.N[i]? = some y) (hyl : X.env.scope.names.lookup y = some .local) (hsw : swapsWith (.ListComp elt [⟨tg, iter, ifs, 0⟩] scope pos) (some (.Name y py)) spos.line X.env = pure true)
    (hi : DI b X tg iter mi) (ok : BlkOk X.N X.env.scope scope own)
    (hg : ∀ (s : Shared) (H : Hp) (C : Addr) (cl : List (Str × Addr)) (fp : List Addr), DGb b (X.blk s H scope (compEnvC scope cl C X.env) fp) tg t) (ht : ∀ (s : Shared) (H : Hp) (C : Addr) (cl : List (Str × Addr)) (fp : List Addr), DTs (X.blk s H scope (compEnvC scope cl C X.env) fp) ifs mt)
    (he : ∀ (s : Shared) (H : Hp) (C : Addr) (cl : List (Str × Addr)) (fp : List Addr), DP (X.blk s H scope (compEnvC scope cl C X.env) fp) elt me) (hv : ∀ i ∈ tgS t, i ∈ own.map (·.2)) (hs : ∀ x, foldedSetIterable iter X.env x = pure x := by intro _; rfl) :
    DS X (.Assign [.Name y py] (.ListComp elt [⟨tg, iter, ifs, 0⟩] scope pos) spos) (sSetO i (compL (own.map (·.2)) t mi mt me)) := fun W tk =>
  ps_imp (ps_setLc (g := zGb b X t) (tt := zt X W0 rhoB mt) (te := zt X W0 rhoD me) hc hN hy hyl hsw (hi W tk) ok (fun s H C cl fp => hg s H C cl fp) (fun s H C cl fp => ht s H C cl fp W0 takes0) (fun s H C cl fp => he s H C cl fp W0 takes0) hs) fun D σ H p =>
    comp_run (W := W) hv ((st_bnd (ρ := rhoO) p).imp fun v H1 ⟨r, F, G, Mu, Γ, R, h1, q⟩ => q _ H1 G (Same.refl _) (R.storeO h1 i))
end
end Z
set_option Elab.async false
set_option linter.all false
set_option maxRecDepth 100000
set_option autoImplicit false
set_option maxHeartbeats 1000000
namespace Z
open PySem PySem.Spec PyProof.Rows L2

/-! ### what a def promises -/
/-- how a parameter is taken: read alone; kept; a list that is changed -/
inductive Pk where
  | v
  | p
  | m
inductive Out where
  | bad
  | ret (r : Rt) (ms : List D)
  | ex (c : Str) (x : D) (ms : List D)
def del (H : Hp) (Mu : Option Addr) : Hp := fun b => if Mu = some b then none else H b
theorem del_sub {H : Hp} {Mu : Option Addr} : Same (del H Mu) H := fun b o h => by
  unfold del at h
  split at h
  · cases h
  · exact h
theorem del_at {H : Hp} {Mu : Option Addr} {l : Addr} (h : Mu = some l) : del H Mu l = none := if_pos h
theorem del_ne {H : Hp} {Mu : Option Addr} {l : Addr} (h : Mu ≠ some l) : del H Mu l = H l := if_neg h
def ArgV (K : PySem.W.Frag) (G H : Hp) (Mu : Option Addr) (v : V) (x : D) : Prop := Dq K G v x ∨ ∃ l us ys, v = .ref l ∧ x = .list ys ∧ SqL K (del H Mu) l us ∧ DqAll K G us ys
def ArgM (K : PySem.W.Frag) (G H : Hp) (Mu : Option Addr) (v : V) (x : D) : Prop := ∃ l us ys, x = .list ys ∧ v = .ref l ∧ Mu = some l ∧ H l = some (.lst us) ∧ DqAll K G us ys ∧ G l = none
def ArgK (K : PySem.W.Frag) (G H : Hp) (Mu : Option Addr) : Pk → V → D → Prop
  | .v => ArgV K G H Mu
  | .p => Dq K G
  | .m => ArgM K G H Mu
def ArgsR (K : PySem.W.Frag) (G H : Hp) (Mu : Option Addr) : List Pk → List V → List D → Prop
  | [], vs, xs => vs = [] ∧ xs = []
  | k :: ks, vs, xs => ∃ v us x ys, vs = v :: us ∧ xs = x :: ys ∧ ArgK K G H Mu k v x ∧ ArgsR K G H Mu ks us ys
structure Post (K : PySem.W.Frag) (G H : Hp) (Mu : Option Addr) (G' H' : Hp) (ms : List D) : Prop where
  g : Same G G'
  gh : Same G' H'
  fr : Same (del H Mu) H'
  keep : ∀ b, H b ≠ none → G b = none → G' b = none
  mu : ∀ l, Mu = some l → ∃ us, H' l = some (.lst us) ∧ DqAll K G' us ms
def RetR (K : PySem.W.Frag) (H G' H' : Hp) (r : Rt) (v : V) : Prop := match r with
  | .d x => Dq K G' v x
  | .own xs => ∃ l us, v = .ref l ∧ H' l = some (.lst us) ∧ DqAll K G' us xs ∧ H l = none ∧ G' l = none
def outP (K : PySem.W.Frag) (mg : Str → Option Value) (G H : Hp) (Mu : Option Addr) (Q : VK) (E : XK) : Out → Prop
  | .bad => False
  | .ret r ms => ∀ v H' G', Post K G H Mu G' H' ms → RetR K H G' H' r v → Q v H'
  | .ex c x ms => ∀ C a v H' G', mg c = some (.ref C) → Post K G H Mu G' H' ms → H' a = some (.xd [("value", v)]) → Dq K G' v x → E (.ref C) (some a) H'
def hasM : List Pk → Bool
  | [] => false
  | .m :: _ => true
  | _ :: ks => hasM ks
def spF (K : PySem.W.Frag) (mg : Str → Option Value) (ks : List Pk) (φ : List D → Out) : Sp := fun vs H Q E => ∃ G Mu xs, Same G H ∧ (∀ l, Mu = some l → G l = none ∧ H l ≠ none) ∧ (hasM ks = false → Mu = none) ∧ ArgsR K G H Mu ks vs xs ∧ outP K mg G H Mu Q E (φ xs)

/-! ### the state at a def's entry -/
def svK : Pk → D → SV
  | .m, .list ys => .own true ys
  | .m, _ => .u
  | .p, x => .d x
  | .v, x => svA x
def svs : List Pk → List D → List SV
  | k :: ks, x :: xs => svK k x :: svs ks xs
  | _, _ => []
def start0 (n : Nat) (ks : List Pk) (xs : List D) : En := svs ks xs ++ List.replicate (n - ks.length) .u
def muOf : List Pk → En → Option (List D)
  | [], _ => some []
  | .m :: _, .own true ms :: _ => some ms
  | .v :: ks, _ :: g => muOf ks g
  | .p :: ks, _ :: g => muOf ks g
  | _, _ => none
def oneM : List Pk → Bool
  | [] => true
  | .m :: ks => !hasM ks
  | _ :: ks => oneM ks
def outM (ks : List Pk) (r : Rt) (g : En) : Out := match muOf ks g with
  | some ms => .ret r ms
  | none => .bad
/-- a def's answer -/
def runF (n : Nat) (ks : List Pk) (b : M Fl) (xs : List D) : Out := match b (start0 n ks xs) with
  | .ok .nx g => outM ks (.d .none) g
  | .ok (.rt r) g => outM ks r g
  | .ex c x g => match muOf ks g with
    | some ms => .ex c x ms
    | none => .bad
  | _ => .bad
section
variable {K : PySem.W.Frag} {G H : Hp} {Mu : Option Addr}
theorem args_len : ∀ {ks : List Pk} {vs : List V} {xs : List D}, ArgsR K G H Mu ks vs xs → vs.length = ks.length ∧ xs.length = ks.length ∧ (svs ks xs).length = ks.length
  | [], _, _, h => by
    obtain ⟨rfl, rfl⟩ := h
    exact ⟨rfl, rfl, rfl⟩
  | k :: ks, _, _, h => by
    obtain ⟨v, us, x, ys, rfl, rfl, _, h⟩ := h
    obtain ⟨a, b, c⟩ := args_len h
    refine ⟨by rw [List.length_cons, List.length_cons, a], by rw [List.length_cons, List.length_cons, b], ?_⟩
    show (svs ks ys).length + 1 = _
    rw [c, List.length_cons]
theorem args_get : ∀ {ks : List Pk} {vs : List V} {xs : List D} {i : Nat} {sv : SV}, ArgsR K G H Mu ks vs xs → (svs ks xs)[i]? = some sv → ∃ k v x, ks[i]? = some k ∧ vs[i]? = some v ∧ sv = svK k x ∧ ArgK K G H Mu k v x
  | [], _, _, _, _, h, e => by
    obtain ⟨rfl, rfl⟩ := h
    cases e
  | k :: ks, _, _, 0, sv, h, e => by
    obtain ⟨v, us, x, ys, rfl, rfl, h1, h⟩ := h
    have e' : some (svK k x) = some sv := e
    cases e'
    exact ⟨k, v, x, rfl, rfl, rfl, h1⟩
  | k :: ks, _, _, i + 1, sv, h, e => by
    obtain ⟨v, us, x, ys, rfl, rfl, h1, h⟩ := h
    obtain ⟨k', v', x', a, b, c, d⟩ := args_get (i := i) h (show (svs ks ys)[i]? = some sv from e)
    exact ⟨k', v', x', by simpa using a, by simpa using b, c, d⟩
theorem hasM_get : ∀ {ks : List Pk} {i : Nat}, ks[i]? = some .m → hasM ks = true
  | [], _, h => by simp at h
  | .m :: ks, _, _ => rfl
  | .v :: ks, 0, h => by simp at h
  | .p :: ks, 0, h => by simp at h
  | .v :: ks, i + 1, h => hasM_get (ks := ks) (i := i) (by simpa using h)
  | .p :: ks, i + 1, h => hasM_get (ks := ks) (i := i) (by simpa using h)
theorem oneM_eq : ∀ {ks : List Pk} {i j : Nat}, oneM ks = true → ks[i]? = some .m → ks[j]? = some .m → i = j
  | [], _, _, _, h, _ => by simp at h
  | _ :: _, 0, 0, _, _, _ => rfl
  | .m :: ks, 0, j + 1, h, _, e => by
    have := hasM_get (ks := ks) (i := j) (by simpa using e)
    simp [oneM, this] at h
  | .m :: ks, i + 1, 0, h, e, _ => by
    have := hasM_get (ks := ks) (i := i) (by simpa using e)
    simp [oneM, this] at h
  | .v :: ks, 0, j + 1, h, e, _ => by simp at e
  | .p :: ks, 0, j + 1, h, e, _ => by simp at e
  | .v :: ks, i + 1, 0, h, _, e => by simp at e
  | .p :: ks, i + 1, 0, h, _, e => by simp at e
  | .m :: ks, i + 1, j + 1, h, e, e2 => by
    have := hasM_get (ks := ks) (i := i) (by simpa using e)
    simp [oneM, this] at h
  | .v :: ks, i + 1, j + 1, h, e, e2 => by rw [oneM_eq (ks := ks) (i := i) (j := j) h (by simpa using e) (by simpa using e2)]
  | .p :: ks, i + 1, j + 1, h, e, e2 => by rw [oneM_eq (ks := ks) (i := i) (j := j) h (by simpa using e) (by simpa using e2)]
/-- the frame of a def that is called -/
def frD (G H : Hp) (Mu : Option Addr) : Fr where
  f := del H Mu
  a := del H Mu
  k := fun b => del H Mu b ≠ none ∧ G b = none
  af := Same.refl _
  kf := fun _ h => h.1
theorem start_at {N : List Str} {vs : List V} {i : Nat} {v : V} (h : vs[i]? = some v) : (L2.start N vs)[i]? = some (some v) := by
  unfold L2.start
  rw [List.getElem?_append_left (by rw [List.length_map]; exact (List.getElem?_eq_some_iff.mp h).1), List.getElem?_map, h]
  rfl
theorem svs_own {k : Pk} {x : D} {m : Bool} {ys : List D} (h : svK k x = .own m ys) : k = .m ∧ m = true ∧ x = .list ys := by
  cases k with
  | m =>
    cases x with
    | list zs =>
      cases h
      exact ⟨rfl, rfl, rfl⟩
    | _ => cases h
  | p => cases h
  | v =>
    cases x with
    | _ => cases h
theorem rel_start {N : List Str} {ks : List Pk} {vs : List V} {xs : List D} (gh : Same G H) (mu : ∀ l, Mu = some l → G l = none ∧ H l ≠ none) (a : ArgsR K G H Mu ks vs xs) (one : oneM ks = true) (hn : ks.length ≤ N.length) :
    Rel K (frD G H Mu) G Mu (start0 N.length ks xs) (L2.start N vs) H := by
  obtain ⟨l1, l2, l3⟩ := args_len a
  have get : ∀ {i : Nat} {sv : SV}, (start0 N.length ks xs)[i]? = some sv → (∃ k v x, ks[i]? = some k ∧ (L2.start N vs)[i]? = some (some v) ∧ sv = svK k x ∧ ArgK K G H Mu k v x) ∨ sv = .u := fun {i sv} e => by
    unfold start0 at e
    by_cases hi : i < (svs ks xs).length
    · rw [List.getElem?_append_left hi] at e
      obtain ⟨k, v, x, h1, h2, h3, h4⟩ := args_get a e
      exact .inl ⟨k, v, x, h1, start_at h2, h3, h4⟩
    · rw [List.getElem?_append_right (by omega), List.getElem?_replicate] at e
      split at e
      · cases e
        exact .inr rfl
      · cases e
  refine ⟨del_sub, fun l h => h.2, gh, fun l h => ⟨del_at h, mu l h⟩, ?_, fun i sv e => ?_, fun i j l ⟨m, ys, a1, a2⟩ ⟨m', ys', b1, b2⟩ => ?_⟩
  · unfold start0 L2.start
    rw [List.length_append, List.length_append, List.length_map, List.length_replicate, List.length_replicate, l3, l1]
  · rcases get e with ⟨k, v, x, h1, h2, rfl, h4⟩ | rfl
    · rw [h2]
      cases k with
      | p => exact ⟨v, rfl, h4⟩
      | m =>
        obtain ⟨l, us, ys, rfl, rfl, q1, q2, q3, q4⟩ := h4
        exact ⟨l, us, rfl, q2, q3, del_at q1, q4, fun _ => q1, fun z => nomatch z⟩
      | v =>
        rcases h4 with h4 | ⟨l, us, ys, rfl, rfl, q1, q2⟩
        · have hd := h4
          cases h4 with
          | lst q1 q2 =>
            rename_i l us ys
            refine ⟨l, us, rfl, ?_, q2⟩
            rcases q1 with (q1 | ⟨o, q1⟩) | q1
            · exact .inl (.inl ((del_ne fun z => by rw [(mu l z).1] at q1; cases q1).trans (gh _ _ q1)))
            · exact .inl (.inr ⟨o, (del_ne fun z => by rw [(mu l z).1] at q1; cases q1).trans (gh _ _ q1)⟩)
            · exact .inr q1
          | _ => exact ⟨_, rfl, hd⟩
        · exact ⟨l, us, rfl, q1, q2⟩
    · exact True.intro
  · rcases get a1 with ⟨k, v, x, h1, h2, h3, h4⟩ | z
    · rcases get b1 with ⟨k', v', x', i1, i2, i3, i4⟩ | z
      · obtain ⟨rfl, _⟩ := svs_own h3.symm
        obtain ⟨rfl, _⟩ := svs_own i3.symm
        exact oneM_eq one h1 i1
      · cases z
    · cases z
theorem mu_end {F : Fr} {G' H' : Hp} {l : Addr} (hM : Mu = some l) : ∀ {ks : List Pk} {Γ' : En} {σ' : St} {ms : List D}, hasM ks = true → Rel K F G' Mu Γ' σ' H' → muOf ks Γ' = some ms → ∃ us, H' l = some (.lst us) ∧ DqAll K G' us ms := by
  have key : ∀ {ks : List Pk} {g : En} {ms : List D}, hasM ks = true → muOf ks g = some ms → ∃ i : Nat, g[i]? = some (SV.own true ms) := by
    intro ks
    induction ks with
    | nil => intro g ms h; cases h
    | cons k ks ih =>
      intro g ms h e
      cases g with
      | nil => cases k <;> cases e
      | cons sv g =>
        cases k with
        | m =>
          cases sv with
          | own b ys =>
            cases b with
            | true =>
              cases e
              exact ⟨0, rfl⟩
            | false => cases e
          | _ => cases e
        | v =>
          obtain ⟨i, hi⟩ := ih h (show muOf ks g = some ms from e)
          exact ⟨i + 1, by simpa using hi⟩
        | p =>
          obtain ⟨i, hi⟩ := ih h (show muOf ks g = some ms from e)
          exact ⟨i + 1, by simpa using hi⟩
  intro ks Γ' σ' ms h R e
  obtain ⟨i, hi⟩ := key h e
  obtain ⟨l', us, _, h2, h3, _, _, h6, _⟩ := R.owned hi
  have := h6 rfl
  rw [hM] at this
  cases this
  exact ⟨us, h2, h3⟩
theorem post_of {G' H' : Hp} {ks : List Pk} {Γ' : En} {σ' : St} {ms : List D} (hm : hasM ks = false → Mu = none) (g : Same G G') (R : Rel K (frD G H Mu) G' Mu Γ' σ' H') (e : muOf ks Γ' = some ms) : Post K G H Mu G' H' ms where
  g := g
  gh := R.gh
  fr := R.fh
  keep := fun b h1 h2 => by
    by_cases hb : Mu = some b
    · exact (R.mu b hb).2.1
    · exact R.lk b ⟨by rw [del_ne hb]; exact h1, h2⟩
  mu := fun l h => by
    cases hh : hasM ks with
    | false =>
      rw [hm hh] at h
      cases h
    | true => exact mu_end h hh R e
end
section
variable {P : Program} {w : World} {K : PySem.W.Frag} {mg : Str → Option Value} {base : Heap}
/-- a def by its body -/
theorem fn_ok {x qual : Str} {stm : Stmt} {f : Addr} {fd : FuncData} {N ps : List Str} {k : Nat} {ks : List Pk} {m : M Fl} (Fn : Fun K x qual stm f fd) (S : FnScope N ps (defScope stm)) (hl : ks.length = ps.length) (one : oneM ks = true)
    (body : ∀ (cdv : Value) (A : Around) (outer : List Env) (s : Shared) (H : Hp) (E : XK), Room k (A.deeper (envOfC qual (defScope stm) s.heap.objs.size f cdv)) → DSs (cxOf (L2.CX P w) P w K mg base N qual (defScope stm) f cdv A outer s H E) (defBody stm) m) :
    FnOk P w K mg base (L2.CX P w) (k + 1) f fd ps (spF K mg ks (runF N.length ks m)) := by
  have hpl : ps.length ≤ N.length := by
    have := congrArg List.length S.pre
    rw [List.length_take] at this
    omega
  refine Fn.okX S (fun vs H Q E ⟨G, Mu, xs, _, _, _, a, _⟩ => by rw [(args_len a).1, hl]) fun cdv A outer s H vs Q E hr ⟨G, Mu, xs, gh, mu, hm, a, q⟩ => ?_
  refine ⟨_, body cdv A outer s H E hr (fun cls d _ H => E cls d H) (takes_of rfl rfl rfl rfl), frD G H Mu, G, Mu, start0 N.length ks xs, rel_start gh mu a one (by omega), ?_⟩
  unfold runF at q
  have ret : ∀ {r : Rt} {Γ' : En}, outP K mg G H Mu Q E (outM ks r Γ') → ∀ v σ' H' G', Same G G' → Rel K (frD G H Mu) G' Mu Γ' σ' H' → rhoT K (frD G H Mu) G' Mu Γ' σ' H' r v → Q v H' := fun {r Γ'} q v σ' H' G' g R h => by
    unfold outM at q
    cases e : muOf ks Γ' with
    | none => rw [e] at q; exact q.elim
    | some ms =>
      rw [e] at q
      refine q v H' G' (post_of hm g R e) ?_
      cases r with
      | d x => exact h
      | own ys =>
        obtain ⟨l, us, rfl, h1, h2, h3, h4, h5, _⟩ := h
        exact ⟨l, us, rfl, h1, h2, by rw [show (frD G H Mu) l = del H Mu l from rfl, del_ne h5] at h3; exact h3, h4⟩
  cases e : m (start0 N.length ks xs) with
  | bad => rw [e] at q; exact q.elim
  | ok fl Γ' =>
    rw [e] at q
    cases fl with
    | nx => exact fun σ' H' G' g R => ret q .non σ' H' G' g R .non
    | rt r => exact fun v σ' H' G' g R h => ret q v σ' H' G' g R h
    | bk => exact q.elim
    | ct => exact q.elim
  | ex c z Γ' =>
    rw [e] at q
    intro C ad v σ' H' G' h1 g R h2 h3
    dsimp only at q
    cases e2 : muOf ks Γ' with
    | none => rw [e2] at q; exact q.elim
    | some ms =>
      rw [e2] at q
      exact q C ad v H' G' h1 (post_of hm g R e2) h2 h3
end

/-! ### calls -/
def mIx : List Pk → List Rs → Option Nat
  | .m :: _, .sl i :: _ => some i
  | _ :: ks, _ :: rs => mIx ks rs
  | _, _ => none
def argD (g : En) (mi : Option Nat) : List Pk → List Rs → Option (List D)
  | [], [] => some []
  | k :: ks, r :: rs => match argD g mi ks rs with
    | none => none
    | some xs => match k, r with
      | .m, .sl i => match g[i]? with
        | some (.own _ ys) => if mi = some i then some (.list ys :: xs) else none
        | _ => none
      | .v, .d x => some (x :: xs)
      | .v, .sl i => if mi = some i then none else match vl g (.sl i) with
        | some x => some (x :: xs)
        | none => none
      | .p, .d x => some (x :: xs)
      | _, _ => none
  | _, _ => none
def putM (mi : Option Nat) (ms : List D) (g : En) : En := match mi with
  | none => g
  | some i => match g[i]? with
    | some (.own b _) => g.set i (.own b ms)
    | _ => g
def callM (ks : List Pk) (φ : List D → Out) (rs : List Rs) : M Rt := fun g => match argD g (mIx ks rs) ks rs with
  | none => .bad
  | some xs => match φ xs with
    | .bad => .bad
    | .ret r ms => .ok r (putM (mIx ks rs) ms g)
    | .ex c x ms => .ex c x (putM (mIx ks rs) ms g)
section
variable {K : PySem.W.Frag} {F : Fr} {G H : Hp} {Mu : Option Addr} {Γ : En} {σ : St}
def muA (σ : St) (mi : Option Nat) : Option Addr := match mi with
  | none => none
  | some i => match σ[i]? with
    | some (some (.ref l)) => some l
    | _ => none
theorem muA_own {mi : Option Nat} (hmi : ∀ i, mi = some i → ∃ b ys, Γ[i]? = some (.own b ys)) {l : Addr} (h : muA σ mi = some l) : ∃ j, mi = some j ∧ Owns Γ σ j l := by
  unfold muA at h
  split at h
  · cases h
  · rename_i j
    split at h
    · rename_i l' hl
      cases h
      obtain ⟨b, ys, e⟩ := hmi j rfl
      exact ⟨j, rfl, b, ys, e, hl⟩
    · cases h
theorem argsM (R : Rel K F G Mu Γ σ H) {mi : Option Nat} (hmi : ∀ i, mi = some i → ∃ b ys, Γ[i]? = some (.own b ys)) : ∀ {ks : List Pk} {rs : List Rs} {vs : List V} {xs : List D}, RsAll K G σ rs vs → argD Γ mi ks rs = some xs → ArgsR K G H (muA σ mi) ks vs xs
  | [], [], _, _, h, e => by
    cases e
    exact ⟨h, rfl⟩
  | [], _ :: _, _, _, _, e => by cases e
  | _ :: _, [], _, _, _, e => by cases e
  | k :: ks, r :: rs, _, _, h, e => by
    obtain ⟨v, us, rfl, h1, h2⟩ := h
    unfold argD at e
    split at e
    · cases e
    · rename_i ys e1
      have ih := argsM R hmi h2 e1
      split at e
      · rename_i i
        split at e
        · rename_i b zs hg
          split at e
          · rename_i hm
            cases e
            obtain ⟨l, ws, k1, k2, k3, k4, k5, _⟩ := R.owned hg
            have h1' : σ[i]? = some (some v) := h1
            rw [h1'] at k1
            cases k1
            refine ⟨_, us, _, ys, rfl, rfl, ⟨l, ws, zs, rfl, rfl, ?_, k2, k3, k5⟩, ih⟩
            rw [hm]
            unfold muA
            dsimp only
            rw [h1']
          · cases e
        · cases e
      · rename_i x
        cases e
        exact ⟨v, us, x, ys, rfl, rfl, .inl h1, ih⟩
      · rename_i i
        split at e
        · cases e
        · rename_i hm
          have h1' : σ[i]? = some (some v) := h1
          split at e
          · rename_i x hx
            cases e
            refine ⟨v, us, x, ys, rfl, rfl, ?_, ih⟩
            unfold vl at hx
            dsimp only at hx
            split at hx
            · rename_i y hg
              cases hx
              obtain ⟨v', w1, w2⟩ := R.data hg
              rw [h1'] at w1
              cases w1
              exact .inl w2
            · rename_i zs hg
              cases hx
              obtain ⟨l, ws, w1, w2, w3⟩ := R.arg hg
              rw [h1'] at w1
              cases w1
              refine .inr ⟨l, ws, zs, rfl, rfl, ?_, w3⟩
              have hne : ∀ o, F.a l = some o → muA σ mi ≠ some l := fun o w z => by
                obtain ⟨j, _, oj⟩ := muA_own hmi z
                have := F.af _ _ w
                rw [(R.there oj).1] at this
                cases this
              rcases w2 with (w2 | ⟨o, w2⟩) | w2
              · exact .inl (.inl ((del_ne (hne _ w2)).trans (R.fh _ _ (F.af _ _ w2))))
              · exact .inl (.inr ⟨o, (del_ne (hne _ w2)).trans (R.fh _ _ (F.af _ _ w2))⟩)
              · exact .inr w2
            · rename_i b zs hg
              cases hx
              obtain ⟨l, ws, w1, w2, w3, _, _, _, _, ow⟩ := R.owned hg
              rw [h1'] at w1
              cases w1
              refine .inr ⟨l, ws, zs, rfl, rfl, .inl (.inl ((del_ne fun z => ?_).trans w2)), w3⟩
              obtain ⟨j, hj, oj⟩ := muA_own hmi z
              exact hm (by rw [hj, R.sep i j l ow oj])
            · cases hx
          · cases e
      · rename_i x
        cases e
        exact ⟨v, us, x, ys, rfl, rfl, h1, ih⟩
      · cases e
theorem mIx_no : ∀ {ks : List Pk} {rs : List Rs}, hasM ks = false → mIx ks rs = none
  | [], _, _ => by unfold mIx; rfl
  | .m :: _, _, h => by cases h
  | .v :: ks, [], _ => rfl
  | .p :: ks, [], _ => rfl
  | .v :: ks, r :: rs, h => mIx_no (ks := ks) (rs := rs) h
  | .p :: ks, r :: rs, h => mIx_no (ks := ks) (rs := rs) h
theorem mIx_own {g : En} {mi : Option Nat} : ∀ {ks : List Pk} {rs : List Rs} {xs : List D}, argD g mi ks rs = some xs → ∀ i, mIx ks rs = some i → ∃ b ys, g[i]? = some (.own b ys)
  | [], _, _, _, _, h => by
    unfold mIx at h
    cases h
  | k :: ks, [], _, e, _, h => by
    cases e
  | k :: ks, r :: rs, xs, e, i, h => by
    unfold argD at e
    split at e
    · cases e
    · rename_i ys e1
      split at e
      · rename_i j
        cases h
        split at e
        · rename_i b zs hg
          exact ⟨b, zs, hg⟩
        · cases e
      · exact mIx_own e1 i h
      · exact mIx_own e1 i h
      · exact mIx_own e1 i h
      · cases e
theorem putM_len {mi : Option Nat} {ms : List D} : (putM mi ms Γ).length = Γ.length := by
  unfold putM
  split
  · rfl
  · split
    · rw [List.length_set]
    · rfl
/-- behind a call -/
theorem Rel.called {G' H' : Hp} {ms : List D} {mi : Option Nat} (R : Rel K F G Mu Γ σ H) (hmi : ∀ i, mi = some i → ∃ b ys, Γ[i]? = some (.own b ys)) (p : Post K G H (muA σ mi) G' H' ms) : Rel K F G' Mu (putM mi ms Γ) σ H' := by
  have same : ∀ {l : Addr} {o : HO}, H l = some o → muA σ mi ≠ some l → H' l = some o := fun {l o} h n => p.fr _ _ ((del_ne n).trans h)
  have at_own : ∀ {i : Nat} {l : Addr}, Owns Γ σ i l → mi ≠ some i → muA σ mi ≠ some l := fun {i l} h n z => by
    obtain ⟨j, hj, oj⟩ := muA_own hmi z
    exact n (by rw [hj, R.sep i j l h oj])
  have own' : ∀ {i : Nat} {l : Addr}, Owns (putM mi ms Γ) σ i l → Owns Γ σ i l := fun {i l} ⟨m, xs, h1, h2⟩ => by
    unfold putM at h1
    split at h1
    · exact ⟨m, xs, h1, h2⟩
    · rename_i j _
      split at h1
      · rename_i b ys hg
        by_cases e : j = i
        · subst e
          exact ⟨b, ys, hg, h2⟩
        · rw [List.getElem?_set_ne e] at h1
          exact ⟨m, xs, h1, h2⟩
      · exact ⟨m, xs, h1, h2⟩
  refine ⟨fun b o h => same (R.fh b o h) fun z => ?_, fun b h => ?_, p.gh, fun l h => ?_, by rw [putM_len, R.len], fun i sv e => ?_, fun i j l a b => R.sep i j l (own' a) (own' b)⟩
  · obtain ⟨j, _, oj⟩ := muA_own hmi z
    rw [(R.there oj).1] at h
    cases h
  · refine p.keep b (fun z => ?_) (R.lk b h)
    obtain ⟨o, w⟩ := Option.ne_none_iff_exists'.mp (F.kf b h)
    rw [R.fh b o w] at z
    cases z
  · obtain ⟨m1, m2, m3⟩ := R.mu l h
    refine ⟨m1, p.keep l m3 m2, ?_⟩
    by_cases hl : muA σ mi = some l
    · obtain ⟨us, h1, _⟩ := p.mu l hl
      rw [h1]
      exact fun z => nomatch z
    · obtain ⟨o, w⟩ := Option.ne_none_iff_exists'.mp m3
      rw [same w hl]
      exact fun z => nomatch z
  · have old : Γ[i]? = some sv → (mi ≠ some i ∨ ∀ m xs, sv ≠ .own m xs) → SlotRel K F G' H' Mu sv (σ[i]?.join) := fun e hn => by
      have q := R.sl i sv e
      cases sv with
      | u => exact True.intro
      | d x =>
        obtain ⟨v, h1, h2⟩ := q
        exact ⟨v, h1, dp_mono p.g _ _ h2⟩
      | a xs =>
        obtain ⟨l, us, h1, h2, h3⟩ := q
        exact ⟨l, us, h1, h2, dpAll_mono p.g _ _ h3⟩
      | own m xs =>
        obtain ⟨l, us, h1, h2, h3, h4, h5, h6, h7⟩ := q
        have ow : Owns Γ σ i l := ⟨m, xs, e, join_some h1⟩
        have hn' : mi ≠ some i := by
          rcases hn with hn | hn
          · exact hn
          · exact absurd rfl (hn m xs)
        exact ⟨l, us, h1, same h2 (at_own ow hn'), dpAll_mono p.g _ _ h3, h4, p.keep l (by rw [h2]; exact fun z => nomatch z) h5, h6, h7⟩
    unfold putM at e
    split at e
    · exact old e (.inl fun z => nomatch z)
    · rename_i j
      obtain ⟨b, ys, hg⟩ := hmi j rfl
      rw [hg] at e
      dsimp only at e
      by_cases hji : j = i
      · subst hji
        rw [List.getElem?_set_self (List.getElem?_eq_some_iff.mp hg).1] at e
        cases e
        obtain ⟨l, us, h1, h2, h3, h4, h5, h6, h7, ow⟩ := R.owned hg
        have hl : muA σ (some j) = some l := by
          unfold muA
          dsimp only
          rw [h1]
        obtain ⟨ws, w1, w2⟩ := p.mu l hl
        exact ⟨l, ws, by rw [h1]; rfl, w1, w2, h4, p.keep l (by rw [h2]; exact fun z => nomatch z) h5, h6, h7⟩
      · rw [List.getElem?_set_ne hji] at e
        exact old e (.inl fun z => hji (by cases z; rfl))
end
def DR (X : Cx) (e : Expr) (m : M Rt) : Prop := ∀ W, Takes X W → PE X e (zt X W rhoT m)
section
variable {X : Cx} {W : WX} {σ : St} {F : Fr} {G H : Hp} {Mu : Option Addr} {Γ : En} {Q : VK}
theorem call_end {ks : List Pk} {φ : List D → Out} {rs : List Rs} {vs : List V} (R : Rel X.K F G Mu Γ σ H) (h : RsAll X.K G σ rs vs) (q : zpost X W σ rhoT F G Mu Q (callM ks φ rs Γ)) : spF X.K X.mg ks φ vs H Q (WE W σ) := by
  unfold callM at q
  split at q
  · exact q.elim
  · rename_i xs e
    have hmi := mIx_own e
    have ar := argsM R hmi h e
    refine ⟨G, muA σ (mIx ks rs), xs, R.gh, fun l hl => ?_, fun hm => by rw [mIx_no hm]; rfl, ar, ?_⟩
    · obtain ⟨j, _, oj⟩ := muA_own hmi hl
      obtain ⟨_, h2, us, h3⟩ := R.there oj
      exact ⟨h2, by rw [h3]; exact fun z => nomatch z⟩
    · split at q
      · exact q.elim
      · rename_i r ms e2
        rw [e2]
        intro v H' G' p hr
        refine q v H' G' p.g (R.called hmi p) ?_
        cases r with
        | d x => exact hr
        | own ys =>
          obtain ⟨l, us, rfl, h1, h2, h3, h4⟩ := hr
          have R' := R.called hmi p
          refine ⟨l, us, rfl, h1, h2, R.fh.free h3, h4, fun z => (R.mu l z).2.2 h3, fun i hi => ?_⟩
          obtain ⟨m, ws, w1, w2⟩ := hi
          have : ∃ m ws, Γ[i]? = some (.own m ws) := by
            unfold putM at w1
            split at w1
            · exact ⟨m, ws, w1⟩
            · rename_i j _
              split at w1
              · rename_i b zs hg
                by_cases hji : j = i
                · subst hji
                  exact ⟨b, zs, hg⟩
                · rw [List.getElem?_set_ne hji] at w1
                  exact ⟨m, ws, w1⟩
              · exact ⟨m, ws, w1⟩
          obtain ⟨m', ws', w3⟩ := this
          obtain ⟨_, _, us', w4⟩ := R.there (i := i) (l := l) ⟨m', ws', w3, w2⟩
          rw [h3] at w4
          cases w4
      · rename_i c x ms e2
        rw [e2]
        exact fun C a v H' G' h1 p h2 h3 => q C a v H' G' h1 p.g (R.called hmi p) h2 h3
end
end Z
set_option Elab.async false
set_option linter.all false
set_option maxRecDepth 100000
set_option autoImplicit false
set_option maxHeartbeats 1000000
namespace Z
open PySem PySem.Spec PyProof.Rows L2

/-! ### a def by its name -/
structure FnP (P : Program) (w : World) (K : PySem.W.Frag) (mg : Str → Option Value) (base : Heap) (x : Str) (st : Stmt) (k : Nat) (ps : List Str) (ks : List Pk) (φ : List D → Out) : Prop where
  ex : ∃ f fd qual, Fun K x qual st f fd ∧ mg x = some (.ref f) ∧ FnOk P w K mg base (L2.CX P w) k f fd ps (spF K mg ks φ) ∧ Binds K fd ps []
theorem FnP.mono {P : Program} {w : World} {K : PySem.W.Frag} {mg : Str → Option Value} {base : Heap} {x : Str} {st : Stmt} {j k : Nat} {ps : List Str} {ks : List Pk} {φ : List D → Out} (F : FnP P w K mg base x st j ps ks φ) (h : j ≤ k) : FnP P w K mg base x st k ps ks φ := by
  obtain ⟨f, fd, qual, a, b, c, d⟩ := F.ex
  exact ⟨f, fd, qual, a, b, c.mono h, d⟩
/-- keywords, and positions ahead of them: how the values come to the parameters' order -/
def pick {α : Type} (pm : List Nat) (xs : List α) : List α := pm.filterMap (xs[·]?)
theorem vals_get : ∀ {vs : List V} {us : List Value} {i : Nat}, Vals vs us → (∃ v u, vs[i]? = some v ∧ us[i]? = some u ∧ RelV v u) ∨ (vs[i]? = none ∧ us[i]? = none)
  | _, _, _, .nil => .inr ⟨rfl, rfl⟩
  | _, _, 0, .cons a _ => .inl ⟨_, _, rfl, rfl, a⟩
  | _, _, i + 1, .cons _ b => by
    rcases vals_get (i := i) b with ⟨v, u, h1, h2, h3⟩ | ⟨h1, h2⟩
    · exact .inl ⟨v, u, by simpa using h1, by simpa using h2, h3⟩
    · exact .inr ⟨by simpa using h1, by simpa using h2⟩
theorem vals_pick {vs : List V} {us : List Value} (h : Vals vs us) : ∀ pm : List Nat, Vals (pick pm vs) (pick pm us)
  | [] => .nil
  | i :: pm => by
    unfold pick
    rcases vals_get (i := i) h with ⟨v, u, h1, h2, h3⟩ | ⟨h1, h2⟩
    · rw [List.filterMap_cons_some h1, List.filterMap_cons_some h2]
      exact .cons h3 (vals_pick h pm)
    · rw [List.filterMap_cons_none h1, List.filterMap_cons_none h2]
      exact vals_pick h pm
theorem rsAll_len {K : PySem.W.Frag} {G : Hp} {σ : St} : ∀ {rs : List Rs} {vs : List V}, RsAll K G σ rs vs → rs.length = vs.length
  | [], _, h => by rw [show _ = [] from h]; rfl
  | r :: rs, _, h => by
    obtain ⟨v, us, rfl, _, h2⟩ := h
    rw [List.length_cons, List.length_cons, rsAll_len h2]
theorem rsAll_get {K : PySem.W.Frag} {G : Hp} {σ : St} : ∀ {rs : List Rs} {vs : List V} {i : Nat}, RsAll K G σ rs vs → (∃ r v, rs[i]? = some r ∧ vs[i]? = some v ∧ (match r with | .d x => Dq K G v x | .sl i => σ[i]? = some (some v))) ∨ (rs[i]? = none ∧ vs[i]? = none)
  | [], _, _, h => by
    rw [show _ = [] from h]
    exact .inr ⟨rfl, rfl⟩
  | r :: rs, _, 0, h => by
    obtain ⟨v, us, rfl, h1, _⟩ := h
    exact .inl ⟨r, v, rfl, rfl, h1⟩
  | r :: rs, _, i + 1, h => by
    obtain ⟨v, us, rfl, _, h2⟩ := h
    rcases rsAll_get (i := i) h2 with ⟨r', v', a, b, c⟩ | ⟨a, b⟩
    · exact .inl ⟨r', v', by simpa using a, by simpa using b, c⟩
    · exact .inr ⟨by simpa using a, by simpa using b⟩
theorem rsAll_pick {K : PySem.W.Frag} {G : Hp} {σ : St} {rs : List Rs} {vs : List V} (h : RsAll K G σ rs vs) : ∀ pm : List Nat, RsAll K G σ (pick pm rs) (pick pm vs)
  | [] => rfl
  | i :: pm => by
    unfold pick
    rcases rsAll_get (i := i) h with ⟨r, v, h1, h2, h3⟩ | ⟨h1, h2⟩
    · rw [List.filterMap_cons_some h1, List.filterMap_cons_some h2]
      exact ⟨v, _, rfl, h3, rsAll_pick h pm⟩
    · rw [List.filterMap_cons_none h1, List.filterMap_cons_none h2]
      exact rsAll_pick h pm
theorem rsAll_append {K : PySem.W.Frag} {G : Hp} {σ : St} : ∀ {rs : List Rs} {vs : List V} {rs' : List Rs} {vs' : List V}, RsAll K G σ rs vs → RsAll K G σ rs' vs' → RsAll K G σ (rs ++ rs') (vs ++ vs')
  | [], _, _, _, h, k => by
    rw [show _ = [] from h]
    exact k
  | r :: rs, _, _, _, h, k => by
    obtain ⟨v, us, rfl, h1, h2⟩ := h
    exact ⟨v, us ++ _, rfl, h1, rsAll_append h2 k⟩
theorem stRs : ∀ K F G Mu Γ σ H r v F' G' Mu' Γ' H', Same G G' → rhoRs K F G Mu Γ σ H r v → rhoRs K F' G' Mu' Γ' σ H' r v := by
  intro K F G Mu Γ σ H r v F' G' Mu' Γ' H' e h
  have : ∀ {rs : List Rs} {vs : List V}, RsAll K G σ rs vs → RsAll K G' σ rs vs := by
    intro rs
    induction rs with
    | nil => exact fun h => h
    | cons r rs ih =>
      intro vs h
      obtain ⟨v, us, rfl, h1, h2⟩ := h
      refine ⟨v, us, rfl, ?_, ih h2⟩
      cases r with
      | d x => exact dp_mono e _ _ h1
      | sl i => exact h1
  exact this h

/-! ### calls -/
def callP (ks : List Pk) (φ : List D → Out) (m : M (List Rs)) : M Rt := bnd m (callM ks φ)
def callK (ks : List Pk) (φ : List D → Out) (pm : List Nat) (m n : M (List Rs)) : M Rt := bnd m fun rs => bnd n fun rs' => callM ks φ (pick pm (rs ++ rs'))
/-- the values of keywords -/
def DKs (X : Cx) (kws : List Keyword) (m : M (List Rs)) : Prop := ∀ W, Takes X W → PK X kws (zt X W rhoRs m)
theorem pk_imp {X : Cx} {kws : List Keyword} {t t' : TA} (p : PK X kws t) (h : ∀ σ H Q, t' σ H Q → t σ H Q) : PK X kws t' := ⟨fun pos pins s σ H Q I q => p.run pos pins s σ H Q I (h σ H Q q)⟩
section
variable {X : Cx} {kws : List Keyword} {nm : Option Str} {e : Expr} {es : List Expr} {kpos p pos : Pos} {x : Str} {st : Stmt} {k : Nat} {ps : List Str} {ks : List Pk} {φ : List D → Out}
theorem dks_nil : DKs X [] vNil := fun W _ => pk_imp pk_nil fun σ H Q ⟨F, G, Mu, Γ, R, p⟩ => zpost_ok R (show rhoRs _ _ _ _ _ _ _ [] [] from rfl) p
theorem dks_cons {m : M Rs} {n : M (List Rs)} (h : DV X e m) (k : DKs X kws n) : DKs X (⟨nm, e, kpos⟩ :: kws) (vCons m n) := fun W tk => by
  refine pk_imp (pk_cons (h W tk) (k W tk)) fun σ H Q p => ?_
  refine (zt_bnd2 (ρ := rhoR) (ρ' := rhoRs) stR p).imp fun v H1 q => q.imp fun vs H2 ⟨x, xs, F, G, Mu, Γ, R, h1, h2, q2⟩ => ?_
  exact zpost_ok R (show rhoRs _ _ _ _ _ _ _ (x :: xs) (v :: vs) from ⟨v, vs, rfl, h1, h2⟩) q2
theorem dr_fn (F : FnP X.prog X.w X.K X.mg X.base x st k ps ks φ) (hr : Room k X.A) (hg : Gl X x) {m : M (List Rs)} (ha : DVs X (e :: es) m)
    (hdb : (x == ("__debug__" : Str)) = false := by decide) (he : starEach (e :: es) X.env = (false, eval e X.env) :: starEach es X.env := by rfl) (hpl : (backTo pos (starEach es X.env)).any (·.1) = false := by rfl) :
    DR X (.Call (.Name x p) (e :: es) [] pos) (callP ks φ m) := fun W tk => by
  obtain ⟨f, fd, qual, f1, f2, f3, f4⟩ := F.ex
  refine pe_imp (pe_callS f3 hr hg f2 f1.kp f4 (passAt tk) (ha W tk) hdb he hpl) fun σ H Q p => ?_
  exact (zt_bnd (ρ := rhoRs) p).imp fun vs H1 ⟨rs, F, G, Mu, Γ, R, h1, q⟩ => call_end R h1 q
theorem dr_fn0 (F : FnP X.prog X.w X.K X.mg X.base x st k ps ks φ) (hr : Room k X.A) (hg : Gl X x) (hdb : (x == ("__debug__" : Str)) = false := by decide) :
    DR X (.Call (.Name x p) [] [] pos) (callP ks φ vNil) := fun W tk => by
  obtain ⟨f, fd, qual, f1, f2, f3, f4⟩ := F.ex
  refine ⟨fun pins s σ H Q I ⟨F, G, Mu, Γ, R, q⟩ => ?_⟩
  refine wpAny_Call_Name_kw (ld_glob I hg f2 ?_ hdb)
  exact PySem.W.callWith_K0 I.kIn f1.kp (run_fnS (us := []) f3 hr f4 (passAt tk σ) I .nil (call_end R (rs := []) (vs := []) rfl q))
theorem run_kw {W : WX} {pins : List (Addr × Obj)} {σ : St} {H : Hp} {s : Shared} {Q : VK} {f : Addr} {fd : FuncData} {us ws : List Value} {vs zs : List V} {kn : List Str} {pm : List Nat} {sp : Sp} (F : FnOk X.prog X.w X.K X.mg X.base (L2.CX X.prog X.w) k f fd ps sp) (hr : Room k X.A) (tk : Takes X W)
    (hb : BindsTo s fd ⟨us, kn.zip ws⟩ (ps.zip (pick pm (us ++ ws)))) (I : Inv X pins σ H s) (r : Vals vs us) (rz : Vals zs ws) (h : sp (pick pm (vs ++ zs)) H Q (WE W σ)) : wpAny (model X.prog X.w) X.A (call (.ref f) us (kn.zip ws)) (EP X pins σ Q) X.xe s := by
  refine wpAny_call (codeAny_mono (F.run X.A X.stack s H ⟨us, kn.zip ws⟩ _ _ Q (WE W σ) hr I.env0 hb (vals_pick (r.append rz) pm) h) fun r s' hq => ?_)
  cases r with
  | error e => exact passAt tk σ pins H s e s' I hq
  | ok fl =>
    cases fl with
    | ret u => exact I.after hq
    | next => exact False.elim hq
    | brk => exact False.elim hq
    | cont => exact False.elim hq
/-- f(e, .., k = v, ..): the binding is told of the def's text -/
theorem dr_fnK (F : FnP X.prog X.w X.K X.mg X.base x st k ps ks φ) (hr : Room k X.A) (hg : Gl X x) (kn : List Str) (pm : List Nat) {m n : M (List Rs)} (ha : DVs X (e :: es) m) (hkw : DKs X kws n)
    (hb : ∀ (qual : Str) (kV doc pm' : Value) (an : Option Addr) (cdv ct : Value) (us ws : List Value), us.length = (e :: es).length → ws.length = kn.length → bindArgs (PySem.W.fnOf x qual (defArgs st) (defBody st) (defScope st) .none kV doc pm' an cdv ct) ⟨us, kn.zip ws⟩ = pure (ps.zip (pick pm (us ++ ws))))
    (hall : (backToKw pos (keywordEach kws X.env)).all (·.1.isSome) = true := by rfl) (hks : (backToKw pos (keywordEach kws X.env)).filterMap (·.1) = kn := by rfl)
    (hlm : ∀ W σ H Q, Takes X W → zt X W rhoRs m σ H Q → zt X W rhoRs m σ H fun vs H' => vs.length = (e :: es).length ∧ Q vs H') (hln : ∀ W σ H Q, Takes X W → zt X W rhoRs n σ H Q → zt X W rhoRs n σ H fun vs H' => vs.length = kn.length ∧ Q vs H')
    (hdb : (x == ("__debug__" : Str)) = false := by decide) (he : starEach (e :: es) X.env = (false, eval e X.env) :: starEach es X.env := by rfl)
    (hpl : ((backTo pos (starEach (e :: es) X.env)).any (·.1) || (backToKw pos (keywordEach kws X.env)).any (·.1.isNone)) = false := by rfl) :
    DR X (.Call (.Name x p) (e :: es) kws pos) (callK ks φ pm m n) := fun W tk => by
  obtain ⟨f, fd, qual, f1, f2, f3, f4⟩ := F.ex
  obtain ⟨oc, od, kV, doc, pm', an, cdv, ct, osl, efd, lk, hcd⟩ := f1.ex
  refine ⟨fun pins s σ H Q I q => ?_⟩
  refine wpAny_Call_Name_kw (ld_glob I hg f2 ?_ hdb)
  have q1 : zt X W rhoRs m σ H fun vs H1 => zt X W rhoRs n σ H1 fun zs H2 => spF X.K X.mg ks φ (pick pm (vs ++ zs)) H2 Q (WE W σ) :=
    (zt_bnd2 (ρ := rhoRs) (ρ' := rhoRs) stRs q).imp fun vs H1 q => q.imp fun zs H2 ⟨rs, rs', F, G, Mu, Γ, R, h1, h2, q2⟩ => call_end R (rsAll_pick (rsAll_append h1 h2) pm) q2
  refine PySem.W.callWith_KW (h₀ := X.base) I.ok.mod.kin f1.kp hall (thn ((ha W tk).run pos pins s σ H _ I (hlm W σ H _ tk q1)) fun us s1 ⟨vs, H1, I1, r, l1, q⟩ => ?_) hpl he
  refine thn ((hkw W tk).run pos pins s1 σ H1 _ I1 (hln W σ H1 _ tk q)) fun ws s2 ⟨zs, H2, I2, rz, l2, q2⟩ => ⟨I2.kIn, ?_⟩
  rw [hks]
  exact run_kw f3 hr tk (.of_eq (by rw [efd]; exact hb qual kV doc pm' an cdv ct us ws (by rw [← r.length, l1]) (by rw [← rz.length, l2]))) I2 r rz q2
theorem dr_fnK0 (F : FnP X.prog X.w X.K X.mg X.base x st k ps ks φ) (hr : Room k X.A) (hg : Gl X x) (kn : List Str) (pm : List Nat) {n : M (List Rs)} (hkw : DKs X kws n)
    (hb : ∀ (qual : Str) (kV doc pm' : Value) (an : Option Addr) (cdv ct : Value) (ws : List Value), ws.length = kn.length → bindArgs (PySem.W.fnOf x qual (defArgs st) (defBody st) (defScope st) .none kV doc pm' an cdv ct) ⟨[], kn.zip ws⟩ = pure (ps.zip (pick pm ([] ++ ws))))
    (hall : (backToKw pos (keywordEach kws X.env)).all (·.1.isSome) = true := by rfl) (hks : (backToKw pos (keywordEach kws X.env)).filterMap (·.1) = kn := by rfl)
    (hln : ∀ W σ H Q, Takes X W → zt X W rhoRs n σ H Q → zt X W rhoRs n σ H fun vs H' => vs.length = kn.length ∧ Q vs H')
    (hdb : (x == ("__debug__" : Str)) = false := by decide)
    (hpl : ((backTo pos (starEach [] X.env)).any (·.1) || (backToKw pos (keywordEach kws X.env)).any (·.1.isNone)) = false := by rfl) :
    DR X (.Call (.Name x p) [] kws pos) (callK ks φ pm vNil n) := fun W tk => by
  obtain ⟨f, fd, qual, f1, f2, f3, f4⟩ := F.ex
  obtain ⟨oc, od, kV, doc, pm', an, cdv, ct, osl, efd, lk, hcd⟩ := f1.ex
  refine ⟨fun pins s σ H Q I q => ?_⟩
  refine wpAny_Call_Name_kw (ld_glob I hg f2 ?_ hdb)
  have q1 : zt X W rhoRs n σ H fun zs H2 => spF X.K X.mg ks φ (pick pm ([] ++ zs)) H2 Q (WE W σ) :=
    (zt_bnd (ρ := rhoRs) (m := n) (f := fun rs' => callM ks φ (pick pm ([] ++ rs'))) q).imp fun zs H2 ⟨rs', F, G, Mu, Γ, R, h2, q2⟩ => call_end R (rsAll_pick (rsAll_append (rs := []) (vs := []) rfl h2) pm) q2
  refine PySem.W.callWith_KW0 (h₀ := X.base) I.ok.mod.kin f1.kp hall ?_ hpl
  refine thn ((hkw W tk).run pos pins s σ H _ I (hln W σ H _ tk q1)) fun ws s2 ⟨zs, H2, I2, rz, l2, q2⟩ => ⟨I2.kIn, ?_⟩
  rw [hks]
  exact run_kw (us := []) (vs := []) f3 hr tk (.of_eq (by rw [efd]; exact hb qual kV doc pm' an cdv ct ws (by rw [← rz.length, l2]))) I2 .nil rz q2
end
/-- how many values a list of arguments gives -/
def Len (n : Nat) (m : M (List Rs)) : Prop := ∀ g rs g', m g = .ok rs g' → rs.length = n
theorem len_nil : Len 0 vNil := fun g rs g' e => by
  cases e
  rfl
theorem len_cons {m : M Rs} {k : M (List Rs)} {n : Nat} (h : Len n k) : Len (n + 1) (vCons m k) := fun g rs g' e => by
  unfold vCons bnd at e
  cases e1 : m g with
  | bad => rw [e1] at e; cases e
  | ex c x g1 => rw [e1] at e; cases e
  | ok x g1 =>
    rw [e1] at e
    dsimp only at e
    cases e2 : k g1 with
    | bad => rw [e2] at e; cases e
    | ex c x g1 => rw [e2] at e; cases e
    | ok xs g2 =>
      rw [e2] at e
      cases e
      rw [List.length_cons, h _ _ _ e2]
theorem len_zt {X : Cx} {W : WX} {σ : St} {H : Hp} {m : M (List Rs)} {n : Nat} {Q : List V → Hp → Prop} (h : Len n m) (p : zt X W rhoRs m σ H Q) : zt X W rhoRs m σ H fun vs H' => vs.length = n ∧ Q vs H' := by
  obtain ⟨F, G, Mu, Γ, R, q⟩ := p
  refine ⟨F, G, Mu, Γ, R, ?_⟩
  cases e : m Γ with
  | bad => rw [e] at q; exact q
  | ex c x Γ1 => rw [e] at q; exact q
  | ok rs Γ1 =>
    rw [e] at q
    exact fun vs H1 G1 k1 R1 k2 => ⟨by rw [← rsAll_len k2, h Γ rs Γ1 e], q vs H1 G1 k1 R1 k2⟩

/-! ### what is done with a call's answer -/
def rtD : Rt → M D
  | .d x => rt x
  | .own xs => rt (.list xs)
def rtO : Rt → M (List D)
  | .own xs => rt xs
  | _ => fun _ => .bad
def rD (m : M Rt) : M D := bnd m rtD
def rO (m : M Rt) : M (List D) := bnd m rtO
def msR (m : M Rt) (n : M (List Rt)) : M (List Rt) := bnd m fun r => bnd n fun rs => rt (r :: rs)
def sExprR (m : M Rt) : M Fl := bnd m fun _ => sNx
def sRetR (m : M Rt) : M Fl := bnd m fun r => fun g => .ok (.rt r) g
def sSetR (i : Nat) (m : M Rt) : M Fl := bnd m fun r => fun g => match r with
  | .d x => .ok .nx (g.set i (.d x))
  | .own xs => .ok .nx (g.set i (.own false xs))
section
variable {X : Cx} {e : Expr} {es : List Expr} {pos pos' : Pos} {x : Str} {i : Nat}
theorem dp_ofR {m : M Rt} (h : DR X e m) : DP X e (rD m) := fun W tk => pe_imp (h W tk) fun σ H Q p => (zt_bnd (ρ := rhoT) p).imp fun v H1 ⟨r, F, G, Mu, Γ, R, h1, q⟩ => by
  cases r with
  | d x => exact zpost_ok R (show rhoD _ _ _ _ _ _ _ x v from h1) q
  | own xs =>
    obtain ⟨G', k1, R', k2⟩ := R.keep (show rhoO _ _ _ _ _ _ _ xs v from h1)
    exact q v H1 G' k1 R' k2
theorem do_ofR {m : M Rt} (h : DR X e m) : DO X e (rO m) := fun W tk => pe_imp (h W tk) fun σ H Q p => (zt_bnd (ρ := rhoT) p).imp fun v H1 ⟨r, F, G, Mu, Γ, R, h1, q⟩ => by
  cases r with
  | d x => exact q.elim
  | own xs => exact zpost_ok R (show rhoO _ _ _ _ _ _ _ xs v from h1) q
theorem dms_r {m : M Rt} {n : M (List Rt)} (h : DR X e m) (k : DMs X es n) (hs : starEach (e :: es) X.env = (false, eval e X.env) :: starEach es X.env := by rfl) : DMs X (e :: es) (msR m n) := fun W tk => by
  refine pa_imp (pa_cons (h W tk) (k W tk) hs) fun σ H Q p => ?_
  refine (zt_bnd (ρ := rhoT) p).imp fun v H1 ⟨r, F, G, Mu, Γ, R, h1, q⟩ => ?_
  cases r with
  | d x =>
    refine ⟨F, G, Mu, Γ, R, ?_⟩
    unfold bnd at q
    cases e1 : n Γ with
    | bad => rw [e1] at q; exact q
    | ex c y Γ1 => rw [e1] at q; exact q
    | ok rs Γ1 =>
      rw [e1] at q
      exact fun vs H2 G2 k1 R2 k2 => q (v :: vs) H2 G2 k1 R2 ⟨v, vs, rfl, dp_mono k1 _ _ h1, k2⟩
  | own xs =>
    obtain ⟨l, us, ev, o1, o2, o3, o4, o5, o6⟩ := (show rhoO _ _ _ _ _ _ _ xs v from h1)
    subst ev
    refine ⟨F.lock l _ o3, G, Mu, Γ, R.lock o3 o1 o4 o5 o6, ?_⟩
    unfold bnd at q
    cases e1 : n Γ with
    | bad => rw [e1] at q; exact q
    | ex c x Γ1 =>
      rw [e1] at q
      exact fun C a v H' G' w1 w2 w3 => q C a v H' G' w1 w2 w3.unlock.1
    | ok rs Γ1 =>
      rw [e1] at q
      intro vs H2 G2 k1 R2 k2
      obtain ⟨R3, j1, j2, j3, j4⟩ := R2.unlock
      obtain ⟨a1, a2⟩ := rtAll_unlock k2
      exact q (.ref l :: vs) H2 G2 k1 R3 ⟨.ref l, vs, rfl, ⟨l, us, rfl, j1, dpAll_mono k1 _ _ o2, o3, j2, j3, j4⟩, a2, a1⟩
theorem ds_exprR {m : M Rt} (h : DR X e m) (hs : swapsWith e none pos.line X.env = pure false := by rfl) : DS X (.Expr e pos) (sExprR m) := fun W tk => ps_imp (ps_expr (h W tk) hs) fun D σ H p =>
  (st_bnd (ρ := rhoT) p).imp fun v H1 ⟨r, F, G, Mu, Γ, R, _, q⟩ => q σ H1 G (Same.refl _) R
theorem ds_retR {m : M Rt} (h : DR X e m) : DS X (.Return (some e) pos) (sRetR m) := fun W tk => ps_imp (ps_ret (h W tk)) fun D σ H p =>
  (st_bnd (ρ := rhoT) p).imp fun v H1 ⟨r, F, G, Mu, Γ, R, h1, q⟩ => q v σ H1 G (Same.refl _) R h1
theorem ds_setR {m : M Rt} (hN : X.N.Nodup) (hi : X.N[i]? = some x) (hx : Loc X.env.scope x) (h : DR X e m) (hs : swapsWith e (some (.Name x pos')) pos.line X.env = pure false := by rfl)
    (hf : X.fn x = true ∨ X.env.scope.names.lookup x = some .local := by first | exact .inl rfl | exact .inr rfl | assumption) : DS X (.Assign [.Name x pos'] e pos) (sSetR i m) := fun W tk =>
  ps_imp (ps_set hN hi hx (h W tk) hs hf) fun D σ H p => (st_bnd (ρ := rhoT) p).imp fun v H1 ⟨r, F, G, Mu, Γ, R, h1, q⟩ => by
    cases r with
    | d y => exact q _ H1 G (Same.refl _) (R.store (sv := .d y) ⟨v, rfl, h1⟩ fun _ _ z => nomatch z)
    | own xs => exact q _ H1 G (Same.refl _) (R.storeO h1 i)
end
end Z
set_option Elab.async false
set_option linter.all false
set_option maxRecDepth 100000
set_option autoImplicit false
set_option maxHeartbeats 1000000
namespace Z
open PySem PySem.Spec PyProof.Rows L2

/-! ### sorted -/
def isTup1 : D → Bool
  | .tuple (_ :: _) => true
  | _ => false
def plainS : D → Bool
  | .none => false
  | .tuple _ => false
  | _ => true
def okSort (xs : List D) : Bool := (xs.all fun d => xs.all (PySem.W.alike d)) && (xs.all isTup1 || xs.all plainS) && decide (xs.length ≤ sizeLine) && xs.all fun d => decide (d.depth ≤ 30)
def sortD (xs : List D) : List D := xs.mergeSort (PySem.W.dataLe false id)
def fSorted : List D → Option (List D)
  | [.list xs] => if okSort xs then some (sortD xs) else none
  | [.tuple xs] => if okSort xs then some (sortD xs) else none
  | _ => none
theorem okSort_ok {xs : List D} (h : okSort xs = true) : PySem.W.AllAlike xs ∧ PySem.W.Sortable xs ∧ xs.length ≤ sizeLine ∧ ∀ d, d ∈ xs → d.depth ≤ 30 := by
  unfold okSort at h
  simp only [Bool.and_eq_true, decide_eq_true_eq, List.all_eq_true, Bool.or_eq_true] at h
  obtain ⟨⟨⟨h1, h2⟩, h3⟩, h4⟩ := h
  refine ⟨fun d hd d' hd' => h1 d hd d' hd', ?_, h3, h4⟩
  rcases h2 with h2 | h2
  · refine .inl fun d hd => ?_
    have := h2 d hd
    unfold isTup1 at this
    split at this
    · exact ⟨_, _, rfl⟩
    · cases this
  · refine .inr fun d hd => ?_
    have := h2 d hd
    refine ⟨fun e => ?_, fun ys e => ?_⟩
    · rw [e] at this
      cases this
    · rw [e] at this
      cases this
section
variable {prog : Program} {w : World} {A : Around} {E : Value → Shared → Prop} {s : Shared}
open PySem.W PySem.Calls in
theorem sorted_any {it : Addr} {T : String} {o : Obj} {n : Nat} {vs : List Value} {xs : List D} {R : Value → D → Prop} {Q : Value → Shared → Prop} (hT : T = "list" ∨ T = "tuple") (ho : s.heap.get? it = some o) (hc : o.cls = .type T) (hd : o.data = .seq vs.toArray n)
    (e : EachIs R vs xs) (er : EachIs (fun v b => ∃ as, Reads s.heap v b as) vs xs) (hok : okSort xs = true) (hu : A.units + 2 + 30 < cLine)
    (h : ∀ (h1 h' : Heap) (out : List Value) (c : Nat), (∀ b ob, s.heap.get? b = some ob → h1.get? b = some ob) → (∀ b ob, h1.get? b = some ob → h'.get? b = some ob) → h'.get? h1.objs.size = some (seqObj "list" out.toArray c) → EachIs R out (sortD xs) → Q (.ref h1.objs.size) { s with heap := h' }) :
    wpAny (model prog w) A (call (.builtin "sorted") [.ref it]) Q E s := by
  obtain ⟨hal, hk, hL, hdp⟩ := okSort_ok hok
  have hlen : vs.length ≤ sizeLine := by rw [e.length]; exact hL
  refine call_function_entry_kw kind_sorted plain_sorted entry_sorted (args_sorted1 _) ?_
  unfold Builtin.«sorted»
  refine wpAny_bind (m := checkCount "sorted" 1 1 _) (wpAny_pure ?_)
  refine wpAny_bind (wpAny_collect_seq (hsz := by rw [List.size_toArray]; exact hlen) it hT ho hc hd fun h1 k1 => ?_)
  refine wpAny_bind (wpAny_newList ?_ hlen)
  show wpAny (model prog w) _ _ _ _ { s with heap := h1.push (seqObj "list" vs.toArray 0) }
  have ho2 : (h1.push (seqObj "list" vs.toArray 0)).get? h1.objs.size = some (seqObj "list" vs.toArray 0) := Heap.get?_push_size _ rfl
  have k2 : ∀ b ob, s.heap.get? b = some ob → (sortingHeap (h1.push (seqObj "list" vs.toArray 0)) h1.objs.size vs).get? b = some ob := fun b ob q => sortingHeap_old (Nat.ne_of_lt (Heap.lt_size (k1 b ob q))) (Heap.get?_push_of_some _ (k1 b ob q))
  have er' : EachIs (fun v d => ∃ as, Reads (sortingHeap (h1.push (seqObj "list" vs.toArray 0)) h1.objs.size vs) v d as) vs xs := er.mono fun _ _ ⟨as, r⟩ => ⟨as, PyProof.Rows.Reads.keeps k2 r⟩
  refine wpAny_bind (wpAny_holding (wpAny_call_entry_kw slot_list_sort ⟨_, ho2, rfl⟩ entry_list_sort ?body (args_list_sort _)))
  case body =>
    have S := SortsAt.data (prog := prog) (w := w) (A := A.in1.in1) (s := { s with heap := sortingHeap (h1.push (seqObj "list" vs.toArray 0)) h1.objs.size vs }) er' hal hk fun d hd => by
      have := hdp d hd
      show A.units + 2 + d.depth < cLine
      omega
    refine list_sort_vals (s := { s with heap := h1.push (seqObj "list" vs.toArray 0) }) ho2 S hlen ?_
    refine ⟨_, rfl, wpAny_pure ?_⟩
    obtain ⟨c, hc'⟩ := sortedHeap_at (h := h1.push (seqObj "list" vs.toArray 0)) (a := h1.objs.size) (vs := vs) (n := 0) (out := (sortVals (dataKind (sortingHeap (h1.push (seqObj "list" vs.toArray 0)) h1.objs.size vs) xs) false vs vs).toArray) ho2
    refine ⟨_, rfl, h h1 _ _ c k1 (fun b ob q => ?_) hc' ?_⟩
    · rw [sortedHeap_old (Nat.ne_of_lt (Heap.lt_size q)) (Heap.lt_size (Heap.get?_push_of_some _ q))]
      exact Heap.get?_push_of_some _ q
    · have q := sortVals_data (R := R) (enc := id) (bs := xs) (vs := vs) false e (by exact er') (by rw [List.map_id]; exact hal)
      rw [List.map_id] at q
      exact q
end
end Z
set_option Elab.async false
set_option linter.all false
set_option maxRecDepth 100000
set_option autoImplicit false
set_option maxHeartbeats 1000000
namespace Z
open PySem PySem.Spec PyProof.Rows L2

/-! ### enumerate(a tuple) -/
theorem meets_enum1 {v : Value} {o : Obj} {Hh : Heap → Prop} (B : Begins v o Hh) :
    Meets (Builtin.«enumerate.__new__» ⟨[.type "enumerate", v], []⟩) (fun _ R s => Hh s.heap ∧
      R (.ok (.ret (.ref (s.heap.push o).objs.size))) { s with heap := (s.heap.push o).push { cls := .type "enumerate", data := .fields #[.none, .bool false, .ref s.heap.objs.size, rawInt 0, .none, .none] } }) :=
  .of_wp fun prog w A R s h => by
    obtain ⟨hp, g, d, tk, os⟩ := s
    obtain ⟨h1, h⟩ := h
    have hsub := sub_enumerate
    have go : ∀ {A' : Around} {E : Value → Shared → Prop} {Q : Value → Shared → Prop}, Q (.ref hp.objs.size) ⟨hp.push o, g, d, tk, os⟩ → wpAny (model prog w) A' (pyIter v) Q E ⟨hp, g, d, tk, os⟩ :=
      fun z => B.iter prog w _ _ ⟨hp, g, d, tk, os⟩ _ h1 z
    wp_walk using go
    refine wpAny_stack_any fun st => wpAny_pure ?_
    split
    · rename_i c _ _ _ _ _
      cases (c == Value.type "enumerate") <;>
      · wp_walk using go
        exact ⟨_, rfl, h⟩
    · wp_walk using go
      exact ⟨_, rfl, h⟩
def IteT (K : PySem.W.Frag) (a : Addr) (n : Nat) : It :=
  ⟨fun i H => ∃ (xs : List V) (x : V), SqT K H a xs ∧ xs.length = n ∧ xs[i]? = some x, fun i H v H' => ∃ T x, v = .ref T ∧ H T = none ∧ H' = upd H T (.tup [.int (i : Nat), x]) ∧ ∀ xs, SqT K H a xs → xs[i]? = some x, fun i H => ∃ xs : List V, SqT K H a xs ∧ xs.length = n ∧ n ≤ i⟩
theorem turn_enumT {P : Program} {w : World} {K : PySem.W.Frag} {elts : List Expr} {kk : Nat} {tpos : Pos} (a e it : Addr) (n : Nat) :
    Turn P w K (.Tuple elts kk tpos) (IteT K a n) [e, it] e (fun i h => (∃ old, IsEnum h e it ((i : Nat) : Int) old) ∧ h.IsTupleIter it a i ∧ e ≠ it ∧ i ≤ n) where
  mem := List.mem_cons_self
  obj := fun i h st b hb => by
    obtain ⟨⟨old, he⟩, ⟨o, ho, hc, hd⟩, _, _⟩ := st
    rcases List.mem_cons.mp hb with z | z
    · rw [z]; exact ⟨_, he, fun v q => nomatch q⟩
    · rw [List.mem_singleton.mp z]; exact ⟨o, ho, fun v q => by rw [hd] at q; cases q⟩
  keep := fun i h h' st k => by
    obtain ⟨⟨old, he⟩, hi, hne, hin⟩ := st
    exact ⟨⟨old, k e List.mem_cons_self _ he⟩, hi.at fun o q => k it (List.mem_cons_of_mem _ List.mem_cons_self) o q, hne, hin⟩
  item := by
    intro X hP hw hK hc i pins s σ H E I hf st hg
    subst hP hw hK
    obtain ⟨⟨old, he⟩, hit, hne, hin⟩ := st
    obtain ⟨xs, x, hq, hn, hx⟩ := hg
    obtain ⟨its, rv, p, hz⟩ := I.tuple hq
    obtain ⟨u, hu, ru⟩ := rv.get hx
    have hel : e < s.heap.objs.size := Heap.lt_size he
    have hil : it < s.heap.objs.size := by obtain ⟨_, q, _⟩ := hit; exact Heap.lt_size q
    have pt : s.heap.IsTuple a its.toArray := p
    have hai : a ≠ it := fun z => by
      obtain ⟨o1, e1, c1, _⟩ := pt
      obtain ⟨o2, e2, c2, _⟩ := hit
      rw [z, e2] at e1
      cases e1
      rw [c1] at c2
      injection c2 with c2
      exact absurd c2 (by decide)
    have hae : a ≠ e := fun z => by
      obtain ⟨o1, e1, c1, _⟩ := pt
      rw [z, he] at e1
      cases e1
      injection c1 with c1
      exact absurd c1 (by decide)
    have Dr := Draws.tuple (prog := X.prog) (w := X.w) (A := X.A.in1) (I.ok.hd hc) it a hai its.toArray
    have hlt : i < its.toArray.size := by
      rw [List.size_toArray]
      exact (List.getElem?_eq_some_iff.mp hu).1
    refine wpAny_pyNext_enum_itemD Dr he ⟨hit, pt⟩ hlt hne (fun z => ?_) fun x' h' tk hP ho hst hT hsz hk => ?_
    · rcases List.mem_cons.mp z with z | z
      · exact hne z
      · exact hae (List.mem_singleton.mp z).symm
    have ex : x' = u := by
      have hP' : its.toArray[i]? = some x' := hP
      rw [List.getElem?_toArray, hu] at hP'
      exact (Option.some.inj hP').symm
    subst ex
    refine ⟨_, rfl, wpAny_letOwnedTupleGo_enum (s := { s with heap := h', toks := tk + 1 }) ho fun h'' he' sb => ?_⟩
    have hT2 : h''.get? s.heap.objs.size = some { cls := .type "tuple", data := .seq #[.int i tk, x'] } := (sb.2 _ (Nat.ne_of_gt hel)).trans hT
    have new : ObjOk X.prog X.w (upd H s.heap.objs.size (.tup [.int (i : Nat), x])) h'' s.heap.objs.size (.tup [.int (i : Nat), x]) :=
      ⟨show 2 ≤ sizeLine by decide, [.int i tk, x'], .cons ⟨_, rfl⟩ (.cons ru .nil), _, hT2, rfl, _, rfl⟩
    have old2 : ∀ b ob, b ∉ [e, it] → s.heap.get? b = some ob → h''.get? b = some ob := fun b ob hb q => (sb.2 b (fun z => hb (by rw [z]; exact List.mem_cons_self))).trans (hk b ob (fun z => hb (by rw [z]; exact List.mem_cons_self)) (fun z => hb (by rw [z]; exact List.mem_cons_of_mem _ List.mem_cons_self)) q)
    have I1 : L2.Inv X pins σ (upd H s.heap.objs.size (.tup [.int (i : Nat), x])) { s with heap := h'', toks := tk + 1 } := I.turnedNew (ch := [e, it]) old2 hf (Nat.le_refl _) new
    refine ⟨.ref s.heap.objs.size, _, I1, rfl, ⟨_, x, rfl, I.hok.fresh (Nat.le_refl _), rfl, fun ys hy => ?_⟩, ⟨⟨x', ?_⟩, hst.1.at fun o q => (sb.2 it (Ne.symm hne)).trans q, hne, by rw [← hn]; exact (List.getElem?_eq_some_iff.mp hx).1⟩, fun b hb => ?_⟩
    · rw [I.tuple_inj hy hq]
      exact hx
    · have e1 : ((i + 1 : Nat) : Int) = (i : Int) + 1 := Int.natCast_succ i
      rw [e1]
      exact he'
    · have hb' : b < s.heap.objs.size := by
        rcases List.mem_cons.mp hb with z | z
        · rw [z]; exact hel
        · rw [List.mem_singleton.mp z]; exact hil
      rw [upd_ne (Nat.ne_of_lt hb')]
      exact (hf b hb).1
  done := by
    intro X hP hw hK hc i pins s σ H E I hf st hg
    subst hP hw hK
    obtain ⟨⟨old, he⟩, hit, hne, hin⟩ := st
    obtain ⟨xs, hq, hn, hx⟩ := hg
    obtain ⟨its, rv, p, hz⟩ := I.tuple hq
    obtain ⟨f0, f1, f2, f3, f4, f5⟩ := hf it (List.mem_cons_of_mem _ List.mem_cons_self)
    have pt : s.heap.IsTuple a its.toArray := p
    have hai : a ≠ it := fun z => by
      obtain ⟨o1, e1, c1, _⟩ := pt
      obtain ⟨o2, e2, c2, _⟩ := hit
      rw [z, e2] at e1
      cases e1
      rw [c1] at c2
      injection c2 with c2
      exact absurd c2 (by decide)
    have Dr := Draws.tuple (prog := X.prog) (w := X.w) (A := X.A.in1) (I.ok.hd hc) it a hai its.toArray
    have en : its.toArray.size = i := by
      rw [List.size_toArray, ← rv.length, hn]
      exact Nat.le_antisymm hx hin
    exact wpAny_pyNext_enum_endD Dr he (show s.heap.IsTupleIter it a its.toArray.size ∧ _ by rw [en]; exact ⟨hit, pt⟩) fun h' eb => ⟨rfl, I.turned (t' := s.toks) (fun b o hb q => eb b o hb q) f0 f1 f3 f4 f5⟩
  self := fun A i s Q E st h => by
    obtain ⟨⟨_, he⟩, _⟩ := st
    exact wpAny_pyIter_enum he h
theorem call_enumT {prog : Program} {w : World} {A : Around} {E : Value → Shared → Prop} {s : Shared} {a : Addr} {items : Array Value} {Q : Value → Shared → Prop} (ht : s.heap.IsTuple a items)
    (h : ∀ h', IsEnum h' (s.heap.objs.size + 1) s.heap.objs.size 0 .none → h'.IsTupleIter s.heap.objs.size a 0 → (∀ b o, s.heap.get? b = some o → h'.get? b = some o) → Q (.ref (s.heap.objs.size + 1)) { s with heap := h' }) :
    wpAny (model prog w) A (call (.type "enumerate") [.ref a]) Q E s := by
  refine callType_new F.called_enumerate (by decide) (F.typeCall_enumerate_1 _) (F.newCall_enumerate_1 _) (fun obj => F.args_object_init_2 obj _) F.entry_enumerate_new (meets_enum1 (begins_tuple a items)) ⟨ht, ?_⟩
  have hz : (s.heap.push { cls := .type "tuple_iterator", data := .fields #[.ref a, .int 0 0] }).objs.size = s.heap.objs.size + 1 := Heap.size_push ..
  show _ ∧ _
  rw [hz]
  have he : IsEnum ((s.heap.push { cls := .type "tuple_iterator", data := .fields #[.ref a, .int 0 0] }).push { cls := .type "enumerate", data := .fields #[.none, .bool false, .ref s.heap.objs.size, rawInt 0, .none, .none] }) (s.heap.objs.size + 1) s.heap.objs.size 0 .none := by
    rw [← hz]
    exact Heap.get?_push_size _ rfl
  exact ⟨⟨_, he, rfl⟩, h _ he ⟨_, Heap.get?_push_of_some _ (Heap.get?_push_size _ rfl), rfl, rfl⟩ fun b o x => Heap.get?_push_of_some _ (Heap.get?_push_of_some _ x)⟩

/-! ### enumerate of a list, of a tuple -/
def enumD : Nat → List D → List D
  | _, [] => []
  | i, x :: xs => .tuple [.int (i : Nat), x] :: enumD (i + 1) xs
theorem enumD_len : ∀ {xs : List D} {i : Nat}, (enumD i xs).length = xs.length
  | [], _ => rfl
  | x :: xs, i => by
    unfold enumD
    rw [List.length_cons, List.length_cons, enumD_len]
theorem enumD_get : ∀ {xs : List D} {i j : Nat} {x : D}, xs[j]? = some x → (enumD i xs)[j]? = some (.tuple [.int ((i + j : Nat) : Int), x])
  | [], _, _, _, h => by simp at h
  | x :: xs, i, 0, _, h => by
    simp at h
    subst h
    rfl
  | x :: xs, i, j + 1, y, h => by
    have := enumD_get (xs := xs) (i := i + 1) (j := j) (x := y) (by simpa using h)
    rw [show i + 1 + j = i + (j + 1) by omega] at this
    simpa [enumD] using this
def iEn (K : PySem.W.Frag) (ta : TA) : TI := fun σ H R => ta σ H fun vs H1 => ∃ a, vs = [.ref a] ∧ ((∃ xs, SqL K H1 a xs ∧ R (Ite K a) H1) ∨ ∃ xs, SqT K H1 a xs ∧ R (IteT K a xs.length) H1)
theorem pi_en {X : Cx} {e : Expr} {ta : TA} {p pos tpos : Pos} {elts : List Expr} {kk : Nat} (hg : Gl X "enumerate") (hm : X.mg "enumerate" = none) (ha : PA X [e] ta) (hs : starEach [e] X.env = [(false, eval e X.env)] := by rfl) :
    PI X (.Tuple elts kk tpos) (.Call (.Name "enumerate" p) [e] [] pos) (iEn X.K ta) := by
  refine ⟨fun pins s σ H R I h => ?_⟩
  refine Call_ (ld_blt I hg hm boot_enumerate (PyProof.Rows.callWith_type1 (thn (ha.run pos pins s σ H _ I h) fun us s1 ⟨vs, H1, I1, r1, q1⟩ => ?_) hs rfl))
  obtain ⟨a, ex, q⟩ := q1
  subst ex
  cases r1 with
  | cons r rr =>
    cases rr
    cases r
    have fp : ∀ b ∈ [s1.heap.objs.size + 1, s1.heap.objs.size], FpOk X pins H1 b := fun b hb => by
      have hle : s1.heap.objs.size ≤ b := by
        rcases List.mem_cons.mp hb with z | z
        · rw [z]; exact Nat.le_succ _
        · rw [List.mem_singleton.mp z]; exact Nat.le_refl _
      exact I1.fpOk hle (I1.hok.fresh hle)
    rcases q with ⟨xs, hq, q⟩ | ⟨xs, hq, q⟩
    · obtain ⟨its, rv, p', _⟩ := I1.list hq
      exact call_enumerate_list p'.isList fun h' he hit _ hk => wpAny_pyIter_enum he ⟨_, _, _, _, H1, rfl, I1.kept (t' := s1.toks) hk, turn_enum a (s1.heap.objs.size + 1) s1.heap.objs.size, ⟨⟨.none, he⟩, hit, Nat.succ_ne_self _⟩, fp, q⟩
    · obtain ⟨its, rv, p', _⟩ := I1.tuple hq
      exact call_enumT (show s1.heap.IsTuple a its.toArray from p') fun h' he hit hk => wpAny_pyIter_enum he ⟨_, _, _, _, H1, rfl, I1.kept (t' := s1.toks) hk, turn_enumT a (s1.heap.objs.size + 1) s1.heap.objs.size _, ⟨⟨.none, he⟩, hit, Nat.succ_ne_self _, Nat.zero_le _⟩, fp, q⟩
theorem src_enum {K : PySem.W.Frag} {F : Fr} {G : Hp} {l : Addr} {vs : List V} {xs : List D} (q : ∀ H, Same F.f H → Same G H → SqL K H l vs) (h : DqAll K G vs xs) : Src true K F G (Ite K l) (enumD 0 xs) := by
  have w := (walk_enum (K := K) (a := l) (xs := vs)).mono (G' := fun H => Same F.f H ∧ Same G H) (Y' := fun i H v H' => ∃ x, (enumD 0 xs)[i]? = some x ∧ YV true K G H v x H') (fun H e => q H e.1 e.2) fun i H v H' hi _ y => by
    obtain ⟨T, x, z, h1, h2, h3, h4, h5⟩ := y
    obtain ⟨d, e1, e2⟩ := dpa_get' h h5
    cases h4
    refine ⟨_, enumD_get e1, T, _, _, h1, rfl, h2, h3, ?_⟩
    rw [Nat.zero_add]
    exact .cons (.int _) (.cons e2 .nil)
  unfold Src
  rw [enumD_len, ← dpa_length h]
  exact w
theorem src_enumT {K : PySem.W.Frag} {F : Fr} {G : Hp} {l : Addr} {vs : List V} {xs : List D} (q : ∀ H, Same F.f H → Same G H → SqT K H l vs) (h : DqAll K G vs xs) : Src true K F G (IteT K l vs.length) (enumD 0 xs) := by
  unfold Src
  rw [enumD_len, ← dpa_length h]
  refine ⟨fun i H hi e => ⟨vs, vs[i], q H e.1 e.2, rfl, by simp [hi]⟩, fun H e => ⟨vs, q H e.1 e.2, rfl, Nat.le_refl _⟩, fun i H v H' hi e y => ?_⟩
  obtain ⟨T, z, h1, h2, h3, h4⟩ := y
  obtain ⟨d, e1, e2⟩ := dpa_get' h (h4 vs (q H e.1 e.2))
  refine ⟨_, enumD_get e1, T, _, _, h1, rfl, h2, h3, ?_⟩
  rw [Nat.zero_add]
  exact .cons (.int _) (.cons e2 .nil)
def iEnV (m : M Rs) : M (List D) := bnd m fun r => bnd (itR r) fun xs => rt (enumD 0 xs)
/-- an iterated value as an argument -/
theorem en_data {X : Cx} {W : WX} {σ : St} {F : Fr} {G H : Hp} {Mu : Option Addr} {Γ : En} {R : It → Hp → Prop} {v : V} {x : D} (Rl : Rel X.K F G Mu Γ σ H) (h : Dq X.K G v x) (q : zpost X W σ (rhoW true) F G Mu R (match seqD x with
      | some xs => .ok (enumD 0 xs) Γ
      | none => .bad)) : ∃ a, v = .ref a ∧ ((∃ vs, SqL X.K H a vs ∧ R (Ite X.K a) H) ∨ ∃ vs, SqT X.K H a vs ∧ R (IteT X.K a vs.length) H) := by
  cases h with
  | lst a b =>
    rename_i l vs xs
    exact ⟨l, rfl, .inl ⟨vs, Rl.gh.seq a, zpost_ok Rl (src_enum (fun H' _ e => e.seq a) b) q⟩⟩
  | tup a b =>
    rename_i l vs xs
    exact ⟨l, rfl, .inr ⟨vs, (a.mono Rl.gh).sq, zpost_ok Rl (src_enumT (fun H' _ e => (a.mono e).sq) b) q⟩⟩
  | _ => exact q.elim
theorem di_enum {X : Cx} {e : Expr} {m : M Rs} {p pos tpos : Pos} {elts : List Expr} {kk : Nat} (hg : Gl X "enumerate") (hm : X.mg "enumerate" = none) (he : DV X e m) (hs : starEach [e] X.env = [(false, eval e X.env)] := by rfl) :
    DI true X (.Tuple elts kk tpos) (.Call (.Name "enumerate" p) [e] [] pos) (iEnV m) := fun W tk =>
  pi_imp (pi_en hg hm (pa_cons (he W tk) pa_nil hs) hs) fun σ H R p => (zt_bnd (ρ := rhoR) p).imp fun v H1 ⟨r, F, G, Mu, Γ, Rl, h1, q⟩ => by
    have fin : ∀ {v : V}, (∃ a, v = .ref a ∧ ((∃ vs, SqL X.K H1 a vs ∧ R (Ite X.K a) H1) ∨ ∃ vs, SqT X.K H1 a vs ∧ R (IteT X.K a vs.length) H1)) → ∃ a, [v] = [.ref a] ∧ ((∃ xs, SqL X.K H1 a xs ∧ R (Ite X.K a) H1) ∨ ∃ xs, SqT X.K H1 a xs ∧ R (IteT X.K a xs.length) H1) := fun {v} ⟨a, e, h⟩ => ⟨a, by rw [e], h⟩
    refine fin ?_
    unfold bnd itR at q
    cases r with
    | d x =>
      refine en_data (W := W) Rl h1 ?_
      dsimp only at q
      cases e1 : seqD x with
      | none => rw [e1] at q; exact q
      | some xs => rw [e1] at q; exact q
    | sl i =>
      have h1' : σ[i]? = some (some v) := h1
      dsimp only at q
      cases hg : Γ[i]? with
      | none => rw [hg] at q; exact q.elim
      | some sv =>
        rw [hg] at q
        cases sv with
        | u => exact q.elim
        | d x =>
          obtain ⟨u, k1, k2⟩ := Rl.data hg
          rw [h1'] at k1
          cases k1
          refine en_data (W := W) Rl k2 ?_
          dsimp only at q
          cases e1 : seqD x with
          | none => rw [e1] at q; exact q
          | some xs => rw [e1] at q; exact q
        | a xs =>
          obtain ⟨l, vs, k1, k2, k3⟩ := Rl.arg hg
          rw [h1'] at k1
          cases k1
          exact ⟨l, rfl, .inl ⟨vs, (F.af.trans Rl.fh).seq k2, zpost_ok Rl (src_enum (fun H' e _ => (F.af.trans e).seq k2) k3) q⟩⟩
        | own b xs =>
          cases b with
          | true => exact q.elim
          | false =>
            obtain ⟨l, G', k1, R', k2, k3⟩ := Rl.freeze hg
            rw [h1'] at k1
            cases k1
            cases k3 with
            | lst a b => exact ⟨l, rfl, .inl ⟨_, R'.gh.seq a, q _ H1 G' k2 R' (src_enum (fun H' _ e => e.seq a) b)⟩⟩
/-- .. of a new list -/
def iEnO (m : M (List D)) : M (List D) := bnd m fun xs => rt (enumD 0 xs)
theorem di_enumO {X : Cx} {e : Expr} {m : M (List D)} {p pos tpos : Pos} {elts : List Expr} {kk : Nat} (hg : Gl X "enumerate") (hm : X.mg "enumerate" = none) (he : DO X e m) (hs : starEach [e] X.env = [(false, eval e X.env)] := by rfl) :
    DI true X (.Tuple elts kk tpos) (.Call (.Name "enumerate" p) [e] [] pos) (iEnO m) := fun W tk =>
  pi_imp (pi_en hg hm (pa_cons (he W tk) pa_nil hs) hs) fun σ H R p => (zt_bnd (ρ := rhoO) p).imp fun v H1 ⟨xs, F, G, Mu, Γ, Rl, h1, q⟩ => by
    obtain ⟨G2, j1, R2, j2⟩ := Rl.keep h1
    cases j2 with
    | lst a b => exact ⟨_, rfl, .inl ⟨_, R2.gh.seq a, q _ H1 G2 j1 R2 (src_enum (fun H' _ e => e.seq a) b)⟩⟩
end Z
set_option Elab.async false
set_option linter.all false
set_option maxRecDepth 100000
set_option autoImplicit false
set_option maxHeartbeats 1000000
namespace Z
open PySem PySem.Spec PyProof.Rows L2

/-! ### sorted as a call -/
section
variable {X : Cx}
theorem each_dq {K : PySem.W.Frag} {G : Hp} : ∀ {xs : List D} {vs : List V} {us : List Value}, DqAll K G vs xs → Vals vs us → PySem.W.EachIs (fun u d => ∃ v, RelV v u ∧ Dq K G v d) us xs
  | [], _, _, h, r => by
    cases h
    cases r
    exact .nil
  | d :: xs, _, _, h, r => by
    cases h with
    | cons a b =>
      cases r with
      | cons c e => exact .cons ⟨_, c, a⟩ (each_dq b e)
theorem dq_each {K : PySem.W.Frag} {G : Hp} : ∀ {xs : List D} {us : List Value}, PySem.W.EachIs (fun u d => ∃ v, RelV v u ∧ Dq K G v d) us xs → ∃ vs, Vals vs us ∧ DqAll K G vs xs
  | [], _, h => by
    cases h
    exact ⟨[], .nil, .nil⟩
  | d :: xs, _, h => by
    cases h with
    | cons a b =>
      obtain ⟨v, h1, h2⟩ := a
      obtain ⟨vs, h3, h4⟩ := dq_each b
      exact ⟨v :: vs, .cons h1 h3, .cons h2 h4⟩
theorem cd_sorted (hu : X.A.units + 64 < cLine) : CallR X (.builtin "sorted") (rON X.K fSorted) := by
  intro pins s σ H vs us Q I r h
  obtain ⟨G, xs, zs, gh, rd, e, q⟩ := h
  have main : ∀ {a : Addr} {T : String} {o : Obj} {n : Nat} {its : List Value} {ws : List V} {ys : List D}, (T = "list" ∨ T = "tuple") → s.heap.get? a = some o → o.cls = .type T → o.data = .seq its.toArray n → Vals ws its → DqAll X.K G ws ys → okSort ys = true → zs = sortD ys →
      wpAny (model X.prog X.w) X.A (call (.builtin "sorted") [.ref a]) (EP X pins σ Q) X.xe s := fun {a T o n its ws ys} hT ho hc hd rv dv ok ez => by
    have er : PySem.W.EachIs (fun u d => ∃ as, Reads s.heap u d as) its ys := (each_dq dv rv).mono fun u d ⟨v, h1, h2⟩ => Dp.reads I d v u ((dp_mono gh d v h2).dp) h1
    refine sorted_any hT ho hc hd (each_dq dv rv) er ok (by omega) fun h1 h' out c k1 k2 hD he => ?_
    obtain ⟨vs', r1, d1⟩ := dq_each he
    have I1 : L2.Inv X pins σ H { s with heap := h1 } := I.kept (t' := s.toks) k1
    have hz : vs'.length ≤ sizeLine := by
      rw [dpa_length d1]
      obtain ⟨_, _, h3, _⟩ := okSort_ok ok
      unfold sortD
      rw [List.length_mergeSort]
      exact h3
    have I2 : L2.Inv X pins σ (upd H h1.objs.size (.lst vs')) { s with heap := h' } := I1.laid (t' := s.toks) k2 (Nat.le_refl _) (show ObjOk X.prog X.w _ _ _ (.lst vs') from ⟨hz, out, c, r1, hD⟩)
    exact ⟨.ref h1.objs.size, _, I2, rfl, q _ vs' (I1.hok.fresh (Nat.le_refl _)) (by rw [ez]; exact d1)⟩
  unfold fSorted at e
  split at e
  · rename_i ys
    split at e
    · rename_i ok
      cases e
      obtain ⟨v, rfl, rv⟩ := rd.one
      obtain ⟨l, ws, rfl, s1, d1⟩ := rv.list gh
      obtain ⟨u, rfl, rx⟩ := vals1 r
      cases rx
      obtain ⟨its, r', pl, _⟩ := I.list s1
      obtain ⟨o, ho, hc, n, hd⟩ := pl.isList
      exact main (.inl rfl) ho hc hd r' d1 ok rfl
    · cases e
  · rename_i ys
    split at e
    · rename_i ok
      cases e
      obtain ⟨v, rfl, rv⟩ := rd.one
      obtain ⟨l, ws, rfl, s1, d1⟩ := rv.tup gh
      obtain ⟨u, rfl, rx⟩ := vals1 r
      cases rx
      obtain ⟨its, r', pl, _⟩ := I.tuple s1.sq
      obtain ⟨o, ho, hc, n, hd⟩ := pl
      exact main (.inr rfl) ho hc hd r' d1 ok rfl
    · cases e
  · cases e
end

/-! ### operations whose answer is data, or a new list -/
def op2r (f : D → D → Option D) (h : D → D → Option (List D)) (m n : M Rs) : M Rt := bnd m fun r => bnd n fun s => fun g => match vl g r with
  | none => .bad
  | some x => match vl g s with
    | none => .bad
    | some y => match f x y with
      | some z => .ok (.d z) g
      | none => match h x y with
        | some zs => .ok (.own zs) g
        | none => .bad
def cutR (m : M Rs) (a b : M (Option Int)) : M Rt := bnd m fun r => bnd a fun lo => bnd b fun hi => fun g => match vl g r with
  | none => .bad
  | some x => match fCutT x lo hi with
    | some z => .ok (.d z) g
    | none => match fCutL x lo hi with
      | some zs => .ok (.own zs) g
      | none => .bad
section
variable {X : Cx} {a b e : Expr} {pos p2 : Pos} {lo hi : Option Expr}
theorem OpR.both {F : Value → Value → Sem Value} {r r' : R2} (h : OpR X F r) (k : OpR X F r') : OpR X F (fun x y H Q => r x y H Q ∨ r' x y H Q) := by
  intro pins s σ H x y v u Q I rx ry q
  rcases q with q | q
  · exact h pins s σ H x y v u Q I rx ry q
  · exact k pins s σ H x y v u Q I rx ry q
theorem dr_bin {op : Operator} {f : D → D → Option D} {h : D → D → Option (List D)} {m n : M Rs} (ho : OpR X (binaryOp op) (rD2 X.K f)) (ho' : OpR X (binaryOp op) (rO2 X.K h)) (ha : DV X a m) (hb : DV X b n) : DR X (.BinOp a op b pos) (op2r f h m n) := fun W tk =>
  pe_imp (pe_op (OpR.both ho ho') (ha W tk) (hb W tk)) fun σ H Q p => (zt_bnd2 (ρ := rhoR) (ρ' := rhoR) stR p).imp fun v H1 q => q.imp fun u H2 ⟨r, s, F, G, Mu, Γ, R, h1, h2, q2⟩ => by
    cases e1 : vl Γ r with
    | none => rw [e1] at q2; exact q2.elim
    | some x =>
      cases e2 : vl Γ s with
      | none => rw [e1, e2] at q2; exact q2.elim
      | some y =>
        rw [e1, e2] at q2
        dsimp only at q2
        cases e3 : f x y with
        | some z =>
          rw [e3] at q2
          exact .inl ⟨G, x, y, z, R.gh, R.read h1 e1, R.read h2 e2, e3, fun w H' G' ex d => q2 w H' G' ex.g (R.ext ex) d⟩
        | none =>
          rw [e3] at q2
          dsimp only at q2
          cases e4 : h x y with
          | none => rw [e4] at q2; exact q2.elim
          | some zs =>
            rw [e4] at q2
            refine .inr ⟨G, x, y, zs, R.gh, R.read h1 e1, R.read h2 e2, e4, fun l vs n d => ?_⟩
            obtain ⟨R', o⟩ := R.newO n d
            exact q2 _ _ G (Same.refl _) R' o
theorem dr_cut {m : M Rs} {ma mb : M (Option Int)} (h : DV X e m) (ha : DPo X lo ma) (hb : DPo X hi mb) : DR X (.Subscript e (.Slice lo hi none p2) pos) (cutR m ma mb) := fun W tk => by
  refine pe_imp (pe_slice (SlR.or sl_tupZ sl_list) (h W tk) (ha W tk) (hb W tk)) fun σ H Q p => ?_
  refine (zt_bnd3 p).imp fun v H1 q1 => q1.imp fun l H2 q2 => q2.imp fun u H3 ⟨r, F, G, Mu, Γ, R, h1, q⟩ => ?_
  cases e1 : vl Γ r with
  | none => rw [e1] at q; exact q.elim
  | some x =>
    rw [e1] at q
    have rd := R.read h1 e1
    cases x with
    | tuple xs =>
      obtain ⟨a, vs, rfl, s1, d1⟩ := rd.tup R.gh
      have dt : Dq X.K G (.ref a) (.tuple xs) := by
        rcases rd with rd | ⟨_, _, _, _, c, _⟩
        · exact rd
        · cases c
      have n1 := dpa_length d1
      have q' : zpost X W σ rhoT F G Mu Q (.ok (.d (.tuple (cutD xs l u))) Γ) := q
      refine .inl ⟨a, vs, rfl, s1.sq, fun w => ?_, fun _ p o n ho => ?_⟩
      · have : cutD xs l u = xs := by
          unfold cutD
          rw [← n1, w.1, w.2, List.drop_zero, Nat.sub_zero, n1, List.take_length]
        rw [this] at q'
        exact q' _ _ G (Same.refl _) R dt
      · have E := Ext.new (o := .frz o (.tup (cutV vs l u))) R.gh n
        exact q' _ _ _ E.g (R.ext E) (show rhoT _ _ _ _ _ _ _ (.d (.tuple (cutD xs l u))) _ from .tup (.new ho) (dpAll_mono E.g _ _ (dpa_cut l u d1)))
    | list xs =>
      have q' : zpost X W σ rhoT F G Mu Q (.ok (.own (cutD xs l u)) Γ) := q
      obtain ⟨a, vs, rfl, s1, d1⟩ := rd.list R.gh
      refine .inr ⟨a, vs, rfl, s1, fun p n => ?_⟩
      obtain ⟨R', o⟩ := R.newO n (dpa_cut l u d1)
      exact q' _ _ G (Same.refl _) R' o
    | _ => exact q.elim
end
end Z
set_option Elab.async false
set_option linter.all false
set_option maxRecDepth 100000
set_option autoImplicit false
set_option maxHeartbeats 1000000
namespace Z
open PySem PySem.Spec PyProof.Rows L2

/-! ### one expression, two readings -/
def mixR (m : M D) (n : M (List D)) : M Rt := fun g => match m g with
  | .ok x g' => .ok (.d x) g'
  | .ex c x g' => .ex c x g'
  | .bad => match n g with
    | .ok xs g' => .ok (.own xs) g'
    | .ex c x g' => .ex c x g'
    | .bad => .bad
section
variable {X : Cx} {e : Expr} {pos : Pos}
theorem dr_or {m : M D} {n : M (List D)} (h : DP X e m) (k : DO X e n) : DR X e (mixR m n) := fun W tk => ⟨fun pins s σ H Q I ⟨F, G, Mu, Γ, R, q⟩ => by
  unfold mixR at q
  cases e1 : m Γ with
  | ok x g' =>
    rw [e1] at q
    exact (h W tk).run pins s σ H Q I ⟨F, G, Mu, Γ, R, by rw [e1]; exact q⟩
  | ex c x g' =>
    rw [e1] at q
    exact (h W tk).run pins s σ H Q I ⟨F, G, Mu, Γ, R, by rw [e1]; exact q⟩
  | bad =>
    rw [e1] at q
    dsimp only at q
    cases e2 : n Γ with
    | ok x g' =>
      rw [e2] at q
      exact (k W tk).run pins s σ H Q I ⟨F, G, Mu, Γ, R, by rw [e2]; exact q⟩
    | ex c x g' =>
      rw [e2] at q
      exact (k W tk).run pins s σ H Q I ⟨F, G, Mu, Γ, R, by rw [e2]; exact q⟩
    | bad =>
      rw [e2] at q
      exact q.elim⟩
/-- what a proof never comes to -/
def sBad : M Fl := fun _ => .bad
theorem ds_bad {s : Stmt} : DS X s sBad := fun W _ => ps_imp ps_never fun D σ H ⟨F, G, Mu, Γ, R, p⟩ => p
theorem dss_bad {ss : List Stmt} : DSs X ss sBad := fun W _ => pss_imp pss_never fun D σ H ⟨F, G, Mu, Γ, R, p⟩ => p
def dBad {α : Type} : M α := fun _ => .bad
end
theorem passX {P : Program} {w : World} {K : PySem.W.Frag} {mg : Str → Option Value} {base : Heap} {N : List Str} {qual : Str} {scope : Scope} {f : Addr} {cd : Value} {A : Around} {outer : List Env} {s : Shared} {H : Hp} {E : XK} :
    PassesOwn (model (cxOf (L2.CX P w) P w K mg base N qual scope f cd A outer s H E).prog (cxOf (L2.CX P w) P w K mg base N qual scope f cd A outer s H E).w) (cxOf (L2.CX P w) P w K mg base N qual scope f cd A outer s H E).A (cxOf (L2.CX P w) P w K mg base N qual scope f cd A outer s H E).env (cxOf (L2.CX P w) P w K mg base N qual scope f cd A outer s H E).xe := PassesOwn.leaving

/-! ### a, b, .. = x, y, .. where a name is a cell -/
theorem rtAll_new {K : PySem.W.Frag} {F : Fr} {G H : Hp} {Mu : Option Addr} {Γ : En} {σ : St} {p : Addr} {o : HO} (n : H p = none) : ∀ {rs : List Rt} {vs : List V}, RtAll K F G Mu Γ σ H rs vs → RtAll K F G Mu Γ σ (upd H p o) rs vs
  | [], _, h => h
  | .d x :: rs, _, h => by
    obtain ⟨v, us, rfl, h1, h2⟩ := h
    exact ⟨v, us, rfl, h1, rtAll_new n h2⟩
  | .own x :: rs, _, h => by
    obtain ⟨v, us, rfl, ⟨l, ws, e, h1, h2⟩, h3, h4⟩ := h
    exact ⟨v, us, rfl, ⟨l, ws, e, by rw [upd_ne (ne_of_none h1 n)]; exact h1, h2⟩, h3, rtAll_new n h4⟩
inductive Nms (X : Cx) : List Expr → List Nat → Prop where
  | nil : Nms X [] []
  | cons {x : Str} {pos : Pos} {i : Nat} {es : List Expr} {is : List Nat} (hi : X.N[i]? = some x) (hx : Loc X.env.scope x) (hf : X.fn x = true ∨ X.env.scope.names.lookup x = some .local) (hs : (assignEach (.Name x pos :: es) X.env).map (·.2) = assign (.Name x pos) X.env :: (assignEach es X.env).map (·.2)) (h : Nms X es is) : Nms X (.Name x pos :: es) (i :: is)
def gNms (is : List Nat) : TGs := fun vs σ H Q => vs.length = is.length ∧ Q (stV is vs σ) H
theorem pgs_nms {X : Cx} (hN : X.N.Nodup) : ∀ {es : List Expr} {is : List Nat}, Nms X es is → PGs X es (gNms is)
  | _, _, .nil => pgs_imp pgs_nil fun vs σ H Q ⟨h, q⟩ => ⟨List.eq_nil_of_length_eq_zero h, by
      rw [List.eq_nil_of_length_eq_zero h] at q
      exact q⟩
  | _, _, .cons hi hx hf hs h => pgs_imp (pgs_cons (pg_name hN hi hx hf) (pgs_nms hN h) hs) fun vs σ H Q ⟨hl, q⟩ => by
      cases vs with
      | nil => cases hl
      | cons v vs => exact ⟨v, vs, rfl, by simpa using hl, q⟩
theorem ds_parG {X : Cx} {ts es : List Expr} {is : List Nat} {kt k2 : Nat} {pt p2 pos : Pos} {m : M (List Rt)} {n : Nat} (hc : X.calm = true) (hN : X.N.Nodup) (hg : Nms X ts is) (ha : DMs X es m) (hz : is.length ≤ sizeLine)
    (hn : (assignEach ts X.env).length = n := by rfl) (hst : (assignEach ts X.env).findIdx? (·.1) = none := by rfl) (hl : is.length = n := by rfl)
    (hs : swapsWithSole [.Tuple ts kt pt] (.Tuple es k2 p2) pos.line X.env = pure false := by rfl) (hw : swappedStores [.Tuple ts kt pt] (.Tuple es k2 p2) X.env = pure none := by rfl)
    (h1 : (assignEach [.Tuple ts kt pt] X.env).map (·.2) = [assign (.Tuple ts kt pt) X.env] := by rfl) : DS X (.Assign [.Tuple ts kt pt] (.Tuple es k2 p2) pos) (sPar is m) := fun W tk =>
  ps_imp (ps_asg (pe_tup (ha W tk)) (pg_tup hc (pgs_nms hN hg) hn hst) hs hw h1) fun D σ H p => (st_bnd (ρ := rhoMs) p).imp fun vs H1 ⟨rs, F, G, Mu, Γ, R, h1, q⟩ => by
    split at q
    · rename_i g' e
      have len : vs.length = is.length := (R.setRs h1 e).2
      refine ⟨by rw [len]; exact hz, fun t nt => ⟨t, vs, rfl, .inl (.inl upd_same), by rw [len, hl], len, ?_⟩⟩
      obtain ⟨R', _⟩ := (R.newX (o := .tup vs) nt).setRs (rtAll_new nt h1) e
      exact q _ _ G (Same.refl _) R'
    · exact q.elim

/-! ### tuple(range(a, b, -1)) -/
def dTupRg3 (m : M (List Rs)) : M D := bnd m fun rs => fun g => match vls g rs with
  | some [.int i, .int j, .int c] => if rgLim i ∧ rgLim j ∧ c = -1 ∧ (i - j).toNat ≤ 16777216 then .ok (.tuple (rngD i (-1) (i - j).toNat)) g else .bad
  | _ => .bad
def rngV (lo c : Int) (n : Nat) : List V := (List.range n).map fun (i : Nat) => .int (lo + (i : Int) * c)
theorem dpa_rng {K : PySem.W.Frag} {G : Hp} (lo c : Int) (n : Nat) : DqAll K G (rngV lo c n) (rngD lo c n) := by
  have e1 : rngV lo c n = ((List.range n).map fun (i : Nat) => lo + (i : Int) * c).map V.int := by simp [rngV]
  have e2 : rngD lo c n = ((List.range n).map fun (i : Nat) => lo + (i : Int) * c).map PyData.int := by simp [rngD]
  rw [e1, e2]
  exact dpa_ints _
theorem vals_rng {lo c : Int} {n : Nat} {acc : Array Value} (h : ItemsOf (fun i v => ∃ t, v = .int (lo + i * c) t) acc n) : Vals (rngV lo c n) acc.toList := by
  have e : acc.toList.length = n := by rw [Array.length_toList, h.1]
  unfold rngV
  rw [← e]
  refine vals_of_get acc.toList _ fun j u hj => ?_
  rw [Array.getElem?_toList] at hj
  exact h.2 j u hj
theorem dp_tupRg3 {X : Cx} {a b c : Expr} {m : M (List Rs)} {p p2 pos pos2 : Pos} (hc : X.calm = true) (hg : Gl X "tuple") (hm : X.mg "tuple" = none) (hg2 : Gl X "range") (hm2 : X.mg "range" = none) (ha : DVs X [a, b, c] m)
    (hs : starEach [a, b, c] X.env = (false, eval a X.env) :: starEach [b, c] X.env := by rfl) (hpl : (backTo pos (starEach [b, c] X.env)).any (·.1) = false := by rfl)
    (na : starEach [.Call (.Name "range" p) [a, b, c] [] pos] X.env = (false, eval (.Call (.Name "range" p) [a, b, c] [] pos) X.env) :: starEach [] X.env := by rfl) :
    DP X (.Call (.Name "tuple" p2) [.Call (.Name "range" p) [a, b, c] [] pos] [] pos2) (dTupRg3 m) := fun W tk => by
  refine ⟨fun pins s σ H Q I h => Call_ (ld_blt I hg hm boot_tuple (PyProof.Rows.callWith_type1 (args_cons (Call_ (ld_blt I hg2 hm2 boot_range (PyProof.Rows.callWith_type1 (thn ((ha W tk).run pos pins s σ H _ I (zt_bnd (ρ := rhoRs) h)) fun us s1 ⟨vs, H1, I1, r1, rs, F, G, Mu, Γ, R, h1, q⟩ => ?_) hs hpl))) na) na))⟩
  split at q
  · rename_i i j k e
    split at q
    · rename_i hj
      obtain ⟨v1, v2, v3, rfl, h2, h3, h4⟩ := (R.reads h1 e).three
      cases h2.int
      cases h3.int
      cases h4.int
      obtain ⟨h5, h6, rfl, h7⟩ := hj
      cases r1 with
      | cons r rr =>
        cases rr with
        | cons r' rr =>
          cases rr with
          | cons r'' rr =>
            cases rr
            obtain ⟨t, rfl⟩ := r
            obtain ⟨t', rfl⟩ := r'
            obtain ⟨t'', rfl⟩ := r''
            obtain ⟨c0, c1, c2, c3⟩ := RgC.neg h5.1 h5.2 h6.1 h6.2
            refine call_range_3 c0 ?_ (.inl (PyProof.noPylong_small c1))
            have I2 : L2.Inv X pins σ H1 { s1 with heap := s1.heap.push { cls := .type "range", data := .fields #[.int i t, .int j t', .int (-1) t''] } } := I1.kept (t' := s1.toks) fun b o e => Heap.get?_push_of_some _ e
            refine args_nil ?_
            refine call_tuple_range (n := (i - j).toNat) (I2.ok.hd hc) (IsRange.new ..) c2 c3 (by omega) fun h' tk acc hk hi => ?_
            have J : L2.Inv X pins σ H1 { s1 with heap := h', toks := tk } := I2.kept hk
            have K2 := laidT (its := acc.toList) (xs := rngV i (-1) (i - j).toNat) (h := h') (tk := tk) J (vals_rng hi) (by rw [dpa_length (dpa_rng (K := X.K) (G := G) i (-1) _), rngD_len, sizeLine_eq]; exact h7)
            rw [Array.toArray_toList] at K2
            have E := Ext.new (o := .frz { cls := .type "tuple", data := .seq acc } (.tup (rngV i (-1) (i - j).toNat))) R.gh (J.hok.fresh (Nat.le_refl _))
            exact ⟨.ref h'.objs.size, _, K2, rfl, q _ _ _ E.g (R.ext E) (show rhoD _ _ _ _ _ _ _ (.tuple _) _ from .tup (.new rfl) (dpa_rng _ _ _))⟩
    · exact q.elim
  · exact q.elim
end Z
set_option Elab.async false
set_option linter.all false
set_option maxRecDepth 100000
set_option autoImplicit false
set_option maxHeartbeats 1000000
namespace Z
open PySem PySem.Spec PyProof.Rows L2
section
variable {X : Cx}
theorem zv (i : Nat) {x : Str} {pos : Pos} (hN : X.N[i]? = some x := by rfl) (hv : Vis X.env.scope x := by first | exact Or.inl rfl | exact Or.inr (Or.inl rfl) | exact Or.inr (Or.inr rfl)) (hd : (x == ("__debug__" : Str)) = false := by decide)
    (hcd : (x == ("__classdict__" : Str)) = false := by decide) : DV X (.Name x pos) (dName i) := dv_name hN hv hd hcd
end
section
variable {P : Program} {w : World} {K : PySem.W.Frag} {mg : Str → Option Value} {base : Heap}
theorem fnP_bad {x : Str} {st : Stmt} {k : Nat} {ps : List Str} {ks : List Pk} {f : Addr} {fd : FuncData} {qual : Str} (Fn : Fun K x qual st f fd) (hm : mg x = some (.ref f)) (hb : Binds K fd ps []) : FnP P w K mg base x st k ps ks (fun _ => .bad) :=
  ⟨f, fd, qual, Fn, hm, ⟨fun vs H Q E ⟨_, _, _, _, _, _, _, q⟩ => q.elim, fun _ _ _ _ _ _ _ _ _ _ _ _ _ ⟨_, _, _, _, _, _, _, q⟩ => q.elim⟩, hb⟩
theorem fnP_mk {x : Str} {stm : Stmt} {f : Addr} {fd : FuncData} {N ps : List Str} {k : Nat} {ks : List Pk} {m : M Fl} (Fn : Fun K x x stm f fd) (hm : mg x = some (.ref f)) (hb : Binds K fd ps []) (S : FnScope N ps (defScope stm)) (hl : ks.length = ps.length) (one : oneM ks = true)
    (body : ∀ (cdv : Value) (A : Around) (outer : List Env) (s : Shared) (H : Hp) (E : XK), Room k (A.deeper (envOfC x (defScope stm) s.heap.objs.size f cdv)) → DSs (cxOf (L2.CX P w) P w K mg base N x (defScope stm) f cdv A outer s H E) (defBody stm) m) :
    FnP P w K mg base x stm (k + 1) ps ks (runF N.length ks m) := ⟨f, fd, x, Fn, hm, fn_ok Fn S hl one body, hb⟩
end
end Z
set_option Elab.async false
set_option linter.all false
set_option maxRecDepth 100000
set_option autoImplicit false
set_option maxHeartbeats 1000000
namespace Z
open PySem PySem.Spec PyProof.Rows L2

/-! ### f(a new list that f changes) -/
def call1 (φ : List D → Out) (m : M (List D)) : M Rt := bnd m fun xs => fun g => match φ [.list xs] with
  | .bad => .bad
  | .ret r _ => .ok r g
  | .ex c x _ => .ex c x g
section
variable {K : PySem.W.Frag} {F : Fr} {G H G' H' : Hp} {Mu : Option Addr} {Γ : En} {σ : St} {l : Addr} {ms : List D}
theorem Rel.called1 (R : Rel K F G Mu Γ σ H) (nF : F l = none) (nM : Mu ≠ some l) (nO : ∀ i, ¬ Owns Γ σ i l) (p : Post K G H (some l) G' H' ms) : Rel K F G' Mu Γ σ H' := by
  have same : ∀ {b : Addr} {o : HO}, H b = some o → b ≠ l → H' b = some o := fun {b o} h n => p.fr _ _ ((del_ne (fun z => n (by cases z; rfl))).trans h)
  refine R.mono (Mu' := Mu) (fun b o h => same (R.fh b o h) fun z => ?_) p.g p.gh (fun b h => ?_) (fun i b h => ?_) (fun b h => ?_)
  · rw [z, nF] at h
    cases h
  · obtain ⟨m1, m2, m3⟩ := R.mu b h
    obtain ⟨o, w⟩ := Option.ne_none_iff_exists'.mp m3
    refine ⟨p.keep b m3 m2, ?_⟩
    rw [same w (fun z => nM (by rw [h, z]))]
    exact fun z => nomatch z
  · obtain ⟨h1, h2, us, h3⟩ := R.there h
    exact ⟨p.keep b (by rw [h3]; exact fun z => nomatch z) h2, by rw [h3, same h3 (fun z => nO i (by rw [← z]; exact h))]⟩
  · refine p.keep b (fun z => ?_) (R.lk b h)
    obtain ⟨o, w⟩ := Option.ne_none_iff_exists'.mp (F.kf b h)
    rw [R.fh b o w] at z
    cases z
end
section
variable {X : Cx} {e : Expr} {p pos : Pos} {x : Str} {st : Stmt} {k : Nat} {ps : List Str} {φ : List D → Out}
theorem dr_fn1 (Fn : FnP X.prog X.w X.K X.mg X.base x st k ps [.m] φ) (hr : Room k X.A) (hg : Gl X x) {m : M (List D)} (ha : DO X e m)
    (hdb : (x == ("__debug__" : Str)) = false := by decide) (he : starEach [e] X.env = (false, eval e X.env) :: starEach [] X.env := by rfl) (hpl : (backTo pos (starEach [] X.env)).any (·.1) = false := by rfl) :
    DR X (.Call (.Name x p) [e] [] pos) (call1 φ m) := fun W tk => by
  obtain ⟨f, fd, qual, f1, f2, f3, f4⟩ := Fn.ex
  refine pe_imp (pe_callS f3 hr hg f2 f1.kp f4 (passAt tk) (pa_cons (ha W tk) pa_nil he) hdb he hpl) fun σ H Q p => ?_
  refine (zt_bnd (ρ := rhoO) p).imp fun v H1 ⟨xs, F, G, Mu, Γ, R, ⟨l, us, ev, h1, h2, h3, h4, h5, h6⟩, q⟩ => ?_
  subst ev
  refine ⟨G, some l, [.list xs], R.gh, fun b hb => ?_, (fun hm => absurd hm (by decide)), ⟨_, _, _, _, rfl, rfl, ⟨l, us, xs, rfl, rfl, rfl, h1, h2, h4⟩, rfl, rfl⟩, ?_⟩
  · cases hb
    exact ⟨h4, by rw [h1]; exact fun z => nomatch z⟩
  · split at q
    · exact q.elim
    · rename_i r ms e2
      rw [e2]
      intro v H' G' p hr
      have R' := R.called1 h3 h5 h6 p
      refine q v H' G' p.g R' ?_
      cases r with
      | d x => exact hr
      | own ys =>
        obtain ⟨l', ws, rfl, k1, k2, k3, k4⟩ := hr
        refine ⟨l', ws, rfl, k1, k2, R.fh.free k3, k4, fun z => (R.mu l' z).2.2 k3, fun i hi => ?_⟩
        obtain ⟨_, _, us', w4⟩ := R.there hi
        rw [k3] at w4
        cases w4
    · rename_i c x ms e2
      rw [e2]
      exact fun C a v H' G' k1 p k2 k3 => q C a v H' G' k1 p.g (R.called1 h3 h5 h6 p) k2 k3
end
end Z
set_option Elab.async false
set_option linter.all false
set_option maxRecDepth 100000
set_option autoImplicit false
set_option maxHeartbeats 1000000
namespace Z
open PySem PySem.Spec PyProof.Rows L2
/-! ### the law itself -/
def spLaw (K : PySem.W.Frag) : Sp := fun vs H Q _ => ∃ (a : Addr) (ns : List Int), vs = [.ref a] ∧ SqL K H a (ns.map V.int) ∧ ns.length ≤ 63 ∧ ∀ v H', v = .bl true → Q v H'
theorem law_sp {K : PySem.W.Frag} {mg : Str → Option Value} {φ : List D → Out} (h : ∀ ns : List Int, ns.length ≤ 63 → φ [.list (ns.map PyData.int)] = .ret (.d (.bool true)) []) (vs : List V) (H : Hp) (Q : VK) (E : XK) (q : spLaw K vs H Q E) : spF K mg [.v] φ vs H Q E := by
  obtain ⟨a, ns, rfl, hs, hl, q⟩ := q
  refine ⟨fun _ => none, none, [.list (ns.map PyData.int)], (fun _ _ z => by cases z), (fun _ z => by cases z), fun _ => rfl, ⟨_, _, _, _, rfl, rfl, .inr ⟨a, ns.map V.int, ns.map PyData.int, rfl, rfl, ?_, dpa_ints ns⟩, rfl, rfl⟩, ?_⟩
  · rcases hs with (hs | ⟨o, hs⟩) | hs
    · exact .inl (.inl ((del_ne (fun z => by cases z)).trans hs))
    · exact .inl (.inr ⟨o, (del_ne (fun z => by cases z)).trans hs⟩)
    · exact .inr hs
  · rw [h ns hl]
    intro v H' G' _ hr
    cases (show Dq K G' v (.bool true) from hr)
    exact q _ H' rfl
theorem law_fn {P : Program} {w : World} {K : PySem.W.Frag} {mg : Str → Option Value} {base : Heap} {x : Str} {st : Stmt} {k : Nat} {ps : List Str} {φ : List D → Out} {fa : Addr} {fd : FuncData}
    (F : FnP P w K mg base x st k ps [.v] φ) (hm : mg x = some (.ref fa)) (hl : ∃ (oc : Value) (od : Option Addr) (osl : Array (Option Value)), K.lookup fa = some ⟨oc, od, .func fd, osl⟩)
    (h : ∀ ns : List Int, ns.length ≤ 63 → φ [.list (ns.map PyData.int)] = .ret (.d (.bool true)) []) : FnOk P w K mg base (L2.CX P w) k fa fd ps (spLaw K) := by
  obtain ⟨f, fd', qual, Fn, hm', ok, _⟩ := F.ex
  rw [hm] at hm'
  cases hm'
  obtain ⟨oc, od, osl, e1⟩ := hl
  obtain ⟨oc', od', kV, doc, pm, an, cdv, ct, osl', rfl, e2, _⟩ := Fn.ex
  rw [e1] at e2
  cases e2
  exact ok.imp fun vs H Q E q => law_sp h vs H Q E q
theorem cx_none {P : Program} {w : World} {H : Hp} {s : Shared} {e : Value} {s' : Shared} (h : L2.CX P w [] H s (fun _ _ _ => False) e s') : False := by
  obtain ⟨_, _, _, _, _, _, _, _, _, _, _, _, z⟩ := h
  exact z
end Z
set_option Elab.async false
set_option linter.all false
set_option maxRecDepth 100000
set_option autoImplicit false
set_option maxHeartbeats 1000000
namespace Z
open PySem PySem.Spec PyProof.Rows L2

/-! ### running mirrors: from the outside in, nothing under a binder -/
class Cont (α β : Type) where
  k : α → En → Ro β
def Ro.thn {α β : Type} (r : Ro α) [c : Cont α β] : Ro β := match r with
  | .bad => .bad
  | .ok x g => c.k x g
  | .ex e x g => .ex e x g
theorem thn_ok {α β : Type} (x : α) (g : En) (f : α → En → Ro β) : (Ro.ok x g).thn (c := ⟨f⟩) = f x g := Eq.trans rfl rfl
theorem thn_ex {α β : Type} (c : Str) (x : D) (g : En) (f : Cont α β) : (Ro.ex c x g).thn (c := f) = .ex c x g := Eq.trans rfl rfl
theorem thn_bad {α β : Type} (f : Cont α β) : (Ro.bad : Ro α).thn (c := f) = .bad := Eq.trans rfl rfl
/-- an answer that may lack -/
def oRo {α : Type} (o : Option α) (g : En) : Ro α := match o with
  | some x => .ok x g
  | none => .bad
theorem oRo_some {α : Type} (x : α) (g : En) : oRo (some x) g = .ok x g := Eq.trans rfl rfl
class OCont (α β : Type) where
  k : α → Option β
def oMap {α β : Type} (o : Option α) [c : OCont α β] : Option β := match o with
  | some x => c.k x
  | none => none
theorem oMap_some {α β : Type} (x : α) (f : α → Option β) : oMap (some x) (c := ⟨f⟩) = f x := Eq.trans rfl rfl
/-- a choice -/
def brn {α : Type} (k : Bool) (a b : M α) (g : En) : Ro α := if k = true then a g else b g
theorem brn_t {α : Type} (a b : M α) (g : En) : brn true a b g = a g := Eq.trans rfl rfl
theorem brn_f {α : Type} (a b : M α) (g : En) : brn false a b g = b g := Eq.trans rfl rfl
def bdn {α : Type} (k : Prop) [Decidable k] (a : Ro α) : Ro α := if k then a else .bad
theorem bdn_t {α : Type} {k : Prop} [Decidable k] (a : Ro α) (h : k) : bdn k a = a := if_pos h

def bdz {α : Type} (n : Nat) (a : Ro α) : Ro α := if n ≤ sizeLine then a else .bad
theorem bdz_ok {α : Type} (n : Nat) (a : Ro α) (h : n ≤ sizeLine) : bdz n a = a := if_pos h
section
variable {α β : Type}
theorem bnd_at (m : M α) (f : α → M β) (g : En) : bnd m f g = (m g).thn (c := ⟨f⟩) := Eq.trans rfl rfl
theorem rt_at (x : α) (g : En) : rt x g = .ok x g := Eq.trans rfl rfl
end
/-- what a slot gives -/
def slR (i : Nat) (o : Option SV) (g : En) : Ro Rs := match o with
  | some (.d x) => .ok (.d x) g
  | some (.a _) => .ok (.sl i) g
  | some (.own _ _) => .ok (.sl i) g
  | _ => .bad
theorem dName_at (i : Nat) (g : En) : dName i g = slR i g[i]? g := Eq.trans rfl rfl
theorem slR_d (i : Nat) (x : D) (g : En) : slR i (some (.d x)) g = .ok (.d x) g := Eq.trans rfl rfl
theorem slR_a (i : Nat) (x : List D) (g : En) : slR i (some (.a x)) g = .ok (.sl i) g := Eq.trans rfl rfl
theorem slR_o (i : Nat) (m : Bool) (x : List D) (g : En) : slR i (some (.own m x)) g = .ok (.sl i) g := Eq.trans rfl rfl
def slV (o : Option SV) : Option D := match o with
  | some (.d x) => some x
  | some (.a xs) => some (.list xs)
  | some (.own _ xs) => some (.list xs)
  | _ => none
theorem vl_d (g : En) (x : D) : vl g (.d x) = some x := Eq.trans rfl rfl
theorem vl_s (g : En) (i : Nat) : vl g (.sl i) = slV g[i]? := Eq.trans rfl rfl
theorem slV_d (x : D) : slV (some (.d x)) = some x := Eq.trans rfl rfl
theorem slV_a (x : List D) : slV (some (.a x)) = some (.list x) := Eq.trans rfl rfl
theorem slV_o (m : Bool) (x : List D) : slV (some (.own m x)) = some (.list x) := Eq.trans rfl rfl
theorem dv_at (m : M D) (g : En) : dv m g = (m g).thn (c := ⟨fun x g' => .ok (.d x) g'⟩) := Eq.trans rfl rfl
def escS (i : Nat) (o : Option SV) (g : En) : Ro D := match o with
  | some (.d x) => .ok x g
  | some (.own false xs) => .ok (.list xs) (g.set i (.d (.list xs)))
  | _ => .bad
theorem dEsc_at (m : M Rs) (g : En) : dEsc m g = (m g).thn (c := ⟨esc⟩) := Eq.trans rfl rfl
theorem esc_d (x : D) (g : En) : esc (.d x) g = .ok x g := Eq.trans rfl rfl
theorem esc_s (i : Nat) (g : En) : esc (.sl i) g = escS i g[i]? g := Eq.trans rfl rfl
theorem escS_d (i : Nat) (x : D) (g : En) : escS i (some (.d x)) g = .ok x g := Eq.trans rfl rfl
theorem escS_o (i : Nat) (xs : List D) (g : En) : escS i (some (.own false xs)) g = .ok (.list xs) (g.set i (.d (.list xs))) := Eq.trans rfl rfl
theorem dFz_at (m : M (List D)) (g : En) : dFz m g = (m g).thn (c := ⟨fun xs g' => .ok (.list xs) g'⟩) := Eq.trans rfl rfl
theorem dC_at (x : D) (g : En) : dC x g = .ok x g := Eq.trans rfl rfl
theorem dNil_at (g : En) : dNil g = .ok [] g := Eq.trans rfl rfl
theorem dCons_at (m : M D) (n : M (List D)) (g : En) : dCons m n g = (m g).thn (c := ⟨fun x g1 => (n g1).thn (c := ⟨fun xs g2 => .ok (x :: xs) g2⟩)⟩) := Eq.trans rfl rfl
theorem vNil_at (g : En) : vNil g = .ok [] g := Eq.trans rfl rfl
theorem vCons_at (m : M Rs) (n : M (List Rs)) (g : En) : vCons m n g = (m g).thn (c := ⟨fun x g1 => (n g1).thn (c := ⟨fun xs g2 => .ok (x :: xs) g2⟩)⟩) := Eq.trans rfl rfl
theorem op2_at (f : D → D → Option D) (m n : M Rs) (g : En) : op2 f m n g = (m g).thn (c := ⟨fun r g1 => (n g1).thn (c := ⟨fun s g2 => oRo (oMap (vl g2 r) (c := ⟨fun x => oMap (vl g2 s) (c := ⟨fun y => f x y⟩)⟩)) g2⟩)⟩) := by
  unfold op2 bnd Ro.thn
  cases m g with
  | ok r g1 =>
    dsimp only
    cases n g1 with
    | ok s g2 =>
      dsimp only
      cases vl g2 r with
      | none => rfl
      | some x =>
        cases vl g2 s with
        | none => rfl
        | some y =>
          dsimp only [oMap]
          cases f x y <;> rfl
    | _ => rfl
  | _ => rfl
theorem op2r_at (f : D → D → Option D) (h : D → D → Option (List D)) (m n : M Rs) (g : En) : op2r f h m n g = (m g).thn (c := ⟨fun r g1 => (n g1).thn (c := ⟨fun s g2 => oRo (oMap (vl g2 r) (c := ⟨fun x => oMap (vl g2 s) (c := ⟨fun y => (match f x y with
    | some z => some (Rt.d z)
    | none => match h x y with
      | some zs => some (Rt.own zs)
      | none => none)⟩)⟩)) g2⟩)⟩) := by
  unfold op2r bnd Ro.thn
  cases m g with
  | ok r g1 =>
    dsimp only
    cases n g1 with
    | ok s g2 =>
      dsimp only
      cases vl g2 r with
      | none => rfl
      | some x =>
        cases vl g2 s with
        | none => rfl
        | some y =>
          dsimp only [oMap]
          cases f x y with
          | some z => rfl
          | none => cases h x y <;> rfl
    | _ => rfl
  | _ => rfl
theorem op1_at (f : D → Option D) (m : M Rs) (g : En) : op1 f m g = (m g).thn (c := ⟨fun r g1 => oRo (oMap (vl g1 r) (c := ⟨f⟩)) g1⟩) := by
  unfold op1 bnd Ro.thn
  cases m g with
  | ok r g1 =>
    dsimp only
    cases vl g1 r with
    | none => rfl
    | some x =>
      dsimp only [oMap]
      cases f x <;> rfl
  | _ => rfl
theorem op1o_at (f : D → Option (List D)) (m : M Rs) (g : En) : op1o f m g = (m g).thn (c := ⟨fun r g1 => oRo (oMap (vl g1 r) (c := ⟨f⟩)) g1⟩) := by
  unfold op1o bnd Ro.thn
  cases m g with
  | ok r g1 =>
    dsimp only
    cases vl g1 r with
    | none => rfl
    | some x =>
      dsimp only [oMap]
      cases f x <;> rfl
  | _ => rfl
theorem opN_at (f : List D → Option D) (m : M (List Rs)) (g : En) : opN f m g = (m g).thn (c := ⟨fun rs g1 => oRo (oMap (vls g1 rs) (c := ⟨f⟩)) g1⟩) := by
  unfold opN bnd Ro.thn
  cases m g with
  | ok r g1 =>
    dsimp only
    cases vls g1 r with
    | none => rfl
    | some x =>
      dsimp only [oMap]
      cases f x <;> rfl
  | _ => rfl
theorem opNo_at (f : List D → Option (List D)) (m : M (List Rs)) (g : En) : opNo f m g = (m g).thn (c := ⟨fun rs g1 => oRo (oMap (vls g1 rs) (c := ⟨f⟩)) g1⟩) := by
  unfold opNo bnd Ro.thn
  cases m g with
  | ok r g1 =>
    dsimp only
    cases vls g1 r with
    | none => rfl
    | some x =>
      dsimp only [oMap]
      cases f x <;> rfl
  | _ => rfl
theorem vls_nil (g : En) : vls g [] = some [] := Eq.trans rfl rfl
theorem vls_cons (g : En) (r : Rs) (rs : List Rs) : vls g (r :: rs) = oMap (vl g r) (c := ⟨fun x => oMap (vls g rs) (c := ⟨fun xs => some (x :: xs)⟩)⟩) := by
  rw [vls]
  unfold oMap
  cases vl g r with
  | none => rfl
  | some x => cases vls g rs <;> rfl
theorem cutR_at (m : M Rs) (a b : M (Option Int)) (g : En) : cutR m a b g = (m g).thn (c := ⟨fun r g1 => (a g1).thn (c := ⟨fun lo g2 => (b g2).thn (c := ⟨fun hi g3 => oRo (oMap (vl g3 r) (c := ⟨fun x => match fCutT x lo hi with
    | some z => some (Rt.d z)
    | none => match fCutL x lo hi with
      | some zs => some (Rt.own zs)
      | none => none⟩)) g3⟩)⟩)⟩) := by
  unfold cutR bnd Ro.thn
  cases m g with
  | ok r g1 =>
    dsimp only
    cases a g1 with
    | ok lo g2 =>
      dsimp only
      cases b g2 with
      | ok hi g3 =>
        dsimp only
        cases vl g3 r with
        | none => rfl
        | some x =>
          dsimp only [oMap]
          cases fCutT x lo hi with
          | some z => rfl
          | none => cases fCutL x lo hi <;> rfl
      | _ => rfl
    | _ => rfl
  | _ => rfl
theorem oNone_at (g : En) : oNone g = .ok none g := Eq.trans rfl rfl
theorem oSome_at (m : M D) (g : En) : oSome m g = (m g).thn (c := ⟨fun x g1 => match x with
    | .int i => .ok (some i) g1
    | _ => .bad⟩) := by
  unfold oSome bnd Ro.thn
  cases m g with
  | ok x g1 => cases x <;> rfl
  | _ => rfl
theorem dTup_at (m : M (List D)) (g : En) : dTup m g = (m g).thn (c := ⟨fun xs g1 => bdz xs.length (.ok (.tuple xs) g1)⟩) := by
  unfold dTup bnd Ro.thn bdz
  cases m g with
  | ok x g1 =>
    dsimp only
    split <;> rfl
  | _ => rfl
theorem dLst_at (m : M (List D)) (g : En) : dLst m g = (m g).thn (c := ⟨fun xs g1 => bdz xs.length (.ok xs g1)⟩) := by
  unfold dLst bnd Ro.thn bdz
  cases m g with
  | ok x g1 =>
    dsimp only
    split <;> rfl
  | _ => rfl
def boolD : D → Option Bool
  | .bool b => some b
  | _ => none
theorem dB_at (m : M D) (g : En) : dB m g = (m g).thn (c := ⟨fun x g1 => oRo (boolD x) g1⟩) := by
  unfold dB bnd Ro.thn
  cases m g with
  | ok x g1 => cases x <;> rfl
  | _ => rfl
theorem boolD_b (b : Bool) : boolD (.bool b) = some b := Eq.trans rfl rfl
theorem dNot_at (m : M Bool) (g : En) : dNot m g = (m g).thn (c := ⟨fun b g1 => .ok (!b) g1⟩) := Eq.trans rfl rfl
theorem dAnd_at (m n : M Bool) (g : En) : dAnd m n g = (m g).thn (c := ⟨fun b g1 => brn b n (rt false) g1⟩) := by
  unfold dAnd bnd Ro.thn brn
  cases m g with
  | ok b g1 => cases b <;> rfl
  | _ => rfl
theorem dOr_at (m n : M Bool) (g : En) : dOr m n g = (m g).thn (c := ⟨fun b g1 => brn b (rt true) n g1⟩) := by
  unfold dOr bnd Ro.thn brn
  cases m g with
  | ok b g1 => cases b <;> rfl
  | _ => rfl
theorem dIfE_at (t : M Bool) (m n : M D) (g : En) : dIfE t m n g = (t g).thn (c := ⟨fun b g1 => brn b m n g1⟩) := by
  unfold dIfE bnd Ro.thn brn
  cases t g with
  | ok b g1 => cases b <;> rfl
  | _ => rfl
theorem dAndV_at (m n : M D) (g : En) : dAndV m n g = (m g).thn (c := ⟨fun x g1 => (oRo (boolD x) g1).thn (c := ⟨fun b g2 => brn b n (rt x) g2⟩)⟩) := by
  unfold dAndV bnd Ro.thn brn
  cases m g with
  | ok x g1 =>
    cases x with
    | bool b => cases b <;> rfl
    | _ => rfl
  | _ => rfl
theorem dOrV_at (m n : M D) (g : En) : dOrV m n g = (m g).thn (c := ⟨fun x g1 => (oRo (boolD x) g1).thn (c := ⟨fun b g2 => brn b (rt x) n g2⟩)⟩) := by
  unfold dOrV bnd Ro.thn brn
  cases m g with
  | ok x g1 =>
    cases x with
    | bool b => cases b <;> rfl
    | _ => rfl
  | _ => rfl
theorem dNotV_at (m : M D) (g : En) : dNotV m g = (m g).thn (c := ⟨fun x g1 => (oRo (boolD x) g1).thn (c := ⟨fun b g2 => .ok (.bool (!b)) g2⟩)⟩) := by
  unfold dNotV bnd Ro.thn
  cases m g with
  | ok x g1 => cases x <;> rfl
  | _ => rfl

/-! statements -/
def dsq (r : Ro Fl) (b : M Fl) : Ro Fl := match r with
  | .ok .nx g => b g
  | o => o
theorem dSeq_at (a b : M Fl) (g : En) : dSeq a b g = dsq (a g) b := by
  unfold dSeq dsq
  cases a g with
  | ok f g1 => cases f <;> rfl
  | _ => rfl
theorem dsq_nx (g : En) (b : M Fl) : dsq (.ok .nx g) b = b g := Eq.trans rfl rfl
theorem dsq_rt (r : Rt) (g : En) (b : M Fl) : dsq (.ok (.rt r) g) b = .ok (.rt r) g := Eq.trans rfl rfl
theorem dsq_bk (g : En) (b : M Fl) : dsq (.ok .bk g) b = .ok .bk g := Eq.trans rfl rfl
theorem dsq_ct (g : En) (b : M Fl) : dsq (.ok .ct g) b = .ok .ct g := Eq.trans rfl rfl
theorem dsq_ex (c : Str) (x : D) (g : En) (b : M Fl) : dsq (.ex c x g) b = .ex c x g := Eq.trans rfl rfl
theorem sNx_at (g : En) : sNx g = .ok .nx g := Eq.trans rfl rfl
theorem sBk_at (g : En) : sBk g = .ok .bk g := Eq.trans rfl rfl
theorem sCt_at (g : En) : sCt g = .ok .ct g := Eq.trans rfl rfl
theorem sExpr_at (m : M D) (g : En) : sExpr m g = (m g).thn (c := ⟨fun _ g1 => .ok .nx g1⟩) := Eq.trans rfl rfl
theorem sRet_at (m : M D) (g : En) : sRet m g = (m g).thn (c := ⟨fun x g1 => .ok (.rt (.d x)) g1⟩) := Eq.trans rfl rfl
theorem sRetO_at (m : M (List D)) (g : En) : sRetO m g = (m g).thn (c := ⟨fun x g1 => .ok (.rt (.own x)) g1⟩) := Eq.trans rfl rfl
theorem sRetN_at (g : En) : sRetN g = .ok (.rt (.d .none)) g := Eq.trans rfl rfl
def retS (i : Nat) (o : Option SV) (g : En) : Ro Fl := match o with
  | some (.own false xs) => .ok (.rt (.own xs)) (g.set i .u)
  | some (.d x) => .ok (.rt (.d x)) g
  | _ => .bad
theorem sRetV_at (i : Nat) (g : En) : sRetV i g = retS i g[i]? g := Eq.trans rfl rfl
theorem retS_d (i : Nat) (x : D) (g : En) : retS i (some (.d x)) g = .ok (.rt (.d x)) g := Eq.trans rfl rfl
theorem retS_o (i : Nat) (xs : List D) (g : En) : retS i (some (.own false xs)) g = .ok (.rt (.own xs)) (g.set i .u) := Eq.trans rfl rfl
theorem sSet_at (i : Nat) (m : M D) (g : En) : sSet i m g = (m g).thn (c := ⟨fun x g1 => .ok .nx (g1.set i (.d x))⟩) := Eq.trans rfl rfl
theorem sSetO_at (i : Nat) (m : M (List D)) (g : En) : sSetO i m g = (m g).thn (c := ⟨fun x g1 => .ok .nx (g1.set i (.own false x))⟩) := Eq.trans rfl rfl
theorem sIf_at (t : M Bool) (a b : M Fl) (g : En) : sIf t a b g = (t g).thn (c := ⟨fun k g1 => brn k a b g1⟩) := by
  unfold sIf bnd Ro.thn brn
  cases t g with
  | ok b g1 => cases b <;> rfl
  | _ => rfl
def ownV (o : Option SV) : Option (Bool × List D) := match o with
  | some (.own b xs) => some (b, xs)
  | _ => none
theorem ownV_o (b : Bool) (xs : List D) : ownV (some (.own b xs)) = some (b, xs) := Eq.trans rfl rfl
def subS (i : Nat) (y : D) (o : Option (Bool × List D)) (v : Option D) (g : En) : Ro Fl := match o, v with
  | some (b, xs), some (.int n) => match ixN xs.length n with
    | some j => .ok .nx (g.set i (.own b (xs.set j y)))
    | none => .bad
  | _, _ => .bad
theorem subS_at (i : Nat) (y : D) (b : Bool) (xs : List D) (n : Int) (g : En) (j : Nat) (h : ixN xs.length n = some j) : subS i y (some (b, xs)) (some (.int n)) g = .ok .nx (g.set i (.own b (xs.set j y))) := by
  unfold subS
  dsimp only
  rw [h]
/-- the list is there -/
class MCont (α : Type) where
  k : M α
def chk {α : Type} (o : Option (Bool × List D)) [c : MCont α] (g : En) : Ro α := match o with
  | some _ => c.k g
  | none => .bad
theorem chk_some {α : Type} (p : Bool × List D) (f : M α) (g : En) : chk (some p) (c := ⟨f⟩) g = f g := Eq.trans rfl rfl
theorem sSub_at (i : Nat) (m : M D) (k : M Rs) (g : En) : sSub i m k g = (m g).thn (c := ⟨fun y g1 => chk (ownV g1[i]?) (c := ⟨fun g1 => (k g1).thn (c := ⟨fun s g2 => subS i y (ownV g2[i]?) (vl g2 s) g2⟩)⟩) g1⟩) := by
  unfold sSub
  rw [bnd_at]
  unfold Ro.thn
  cases m g with
  | ok y g1 =>
    dsimp only
    unfold chk ownV
    cases g1[i]? with
    | none => rfl
    | some sv =>
      cases sv with
      | own b0 xs0 =>
        dsimp only
        unfold bnd
        cases k g1 with
        | ok s g2 =>
          dsimp only
          unfold subS
          cases g2[i]? with
          | none => rfl
          | some sv =>
            cases sv with
            | own b xs =>
              dsimp only
              cases vl g2 s with
              | none => rfl
              | some x => cases x <;> rfl
            | _ => rfl
        | _ => rfl
      | _ => rfl
  | _ => rfl
def mutS (i : Nat) (b : Bool) (o : Option (List D × D)) (g : En) : Ro D := match o with
  | some (ys, r) => .ok r (g.set i (.own b ys))
  | none => .bad
theorem mutS_some (i : Nat) (b : Bool) (ys : List D) (r : D) (g : En) : mutS i b (some (ys, r)) g = .ok r (g.set i (.own b ys)) := Eq.trans rfl rfl
def mutP (f : List D → Option (List D × D)) (i : Nat) (o : Option (Bool × List D)) (g : En) : Ro D := match o with
  | some (b, xs) => mutS i b (f xs) g
  | none => .bad
theorem mutP_some (f : List D → Option (List D × D)) (i : Nat) (b : Bool) (xs : List D) (g : En) : mutP f i (some (b, xs)) g = mutS i b (f xs) g := Eq.trans rfl rfl
theorem dMut_at (i : Nat) (f : List D → List D → Option (List D × D)) (m : M (List D)) (g : En) : dMut i f m g = chk (ownV g[i]?) (c := ⟨fun g => (m g).thn (c := ⟨fun args g' => mutP (fun xs => f xs args) i (ownV g'[i]?) g'⟩)⟩) g := by
  unfold dMut chk ownV
  cases g[i]? with
  | none => rfl
  | some sv =>
    cases sv with
    | own b0 xs0 =>
      dsimp only
      unfold bnd Ro.thn
      cases m g with
      | ok args g' =>
        dsimp only
        unfold mutP mutS
        cases g'[i]? with
        | none => rfl
        | some sv =>
          cases sv with
          | own b xs =>
            dsimp only <;> cases f xs args <;> rfl
          | _ => rfl
      | _ => rfl
    | _ => rfl
theorem augS_at (i : Nat) (f : D → D → Option D) (m : M Rs) (g : En) (x : D) (hg : g[i]? = some (.d x)) : sAug i f m g = (m g).thn (c := ⟨fun s g' => (oRo (oMap (vl g' s) (c := ⟨f x⟩)) g').thn (c := ⟨fun z g2 => .ok .nx (g2.set i (.d z))⟩)⟩) := by
  unfold sAug
  rw [hg]
  dsimp only
  unfold bnd Ro.thn
  cases m g with
  | ok s g' =>
    dsimp only
    cases vl g' s with
    | none => rfl
    | some y =>
      dsimp only [oMap]
      cases f x y <;> rfl
  | _ => rfl
theorem msNil_at (g : En) : msNil g = .ok [] g := Eq.trans rfl rfl
theorem msD_at (m : M D) (n : M (List Rt)) (g : En) : msD m n g = (m g).thn (c := ⟨fun x g1 => (n g1).thn (c := ⟨fun xs g2 => .ok (.d x :: xs) g2⟩)⟩) := Eq.trans rfl rfl
theorem msO_at (m : M (List D)) (n : M (List Rt)) (g : En) : msO m n g = (m g).thn (c := ⟨fun x g1 => (n g1).thn (c := ⟨fun xs g2 => .ok (.own x :: xs) g2⟩)⟩) := Eq.trans rfl rfl
theorem msR_at (m : M Rt) (n : M (List Rt)) (g : En) : msR m n g = (m g).thn (c := ⟨fun x g1 => (n g1).thn (c := ⟨fun xs g2 => .ok (x :: xs) g2⟩)⟩) := Eq.trans rfl rfl
def gRo (o : Option En) : Ro Fl := match o with
  | some g => .ok .nx g
  | none => .bad
theorem gRo_some (g : En) : gRo (some g) = .ok .nx g := Eq.trans rfl rfl
theorem sPar_at (is : List Nat) (m : M (List Rt)) (g : En) : sPar is m g = (m g).thn (c := ⟨fun rs g1 => gRo (setRs is rs g1)⟩) := Eq.trans rfl rfl
theorem setRs_nil (g : En) : setRs [] [] g = some g := Eq.trans rfl rfl
theorem setRs_d (i : Nat) (is : List Nat) (x : D) (rs : List Rt) (g : En) : setRs (i :: is) (.d x :: rs) g = setRs is rs (g.set i (.d x)) := Eq.trans rfl rfl
theorem setRs_o (i : Nat) (is : List Nat) (x : List D) (rs : List Rt) (g : En) : setRs (i :: is) (.own x :: rs) g = setRs is rs (g.set i (.own false x)) := Eq.trans rfl rfl

/-! calls -/
theorem callP_at (ks : List Pk) (φ : List D → Out) (m : M (List Rs)) (g : En) : callP ks φ m g = (m g).thn (c := ⟨fun rs g1 => callM ks φ rs g1⟩) := Eq.trans rfl rfl
theorem callK_at (ks : List Pk) (φ : List D → Out) (pm : List Nat) (m n : M (List Rs)) (g : En) : callK ks φ pm m n g = (m g).thn (c := ⟨fun rs g1 => (n g1).thn (c := ⟨fun rs' g2 => callM ks φ (pick pm (rs ++ rs')) g2⟩)⟩) := Eq.trans rfl rfl
def outR (mi : Option Nat) (g : En) (o : Out) : Ro Rt := match o with
  | .bad => .bad
  | .ret r ms => .ok r (putM mi ms g)
  | .ex c x ms => .ex c x (putM mi ms g)
def argO (φ : List D → Out) (o : Option (List D)) : Out := match o with
  | some xs => φ xs
  | none => .bad
theorem argO_some (φ : List D → Out) (xs : List D) : argO φ (some xs) = φ xs := Eq.trans rfl rfl
theorem callM_at (ks : List Pk) (φ : List D → Out) (rs : List Rs) (g : En) : callM ks φ rs g = outR (mIx ks rs) g (argO φ (argD g (mIx ks rs) ks rs)) := by
  unfold callM outR argO
  cases argD g (mIx ks rs) ks rs with
  | none => rfl
  | some xs =>
    dsimp only <;> cases φ xs <;> rfl
theorem outR_ret (mi : Option Nat) (g : En) (r : Rt) (ms : List D) : outR mi g (.ret r ms) = .ok r (putM mi ms g) := Eq.trans rfl rfl
theorem outR_ex (mi : Option Nat) (g : En) (c : Str) (x : D) (ms : List D) : outR mi g (.ex c x ms) = .ex c x (putM mi ms g) := Eq.trans rfl rfl
theorem argD_nil (g : En) (mi : Option Nat) : argD g mi [] [] = some [] := Eq.trans rfl rfl
theorem argD_v (g : En) (mi : Option Nat) (ks : List Pk) (x : D) (rs : List Rs) : argD g mi (.v :: ks) (.d x :: rs) = oMap (argD g mi ks rs) (c := ⟨fun xs => some (x :: xs)⟩) := by
  rw [argD]
  unfold oMap
  cases argD g mi ks rs <;> rfl
theorem argD_p (g : En) (mi : Option Nat) (ks : List Pk) (x : D) (rs : List Rs) : argD g mi (.p :: ks) (.d x :: rs) = oMap (argD g mi ks rs) (c := ⟨fun xs => some (x :: xs)⟩) := by
  rw [argD]
  unfold oMap
  cases argD g mi ks rs <;> rfl
theorem argD_vs (g : En) (mi : Option Nat) (ks : List Pk) (i : Nat) (rs : List Rs) (h : mi ≠ some i) : argD g mi (.v :: ks) (.sl i :: rs) = oMap (argD g mi ks rs) (c := ⟨fun xs => oMap (slV g[i]?) (c := ⟨fun x => some (x :: xs)⟩)⟩) := by
  rw [argD]
  unfold oMap
  cases argD g mi ks rs with
  | none => rfl
  | some xs =>
    dsimp only
    rw [if_neg h, vl_s]
    cases slV g[i]? <;> rfl
theorem argD_m (g : En) (ks : List Pk) (i : Nat) (rs : List Rs) : argD g (some i) (.m :: ks) (.sl i :: rs) = oMap (argD g (some i) ks rs) (c := ⟨fun xs => oMap (ownV g[i]?) (c := ⟨fun p => some (.list p.2 :: xs)⟩)⟩) := by
  rw [argD]
  unfold oMap ownV
  cases argD g (some i) ks rs with
  | none => rfl
  | some xs =>
    dsimp only
    cases g[i]? with
    | none => rfl
    | some sv =>
      cases sv with
      | own b ys =>
        dsimp only
        rw [if_pos rfl]
      | _ => rfl
theorem mIx_m (ks : List Pk) (i : Nat) (rs : List Rs) : mIx (.m :: ks) (.sl i :: rs) = some i := Eq.trans rfl rfl
theorem mIx_v (ks : List Pk) (r : Rs) (rs : List Rs) : mIx (.v :: ks) (r :: rs) = mIx ks rs := by cases r <;> rfl
theorem mIx_p (ks : List Pk) (r : Rs) (rs : List Rs) : mIx (.p :: ks) (r :: rs) = mIx ks rs := by cases r <;> rfl
theorem mIx_nil (rs : List Rs) : mIx [] rs = none := by
  unfold mIx
  rfl
theorem putM_none (ms : List D) (g : En) : putM none ms g = g := Eq.trans rfl rfl
def putO (i : Nat) (ms : List D) (g : En) (o : Option SV) : En := match o with
  | some (.own b _) => g.set i (.own b ms)
  | _ => g
theorem putM_some (i : Nat) (ms : List D) (g : En) : putM (some i) ms g = putO i ms g g[i]? := Eq.trans rfl rfl
theorem putO_o (i : Nat) (ms : List D) (g : En) (b : Bool) (xs : List D) : putO i ms g (some (.own b xs)) = g.set i (.own b ms) := Eq.trans rfl rfl
theorem call1_at (φ : List D → Out) (m : M (List D)) (g : En) : call1 φ m g = (m g).thn (c := ⟨fun xs g1 => outR none g1 (φ [.list xs])⟩) := by
  unfold call1 bnd Ro.thn outR
  cases m g with
  | ok xs g1 =>
    dsimp only
    cases φ [.list xs] <;> rfl
  | _ => rfl
theorem rD_at (m : M Rt) (g : En) : rD m g = (m g).thn (c := ⟨fun r g1 => rtD r g1⟩) := Eq.trans rfl rfl
theorem rtD_d (x : D) (g : En) : rtD (.d x) g = .ok x g := Eq.trans rfl rfl
theorem rtD_o (x : List D) (g : En) : rtD (.own x) g = .ok (.list x) g := Eq.trans rfl rfl
theorem rO_at (m : M Rt) (g : En) : rO m g = (m g).thn (c := ⟨fun r g1 => rtO r g1⟩) := Eq.trans rfl rfl
theorem rtO_o (x : List D) (g : En) : rtO (.own x) g = .ok x g := Eq.trans rfl rfl
theorem sExprR_at (m : M Rt) (g : En) : sExprR m g = (m g).thn (c := ⟨fun _ g1 => .ok .nx g1⟩) := Eq.trans rfl rfl
theorem sRetR_at (m : M Rt) (g : En) : sRetR m g = (m g).thn (c := ⟨fun r g1 => .ok (.rt r) g1⟩) := Eq.trans rfl rfl
def setS (i : Nat) (g : En) (r : Rt) : Ro Fl := match r with
  | .d x => .ok .nx (g.set i (.d x))
  | .own xs => .ok .nx (g.set i (.own false xs))
theorem sSetR_at (i : Nat) (m : M Rt) (g : En) : sSetR i m g = (m g).thn (c := ⟨fun r g1 => setS i g1 r⟩) := by
  unfold sSetR bnd Ro.thn setS
  cases m g with
  | ok r g1 => cases r <;> rfl
  | _ => rfl
theorem setS_d (i : Nat) (g : En) (x : D) : setS i g (.d x) = .ok .nx (g.set i (.d x)) := Eq.trans rfl rfl
theorem setS_o (i : Nat) (g : En) (x : List D) : setS i g (.own x) = .ok .nx (g.set i (.own false x)) := Eq.trans rfl rfl
/-! a def's answer -/
def outF (ks : List Pk) (r : Ro Fl) : Out := match r with
  | .ok .nx g => outM ks (.d .none) g
  | .ok (.rt r) g => outM ks r g
  | .ex c x g => match muOf ks g with
    | some ms => .ex c x ms
    | none => .bad
  | _ => .bad
theorem runF_at (n : Nat) (ks : List Pk) (b : M Fl) (xs : List D) : runF n ks b xs = outF ks (b (start0 n ks xs)) := by
  unfold runF outF
  cases b (start0 n ks xs) with
  | ok f g => cases f <;> rfl
  | _ => rfl
def mOut (o : Option (List D)) (r : Rt) : Out := match o with
  | some ms => .ret r ms
  | none => .bad
theorem outF_nx (ks : List Pk) (g : En) : outF ks (.ok .nx g) = mOut (muOf ks g) (.d .none) := Eq.trans rfl rfl
theorem outF_rt (ks : List Pk) (r : Rt) (g : En) : outF ks (.ok (.rt r) g) = mOut (muOf ks g) r := Eq.trans rfl rfl
theorem mOut_some (ms : List D) (r : Rt) : mOut (some ms) r = .ret r ms := Eq.trans rfl rfl
theorem muOf_nil (g : En) : muOf [] g = some [] := by
  unfold muOf
  rfl
theorem muOf_m (ks : List Pk) (ms : List D) (g : En) : muOf (.m :: ks) (.own true ms :: g) = some ms := Eq.trans rfl rfl
theorem muOf_v (ks : List Pk) (sv : SV) (g : En) : muOf (.v :: ks) (sv :: g) = muOf ks g := Eq.trans rfl rfl
theorem muOf_p (ks : List Pk) (sv : SV) (g : En) : muOf (.p :: ks) (sv :: g) = muOf ks g := Eq.trans rfl rfl

theorem mixR_at (m : M D) (n : M (List D)) (g : En) : mixR m n g = match m g with
  | .ok x g' => .ok (.d x) g'
  | .ex c x g' => .ex c x g'
  | .bad => (n g).thn (c := ⟨fun xs g' => .ok (.own xs) g'⟩) := by
  unfold mixR Ro.thn
  cases m g with
  | bad => cases n g <;> rfl
  | _ => rfl
theorem dChain_at (f h : D → D → Option D) (m n o : M Rs) (g : En) : dChain f h m n o g = (m g).thn (c := ⟨fun r g1 => (n g1).thn (c := ⟨fun s g2 => (oRo (oMap (vl g2 r) (c := ⟨fun x => oMap (vl g2 s) (c := ⟨fun y => oMap (f x y) (c := ⟨boolD⟩)⟩)⟩)) g2).thn (c := ⟨fun k g3 => brn k (fun g3 => (o g3).thn (c := ⟨fun t g4 => oRo (oMap (vl g4 s) (c := ⟨fun y' => oMap (vl g4 t) (c := ⟨fun z => h y' z⟩)⟩)) g4⟩)) (rt (.bool false)) g3⟩)⟩)⟩) := by
  unfold dChain bnd Ro.thn
  cases m g with
  | ok r g1 =>
    dsimp only
    cases n g1 with
    | ok s g2 =>
      dsimp only
      cases vl g2 r with
      | none => rfl
      | some x =>
        cases vl g2 s with
        | none => rfl
        | some y =>
          dsimp only [oMap]
          cases f x y with
          | none => rfl
          | some w =>
            cases w with
            | bool k =>
              dsimp only [boolD, oRo]
              cases k with
              | false => rfl
              | true =>
                unfold brn
                rw [if_pos rfl, if_pos rfl]
                dsimp only
                cases o g2 with
                | ok t g4 =>
                  dsimp only
                  cases vl g4 s with
                  | none => rfl
                  | some y' =>
                    cases vl g4 t with
                    | none => rfl
                    | some z =>
                      dsimp only
                      cases h y' z <;> rfl
                | _ => rfl
            | _ => rfl
    | _ => rfl
  | _ => rfl
theorem dRep_at (m : M (List D)) (n : M Rs) (g : En) : dRep m n g = (m g).thn (c := ⟨fun xs g1 => (n g1).thn (c := ⟨fun s g2 => oRo (oMap (vl g2 s) (c := ⟨fun y => fRep xs y⟩)) g2⟩)⟩) := by
  unfold dRep bnd Ro.thn
  cases m g with
  | ok xs g1 =>
    dsimp only
    cases n g1 with
    | ok s g2 =>
      dsimp only
      cases vl g2 s with
      | none => rfl
      | some y =>
        dsimp only [oMap]
        cases fRep xs y <;> rfl
    | _ => rfl
  | _ => rfl
def intD : D → Option Int
  | .int i => some i
  | _ => none
theorem intD_i (i : Int) : intD (.int i) = some i := Eq.trans rfl rfl
theorem rg1_at (m : M Rs) (g : En) : rg1 m g = (m g).thn (c := ⟨fun r g1 => oRo (oMap (vl g1 r) (c := ⟨fun x => oMap (intD x) (c := ⟨fun i => some (0, i)⟩)⟩)) g1⟩) := by
  unfold rg1 bnd Ro.thn
  cases m g with
  | ok r g1 =>
    dsimp only
    cases vl g1 r with
    | none => rfl
    | some x => cases x <;> rfl
  | _ => rfl
theorem rg2_at (m n : M Rs) (g : En) : rg2 m n g = (m g).thn (c := ⟨fun r g1 => (n g1).thn (c := ⟨fun s g2 => oRo (oMap (vl g2 r) (c := ⟨fun x => oMap (vl g2 s) (c := ⟨fun y => oMap (intD x) (c := ⟨fun i => oMap (intD y) (c := ⟨fun j => some (i, j)⟩)⟩)⟩)⟩)) g2⟩)⟩) := by
  unfold rg2 bnd Ro.thn
  cases m g with
  | ok r g1 =>
    dsimp only
    cases n g1 with
    | ok s g2 =>
      dsimp only
      cases vl g2 r with
      | none => rfl
      | some x =>
        cases vl g2 s with
        | none => cases x <;> rfl
        | some y => cases x <;> cases y <;> rfl
    | _ => rfl
  | _ => rfl
theorem dLstRg_at (m : M (Int × Int)) (g : En) : dLstRg m g = (m g).thn (c := ⟨fun ij g1 => bdn (okRg ij.1 ij.2 = true) (.ok (rgD ij.1 ij.2) g1)⟩) := by
  unfold dLstRg bnd Ro.thn bdn
  cases m g with
  | ok x g1 =>
    dsimp only
    split <;> rfl
  | _ => rfl
theorem dTupRg_at (m : M (Int × Int)) (g : En) : dTupRg m g = (m g).thn (c := ⟨fun ij g1 => bdn (okRg ij.1 ij.2 = true) (.ok (.tuple (rgD ij.1 ij.2)) g1)⟩) := by
  unfold dTupRg bnd Ro.thn bdn
  cases m g with
  | ok x g1 =>
    dsimp only
    split <;> rfl
  | _ => rfl
def intsD : List D → Option (List Int)
  | [] => some []
  | .int i :: xs => (intsD xs).map (i :: ·)
  | _ => none
theorem dTupRg3_at (m : M (List Rs)) (g : En) : dTupRg3 m g = (m g).thn (c := ⟨fun rs g1 => match vls g1 rs with
  | some [.int i, .int j, .int c] => bdn (rgLim i ∧ rgLim j ∧ c = -1 ∧ (i - j).toNat ≤ 16777216) (.ok (.tuple (rngD i (-1) (i - j).toNat)) g1)
  | _ => .bad⟩) := rfl
theorem dIndexT_at (m n : M Rs) (g : En) : dIndexT m n g = (m g).thn (c := ⟨fun r g1 => match vl g1 r with
  | some (.tuple _) => op2 fIxT (rt r) n g1
  | _ => .bad⟩) := rfl

/-! what is walked -/
def seqS (i : Nat) (o : Option SV) (g : En) : Ro (List D) := match o with
  | some (.d x) => oRo (seqD x) g
  | some (.a xs) => .ok xs g
  | some (.own false xs) => .ok xs (g.set i (.d (.list xs)))
  | _ => .bad
theorem seqS_d (i : Nat) (x : D) (g : En) : seqS i (some (.d x)) g = oRo (seqD x) g := Eq.trans rfl rfl
theorem seqS_a (i : Nat) (x : List D) (g : En) : seqS i (some (.a x)) g = .ok x g := Eq.trans rfl rfl
theorem seqS_o (i : Nat) (x : List D) (g : En) : seqS i (some (.own false x)) g = .ok x (g.set i (.d (.list x))) := Eq.trans rfl rfl
theorem seqD_l (xs : List D) : seqD (.list xs) = some xs := Eq.trans rfl rfl
theorem seqD_t (xs : List D) : seqD (.tuple xs) = some xs := Eq.trans rfl rfl
theorem itR_d (x : D) (g : En) : itR (.d x) g = oRo (seqD x) g := by
  unfold itR oRo
  dsimp only
  cases seqD x <;> rfl
theorem itR_s (i : Nat) (g : En) : itR (.sl i) g = seqS i g[i]? g := by
  unfold itR seqS
  dsimp only
  cases g[i]? with
  | none => rfl
  | some sv =>
    cases sv with
    | d x =>
      dsimp only
      cases seqD x <;> rfl
    | own b xs => cases b <;> rfl
    | _ => rfl
theorem iV_at (m : M Rs) (g : En) : iV m g = (m g).thn (c := ⟨fun r g1 => itR r g1⟩) := Eq.trans rfl rfl
theorem iO_at (m : M (List D)) (g : En) : iO m g = m g := Eq.trans rfl rfl
theorem iR1_at (m : M (List Rs)) (g : En) : iR1 m g = (m g).thn (c := ⟨fun rs g1 => match vls g1 rs with
  | some [.int j] => bdn (rgLim j) (.ok (rngD 0 1 j.toNat) g1)
  | _ => .bad⟩) := rfl
theorem iR2_at (m : M (List Rs)) (g : En) : iR2 m g = (m g).thn (c := ⟨fun rs g1 => match vls g1 rs with
  | some [.int i, .int j] => bdn (rgLim i ∧ rgLim j) (.ok (rngD i 1 (j - i).toNat) g1)
  | _ => .bad⟩) := rfl
theorem iR3_at (m : M (List Rs)) (g : En) : iR3 m g = (m g).thn (c := ⟨fun rs g1 => match vls g1 rs with
  | some [.int i, .int j, .int c] => bdn (rgLim i ∧ rgLim j ∧ c = -1) (.ok (rngD i (-1) (i - j).toNat) g1)
  | _ => .bad⟩) := rfl
theorem iEnV_at (m : M Rs) (g : En) : iEnV m g = (m g).thn (c := ⟨fun r g1 => (itR r g1).thn (c := ⟨fun xs g2 => .ok (enumD 0 xs) g2⟩)⟩) := Eq.trans rfl rfl
theorem iEnO_at (m : M (List D)) (g : En) : iEnO m g = (m g).thn (c := ⟨fun xs g2 => .ok (enumD 0 xs) g2⟩) := Eq.trans rfl rfl
theorem sFor_at (t : Tg) (ms : List Nat) (mi : M (List D)) (b : M Fl) (g : En) : sFor t ms mi b g = (mi g).thn (c := ⟨fun xs g1 => forG t ms b xs g1⟩) := Eq.trans rfl rfl
theorem compL_at (vs : List Nat) (t : Tg) (mi : M (List D)) (mt : M Bool) (me : M D) (g : En) : compL vs t mi mt me g = (mi g).thn (c := ⟨fun xs g1 => compB vs t mt me xs g1⟩) := Eq.trans rfl rfl

/-! ### loops -/
theorem forG_inv {t : Tg} {ms : List Nat} {b : M Fl} : ∀ (xs : List D) (P : List D → En → Prop) (g : En), P xs g → (∀ x r g, P (x :: r) g → (x :: r) <:+ xs → ∃ g1 g2, setT t x g = some g1 ∧ (b g1 = .ok .nx g2 ∨ b g1 = .ok .ct g2) ∧ P r (fgt ms g2)) → ∃ g', forG t ms b xs g = .ok .nx (fgt ms g') ∧ P [] g' := by
  intro xs P
  have key : ∀ (r : List D) (g : En), P r g → r <:+ xs → (∀ x r g, P (x :: r) g → (x :: r) <:+ xs → ∃ g1 g2, setT t x g = some g1 ∧ (b g1 = .ok .nx g2 ∨ b g1 = .ok .ct g2) ∧ P r (fgt ms g2)) → ∃ g', forG t ms b r g = .ok .nx (fgt ms g') ∧ P [] g' := by
    intro r
    induction r with
    | nil => exact fun g h _ _ => ⟨g, rfl, h⟩
    | cons x r ih =>
      intro g h hs step
      obtain ⟨g1, g2, h1, h2, h3⟩ := step x r g h hs
      obtain ⟨g', h4, h5⟩ := ih (fgt ms g2) h3 (List.IsSuffix.trans (List.suffix_cons x r) hs) step
      refine ⟨g', ?_, h5⟩
      rw [forG, h1]
      dsimp only
      rcases h2 with h2 | h2
      · rw [h2]
        exact h4
      · rw [h2]
        exact h4
  exact fun g h step => key xs g h (List.suffix_refl _) step
theorem compG_ok {β : Type} {vs : List Nat} {t : Tg} {mt : M Bool} {me : M D} {enc f : β → D} {p : β → Bool} {g : En} : ∀ (l : List β) (ys : List D),
    (∀ x ∈ l, ∃ g1, setT t (enc x) g = some g1 ∧ mt g1 = .ok (p x) g1 ∧ (p x = true → me g1 = .ok (f x) g1) ∧ wipG g1 vs = g) → compG vs t mt me (l.map enc) ys g = .ok (ys ++ (l.filter p).map f) g
  | [], ys, _ => by
    show Ro.ok ys g = Ro.ok (ys ++ []) g
    rw [List.append_nil]
  | x :: l, ys, h => by
    obtain ⟨g1, h1, h2, h3, h4⟩ := h x List.mem_cons_self
    have ih := compG_ok (vs := vs) (t := t) (mt := mt) (me := me) (enc := enc) (f := f) (p := p) (g := g) l
    rw [List.map_cons, compG, h1]
    dsimp only
    rw [h2]
    cases hp : p x with
    | true =>
      dsimp only
      rw [h3 hp]
      dsimp only
      rw [h4, ih (ys ++ [f x]) (fun y hy => h y (List.mem_cons_of_mem _ hy)), List.filter_cons_of_pos hp, List.map_cons, List.append_assoc]
      rfl
    | false =>
      dsimp only
      rw [h4, ih ys (fun y hy => h y (List.mem_cons_of_mem _ hy)), List.filter_cons_of_neg (by rw [hp]; exact Bool.false_ne_true)]
theorem wipG_out {g : En} {i : Nat} : ∀ {vs : List Nat}, i ∉ vs → (wipG g vs)[i]? = g[i]?
  | [], _ => rfl
  | v :: vs, h => by
    have h1 : v ≠ i := fun e => h (by rw [e]; exact List.mem_cons_self)
    unfold wipG
    rw [List.getElem?_set_ne h1]
    exact wipG_out fun m => h (List.mem_cons_of_mem _ m)
theorem rst_wip {g : En} : ∀ {vs : List Nat}, rstG g (wipG g vs) vs = g := fun {vs} => List.ext_getElem? fun i => by
  by_cases h : i ∈ vs
  · exact rstG_in wipG_len h
  · rw [rstG_out h, wipG_out h]
theorem compB_ok {β : Type} {vs : List Nat} {t : Tg} {mt : M Bool} {me : M D} {enc f : β → D} {p : β → Bool} {g : En} (l : List β) (hz : l.length ≤ sizeLine) (hn : noOwn g vs = true)
    (h : ∀ x ∈ l, ∃ g1, setT t (enc x) (wipG g vs) = some g1 ∧ mt g1 = .ok (p x) g1 ∧ (p x = true → me g1 = .ok (f x) g1) ∧ wipG g1 vs = wipG g vs) : compB vs t mt me (l.map enc) g = .ok ((l.filter p).map f) g := by
  unfold compB
  rw [if_pos ⟨by rw [List.length_map]; exact hz, hn⟩, compG_ok (p := p) (f := f) l [] h]
  show Ro.ok _ (rstG g (wipG g vs) vs) = _
  rw [rst_wip, List.nil_append]
end Z
set_option Elab.async false
set_option linter.all false
set_option maxRecDepth 100000
set_option autoImplicit false
set_option maxHeartbeats 1000000
namespace Z
open PySem PySem.Spec PyProof.Rows L2

/-! ### primitives by ints -/
theorem fAdd_i (i j : Int) : fAdd (.int i) (.int j) = some (.int (i + j)) := Eq.trans rfl rfl
theorem fSub_i (i j : Int) : fSub (.int i) (.int j) = some (.int (i - j)) := Eq.trans rfl rfl
theorem fLt_i (i j : Int) : fLt (.int i) (.int j) = some (.bool (decide (i < j))) := Eq.trans rfl rfl
theorem fLe_i (i j : Int) : fLe (.int i) (.int j) = some (.bool (decide (i ≤ j))) := Eq.trans rfl rfl
theorem fGt_i (i j : Int) : fGt (.int i) (.int j) = some (.bool (decide (j < i))) := Eq.trans rfl rfl
theorem fGe_i (i j : Int) : fGe (.int i) (.int j) = some (.bool (decide (j ≤ i))) := Eq.trans rfl rfl
theorem fMod_i (i j : Int) (h : 0 < j) : fMod (.int i) (.int j) = some (.int (i % j)) := if_pos h
theorem fDiv_i (i j : Int) (h : 0 < j) (h2 : j < 1073741824) : fDiv (.int i) (.int j) = some (.int (i / j)) := by
  unfold fDiv
  dsimp only
  rw [if_pos (by unfold okDiv; rw [decide_eq_true h, decide_eq_true h2]; rfl)]
theorem fDiv_33 (i : Int) : fDiv (.int i) (.int 8589934592) = some (.int (i / 8589934592)) := Eq.trans rfl rfl
theorem fMul_r (i j : Int) (h : j.natAbs < 18446744073709551616) : fMul (.int i) (.int j) = some (.int (i * j)) := by
  unfold fMul
  dsimp only
  rw [if_pos (by unfold okMul; rw [decide_eq_true h, Bool.or_true, Bool.true_or])]
theorem fMul_l (i j : Int) (h : i.natAbs < 18446744073709551616) : fMul (.int i) (.int j) = some (.int (i * j)) := by
  unfold fMul
  dsimp only
  rw [if_pos (by unfold okMul; rw [decide_eq_true h, Bool.true_or, Bool.true_or])]
theorem fMul_take (i : Int) : fMul (.int i) (.int 6364136223846793005) = some (.int (i * 6364136223846793005)) := fMul_r i _ (by decide)
theorem fMul_7919 (i : Int) : fMul (.int 7919) (.int i) = some (.int (7919 * i)) := fMul_l _ i (by decide)
theorem fMul_31 (i : Int) : fMul (.int 31) (.int i) = some (.int (31 * i)) := fMul_l _ i (by decide)
theorem fPow_64 : fPow (.int 2) (.int 64) = some (.int 18446744073709551616) := Eq.trans rfl rfl
theorem fPow_33 : fPow (.int 2) (.int 33) = some (.int 8589934592) := Eq.trans rfl rfl
theorem fPow_18 : fPow (.int 10) (.int 18) = some (.int 1000000000000000000) := Eq.trans rfl rfl
theorem fNeg_i (i : Int) : fNeg (.int i) = some (.int (-i)) := Eq.trans rfl rfl
theorem fLen_l (xs : List D) : fLen [.list xs] = some (.int xs.length) := Eq.trans rfl rfl
theorem fLen_t (xs : List D) : fLen [.tuple xs] = some (.int xs.length) := Eq.trans rfl rfl
theorem fInt_i (i : Int) : fInt [.int i] = some (.int i) := Eq.trans rfl rfl
theorem fTuple_l (xs : List D) : fTuple [.list xs] = some (.tuple xs) := Eq.trans rfl rfl
theorem fList_l (xs : List D) : fList [.list xs] = some xs := Eq.trans rfl rfl
theorem fMax_2 (i j : Int) : fMax [.int i, .int j] = some (.int (if j > i then j else i)) := Eq.trans rfl rfl
theorem fMin_2 (i j : Int) : fMin [.int i, .int j] = some (.int (if j < i then j else i)) := Eq.trans rfl rfl
theorem ixN_nat {n i : Nat} (h : i < n) : ixN n (i : Int) = some i := by
  unfold ixN
  rw [if_pos (Int.natCast_nonneg i), if_pos (Int.ofNat_lt.mpr h), Int.toNat_natCast]
theorem ixN_int {n : Nat} {i : Int} (h0 : 0 ≤ i) (h : i < n) : ixN n i = some i.toNat := by
  unfold ixN
  rw [if_pos h0, if_pos h]
theorem atI_of {xs : List D} {i : Nat} {x : D} (h : xs[i]? = some x) : atI xs (i : Int) = some x := by
  unfold atI
  rw [ixN_nat (List.getElem?_eq_some_iff.mp h).1]
  exact h
theorem fIx_l {xs : List D} {i : Nat} {x : D} (h : xs[i]? = some x) : fIx (.list xs) (.int (i : Int)) = some x := atI_of h
theorem fIx_t {xs : List D} {i : Nat} {x : D} (h : xs[i]? = some x) : fIx (.tuple xs) (.int (i : Int)) = some x := atI_of h
theorem fIx_l0 (x : D) (xs : List D) : fIx (.list (x :: xs)) (.int 0) = some x := fIx_l (i := 0) rfl
theorem fIx_l1 (x y : D) (xs : List D) : fIx (.list (x :: y :: xs)) (.int 1) = some y := fIx_l (i := 1) rfl
theorem fIx_l2 (x y z : D) (xs : List D) : fIx (.list (x :: y :: z :: xs)) (.int 2) = some z := fIx_l (i := 2) rfl
theorem fIx_last {xs : List D} {x : D} : fIx (.tuple (xs ++ [x])) (.int (-1)) = some x := by
  show atI (xs ++ [x]) (-1) = some x
  unfold atI ixN
  have h1 : ¬ (0 : Int) ≤ -1 := by decide
  have h2 : -((xs ++ [x]).length : Int) ≤ -1 := by
    rw [List.length_append, List.length_singleton]
    omega
  rw [if_neg h1, if_pos h2]
  have h3 : (-1 + ((xs ++ [x]).length : Int)).toNat = xs.length := by
    rw [List.length_append, List.length_singleton]
    omega
  show (xs ++ [x])[(-1 + ((xs ++ [x]).length : Int)).toNat]? = some x
  rw [h3, List.getElem?_append_right (Nat.le_refl _), Nat.sub_self]
  rfl
theorem subS0 (i : Nat) (y : D) (b : Bool) (x : D) (xs : List D) (g : En) : subS i y (some (b, x :: xs)) (some (.int 0)) g = .ok .nx (g.set i (.own b (y :: xs))) := subS_at i y b (x :: xs) 0 g 0 (ixN_nat (i := 0) (Nat.succ_pos _))
theorem subS1 (i : Nat) (y : D) (b : Bool) (x z : D) (xs : List D) (g : En) : subS i y (some (b, x :: z :: xs)) (some (.int 1)) g = .ok .nx (g.set i (.own b (x :: y :: xs))) := subS_at i y b (x :: z :: xs) 1 g 1 (ixN_nat (i := 1) (by simp))

/-! ### numbers put into data -/
abbrev ti (p : List Int) : D := .tuple (p.map .int)
abbrev li (p : List Int) : D := .list (p.map .int)
/-- data without dicts, of few levels -/
def Gd (n : Nat) (d : D) : Prop := d.canLay0 = true ∧ d.depth ≤ n
theorem gd_int (n : Nat) (i : Int) : Gd n (.int i) := ⟨rfl, Nat.zero_le _⟩
theorem gd_bool (n : Nat) (i : Bool) : Gd n (.bool i) := ⟨rfl, Nat.zero_le _⟩
theorem gd_none (n : Nat) : Gd n .none := ⟨rfl, Nat.zero_le _⟩
theorem gd_all : ∀ {n : Nat} {xs : List D}, (∀ x ∈ xs, Gd n x) → PyData.canLayAll0 xs = true ∧ PyData.depthAll xs ≤ n
  | _, [], _ => ⟨rfl, Nat.zero_le _⟩
  | n, x :: xs, h => by
    obtain ⟨a, b⟩ := h x List.mem_cons_self
    obtain ⟨c, d⟩ := gd_all (xs := xs) fun y hy => h y (List.mem_cons_of_mem _ hy)
    exact ⟨by show (x.canLay0 && PyData.canLayAll0 xs) = true; rw [a, c]; rfl, Nat.max_le.mpr ⟨b, d⟩⟩
theorem gd_list {n : Nat} {xs : List D} (h : ∀ x ∈ xs, Gd n x) : Gd (n + 1) (.list xs) := by
  obtain ⟨a, b⟩ := gd_all h
  exact ⟨a, Nat.succ_le_succ b⟩
theorem gd_tuple {n : Nat} {xs : List D} (h : ∀ x ∈ xs, Gd n x) : Gd (n + 1) (.tuple xs) := by
  obtain ⟨a, b⟩ := gd_all h
  exact ⟨a, Nat.succ_le_succ b⟩
theorem Gd.mono {m n : Nat} {d : D} (h : Gd m d) (l : m ≤ n) : Gd n d := ⟨h.1, Nat.le_trans h.2 l⟩
theorem gd_ints (n : Nat) (p : List Int) : ∀ x ∈ p.map PyData.int, Gd n x := fun x hx => by
  obtain ⟨i, _, rfl⟩ := List.mem_map.mp hx
  exact gd_int n i
theorem gd_ti (n : Nat) (p : List Int) : Gd (n + 1) (ti p) := gd_tuple (gd_ints n p)
theorem gd_li (n : Nat) (p : List Int) : Gd (n + 1) (li p) := gd_list (gd_ints n p)
theorem Gd.shaped {n : Nat} {d : D} (h : Gd n d) (hn : n ≤ 64) : SeqAt.shaped d = true := by
  unfold SeqAt.shaped
  rw [h.1, decide_eq_true (Nat.le_trans h.2 hn)]
  rfl
theorem Gd.eqv {n : Nat} {d : D} (h : Gd n d) : PyData.eqv d d = true := PySem.SeqAt.eqv_refl d h.1
theorem eqvAll_ints : ∀ p q : List Int, PyData.eqvAll (p.map .int) (q.map .int) = decide (p = q)
  | [], [] => rfl
  | [], _ :: _ => rfl
  | _ :: _, [] => rfl
  | x :: p, y :: q => by
    show ((x == y) && PyData.eqvAll (p.map .int) (q.map .int)) = decide (x :: p = y :: q)
    rw [eqvAll_ints p q]
    by_cases h : x = y
    · subst h
      by_cases h2 : p = q
      · subst h2
        simp
      · simp [h2]
    · simp [h]
theorem fEq_gd {n m : Nat} {x y : D} (h : Gd n x) (k : Gd m y) (hn : n ≤ 64) (hm : m ≤ 64) : fEq x y = some (.bool (PyData.eqv x y)) := by
  unfold fEq
  rw [h.shaped hn, k.shaped hm]
  rfl
theorem fNe_gd {n m : Nat} {x y : D} (h : Gd n x) (k : Gd m y) (hn : n ≤ 64) (hm : m ≤ 64) : fNe x y = some (.bool (!PyData.eqv x y)) := by
  unfold fNe
  rw [h.shaped hn, k.shaped hm]
  rfl
theorem fEq_i (i j : Int) : fEq (.int i) (.int j) = some (.bool (decide (i = j))) := by
  rw [fEq_gd (gd_int 0 i) (gd_int 0 j) (by decide) (by decide)]
  show some (PyData.bool (i == j)) = _
  by_cases h : i = j <;> simp [h]
theorem fEq_li (p q : List Int) : fEq (li p) (li q) = some (.bool (decide (p = q))) := by
  rw [fEq_gd (gd_li 0 p) (gd_li 0 q) (by decide) (by decide)]
  show some (PyData.bool (PyData.eqvAll _ _)) = _
  rw [eqvAll_ints]
theorem fNe_ti (p q : List Int) : fNe (ti p) (ti q) = some (.bool (!decide (p = q))) := by
  rw [fNe_gd (gd_ti 0 p) (gd_ti 0 q) (by decide) (by decide)]
  show some (PyData.bool (!PyData.eqvAll _ _)) = _
  rw [eqvAll_ints]

/-! ### sorted -/
theorem dataLe_tot : PySem.W.TotalLe (PySem.W.dataLe (β := D) false id) := PySem.W.sortLe_total _ _ _
theorem sortD_eq {xs ys : List D} (hp : xs.Perm ys) (hs : ys.Pairwise fun a b => PySem.W.dataLe false id a b = true) (anti : ∀ a ∈ ys, ∀ b ∈ ys, PySem.W.dataLe false id a b = true → PySem.W.dataLe false id b a = true → a = b) : sortD xs = ys := by
  unfold sortD
  have p1 := (List.mergeSort_perm xs (PySem.W.dataLe false id)).trans hp
  refine List.Perm.eq_of_pairwise (le := fun a b => PySem.W.dataLe (β := D) false id a b = true) (fun a b ha hb => anti a (p1.mem_iff.mp ha) b hb) (List.pairwise_mergeSort (fun a b c => dataLe_tot.trans a b c) (fun a b => ?_) xs) hs p1
  have := dataLe_tot.total a b
  simpa using this
theorem le_int (i j : Int) : PySem.W.dataLe false id (PyData.int i) (.int j) = decide (i ≤ j) := by
  have := congrFun (congrFun (PySem.W.dataLe_int (β := Int) (fun i => i)) i) j
  exact this
theorem sortD_ints {p q : List Int} (hp : p.Perm q) (hs : q.Pairwise (· ≤ ·)) : sortD (p.map .int) = q.map .int := by
  refine sortD_eq (hp.map _) ?_ ?_
  · rw [List.pairwise_map]
    exact hs.imp fun {a b} h => by rw [le_int]; exact decide_eq_true h
  · intro a ha b hb h1 h2
    obtain ⟨i, _, rfl⟩ := List.mem_map.mp ha
    obtain ⟨j, _, rfl⟩ := List.mem_map.mp hb
    rw [le_int] at h1 h2
    rw [Int.le_antisymm (of_decide_eq_true h1) (of_decide_eq_true h2)]
end Z
set_option Elab.async false
set_option linter.all false
set_option maxRecDepth 100000
set_option autoImplicit false
set_option maxHeartbeats 1000000
namespace Z
open PySem PySem.Spec PyProof.Rows L2

/-! ### ranges as data -/
def irange (a : Int) (n : Nat) : List Int := (List.range n).map fun (i : Nat) => a + (i : Int)
theorem irange_len (a : Int) (n : Nat) : (irange a n).length = n := by simp [irange]
theorem irange_zero (a : Int) : irange a 0 = [] := Eq.trans rfl rfl
theorem irange_succ (a : Int) (n : Nat) : irange a (n + 1) = a :: irange (a + 1) n := by
  unfold irange
  rw [List.range_succ_eq_map, List.map_cons, List.map_map]
  congr 1
  · simp
  · apply List.map_congr_left
    intro i _
    simp only [Function.comp, Nat.succ_eq_add_one]
    omega
theorem irange_get (a : Int) (n i : Nat) (h : i < n) : (irange a n)[i]? = some (a + i) := by simp [irange, h]
theorem irange_mem {a : Int} {n : Nat} {x : Int} : x ∈ irange a n ↔ a ≤ x ∧ x < a + n := by
  unfold irange
  rw [List.mem_map]
  constructor
  · rintro ⟨i, hi, rfl⟩
    have := List.mem_range.mp hi
    omega
  · rintro ⟨h1, h2⟩
    exact ⟨(x - a).toNat, List.mem_range.mpr (by omega), by omega⟩
theorem irange_sorted (a : Int) (n : Nat) : (irange a n).Pairwise (· < ·) := by
  unfold irange
  rw [List.pairwise_map]
  exact List.pairwise_lt_range.imp fun {i j} h => by omega
theorem irange_nodup (a : Int) (n : Nat) : (irange a n).Nodup := (irange_sorted a n).imp fun {i j} h => by omega
theorem rngD_irange (a : Int) (n : Nat) : rngD a 1 n = (irange a n).map .int := by
  unfold rngD irange
  rw [List.map_map]
  apply List.map_congr_left
  intro i _
  simp
theorem rgD_irange (a b : Int) : rgD a b = (irange a (b - a).toNat).map .int := by
  unfold rgD irange
  rw [List.map_map]
  rfl

/-! ### orders -/
structure IsOrd (p : List Int) : Prop where
  nd : p.Nodup
  lo : ∀ x ∈ p, 1 ≤ x
  hi : ∀ x ∈ p, x ≤ p.length
theorem perm_of_sub {p q : List Int} (hp : p.Nodup) (hq : q.Nodup) (h : ∀ x ∈ p, x ∈ q) (hl : q.length ≤ p.length) : p.Perm q := by
  rw [List.perm_ext_iff_of_nodup hp hq]
  intro a
  refine ⟨h a, fun ha => ?_⟩
  by_cases hn : a ∈ p
  · exact hn
  · have h1 : (a :: p).Nodup := List.nodup_cons.mpr ⟨hn, hp⟩
    have h2 : (a :: p) ⊆ q := fun x hx => by
      rcases List.mem_cons.mp hx with e | e
      · rw [e]; exact ha
      · exact h x e
    have := List.Nodup.length_le_of_subset h1 h2
    rw [List.length_cons] at this
    omega
theorem IsOrd.perm {p : List Int} (h : IsOrd p) : p.Perm (irange 1 p.length) :=
  perm_of_sub h.nd (irange_nodup _ _) (fun x hx => irange_mem.mpr ⟨h.lo x hx, by have := h.hi x hx; omega⟩) (by rw [irange_len]; exact Nat.le_refl _)
theorem IsOrd.of_perm {p : List Int} (h : p.Perm (irange 1 p.length)) : IsOrd p :=
  ⟨h.nodup_iff.mpr (irange_nodup _ _), fun x hx => (irange_mem.mp (h.mem_iff.mp hx)).1, fun x hx => by have := (irange_mem.mp (h.mem_iff.mp hx)).2; omega⟩
theorem IsOrd.mem {p : List Int} (h : IsOrd p) {x : Int} (h1 : 1 ≤ x) (h2 : x ≤ p.length) : x ∈ p := h.perm.mem_iff.mpr (irange_mem.mpr ⟨h1, by omega⟩)
theorem isOrd_nil : IsOrd [] := ⟨List.nodup_nil, fun _ h => (nomatch h), fun _ h => (nomatch h)⟩
theorem isOrd_insert {p : List Int} (h : IsOrd p) (r : Nat) : IsOrd (p.take r ++ [((p.length + 1 : Nat) : Int)] ++ p.drop r) := by
  have hp : (p.take r ++ [((p.length + 1 : Nat) : Int)] ++ p.drop r).Perm (((p.length + 1 : Nat) : Int) :: p) := by
    rw [List.append_assoc, List.singleton_append]
    refine List.perm_middle.trans ?_
    rw [List.take_append_drop]
  have hl : (p.take r ++ [((p.length + 1 : Nat) : Int)] ++ p.drop r).length = p.length + 1 := by rw [hp.length_eq, List.length_cons]
  refine ⟨hp.nodup_iff.mpr (List.nodup_cons.mpr ⟨fun hm => ?_, h.nd⟩), fun x hx => ?_, fun x hx => ?_⟩
  · have := h.hi _ hm
    omega
  · rcases List.mem_cons.mp (hp.mem_iff.mp hx) with e | e
    · omega
    · exact h.lo x e
  · rw [hl]
    rcases List.mem_cons.mp (hp.mem_iff.mp hx) with e | e
    · omega
    · have := h.hi x e
      omega
theorem mInsert_ok (xs : List D) (i : Int) (y : D) (h1 : xs.length < sizeLine) (h0 : 0 ≤ i) (h2 : i < 2 ^ 63) : mInsert xs [.int i, y] = some (xs.take i.toNat ++ [y] ++ xs.drop i.toNat, .none) := if_pos ⟨h1, h0, h2⟩
theorem mAppend_ok (xs : List D) (y : D) (h1 : xs.length < sizeLine) : mAppend xs [y] = some (xs ++ [y], .none) := if_pos h1
theorem setT_nm (i : Nat) (x : D) (g : En) : setT (.nm i) x g = some (g.set i (.d x)) := by
  unfold setT
  rfl
theorem setT_tup (ts : List Tg) (xs : List D) (g : En) : setT (.tup ts) (.tuple xs) g = setTs ts xs g := by rw [setT]
theorem setTs_nil (g : En) : setTs [] [] g = some g := by rw [setTs]
theorem setTs_cons (t : Tg) (ts : List Tg) (x : D) (xs : List D) (g g' : En) (h : setT t x g = some g') : setTs (t :: ts) (x :: xs) g = setTs ts xs g' := by rw [setTs, h]
theorem fgt_nil (g : En) : fgt [] g = g := Eq.trans rfl rfl
theorem fgt_cons (i : Nat) (is : List Nat) (g : En) : fgt (i :: is) g = fgt is (g.set i .u) := Eq.trans rfl rfl
theorem wipG_nil (g : En) : wipG g [] = g := Eq.trans rfl rfl
theorem wipG_cons (g : En) (v : Nat) (vs : List Nat) : wipG g (v :: vs) = (wipG g vs).set v .u := Eq.trans rfl rfl
theorem sizeLine_big : sizeLine = 16777216 := by decide
/-! ### ranges that run -/
def rgO1 (o : Option (List D)) (g : En) : Ro (List D) := match o with
  | some [.int j] => if rgLim j then .ok (rngD 0 1 j.toNat) g else .bad
  | _ => .bad
def rgO2 (o : Option (List D)) (g : En) : Ro (List D) := match o with
  | some [.int i, .int j] => if rgLim i ∧ rgLim j then .ok (rngD i 1 (j - i).toNat) g else .bad
  | _ => .bad
def rgO3 (o : Option (List D)) (g : En) : Ro (List D) := match o with
  | some [.int i, .int j, .int c] => if rgLim i ∧ rgLim j ∧ c = -1 then .ok (rngD i (-1) (i - j).toNat) g else .bad
  | _ => .bad
def rgT3 (o : Option (List D)) (g : En) : Ro D := match o with
  | some [.int i, .int j, .int c] => if rgLim i ∧ rgLim j ∧ c = -1 ∧ (i - j).toNat ≤ 16777216 then .ok (.tuple (rngD i (-1) (i - j).toNat)) g else .bad
  | _ => .bad
theorem iR1_go (m : M (List Rs)) (g : En) : iR1 m g = (m g).thn (c := ⟨fun rs g1 => rgO1 (vls g1 rs) g1⟩) := Eq.trans rfl rfl
theorem iR2_go (m : M (List Rs)) (g : En) : iR2 m g = (m g).thn (c := ⟨fun rs g1 => rgO2 (vls g1 rs) g1⟩) := Eq.trans rfl rfl
theorem iR3_go (m : M (List Rs)) (g : En) : iR3 m g = (m g).thn (c := ⟨fun rs g1 => rgO3 (vls g1 rs) g1⟩) := Eq.trans rfl rfl
theorem dTupRg3_go (m : M (List Rs)) (g : En) : dTupRg3 m g = (m g).thn (c := ⟨fun rs g1 => rgT3 (vls g1 rs) g1⟩) := Eq.trans rfl rfl
/-- a bound of a range -/
def Sm (i : Int) : Prop := -1000000 ≤ i ∧ i ≤ 1000000
theorem Sm.rg {i : Int} (h : Sm i) : rgLim i := by
  unfold rgLim
  obtain ⟨h1, h2⟩ := h
  omega
/-- lo, lo - 1, .. -/
def drange (a : Int) (n : Nat) : List Int := (List.range n).map fun (i : Nat) => a - (i : Int)
theorem rngD_drange (a : Int) (n : Nat) : rngD a (-1) n = (drange a n).map .int := by
  unfold rngD drange
  rw [List.map_map]
  apply List.map_congr_left
  intro i _
  simp only [Function.comp]
  congr 1
  omega
theorem drange_len (a : Int) (n : Nat) : (drange a n).length = n := by simp [drange]
theorem drange_get (a : Int) (n i : Nat) (h : i < n) : (drange a n)[i]? = some (a - i) := by simp [drange, h]
theorem rgO1_ok (j : Int) (g : En) (h : Sm j) : rgO1 (some [.int j]) g = .ok ((irange 0 j.toNat).map .int) g := by
  rw [← rngD_irange]
  exact if_pos h.rg
theorem rgO2_ok (i j : Int) (g : En) (h : Sm i) (k : Sm j) : rgO2 (some [.int i, .int j]) g = .ok ((irange i (j - i).toNat).map .int) g := by
  rw [← rngD_irange]
  exact if_pos ⟨h.rg, k.rg⟩
theorem rgO3_ok (i j : Int) (g : En) (h : Sm i) (k : Sm j) : rgO3 (some [.int i, .int j, .int (-1)]) g = .ok ((drange i (i - j).toNat).map .int) g := by
  rw [← rngD_drange]
  exact if_pos ⟨h.rg, k.rg, rfl⟩
theorem rgT3_ok (i j : Int) (g : En) (h : Sm i) (k : Sm j) : rgT3 (some [.int i, .int j, .int (-1)]) g = .ok (.tuple ((drange i (i - j).toNat).map .int)) g := by
  rw [← rngD_drange]
  exact if_pos ⟨h.rg, k.rg, rfl, by obtain ⟨h1, h2⟩ := h; obtain ⟨k1, k2⟩ := k; omega⟩
theorem okRg_sm {i j : Int} (h : Sm i) (k : Sm j) : okRg i j = true := by
  obtain ⟨h1, h2⟩ := h
  obtain ⟨k1, k2⟩ := k
  unfold okRg
  simp only [Bool.and_eq_true, decide_eq_true_eq]
  omega
def rgL (ij : Int × Int) (g : En) : Ro (List D) := if okRg ij.1 ij.2 then .ok (rgD ij.1 ij.2) g else .bad
theorem dLstRg_go (m : M (Int × Int)) (g : En) : dLstRg m g = (m g).thn (c := ⟨fun ij g1 => rgL ij g1⟩) := by
  unfold dLstRg bnd Ro.thn rgL
  cases m g with
  | ok x g1 =>
    dsimp only
    split <;> rfl
  | _ => rfl
theorem rgL_ok (i j : Int) (g : En) (h : Sm i) (k : Sm j) : rgL (i, j) g = .ok ((irange i (j - i).toNat).map .int) g := by
  rw [← rgD_irange]
  exact if_pos (okRg_sm h k)
def rgT (ij : Int × Int) (g : En) : Ro D := if okRg ij.1 ij.2 then .ok (.tuple (rgD ij.1 ij.2)) g else .bad
theorem dTupRg_go (m : M (Int × Int)) (g : En) : dTupRg m g = (m g).thn (c := ⟨fun ij g1 => rgT ij g1⟩) := by
  unfold dTupRg bnd Ro.thn rgT
  cases m g with
  | ok x g1 =>
    dsimp only
    split <;> rfl
  | _ => rfl
theorem rgT_ok (i j : Int) (g : En) (h : Sm i) (k : Sm j) : rgT (i, j) g = .ok (.tuple ((irange i (j - i).toNat).map .int)) g := by
  rw [← rgD_irange]
  exact if_pos (okRg_sm h k)
theorem sm0 : Sm 0 := ⟨by decide, by decide⟩
theorem sm1 : Sm 1 := ⟨by decide, by decide⟩
theorem sm_of {i : Int} (h : 0 ≤ i) (k : i ≤ 1000) : Sm i := ⟨by omega, by omega⟩
theorem sz1 : 1 ≤ sizeLine := by decide
theorem sz2 : 2 ≤ sizeLine := by decide
theorem sz3 : 3 ≤ sizeLine := by decide
theorem sz4 : 4 ≤ sizeLine := by decide
theorem sz5 : 5 ≤ sizeLine := by decide
theorem sz_le {n : Nat} (h : n ≤ 100000) : n ≤ sizeLine := Nat.le_trans h (by decide)
theorem sz_lt {n : Nat} (h : n < 100000) : n < sizeLine := Nat.lt_of_lt_of_le h (by decide)
end Z
set_option Elab.async false
set_option linter.all false
set_option maxRecDepth 100000
set_option autoImplicit false
set_option maxHeartbeats 1000000
namespace Z
open PySem PySem.Spec PyProof.Rows L2
theorem compB_map {β : Type} {vs : List Nat} {t : Tg} {me : M D} {enc f : β → D} {g : En} (l : List β) (hz : l.length ≤ sizeLine) (hn : noOwn g vs = true)
    (h : ∀ x ∈ l, ∃ g1, setT t (enc x) (wipG g vs) = some g1 ∧ me g1 = .ok (f x) g1 ∧ wipG g1 vs = wipG g vs) : compB vs t (rt true) me (l.map enc) g = .ok (l.map f) g := by
  have := compB_ok (vs := vs) (t := t) (mt := rt true) (me := me) (enc := enc) (f := f) (p := fun _ => true) l hz hn fun x hx => by
    obtain ⟨g1, h1, h2, h3⟩ := h x hx
    exact ⟨g1, h1, rfl, fun _ => h2, h3⟩
  rw [this, List.filter_eq_self.mpr (fun _ _ => rfl)]
theorem compB_one {β : Type} {i : Nat} {me : M D} {enc f : β → D} {g : En} (l : List β) (hz : l.length ≤ 100000) (hn : noOwn g [i] = true)
    (h : ∀ x ∈ l, me (g.set i (.d (enc x))) = .ok (f x) (g.set i (.d (enc x)))) : compB [i] (.nm i) (rt true) me (l.map enc) g = .ok (l.map f) g :=
  compB_map l (sz_le hz) hn fun x hx => ⟨g.set i (.d (enc x)), by rw [setT_nm]; show some ((g.set i .u).set i _) = _; rw [List.set_set], h x hx, by show (g.set i _).set i .u = g.set i .u; rw [List.set_set]⟩
theorem compB_fil {β : Type} {i : Nat} {mt : M Bool} {me : M D} {enc f : β → D} {p : β → Bool} {g : En} (l : List β) (hz : l.length ≤ 100000) (hn : noOwn g [i] = true)
    (h : ∀ x ∈ l, mt (g.set i (.d (enc x))) = .ok (p x) (g.set i (.d (enc x))) ∧ (p x = true → me (g.set i (.d (enc x))) = .ok (f x) (g.set i (.d (enc x))))) : compB [i] (.nm i) mt me (l.map enc) g = .ok ((l.filter p).map f) g :=
  compB_ok l (sz_le hz) hn fun x hx => ⟨g.set i (.d (enc x)), by rw [setT_nm]; show some ((g.set i .u).set i _) = _; rw [List.set_set], (h x hx).1, (h x hx).2, by show (g.set i _).set i .u = g.set i .u; rw [List.set_set]⟩
theorem fIs_ii (i : Int) : fIs [.int] (.int i) = some (.bool true) := Eq.trans rfl rfl
theorem fIs_ib (i : Int) : fIs [.bool] (.int i) = some (.bool false) := Eq.trans rfl rfl
theorem fIs_is (i : Int) : fIs [.str] (.int i) = some (.bool false) := Eq.trans rfl rfl
theorem fIs_itl (i : Int) : fIs [.tuple, .list] (.int i) = some (.bool false) := Eq.trans rfl rfl
theorem fIs_tt (xs : List D) : fIs [.tuple] (.tuple xs) = some (.bool true) := Eq.trans rfl rfl
theorem fIs_tl (xs : List D) : fIs [.list] (.tuple xs) = some (.bool false) := Eq.trans rfl rfl
theorem fIs_ttl (xs : List D) : fIs [.tuple, .list] (.tuple xs) = some (.bool true) := Eq.trans rfl rfl
theorem fIs_lt (xs : List D) : fIs [.tuple] (.list xs) = some (.bool false) := Eq.trans rfl rfl
theorem fIs_ll (xs : List D) : fIs [.list] (.list xs) = some (.bool true) := Eq.trans rfl rfl
theorem fIs_ltl (xs : List D) : fIs [.tuple, .list] (.list xs) = some (.bool true) := Eq.trans rfl rfl
theorem fAll_b (bs : List Bool) : fAll [.list (bs.map .bool)] = some (.bool (bs.all id)) := by
  unfold fAll
  dsimp only
  rw [toBools_map]
  rfl
theorem fSum_i (ns : List Int) : fSum [.list (ns.map .int)] = some (.int ns.sum) := by
  unfold fSum
  dsimp only
  rw [toInts_map]
  rfl
theorem okSort_ints (p : List Int) (h : p.length ≤ 100000) : okSort (p.map .int) = true := by
  unfold okSort
  simp only [Bool.and_eq_true, List.all_eq_true, decide_eq_true_eq, Bool.or_eq_true, List.length_map]
  refine ⟨⟨⟨fun x hx y hy => ?_, .inr fun x hx => ?_⟩, sz_le h⟩, fun x hx => ?_⟩
  · obtain ⟨i, _, rfl⟩ := List.mem_map.mp hx
    obtain ⟨j, _, rfl⟩ := List.mem_map.mp hy
    rfl
  · obtain ⟨i, _, rfl⟩ := List.mem_map.mp hx
    rfl
  · obtain ⟨i, _, rfl⟩ := List.mem_map.mp hx
    exact Nat.zero_le _
theorem fSorted_t (xs : List D) (h : okSort xs = true) : fSorted [.tuple xs] = some (sortD xs) := if_pos h
theorem fSorted_l (xs : List D) (h : okSort xs = true) : fSorted [.list xs] = some (sortD xs) := if_pos h
theorem fBack_t (xs : List D) : fBack (.tuple xs) = some (.tuple xs.reverse) := Eq.trans rfl rfl
theorem fBackL_l (xs : List D) : fBackL (.list xs) = some xs.reverse := Eq.trans rfl rfl
theorem all_true (n : Nat) : (List.replicate n true).all id = true := by
  rw [List.all_eq_true]
  intro x hx
  rw [List.eq_of_mem_replicate hx]
  rfl
theorem map_true {α : Type} (l : List α) : l.map (fun _ => PyData.bool true) = (List.replicate l.length true).map PyData.bool := by
  induction l with
  | nil => rfl
  | cons x l ih => rw [List.map_cons, ih]; rfl
end Z
set_option Elab.async false
set_option linter.all false
set_option maxRecDepth 100000
set_option autoImplicit false
set_option maxHeartbeats 1000000
namespace Z
open PySem PySem.Spec PyProof.Rows L2
theorem ixOf_idx : ∀ {p : List Int} {k : Int}, k ∈ p → ixOf k p = some (p.idxOf k)
  | x :: p, k, h => by
    unfold ixOf
    by_cases e : x = k
    · subst e
      rw [if_pos rfl, List.idxOf_cons_self]
    · have hb : (x == k) = false := by simp [e]
      rw [if_neg e, List.idxOf_cons, hb, ixOf_idx (by
        rcases List.mem_cons.mp h with z | z
        · exact absurd z.symm e
        · exact z)]
      rfl
theorem fIxT_ok {p : List Int} {k : Int} (h : k ∈ p) : fIxT (.tuple (p.map .int)) (.int k) = some (.int (p.idxOf k : Nat)) := by
  unfold fIxT
  dsimp only
  rw [toInts_map]
  dsimp only
  rw [ixOf_idx h]
  rfl
/-! the order, turned about, mirrored, inverse -/
def tu (p : List Int) : List Int := p.reverse
def mi (p : List Int) : List Int := p.map fun x => p.length + 1 - x
def inv (p : List Int) : List Int := (irange 1 p.length).map fun k => (p.idxOf k : Int) + 1
theorem tu_len (p : List Int) : (tu p).length = p.length := List.length_reverse
theorem mi_len (p : List Int) : (mi p).length = p.length := List.length_map ..
theorem inv_len (p : List Int) : (inv p).length = p.length := by rw [inv, List.length_map, irange_len]
theorem isOrd_tu {p : List Int} (h : IsOrd p) : IsOrd (tu p) := ⟨by unfold tu; exact List.pairwise_reverse.mpr (h.nd.imp fun {a b} e => Ne.symm e), fun x hx => h.lo x (List.mem_reverse.mp hx), fun x hx => by rw [tu_len]; exact h.hi x (List.mem_reverse.mp hx)⟩
theorem isOrd_mi {p : List Int} (h : IsOrd p) : IsOrd (mi p) := by
  refine ⟨?_, fun x hx => ?_, fun x hx => ?_⟩
  · unfold mi
    exact List.pairwise_map.mpr (h.nd.imp fun {a b} e => by omega)
  · obtain ⟨y, hy, rfl⟩ := List.mem_map.mp hx
    have := h.hi y hy
    omega
  · obtain ⟨y, hy, rfl⟩ := List.mem_map.mp hx
    have := h.lo y hy
    rw [mi_len]
    omega
theorem inv_get {p : List Int} {j : Nat} (hj : j < p.length) : (inv p)[j]? = some ((p.idxOf ((j : Int) + 1) : Int) + 1) := by
  unfold inv
  rw [List.getElem?_map, irange_get _ _ _ hj, Option.map_some, Int.add_comm 1]
theorem idx_lt {p : List Int} (h : IsOrd p) {j : Nat} (hj : j < p.length) : p.idxOf ((j : Int) + 1) < p.length := List.idxOf_lt_length_of_mem (h.mem (by omega) (by omega))
theorem get_idx {p : List Int} (h : IsOrd p) {j : Nat} (hj : j < p.length) : p[p.idxOf ((j : Int) + 1)]? = some ((j : Int) + 1) := by
  have := idx_lt h hj
  rw [List.getElem?_eq_getElem this, List.getElem_idxOf]
theorem idx_get {p : List Int} (h : IsOrd p) {i : Nat} {x : Int} (hi : p[i]? = some x) : p.idxOf x = i := by
  obtain ⟨hl, rfl⟩ := List.getElem?_eq_some_iff.mp hi
  have hm : p[i] ∈ p := List.getElem_mem hl
  have h2 := List.idxOf_lt_length_of_mem hm
  exact (List.getElem_inj (h₀ := h2) (h₁ := hl) h.nd).mp (List.getElem_idxOf h2)
theorem isOrd_inv {p : List Int} (h : IsOrd p) : IsOrd (inv p) := by
  refine ⟨?_, fun x hx => ?_, fun x hx => ?_⟩
  · unfold inv
    refine List.pairwise_map.mpr ?_
    refine List.Pairwise.imp_of_mem (fun {a b} ha hb hab e => ?_) (irange_nodup 1 p.length)
    have a1 := irange_mem.mp ha
    have b1 := irange_mem.mp hb
    have ma := h.mem a1.1 (by omega)
    have mb := h.mem b1.1 (by omega)
    have e' : p.idxOf a = p.idxOf b := by omega
    have g1 := List.getElem_idxOf (List.idxOf_lt_length_of_mem ma)
    have g2 := List.getElem_idxOf (List.idxOf_lt_length_of_mem mb)
    apply hab
    rw [← g1, ← g2]
    simp only [e']
  · obtain ⟨k, hk, rfl⟩ := List.mem_map.mp hx
    omega
  · obtain ⟨k, hk, rfl⟩ := List.mem_map.mp hx
    rw [inv_len]
    have k1 := irange_mem.mp hk
    have := List.idxOf_lt_length_of_mem (h.mem k1.1 (by omega))
    omega
theorem fRep_0 (n : Nat) (h : n ≤ 100000) : fRep [.int 0] (.int (n : Int)) = some ((List.replicate n (0 : Int)).map .int) := by
  unfold fRep
  dsimp only
  rw [if_pos (by rw [List.length_singleton, Int.toNat_natCast, Nat.one_mul]; exact ⟨by omega, by omega, sz_le h⟩), Int.toNat_natCast]
  congr 1
  induction n with
  | zero => rfl
  | succ n ih =>
    rw [List.replicate_succ, List.flatten_cons, ih (by omega), List.replicate_succ, List.map_cons]
    rfl
theorem subS_ints (i : Nat) (y : Int) (b : Bool) (xs : List Int) (n : Int) (g : En) (h0 : 0 ≤ n) (h1 : n < xs.length) : subS i (.int y) (some (b, xs.map .int)) (some (.int n)) g = .ok .nx (g.set i (.own b ((xs.set n.toNat y).map .int))) := by
  rw [subS_at i (.int y) b (xs.map .int) n g n.toNat (by rw [List.length_map]; exact ixN_int h0 h1), List.map_set]
end Z
set_option Elab.async false
set_option linter.all false
set_option maxRecDepth 100000
set_option autoImplicit false
set_option maxHeartbeats 1000000
namespace Z
open PySem PySem.Spec PyProof.Rows L2
theorem argD_vn (g : En) (ks : List Pk) (i : Nat) (rs : List Rs) : argD g none (.v :: ks) (.sl i :: rs) = oMap (argD g none ks rs) (c := ⟨fun xs => oMap (slV g[i]?) (c := ⟨fun x => some (x :: xs)⟩)⟩) := argD_vs g none ks i rs (fun z => nomatch z)
/-! ### the order that compares as some numbers -/
def like (c : List Int) : List Int := c.map fun y => 1 + ((c.filter fun x => decide (x < y)).length : Int)
theorem like_len (c : List Int) : (like c).length = c.length := List.length_map ..
theorem cnt_lt : ∀ {c : List Int} {a b : Int}, a < b → a ∈ c → (c.filter fun x => decide (x < a)).length < (c.filter fun x => decide (x < b)).length
  | [], _, _, _, h => nomatch h
  | x :: c, a, b, hab, h => by
    have le : (c.filter fun x => decide (x < a)).length ≤ (c.filter fun x => decide (x < b)).length := by
      clear h
      induction c with
      | nil => exact Nat.le_refl _
      | cons y c ih =>
        by_cases h1 : y < a
        · rw [List.filter_cons_of_pos (by simpa using h1), List.filter_cons_of_pos (by simp; omega)]
          exact Nat.succ_le_succ ih
        · rw [List.filter_cons_of_neg (by simpa using h1)]
          by_cases h2 : y < b
          · rw [List.filter_cons_of_pos (by simpa using h2)]
            exact Nat.le_succ_of_le ih
          · rw [List.filter_cons_of_neg (by simpa using h2)]
            exact ih
    by_cases e : x = a
    · subst e
      rw [List.filter_cons_of_neg (by simp), List.filter_cons_of_pos (by simpa using hab)]
      exact Nat.lt_succ_of_le le
    · have hm : a ∈ c := by
        rcases List.mem_cons.mp h with z | z
        · exact absurd z.symm e
        · exact z
      have ih := cnt_lt hab hm
      by_cases h1 : x < a
      · rw [List.filter_cons_of_pos (by simpa using h1), List.filter_cons_of_pos (by simp; omega)]
        exact Nat.succ_lt_succ ih
      · rw [List.filter_cons_of_neg (by simpa using h1)]
        by_cases h2 : x < b
        · rw [List.filter_cons_of_pos (by simpa using h2)]
          exact Nat.lt_succ_of_lt ih
        · rw [List.filter_cons_of_neg (by simpa using h2)]
          exact ih
theorem isOrd_like {c : List Int} (h : c.Nodup) : IsOrd (like c) := by
  refine ⟨?_, fun x hx => ?_, fun x hx => ?_⟩
  · unfold like
    refine List.pairwise_map.mpr ?_
    refine List.Pairwise.imp_of_mem (fun {a b} ha hb hab e => ?_) h
    rcases Int.lt_trichotomy a b with z | z | z
    · have := cnt_lt z ha
      omega
    · exact hab z
    · have := cnt_lt z hb
      omega
  · obtain ⟨y, hy, rfl⟩ := List.mem_map.mp hx
    omega
  · obtain ⟨y, hy, rfl⟩ := List.mem_map.mp hx
    rw [like_len]
    have h1 : (c.filter fun x => decide (x < y)).length < (c.filter fun x => decide (x < y + 1)).length := cnt_lt (by omega) hy
    have h2 := List.length_filter_le (fun x => decide (x < y + 1)) c
    omega
/-! ### sums over places -/
def wsum (w : Nat → Nat) (P : Nat → Bool) : Nat → Nat
  | 0 => 0
  | n + 1 => wsum w P n + if P n = true then w n else 0
theorem wsum_le {w : Nat → Nat} {P Q : Nat → Bool} : ∀ {n : Nat}, (∀ j, j < n → P j = true → Q j = true) → wsum w P n ≤ wsum w Q n
  | 0, _ => Nat.le_refl _
  | n + 1, h => by
    have ih := wsum_le (w := w) (P := P) (Q := Q) (n := n) fun j hj => h j (by omega)
    unfold wsum
    by_cases hp : P n = true
    · rw [if_pos hp, if_pos (h n (Nat.lt_succ_self n) hp)]
      omega
    · rw [if_neg hp]
      omega
theorem wsum_lt {w : Nat → Nat} {P Q : Nat → Bool} : ∀ {n a : Nat}, a < n → P a = false → Q a = true → (∀ j, j < n → P j = true → Q j = true) → wsum w P n + w a ≤ wsum w Q n
  | 0, _, ha, _, _, _ => absurd ha (Nat.not_lt_zero _)
  | n + 1, a, ha, h1, h2, h => by
    unfold wsum
    by_cases e : a = n
    · subst e
      have ih := wsum_le (w := w) (P := P) (Q := Q) (n := a) fun j hj => h j (by omega)
      rw [h1, h2, if_neg Bool.false_ne_true, if_pos rfl]
      omega
    · have ih := wsum_lt (w := w) (P := P) (Q := Q) (n := n) (a := a) (by omega) h1 h2 fun j hj => h j (by omega)
      by_cases hp : P n = true
      · rw [if_pos hp, if_pos (h n (Nat.lt_succ_self n) hp)]
        omega
      · rw [if_neg hp]
        omega
theorem irange_snoc (a : Int) (n : Nat) : irange a (n + 1) = irange a n ++ [a + n] := by
  unfold irange
  rw [List.range_succ, List.map_append]
  rfl
theorem wsum_eq (w : Nat → Nat) (P : Nat → Bool) : ∀ n : Nat, (((irange 0 n).filter fun i => P i.toNat).map fun i => ((w i.toNat : Nat) : Int)).sum = (wsum w P n : Int)
  | 0 => rfl
  | n + 1 => by
    rw [irange_snoc, List.filter_append, List.map_append, List.sum_append, wsum_eq w P n]
    have e : ((0 : Int) + (n : Int)).toNat = n := by omega
    rw [show wsum w P (n + 1) = wsum w P n + (if P n = true then w n else 0) from rfl]
    by_cases h : P n = true
    · rw [List.filter_cons_of_pos (by rw [e]; exact h), List.filter_nil, if_pos h, List.map_cons, List.map_nil, e]
      simp
    · rw [List.filter_cons_of_neg (by rw [e]; exact h), List.filter_nil, if_neg h]
      simp
/-! ### orders put together -/
def lessOf (p : List Int) (R : List (List Int)) (k : Nat) : Nat := wsum (fun j => (R.getD j []).length) (fun j => decide (p.getD j 0 < p.getD k 0)) p.length
def fillL (p : List Int) (R : List (List Int)) : Nat → List Int
  | 0 => []
  | k + 1 => fillL p R k ++ (R.getD k []).map fun x => (lessOf p R k : Int) + x
def total (R : List (List Int)) (n : Nat) : Nat := wsum (fun j => (R.getD j []).length) (fun _ => true) n
theorem fillL_len (p : List Int) (R : List (List Int)) : ∀ k : Nat, (fillL p R k).length = total R k
  | 0 => rfl
  | k + 1 => by
    unfold fillL total wsum
    rw [List.length_append, fillL_len p R k, List.length_map, if_pos rfl]
    rfl
theorem fillL_mem {p : List Int} {R : List (List Int)} {y : Int} : ∀ {k : Nat}, y ∈ fillL p R k → ∃ j x, j < k ∧ x ∈ R.getD j [] ∧ y = (lessOf p R j : Int) + x
  | 0, h => nomatch h
  | k + 1, h => by
    unfold fillL at h
    rcases List.mem_append.mp h with h | h
    · obtain ⟨j, x, h1, h2, h3⟩ := fillL_mem h
      exact ⟨j, x, by omega, h2, h3⟩
    · obtain ⟨x, h1, h2⟩ := List.mem_map.mp h
      exact ⟨k, x, Nat.lt_succ_self k, h1, h2.symm⟩
theorem less_total {p : List Int} {R : List (List Int)} {k : Nat} (hk : k < p.length) : lessOf p R k + (R.getD k []).length ≤ total R p.length := wsum_lt (w := fun j => (R.getD j []).length) hk (by simp) rfl fun _ _ _ => rfl
theorem less_less {p : List Int} {R : List (List Int)} {i j : Nat} (hi : i < p.length) (h : p.getD i 0 < p.getD j 0) : lessOf p R i + (R.getD i []).length ≤ lessOf p R j :=
  wsum_lt (w := fun j => (R.getD j []).length) hi (by simp) (by simpa using h) fun k _ hk => by
    have := of_decide_eq_true hk
    exact decide_eq_true (by omega)
theorem isOrd_fill {p : List Int} {R : List (List Int)} (hp : p.Nodup) (hR : ∀ j, j < p.length → IsOrd (R.getD j [])) : IsOrd (fillL p R p.length) := by
  have bl : ∀ {j : Nat} {x : Int}, j < p.length → x ∈ R.getD j [] → 1 ≤ x ∧ x ≤ (R.getD j []).length := fun {j x} hj hx => ⟨(hR j hj).lo x hx, (hR j hj).hi x hx⟩
  refine ⟨?_, fun y hy => ?_, fun y hy => ?_⟩
  · have : ∀ k : Nat, k ≤ p.length → (fillL p R k).Nodup := by
      intro k
      induction k with
      | zero => exact fun _ => List.nodup_nil
      | succ k ih =>
        intro hk
        unfold fillL
        refine List.nodup_append.mpr ⟨ih (by omega), List.pairwise_map.mpr ((hR k (by omega)).nd.imp fun {a b} e => by omega), fun a ha b hb e => ?_⟩
        subst e
        obtain ⟨j, x, h1, h2, h3⟩ := fillL_mem ha
        obtain ⟨x', h4, h5⟩ := List.mem_map.mp hb
        have b1 := bl (show j < p.length by omega) h2
        have b2 := bl (show k < p.length by omega) h4
        have hne : p.getD j 0 ≠ p.getD k 0 := by
          rw [List.getD_eq_getElem?_getD, List.getD_eq_getElem?_getD, List.getElem?_eq_getElem (show j < p.length by omega), List.getElem?_eq_getElem (show k < p.length by omega)]
          intro z
          have := (List.getElem_inj (h₀ := show j < p.length by omega) (h₁ := show k < p.length by omega) hp).mp z
          omega
        rcases Int.lt_or_gt_of_ne hne with z | z
        · have := less_less (R := R) (show j < p.length by omega) z
          omega
        · have := less_less (R := R) (show k < p.length by omega) z
          omega
    exact this _ (Nat.le_refl _)
  · obtain ⟨j, x, h1, h2, rfl⟩ := fillL_mem hy
    have := bl h1 h2
    omega
  · obtain ⟨j, x, h1, h2, rfl⟩ := fillL_mem hy
    have := bl h1 h2
    have h3 := less_total (R := R) h1
    rw [fillL_len]
    omega
theorem total_snoc {R : List (List Int)} {r : List Int} : total (R ++ [r]) (R.length + 1) = total R R.length + r.length := by
  unfold total
  rw [wsum, if_pos rfl]
  congr 1
  · have : ∀ n : Nat, n ≤ R.length → wsum (fun j => ((R ++ [r]).getD j []).length) (fun _ => true) n = wsum (fun j => (R.getD j []).length) (fun _ => true) n := by
      intro n
      induction n with
      | zero => exact fun _ => rfl
      | succ n ih =>
        intro hn
        unfold wsum
        rw [ih (by omega), if_pos rfl, if_pos rfl, List.getD_eq_getElem?_getD, List.getElem?_append_left (by omega), List.getD_eq_getElem?_getD]
    exact this _ (Nat.le_refl _)
  · rw [List.getD_eq_getElem?_getD, List.getElem?_append_right (Nat.le_refl _), Nat.sub_self]
    rfl
end Z
set_option Elab.async false
set_option linter.all false
set_option maxRecDepth 100000
set_option autoImplicit false
set_option maxHeartbeats 1000000
namespace Z
open PySem PySem.Spec PyProof.Rows L2
/-! ### greatest, least -/
def mx : List Int → Int
  | [] => 0
  | n :: ns => lmax n ns
def mn : List Int → Int
  | [] => 0
  | n :: ns => lmin n ns
theorem mx_mem {l : List Int} (h : l ≠ []) : mx l ∈ l := by
  cases l with
  | nil => exact absurd rfl h
  | cons n ns =>
    rcases (lmax_spec ns n).1 with e | e
    · show lmax n ns ∈ n :: ns
      rw [e]
      exact List.mem_cons_self
    · exact List.mem_cons_of_mem _ e
theorem mx_ge {l : List Int} {x : Int} (h : x ∈ l) : x ≤ mx l := by
  cases l with
  | nil => exact nomatch h
  | cons n ns =>
    rcases List.mem_cons.mp h with e | e
    · rw [e]
      exact (lmax_spec ns n).2.1
    · exact (lmax_spec ns n).2.2 x e
theorem mn_mem {l : List Int} (h : l ≠ []) : mn l ∈ l := by
  cases l with
  | nil => exact absurd rfl h
  | cons n ns =>
    rcases (lmin_spec ns n).1 with e | e
    · show lmin n ns ∈ n :: ns
      rw [e]
      exact List.mem_cons_self
    · exact List.mem_cons_of_mem _ e
theorem mn_le {l : List Int} {x : Int} (h : x ∈ l) : mn l ≤ x := by
  cases l with
  | nil => exact nomatch h
  | cons n ns =>
    rcases List.mem_cons.mp h with e | e
    · rw [e]
      exact (lmin_spec ns n).2.1
    · exact (lmin_spec ns n).2.2 x e
theorem fMax_l {l : List Int} (h : l ≠ []) : fMax [.list (l.map .int)] = some (.int (mx l)) := by
  cases l with
  | nil => exact absurd rfl h
  | cons n ns =>
    show (match toInts ((n :: ns).map .int) with
      | some (n :: ns) => some (PyData.int (lmax n ns))
      | _ => none) = _
    rw [toInts_map]
    rfl
theorem fMin_l {l : List Int} (h : l ≠ []) : fMin [.list (l.map .int)] = some (.int (mn l)) := by
  cases l with
  | nil => exact absurd rfl h
  | cons n ns =>
    show (match toInts ((n :: ns).map .int) with
      | some (n :: ns) => some (PyData.int (lmin n ns))
      | _ => none) = _
    rw [toInts_map]
    rfl
theorem fNe_li (p q : List Int) : fNe (li p) (li q) = some (.bool (!decide (p = q))) := by
  rw [fNe_gd (gd_li 0 p) (gd_li 0 q) (by decide) (by decide)]
  show some (PyData.bool (!PyData.eqvAll _ _)) = _
  rw [eqvAll_ints]
theorem fCutT_take (xs : List D) (i : Nat) : fCutT (.tuple xs) none (some (i : Int)) = some (.tuple (xs.take i)) := by
  show some (PyData.tuple (cutD xs none (some (i : Int)))) = _
  unfold cutD
  rw [HT.sIx_none, HT.sIx_nat, List.drop_zero, Nat.sub_zero]
  congr 2
  by_cases h : i ≤ xs.length
  · rw [Nat.min_eq_left h]
  · rw [Nat.min_eq_right (by omega), List.take_length, List.take_of_length_le (by omega)]
/-! ### neighbours in a pattern -/
def qAt (q : List Int) (a : Nat) : Int := q.getD a 0
def lesser (q : List Int) (a : Nat) : List Int := (q.take a).filter fun x => decide (x < qAt q a)
def greater (q : List Int) (a : Nat) : List Int := (q.take a).filter fun x => decide (qAt q a < x)
def belD (q : List Int) (a : Nat) : D := if lesser q a = [] then .none else .int (q.idxOf (mx (lesser q a)) : Nat)
def abvD (q : List Int) (a : Nat) : D := if greater q a = [] then .none else .int (q.idxOf (mn (greater q a)) : Nat)
def nbD (q : List Int) (a : Nat) : D := .tuple [belD q a, abvD q a]
def nbs (q : List Int) (k : Nat) : List D := (List.range k).map (nbD q)
theorem nbs_len (q : List Int) (k : Nat) : (nbs q k).length = k := by simp [nbs]
theorem nbs_succ (q : List Int) (k : Nat) : nbs q (k + 1) = nbs q k ++ [nbD q k] := by simp [nbs, List.range_succ]
theorem enumD_cons (i : Nat) (x : D) (xs : List D) : enumD i (x :: xs) = .tuple [.int (i : Nat), x] :: enumD (i + 1) xs := rfl
theorem getD_get {q : List Int} {a : Nat} (h : a < q.length) : q[a]? = some (q.getD a 0) := by
  rw [List.getD_eq_getElem?_getD, List.getElem?_eq_getElem h]
  rfl
end Z
set_option Elab.async false
set_option linter.all false
set_option maxRecDepth 100000
set_option autoImplicit false
set_option maxHeartbeats 1000000
namespace Z
open PySem PySem.Spec PyProof.Rows L2
/-! ### places, one more at a time -/
def pAt (p : List Int) (x : Int) : Int := p.getD x.toNat 0
def leastI (p q : List Int) (a : Nat) (t : List Int) : Int := if lesser q a = [] then 0 else pAt p (t.getD (q.idxOf (mx (lesser q a))) 0)
def mostI (p q : List Int) (a : Nat) (t : List Int) : Int := if greater q a = [] then (p.length : Int) + 1 else pAt p (t.getD (q.idxOf (mn (greater q a))) 0)
def startI (t : List Int) : Int := match t.getLast? with
  | some x => x + 1
  | none => 0
def stopI (p q : List Int) (a : Nat) : Int := (p.length : Int) - ((q.length : Int) - a - 1)
def okI (p q : List Int) (a : Nat) (t : List Int) (x : Int) : Bool := decide (leastI p q a t < pAt p x) && decide (pAt p x < mostI p q a t)
def extT (p q : List Int) (a : Nat) (t : List Int) : List (List Int) := ((irange (startI t) (stopI p q a - startI t).toNat).filter (okI p q a t)).map fun x => t ++ [x]
def Ls (p q : List Int) : Nat → List (List Int)
  | 0 => [[]]
  | a + 1 => (Ls p q a).flatMap (extT p q a)
/-- a tuple of places so far -/
structure Pl (p : List Int) (a : Nat) (t : List Int) : Prop where
  len : t.length = a
  lo : ∀ x ∈ t, 0 ≤ x
  hi : ∀ x ∈ t, x < p.length
theorem startI_bd {p : List Int} {a : Nat} {t : List Int} (h : Pl p a t) : 0 ≤ startI t ∧ startI t ≤ p.length := by
  unfold startI
  cases e : t.getLast? with
  | none => exact ⟨Int.le_refl _, by show (0 : Int) ≤ _; omega⟩
  | some x =>
    have hm := List.mem_of_getLast? e
    have h1 := h.lo x hm
    have h2 := h.hi x hm
    dsimp only
    omega
theorem pl_ext {p q : List Int} {a : Nat} {t u : List Int} (h : Pl p a t) (ha : a < q.length) (hu : u ∈ extT p q a t) : Pl p (a + 1) u := by
  unfold extT at hu
  obtain ⟨x, hx, rfl⟩ := List.mem_map.mp hu
  obtain ⟨h1, _⟩ := List.mem_filter.mp hx
  have h2 := irange_mem.mp h1
  have h3 := startI_bd h
  have h4 : x < p.length := by
    have : stopI p q a ≤ p.length := by unfold stopI; omega
    omega
  refine ⟨by rw [List.length_append, h.len]; rfl, fun y hy => ?_, fun y hy => ?_⟩
  · rcases List.mem_append.mp hy with z | z
    · exact h.lo y z
    · rw [List.mem_singleton.mp z]
      omega
  · rcases List.mem_append.mp hy with z | z
    · exact h.hi y z
    · rw [List.mem_singleton.mp z]
      exact h4
theorem pl_Ls {p q : List Int} : ∀ {a : Nat}, a ≤ q.length → ∀ t ∈ Ls p q a, Pl p a t
  | 0, _, t, ht => by
    have e : t = [] := List.mem_singleton.mp ht
    subst e
    exact ⟨rfl, fun _ h => (nomatch h), fun _ h => (nomatch h)⟩
  | a + 1, ha, t, ht => by
    obtain ⟨s, hs, h⟩ := List.mem_flatMap.mp ht
    exact pl_ext (pl_Ls (by omega) s hs) (by omega) h
theorem extT_len {p q : List Int} {a : Nat} {t : List Int} (h : Pl p a t) (ha : a < q.length) : (extT p q a t).length ≤ p.length := by
  unfold extT
  rw [List.length_map]
  refine Nat.le_trans (List.length_filter_le _ _) ?_
  rw [irange_len]
  have := startI_bd h
  have : stopI p q a ≤ p.length := by unfold stopI; omega
  omega
theorem flat_len {α β : Type} (f : α → List β) (n : Nat) : ∀ (l : List α), (∀ x ∈ l, (f x).length ≤ n) → (l.flatMap f).length ≤ l.length * n
  | [], _ => by simp
  | x :: l, h => by
    rw [List.flatMap_cons, List.length_append, List.length_cons, Nat.succ_mul]
    have h1 := h x List.mem_cons_self
    have h2 := flat_len f n l fun y hy => h y (List.mem_cons_of_mem _ hy)
    omega
theorem Ls_len {p q : List Int} : ∀ {a : Nat}, a ≤ q.length → (Ls p q a).length ≤ p.length ^ a
  | 0, _ => Nat.le_refl 1
  | a + 1, ha => by
    have h1 := Ls_len (p := p) (q := q) (a := a) (by omega)
    have h2 := flat_len (extT p q a) p.length (Ls p q a) fun t ht => extT_len (pl_Ls (by omega) t ht) (by omega)
    rw [Nat.pow_succ]
    exact Nat.le_trans h2 (Nat.mul_le_mul_right _ h1)
theorem idx_take {q : List Int} {a : Nat} {x : Int} (h : x ∈ q.take a) : q.idxOf x < a := by
  have e : q.idxOf x = (q.take a).idxOf x := by
    conv => lhs; rw [← List.take_append_drop a q]
    rw [List.idxOf_append, if_pos h]
  rw [e]
  have := List.idxOf_lt_length_of_mem h
  rw [List.length_take] at this
  omega
theorem fNotN_n : fNotN .none .none = some (.bool false) := Eq.trans rfl rfl
theorem fNotN_i (i : Int) : fNotN (.int i) .none = some (.bool true) := Eq.trans rfl rfl
theorem fAdd_tt (xs ys : List D) (h : xs.length + ys.length ≤ 100000) : fAdd (.tuple xs) (.tuple ys) = some (.tuple (xs ++ ys)) := if_pos (sz_le h)
theorem mExtend_ok (xs zs : List D) (h : xs.length + zs.length ≤ sizeLine) : mExtend xs zs = some (xs ++ zs, .none) := if_pos h
theorem fIx_p {p : List Int} {x : Int} (h0 : 0 ≤ x) (h1 : x < p.length) : fIx (.tuple (p.map .int)) (.int x) = some (.int (pAt p x)) := by
  have := fIx_t (xs := p.map .int) (i := x.toNat) (x := .int (pAt p x)) (by rw [List.getElem?_map, getD_get (show x.toNat < p.length by omega)]; rfl)
  rw [show ((x.toNat : Nat) : Int) = x by omega] at this
  exact this
theorem fIx_pn {t : List Int} {j : Nat} (h : j < t.length) : fIx (.tuple (t.map .int)) (.int (j : Int)) = some (.int (t.getD j 0)) := fIx_t (by rw [List.getElem?_map, getD_get h]; rfl)
end Z
set_option Elab.async false
set_option linter.all false
set_option maxRecDepth 100000
set_option autoImplicit false
set_option maxHeartbeats 1000000
namespace Z
open PySem PySem.Spec PyProof.Rows L2
/-! ### what the places are -/
abbrev at0 (t : List Int) (i : Nat) : Int := t.getD i 0
theorem at0_mem {t : List Int} {i : Nat} (h : i < t.length) : at0 t i ∈ t := by
  unfold at0
  rw [List.getD_eq_getElem?_getD, List.getElem?_eq_getElem h]
  exact List.getElem_mem h
theorem mem_at0 {t : List Int} {x : Int} (h : x ∈ t) : ∃ i, i < t.length ∧ at0 t i = x := by
  obtain ⟨i, hi, e⟩ := List.mem_iff_getElem.mp h
  refine ⟨i, hi, ?_⟩
  unfold at0
  rw [List.getD_eq_getElem?_getD, List.getElem?_eq_getElem hi, ← e]
  rfl
theorem at0_app1 {t u : List Int} {i : Nat} (h : i < t.length) : at0 (t ++ u) i = at0 t i := by
  unfold at0
  rw [List.getD_eq_getElem?_getD, List.getD_eq_getElem?_getD, List.getElem?_append_left h]
theorem at0_app2 {t : List Int} {x : Int} : at0 (t ++ [x]) t.length = x := by
  unfold at0
  rw [List.getD_eq_getElem?_getD, List.getElem?_append_right (Nat.le_refl _), Nat.sub_self]
  rfl
theorem at0_inj {q : List Int} (h : q.Nodup) {i j : Nat} (hi : i < q.length) (hj : j < q.length) (e : at0 q i = at0 q j) : i = j := by
  unfold at0 at e
  rw [List.getD_eq_getElem?_getD, List.getD_eq_getElem?_getD, List.getElem?_eq_getElem hi, List.getElem?_eq_getElem hj] at e
  exact (List.getElem_inj (h₀ := hi) (h₁ := hj) h).mp e
theorem pAt_bd {p : List Int} (h : IsOrd p) {x : Int} (h0 : 0 ≤ x) (h1 : x < p.length) : 1 ≤ pAt p x ∧ pAt p x ≤ p.length := by
  have hm : pAt p x ∈ p := at0_mem (show x.toNat < p.length by omega)
  exact ⟨h.lo _ hm, h.hi _ hm⟩
/-- the first a things of q are shown at t -/
structure Mt (p q : List Int) (a : Nat) (t : List Int) : Prop where
  pl : Pl p a t
  asc : ∀ i j, i < j → j < a → at0 t i < at0 t j
  ord : ∀ i j, i < a → j < a → (pAt p (at0 t i) < pAt p (at0 t j) ↔ at0 q i < at0 q j)
theorem startI_le {t : List Int} {x : Int} (asc : ∀ i j, i < j → j < t.length → at0 t i < at0 t j) (h0 : 0 ≤ x) : startI t ≤ x ↔ ∀ y ∈ t, y < x := by
  rcases List.eq_nil_or_concat t with rfl | ⟨s, z, rfl⟩
  · exact ⟨fun _ _ h => (nomatch h), fun _ => h0⟩
  · rw [List.concat_eq_append] at *
    have hs : startI (s ++ [z]) = z + 1 := by
      unfold startI
      rw [List.getLast?_concat]
    rw [hs]
    constructor
    · intro h y hy
      rcases List.mem_append.mp hy with hy | hy
      · obtain ⟨i, hi, rfl⟩ := mem_at0 hy
        have := asc i s.length hi (by rw [List.length_append, List.length_singleton]; omega)
        rw [at0_app1 hi, at0_app2] at this
        omega
      · rw [List.mem_singleton.mp hy]
        omega
    · intro h
      have := h z (List.mem_append_right _ (List.mem_singleton.mpr rfl))
      omega
section
variable {p q : List Int} {a : Nat} {t : List Int}
theorem q_take {i : Nat} (hi : i < a) (ha : a < q.length) : at0 q i ∈ q.take a := by
  have : at0 q i = at0 (q.take a) i := by
    unfold at0
    rw [List.getD_eq_getElem?_getD, List.getD_eq_getElem?_getD, List.getElem?_take_of_lt hi]
  rw [this]
  exact at0_mem (by rw [List.length_take]; omega)
theorem take_q {x : Int} (h : x ∈ q.take a) : ∃ i, i < a ∧ i < q.length ∧ at0 q i = x ∧ i = q.idxOf x := by
  have h1 := idx_take h
  have h2 := List.idxOf_lt_length_of_mem (List.mem_of_mem_take h)
  refine ⟨q.idxOf x, h1, h2, ?_, rfl⟩
  unfold at0
  rw [List.getD_eq_getElem?_getD, List.getElem?_eq_getElem h2, List.getElem_idxOf]
  rfl
theorem least_iff (ip : IsOrd p) (iq : q.Nodup) (ha : a < q.length) (m : Mt p q a t) {x : Int} (h0 : 0 ≤ x) (h1 : x < p.length) : leastI p q a t < pAt p x ↔ ∀ i, i < a → at0 q i < at0 q a → pAt p (at0 t i) < pAt p x := by
  unfold leastI
  by_cases z : lesser q a = []
  · rw [if_pos z]
    refine ⟨fun _ i hi hq => ?_, fun _ => by have := (pAt_bd ip h0 h1).1; omega⟩
    have : at0 q i ∈ lesser q a := List.mem_filter.mpr ⟨q_take hi ha, decide_eq_true hq⟩
    rw [z] at this
    cases this
  · rw [if_neg z]
    have hm := mx_mem z
    obtain ⟨b, b1, b2, b3, b4⟩ := take_q (List.mem_filter.mp hm).1
    have b5 : mx (lesser q a) < at0 q a := of_decide_eq_true (List.mem_filter.mp hm).2
    rw [← b4]
    constructor
    · intro h i hi hq
      have hl : at0 q i ≤ mx (lesser q a) := mx_ge (List.mem_filter.mpr ⟨q_take hi ha, decide_eq_true hq⟩)
      by_cases e : i = b
      · rw [e]
        exact h
      · have : at0 q i < at0 q b := by
          have hne : at0 q i ≠ at0 q b := fun w => e (at0_inj iq (by omega) b2 w)
          omega
        have := (m.ord i b hi b1).mpr this
        exact Int.lt_trans this h
    · intro h
      exact h b b1 (by rw [b3]; exact b5)
theorem most_iff (ip : IsOrd p) (iq : q.Nodup) (ha : a < q.length) (m : Mt p q a t) {x : Int} (h0 : 0 ≤ x) (h1 : x < p.length) : pAt p x < mostI p q a t ↔ ∀ i, i < a → at0 q a < at0 q i → pAt p x < pAt p (at0 t i) := by
  unfold mostI
  by_cases z : greater q a = []
  · rw [if_pos z]
    refine ⟨fun _ i hi hq => ?_, fun _ => by have := (pAt_bd ip h0 h1).2; omega⟩
    have : at0 q i ∈ greater q a := List.mem_filter.mpr ⟨q_take hi ha, decide_eq_true hq⟩
    rw [z] at this
    cases this
  · rw [if_neg z]
    have hm := mn_mem z
    obtain ⟨b, b1, b2, b3, b4⟩ := take_q (List.mem_filter.mp hm).1
    have b5 : at0 q a < mn (greater q a) := of_decide_eq_true (List.mem_filter.mp hm).2
    rw [← b4]
    constructor
    · intro h i hi hq
      have hl : mn (greater q a) ≤ at0 q i := mn_le (List.mem_filter.mpr ⟨q_take hi ha, decide_eq_true hq⟩)
      by_cases e : i = b
      · rw [e]
        exact h
      · have : at0 q b < at0 q i := by
          have hne : at0 q i ≠ at0 q b := fun w => e (at0_inj iq (by omega) b2 w)
          omega
        have := (m.ord b i b1 hi).mpr this
        exact Int.lt_trans h this
    · intro h
      exact h b b1 (by rw [b3]; exact b5)
/-- one thing more -/
theorem mt_snoc (ip : IsOrd p) (iq : q.Nodup) (ha : a < q.length) {x : Int} (hl : t.length = a) : Mt p q (a + 1) (t ++ [x]) ↔ Mt p q a t ∧ startI t ≤ x ∧ 0 ≤ x ∧ x < p.length ∧ okI p q a t x = true := by
  subst hl
  constructor
  · intro m
    have hx : x ∈ t ++ [x] := List.mem_append_right _ (List.mem_singleton.mpr rfl)
    have h0 := m.pl.lo x hx
    have h1 := m.pl.hi x hx
    have m0 : Mt p q t.length t := by
      refine ⟨⟨rfl, fun y hy => m.pl.lo y (List.mem_append_left _ hy), fun y hy => m.pl.hi y (List.mem_append_left _ hy)⟩, fun i j hij hj => ?_, fun i j hi hj => ?_⟩
      · have := m.asc i j hij (by omega)
        rw [at0_app1 (by omega), at0_app1 hj] at this
        exact this
      · have := m.ord i j (by omega) (by omega)
        rw [at0_app1 hi, at0_app1 hj] at this
        exact this
    refine ⟨m0, (startI_le m0.asc h0).mpr fun y hy => ?_, h0, h1, ?_⟩
    · obtain ⟨i, hi, rfl⟩ := mem_at0 hy
      have := m.asc i t.length hi (by omega)
      rw [at0_app1 hi, at0_app2] at this
      exact this
    · unfold okI
      rw [Bool.and_eq_true, decide_eq_true_eq, decide_eq_true_eq, least_iff ip iq ha m0 h0 h1, most_iff ip iq ha m0 h0 h1]
      refine ⟨fun i hi hq => ?_, fun i hi hq => ?_⟩
      · have := (m.ord i t.length (by omega) (by omega)).mpr hq
        rw [at0_app1 hi, at0_app2] at this
        exact this
      · have := (m.ord t.length i (by omega) (by omega)).mpr hq
        rw [at0_app1 hi, at0_app2] at this
        exact this
  · rintro ⟨m, h2, h0, h1, h3⟩
    unfold okI at h3
    rw [Bool.and_eq_true, decide_eq_true_eq, decide_eq_true_eq, least_iff ip iq ha m h0 h1, most_iff ip iq ha m h0 h1] at h3
    have hy := (startI_le m.asc h0).mp h2
    have split : ∀ i, i < t.length + 1 → i < t.length ∨ i = t.length := fun i hi => by omega
    refine ⟨⟨by rw [List.length_append]; rfl, fun y hy => ?_, fun y hy => ?_⟩, fun i j hij hj => ?_, fun i j hi hj => ?_⟩
    · rcases List.mem_append.mp hy with z | z
      · exact m.pl.lo y z
      · rw [List.mem_singleton.mp z]
        exact h0
    · rcases List.mem_append.mp hy with z | z
      · exact m.pl.hi y z
      · rw [List.mem_singleton.mp z]
        exact h1
    · rcases split j hj with z | rfl
      · rw [at0_app1 (by omega), at0_app1 z]
        exact m.asc i j hij z
      · rw [at0_app1 hij, at0_app2]
        exact hy _ (at0_mem hij)
    · have tri : ∀ i, i < t.length → at0 q i < at0 q t.length ∨ at0 q t.length < at0 q i := fun i hi => by
        have : at0 q i ≠ at0 q t.length := fun w => by
          have := at0_inj iq (by omega) ha w
          omega
        omega
      rcases split i hi with zi | rfl
      · rcases split j hj with zj | rfl
        · rw [at0_app1 zi, at0_app1 zj]
          exact m.ord i j zi zj
        · rw [at0_app1 zi, at0_app2]
          rcases tri i zi with w | w
          · exact ⟨fun _ => w, fun _ => h3.1 i zi w⟩
          · have := h3.2 i zi w
            constructor <;> intro <;> omega
      · rcases split j hj with zj | rfl
        · rw [at0_app1 zj, at0_app2]
          rcases tri j zj with w | w
          · have := h3.1 j zj w
            constructor <;> intro <;> omega
          · exact ⟨fun _ => w, fun _ => h3.2 j zj w⟩
        · rw [at0_app2]
          constructor <;> intro <;> omega
end
theorem mem_Ls {p q : List Int} (ip : IsOrd p) (iq : q.Nodup) : ∀ {a : Nat}, a ≤ q.length → ∀ t : List Int, t ∈ Ls p q a ↔ Mt p q a t ∧ ∀ x ∈ t, x + ((q.length : Int) - a) < p.length
  | 0, _, t => by
    constructor
    · intro h
      have e : t = [] := List.mem_singleton.mp h
      subst e
      exact ⟨⟨⟨rfl, fun _ h => (nomatch h), fun _ h => (nomatch h)⟩, fun i j _ hj => absurd hj (Nat.not_lt_zero _), fun i j hi _ => absurd hi (Nat.not_lt_zero _)⟩, fun _ h => (nomatch h)⟩
    · rintro ⟨m, _⟩
      rw [List.eq_nil_of_length_eq_zero m.pl.len]
      exact List.mem_singleton.mpr rfl
  | a + 1, ha, t => by
    have ih := mem_Ls ip iq (a := a) (by omega)
    constructor
    · intro h
      obtain ⟨s, hs, hu⟩ := List.mem_flatMap.mp h
      obtain ⟨m, hr⟩ := (ih s).mp hs
      unfold extT at hu
      obtain ⟨x, hx, rfl⟩ := List.mem_map.mp hu
      obtain ⟨hx1, hx2⟩ := List.mem_filter.mp hx
      have hx3 := irange_mem.mp hx1
      have hb := startI_bd m.pl
      have hst : stopI p q a = (p.length : Int) - ((q.length : Int) - a - 1) := rfl
      have m' := (mt_snoc ip iq (show a < q.length by omega) m.pl.len (x := x)).mpr ⟨m, hx3.1, by omega, by omega, hx2⟩
      refine ⟨m', fun y hy => ?_⟩
      rcases List.mem_append.mp hy with z | z
      · have h2 := (startI_le (by rw [m.pl.len]; exact m.asc) (show 0 ≤ x by omega)).mp hx3.1 y z
        omega
      · rw [List.mem_singleton.mp z]
        omega
    · rintro ⟨m, hr⟩
      rcases List.eq_nil_or_concat t with rfl | ⟨s, x, rfl⟩
      · have := m.pl.len
        cases this
      · rw [List.concat_eq_append] at *
        have hl : s.length = a := by
          have := m.pl.len
          rw [List.length_append, List.length_singleton] at this
          omega
        obtain ⟨m0, h2, h0, h1, h3⟩ := (mt_snoc ip iq (show a < q.length by omega) hl).mp m
        have hx := hr x (List.mem_append_right _ (List.mem_singleton.mpr rfl))
        have hst : stopI p q a = (p.length : Int) - ((q.length : Int) - a - 1) := rfl
        refine List.mem_flatMap.mpr ⟨s, (ih s).mpr ⟨m0, fun y hy => ?_⟩, List.mem_map.mpr ⟨x, List.mem_filter.mpr ⟨irange_mem.mpr ⟨h2, by omega⟩, h3⟩, rfl⟩⟩
        have := (startI_le (by rw [m0.pl.len]; exact m0.asc) h0).mp h2 y hy
        omega
/-- all places -/
def PL (p q : List Int) : List (List Int) := Ls p q q.length
theorem mem_PL {p q : List Int} (ip : IsOrd p) (iq : q.Nodup) (t : List Int) : t ∈ PL p q ↔ Mt p q q.length t := by
  unfold PL
  rw [mem_Ls ip iq (Nat.le_refl _)]
  refine ⟨fun h => h.1, fun h => ⟨h, fun x hx => ?_⟩⟩
  have := h.pl.hi x hx
  omega
/-! they ascend -/
theorem lt_app : ∀ {s t : List Int} {u v : List Int}, s.length = t.length → s < t → s ++ u < t ++ v
  | [], [], _, _, _, h => absurd h (List.lt_irrefl _)
  | [], _ :: _, _, _, e, _ => by cases e
  | _ :: _, [], _, _, e, _ => by cases e
  | x :: s, y :: t, u, v, e, h => by
    rw [List.cons_append, List.cons_append, List.cons_lt_cons_iff]
    rcases List.cons_lt_cons_iff.mp h with z | ⟨rfl, z⟩
    · exact .inl z
    · exact .inr ⟨rfl, lt_app (by simpa using e) z⟩
theorem lt_snoc : ∀ {s : List Int} {x y : Int}, x < y → s ++ [x] < s ++ [y]
  | [], x, y, h => List.cons_lt_cons_iff.mpr (.inl h)
  | z :: s, x, y, h => List.cons_lt_cons_iff.mpr (.inr ⟨rfl, lt_snoc h⟩)
theorem asc_Ls {p q : List Int} : ∀ {a : Nat}, a ≤ q.length → (Ls p q a).Pairwise (· < ·)
  | 0, _ => List.pairwise_singleton _ _
  | a + 1, ha => by
    have ih := asc_Ls (p := p) (q := q) (a := a) (by omega)
    unfold Ls
    refine List.pairwise_flatMap.mpr ⟨fun t ht => ?_, ?_⟩
    · unfold extT
      refine List.pairwise_map.mpr (((irange_sorted _ _).filter _).imp fun {x y} h => lt_snoc h)
    · refine List.Pairwise.imp_of_mem (fun {s t} hs ht h => ?_) ih
      intro u hu v hv
      unfold extT at hu hv
      obtain ⟨x, _, rfl⟩ := List.mem_map.mp hu
      obtain ⟨y, _, rfl⟩ := List.mem_map.mp hv
      exact lt_app (by rw [(pl_Ls (by omega) s hs).len, (pl_Ls (by omega) t ht).len]) h
theorem asc_PL {p q : List Int} : (PL p q).Pairwise (· < ·) := asc_Ls (Nat.le_refl _)
/-- two ascending lists of the same things -/
theorem asc_eq {l m : List (List Int)} (hl : l.Pairwise (· < ·)) (hm : m.Pairwise (· < ·)) (h : ∀ t, t ∈ l ↔ t ∈ m) : l = m := by
  have n1 : l.Nodup := hl.imp fun {a b} h e => by subst e; exact List.lt_irrefl _ h
  have n2 : m.Nodup := hm.imp fun {a b} h e => by subst e; exact List.lt_irrefl _ h
  exact List.Perm.eq_of_pairwise (le := fun a b => a < b) (fun a b _ _ h1 h2 => absurd (List.lt_trans h1 h2) (List.lt_irrefl _)) hl hm ((List.perm_ext_iff_of_nodup n1 n2).mpr h)
/-! sorted tuples -/
theorem le_ti (s t : List Int) : PySem.W.dataLe false id (ti s) (ti t) = decide (s ≤ t) := by
  have := congrFun (congrFun (PySem.W.dataLe_rows (β := List Int) (fun s => s)) s) t
  exact this
theorem sortD_ti {l m : List (List Int)} (hm : m.Pairwise (· < ·)) (hl : l.Nodup) (h : ∀ t, t ∈ l ↔ t ∈ m) : sortD (l.map ti) = m.map ti := by
  have n2 : m.Nodup := hm.imp fun {a b} h e => by subst e; exact List.lt_irrefl _ h
  refine sortD_eq (((List.perm_ext_iff_of_nodup hl n2).mpr h).map _) ?_ ?_
  · rw [List.pairwise_map]
    exact hm.imp fun {a b} h => by rw [le_ti]; exact decide_eq_true (List.le_of_lt h)
  · intro a ha b hb h1 h2
    obtain ⟨s, _, rfl⟩ := List.mem_map.mp ha
    obtain ⟨t, _, rfl⟩ := List.mem_map.mp hb
    rw [le_ti] at h1 h2
    rw [List.le_antisymm (of_decide_eq_true h1) (of_decide_eq_true h2)]
theorem okSort_ti {l : List (List Int)} (h : l.length ≤ 100000) (hne : ∀ t ∈ l, t ≠ []) : okSort (l.map ti) = true := by
  unfold okSort
  simp only [Bool.and_eq_true, List.all_eq_true, decide_eq_true_eq, Bool.or_eq_true, List.length_map]
  refine ⟨⟨⟨fun x hx y hy => ?_, .inl fun x hx => ?_⟩, sz_le h⟩, fun x hx => ?_⟩
  · obtain ⟨s, _, rfl⟩ := List.mem_map.mp hx
    obtain ⟨t, _, rfl⟩ := List.mem_map.mp hy
    exact PySem.W.alike_ints s t
  · obtain ⟨s, hs, rfl⟩ := List.mem_map.mp hx
    cases s with
    | nil => exact absurd rfl (hne _ hs)
    | cons _ _ => rfl
  · obtain ⟨s, _, rfl⟩ := List.mem_map.mp hx
    exact Nat.le_trans (gd_ti 0 s).2 (by decide)
end Z
set_option Elab.async false
set_option linter.all false
set_option maxRecDepth 100000
set_option autoImplicit false
set_option maxHeartbeats 1000000
namespace Z
open PySem PySem.Spec PyProof.Rows L2
theorem at0_map {t : List Int} {f : Int → Int} {i : Nat} (h : i < t.length) : at0 (t.map f) i = f (at0 t i) := by
  unfold at0
  rw [List.getD_eq_getElem?_getD, List.getD_eq_getElem?_getD, List.getElem?_map, List.getElem?_eq_getElem h]
  rfl
theorem at0_rev {t : List Int} {i : Nat} (h : i < t.length) : at0 t.reverse i = at0 t (t.length - 1 - i) := by
  unfold at0
  rw [List.getD_eq_getElem?_getD, List.getD_eq_getElem?_getD, List.getElem?_reverse h]
theorem pAt_at0 (p : List Int) (x : Int) : pAt p x = at0 p x.toNat := rfl
/-! mirrored -/
theorem mt_mi {p q t : List Int} (m : Mt p q q.length t) : Mt (mi p) (mi q) (mi q).length t := by
  have key : ∀ x, x ∈ t → pAt (mi p) x = (p.length : Int) + 1 - pAt p x := fun x hx => by
    have h0 := m.pl.lo x hx
    have h1 := m.pl.hi x hx
    rw [pAt_at0, pAt_at0, mi, at0_map (by omega)]
  have hl := mi_len q
  refine ⟨⟨by rw [hl]; exact m.pl.len, m.pl.lo, fun x hx => by rw [mi_len]; exact m.pl.hi x hx⟩, fun i j a b => m.asc i j a (by rw [← hl]; exact b), fun i j hi hj => ?_⟩
  rw [hl] at hi hj
  have ho := m.ord j i hj hi
  rw [key _ (at0_mem (by rw [m.pl.len]; exact hi)), key _ (at0_mem (by rw [m.pl.len]; exact hj)), mi, at0_map hi, at0_map hj]
  constructor <;> intro h
  · have := ho.mp (by omega)
    omega
  · have := ho.mpr (by omega)
    omega
theorem mi_mi {p : List Int} : mi (mi p) = p := by
  unfold mi
  rw [List.map_map, List.length_map]
  refine (List.map_congr_left fun x _ => ?_).trans (List.map_id p)
  simp only [Function.comp, id]
  omega
theorem PL_mi {p q : List Int} (ip : IsOrd p) (iq : IsOrd q) : PL (mi p) (mi q) = PL p q := by
  refine asc_eq asc_PL asc_PL fun t => ?_
  rw [mem_PL ip iq.nd, mem_PL (isOrd_mi ip) (isOrd_mi iq).nd]
  refine ⟨fun m => ?_, fun m => mt_mi m⟩
  have := mt_mi m
  rw [mi_mi, mi_mi] at this
  exact this
/-! turned about -/
def fb (n : Nat) (t : List Int) : List Int := t.reverse.map fun x => (n : Int) - 1 - x
theorem fb_len (n : Nat) (t : List Int) : (fb n t).length = t.length := by rw [fb, List.length_map, List.length_reverse]
theorem fb_at {n : Nat} {t : List Int} {i : Nat} (h : i < t.length) : at0 (fb n t) i = (n : Int) - 1 - at0 t (t.length - 1 - i) := by
  rw [fb, at0_map (by rw [List.length_reverse]; exact h), at0_rev h]
theorem fb_fb {n : Nat} {t : List Int} : fb n (fb n t) = t := by
  unfold fb
  rw [← List.map_reverse, List.map_map, List.reverse_reverse]
  refine (List.map_congr_left fun x _ => ?_).trans (List.map_id t)
  simp only [Function.comp, id]
  omega
theorem mt_tu {p q t : List Int} (m : Mt p q q.length t) : Mt (tu p) (tu q) (tu q).length (fb p.length t) := by
  have hl := tu_len q
  have ht : t.length = q.length := m.pl.len
  have bd : ∀ i, i < q.length → 0 ≤ at0 t i ∧ at0 t i < p.length := fun i hi => ⟨m.pl.lo _ (at0_mem (by omega)), m.pl.hi _ (at0_mem (by omega))⟩
  have key : ∀ i, i < q.length → pAt (tu p) (at0 (fb p.length t) i) = pAt p (at0 t (q.length - 1 - i)) := fun i hi => by
    have b := bd (q.length - 1 - i) (by omega)
    rw [fb_at (by omega), ht, pAt_at0, pAt_at0, tu, at0_rev (by omega)]
    congr 1
    omega
  refine ⟨⟨by rw [fb_len, ht, hl], fun x hx => ?_, fun x hx => ?_⟩, fun i j a b => ?_, fun i j hi hj => ?_⟩
  · obtain ⟨i, hi, rfl⟩ := mem_at0 hx
    rw [fb_len] at hi
    have b := bd (t.length - 1 - i) (by omega)
    rw [fb_at hi]
    omega
  · obtain ⟨i, hi, rfl⟩ := mem_at0 hx
    rw [fb_len] at hi
    have b := bd (t.length - 1 - i) (by omega)
    rw [fb_at hi, tu_len]
    omega
  · rw [hl] at b
    rw [fb_at (by omega), fb_at (by omega)]
    have := m.asc (t.length - 1 - j) (t.length - 1 - i) (by omega) (by omega)
    omega
  · rw [hl] at hi hj
    rw [key i hi, key j hj, tu, at0_rev hi, at0_rev hj]
    exact m.ord _ _ (by omega) (by omega)
theorem tu_tu {p : List Int} : tu (tu p) = p := List.reverse_reverse p
theorem sort_tu {p q : List Int} (ip : IsOrd p) (iq : IsOrd q) : sortD (((PL p q).map (fb p.length)).map ti) = (PL (tu p) (tu q)).map ti := by
  refine sortD_ti asc_PL ?_ fun t => ?_
  · refine List.pairwise_map.mpr (asc_PL.imp fun {a b} h e => ?_)
    have : a = b := by rw [← fb_fb (n := p.length) (t := a), e, fb_fb]
    subst this
    exact List.lt_irrefl _ h
  · rw [mem_PL (isOrd_tu ip) (isOrd_tu iq).nd, List.mem_map]
    constructor
    · rintro ⟨s, hs, rfl⟩
      exact mt_tu ((mem_PL ip iq.nd s).mp hs)
    · intro m
      have := mt_tu m
      rw [tu_tu, tu_tu, tu_len] at this
      exact ⟨fb p.length t, (mem_PL ip iq.nd _).mpr this, fb_fb⟩
/-! inverse -/
theorem inv_at {p : List Int} {j : Nat} (hj : j < p.length) : at0 (inv p) j = (p.idxOf ((j : Int) + 1) : Int) + 1 := by
  unfold at0
  rw [List.getD_eq_getElem?_getD, inv_get hj]
  rfl
theorem at_inv {p : List Int} (h : IsOrd p) {j : Nat} (hj : j < p.length) : 1 ≤ at0 (inv p) j ∧ at0 (inv p) j ≤ p.length ∧ at0 p (at0 (inv p) j - 1).toNat = (j : Int) + 1 := by
  have h1 := idx_lt h hj
  have h2 := get_idx h hj
  rw [inv_at hj]
  refine ⟨by omega, by omega, ?_⟩
  rw [show ((p.idxOf ((j : Int) + 1) : Int) + 1 - 1).toNat = p.idxOf ((j : Int) + 1) by omega]
  unfold at0
  rw [List.getD_eq_getElem?_getD, h2]
  rfl
theorem inv_of {p : List Int} (h : IsOrd p) {i : Nat} (hi : i < p.length) : at0 (inv p) (at0 p i - 1).toNat = (i : Int) + 1 := by
  have hm := at0_mem hi
  have h1 := h.lo _ hm
  have h2 := h.hi _ hm
  rw [inv_at (by omega), show (((at0 p i - 1).toNat : Nat) : Int) + 1 = at0 p i by omega]
  have := idx_get h (i := i) (x := at0 p i) (getD_get hi)
  rw [this]
theorem inv_inv {p : List Int} (h : IsOrd p) : inv (inv p) = p := by
  apply List.ext_getElem?
  intro k
  by_cases hk : k < p.length
  · have hk2 : k < (inv p).length := by rw [inv_len]; exact hk
    rw [inv_get hk2, getD_get hk]
    congr 1
    have hm := at0_mem hk
    have h1 := h.lo _ hm
    have h2 := h.hi _ hm
    have e := inv_of h hk
    have hx : (inv p)[(at0 p k - 1).toNat]? = some ((k : Int) + 1) := by
      rw [getD_get (q := inv p) (show (at0 p k - 1).toNat < (inv p).length by rw [inv_len]; omega)]
      exact congrArg some e
    rw [idx_get (isOrd_inv h) hx]
    show (((at0 p k - 1).toNat : Nat) : Int) + 1 = at0 p k
    omega
  · rw [List.getElem?_eq_none (by rw [inv_len, inv_len]; omega), List.getElem?_eq_none (by omega)]
/-- the places of the numbers -/
def ac (p q t : List Int) : List Int := (irange 0 q.length).map fun j => pAt p (at0 t (at0 (inv q) j.toNat - 1).toNat) - 1
theorem ac_len (p q t : List Int) : (ac p q t).length = q.length := by rw [ac, List.length_map, irange_len]
theorem ac_at {p q t : List Int} {j : Nat} (hj : j < q.length) : at0 (ac p q t) j = pAt p (at0 t (at0 (inv q) j - 1).toNat) - 1 := by
  have hi : at0 (irange 0 q.length) j = (j : Int) := by
    unfold at0
    rw [List.getD_eq_getElem?_getD, irange_get _ _ _ hj]
    show (0 : Int) + (j : Int) = j
    omega
  rw [ac, at0_map (by rw [irange_len]; exact hj), hi, Int.toNat_natCast]
theorem mt_ac {p q t : List Int} (ip : IsOrd p) (iq : IsOrd q) (m : Mt p q q.length t) : Mt (inv p) (inv q) (inv q).length (ac p q t) := by
  have hl := inv_len q
  have ht : t.length = q.length := m.pl.len
  have bd : ∀ i, i < q.length → 0 ≤ at0 t i ∧ at0 t i < p.length := fun i hi => ⟨m.pl.lo _ (at0_mem (by omega)), m.pl.hi _ (at0_mem (by omega))⟩
  have sg : ∀ j, j < q.length → (at0 (inv q) j - 1).toNat < q.length ∧ ((at0 (inv q) j - 1).toNat : Int) = at0 (inv q) j - 1 ∧ at0 q (at0 (inv q) j - 1).toNat = (j : Int) + 1 := fun j hj => by
    obtain ⟨h1, h2, h3⟩ := at_inv iq hj
    exact ⟨by omega, by omega, h3⟩
  have pb : ∀ j, j < q.length → 1 ≤ pAt p (at0 t (at0 (inv q) j - 1).toNat) ∧ pAt p (at0 t (at0 (inv q) j - 1).toNat) ≤ p.length := fun j hj => by
    have b := bd _ (sg j hj).1
    exact pAt_bd ip b.1 b.2
  have key : ∀ j, j < q.length → pAt (inv p) (at0 (ac p q t) j) = at0 t (at0 (inv q) j - 1).toNat + 1 := fun j hj => by
    have b := bd _ (sg j hj).1
    have e := inv_of ip (i := (at0 t (at0 (inv q) j - 1).toNat).toNat) (by omega)
    rw [ac_at hj, pAt_at0, pAt_at0, e]
    omega
  refine ⟨⟨by rw [ac_len, hl], fun x hx => ?_, fun x hx => ?_⟩, fun i j a b => ?_, fun i j hi hj => ?_⟩
  · obtain ⟨j, hj, rfl⟩ := mem_at0 hx
    rw [ac_len] at hj
    rw [ac_at hj]
    have := pb j hj
    omega
  · obtain ⟨j, hj, rfl⟩ := mem_at0 hx
    rw [ac_len] at hj
    rw [ac_at hj, inv_len]
    have := pb j hj
    omega
  · rw [hl] at b
    have hi : i < q.length := by omega
    rw [ac_at hi, ac_at b]
    have s1 := sg i hi
    have s2 := sg j b
    have := (m.ord _ _ s1.1 s2.1).mpr (by rw [s1.2.2, s2.2.2]; omega)
    omega
  · rw [hl] at hi hj
    rw [key i hi, key j hj]
    have s1 := sg i hi
    have s2 := sg j hj
    constructor
    · intro h
      by_cases z : at0 (inv q) i < at0 (inv q) j
      · exact z
      · exfalso
        by_cases w : at0 (inv q) i = at0 (inv q) j
        · rw [w] at h
          omega
        · have := m.asc (at0 (inv q) j - 1).toNat (at0 (inv q) i - 1).toNat (by omega) s1.1
          omega
    · intro h
      have := m.asc (at0 (inv q) i - 1).toNat (at0 (inv q) j - 1).toNat (by omega) s2.1
      omega
theorem ac_ac {p q t : List Int} (ip : IsOrd p) (iq : IsOrd q) (m : Mt p q q.length t) : ac (inv p) (inv q) (ac p q t) = t := by
  have ht : t.length = q.length := m.pl.len
  have bd : ∀ i, i < q.length → 0 ≤ at0 t i ∧ at0 t i < p.length := fun i hi => ⟨m.pl.lo _ (at0_mem (by omega)), m.pl.hi _ (at0_mem (by omega))⟩
  apply List.ext_getElem?
  intro k
  by_cases hk : k < q.length
  · rw [getD_get (q := ac (inv p) (inv q) (ac p q t)) (by rw [ac_len, inv_len]; exact hk), getD_get (q := t) (by omega)]
    congr 1
    have e1 := ac_at (p := inv p) (q := inv q) (t := ac p q t) (j := k) (by rw [inv_len]; exact hk)
    refine e1.trans ?_
    rw [inv_inv iq]
    have hm := at0_mem hk
    have h1 := iq.lo _ hm
    have h2 := iq.hi _ hm
    have b := bd k hk
    rw [ac_at (show (at0 q k - 1).toNat < q.length by omega), inv_of iq hk, show ((k : Int) + 1 - 1).toNat = k by omega, pAt_at0, pAt_at0, inv_of ip (i := (at0 t k).toNat) (by omega)]
    show (((at0 t k).toNat : Nat) : Int) + 1 - 1 = at0 t k
    omega
  · rw [List.getElem?_eq_none (by rw [ac_len, inv_len]; omega), List.getElem?_eq_none (by omega)]
theorem ac_sort {p q t : List Int} (ip : IsOrd p) (iq : IsOrd q) (m : Mt p q q.length t) : sortD ((t.map fun x => pAt p x - 1).map .int) = (ac p q t).map .int := by
  have ht : t.length = q.length := m.pl.len
  have m2 := mt_ac ip iq m
  have asc : (ac p q t).Pairwise (· < ·) := by
    rw [List.pairwise_iff_getElem]
    intro i j hi hj hij
    have := m2.asc i j hij (by rw [m2.pl.len] at hj; exact hj)
    unfold at0 at this
    rw [List.getD_eq_getElem?_getD, List.getD_eq_getElem?_getD, List.getElem?_eq_getElem hi, List.getElem?_eq_getElem hj] at this
    exact this
  refine sortD_ints ?_ (asc.imp fun {a b} h => Int.le_of_lt h)
  have nd2 : (ac p q t).Nodup := asc.imp fun {a b} h => by omega
  refine (perm_of_sub nd2 ?_ (fun x hx => ?_) (by rw [List.length_map, ac_len, ht]; exact Nat.le_refl _)).symm
  · rw [List.Nodup, List.pairwise_map, List.pairwise_iff_getElem]
    intro i j hi hj hij e
    have hi' : i < q.length := by omega
    have hj' : j < q.length := by omega
    have e2 : at0 t i = t[i] := by
      unfold at0
      rw [List.getD_eq_getElem?_getD, List.getElem?_eq_getElem hi]
      rfl
    have e3 : at0 t j = t[j] := by
      unfold at0
      rw [List.getD_eq_getElem?_getD, List.getElem?_eq_getElem hj]
      rfl
    have o1 := m.ord i j hi' hj'
    have o2 := m.ord j i hj' hi'
    rw [e2, e3] at o1 o2
    have hne : at0 q i ≠ at0 q j := fun w => by
      have := at0_inj iq.nd hi' hj' w
      omega
    rcases Int.lt_or_gt_of_ne hne with z | z
    · have := o1.mpr z
      omega
    · have := o2.mpr z
      omega
  · obtain ⟨j, hj, rfl⟩ := mem_at0 hx
    rw [ac_len] at hj
    rw [ac_at hj]
    obtain ⟨h1, h2, h3⟩ := at_inv iq hj
    exact List.mem_map.mpr ⟨_, at0_mem (show (at0 (inv q) j - 1).toNat < t.length by omega), rfl⟩
theorem sort_inv {p q : List Int} (ip : IsOrd p) (iq : IsOrd q) : sortD (((PL p q).map (ac p q)).map ti) = (PL (inv p) (inv q)).map ti := by
  refine sortD_ti asc_PL ?_ fun t => ?_
  · refine List.pairwise_map.mpr (List.Pairwise.imp_of_mem (fun {a b} ha hb h e => ?_) asc_PL)
    have : a = b := by rw [← ac_ac ip iq ((mem_PL ip iq.nd a).mp ha), e, ac_ac ip iq ((mem_PL ip iq.nd b).mp hb)]
    subst this
    exact List.lt_irrefl _ h
  · rw [mem_PL (isOrd_inv ip) (isOrd_inv iq).nd, List.mem_map]
    constructor
    · rintro ⟨s, hs, rfl⟩
      exact mt_ac ip iq ((mem_PL ip iq.nd s).mp hs)
    · intro m
      have h1 := mt_ac (isOrd_inv ip) (isOrd_inv iq) m
      have h2 := ac_ac (isOrd_inv ip) (isOrd_inv iq) m
      rw [inv_inv ip, inv_inv iq] at h1 h2
      exact ⟨_, (mem_PL ip iq.nd _).mpr h1, h2⟩
end Z
set_option Elab.async false
set_option linter.all false
set_option maxRecDepth 100000
set_option autoImplicit false
set_option maxHeartbeats 1000000
namespace Z
open PySem PySem.Spec PyProof.Rows L2
theorem inv_tu {p : List Int} (h : IsOrd p) : inv (tu p) = mi (inv p) := by
  apply List.ext_getElem?
  intro k
  by_cases hk : k < p.length
  · rw [getD_get (q := inv (tu p)) (by rw [inv_len, tu_len]; exact hk), getD_get (q := mi (inv p)) (by rw [mi_len, inv_len]; exact hk)]
    obtain ⟨h1, h2, h3⟩ := at_inv h hk
    have e1 := inv_of (isOrd_tu h) (i := p.length - 1 - (at0 (inv p) k - 1).toNat) (by rw [tu_len]; omega)
    have e2 : at0 (tu p) (p.length - 1 - (at0 (inv p) k - 1).toNat) = (k : Int) + 1 := by
      rw [tu, at0_rev (by omega), ← h3]
      congr 1
      omega
    rw [e2, show ((k : Int) + 1 - 1).toNat = k by omega] at e1
    have e3 : at0 (mi (inv p)) k = (p.length : Int) + 1 - at0 (inv p) k := by
      rw [mi, at0_map (by rw [inv_len]; exact hk), inv_len]
    congr 1
    refine e1.trans (Eq.trans ?_ e3.symm)
    omega
  · rw [List.getElem?_eq_none (by rw [inv_len, tu_len]; omega), List.getElem?_eq_none (by rw [mi_len, inv_len]; omega)]
theorem inv_mi {p : List Int} (h : IsOrd p) : inv (mi p) = tu (inv p) := by
  have e := inv_tu (isOrd_inv h)
  rw [inv_inv h] at e
  rw [← e, inv_inv (isOrd_tu (isOrd_inv h))]
theorem tu_mi (p : List Int) : tu (mi p) = mi (tu p) := by
  unfold tu mi
  rw [← List.map_reverse, List.length_reverse]
theorem around2 {p : List Int} (h : IsOrd p) : inv (tu (inv (tu p))) = mi (tu p) := by
  rw [inv_tu h, tu_mi, inv_mi (isOrd_tu (isOrd_inv h)), inv_tu (isOrd_inv h), inv_inv h, tu_mi]
theorem around4 {p : List Int} (h : IsOrd p) : inv (tu (inv (tu (inv (tu (inv (tu p))))))) = p := by
  rw [around2 h, around2 (isOrd_mi (isOrd_tu h)), tu_mi, mi_mi, tu_tu]
theorem inv_tu_inv {p : List Int} (h : IsOrd p) : inv (tu (inv p)) = mi p := by rw [inv_tu (isOrd_inv h), inv_inv h]
theorem sorted_some (p : List Int) : ∃ s : List Int, sortD (p.map .int) = s.map .int ∧ s.Perm p := by
  refine ⟨p.mergeSort fun a b => decide (a ≤ b), sortD_ints (List.mergeSort_perm p _).symm ?_, List.mergeSort_perm p _⟩
  have := List.pairwise_mergeSort (le := fun a b : Int => decide (a ≤ b)) (fun a b c h1 h2 => by
    have h1 := of_decide_eq_true h1
    have h2 := of_decide_eq_true h2
    exact decide_eq_true (Int.le_trans h1 h2)) (fun a b => by
    rcases Int.le_total a b with z | z
    · rw [decide_eq_true z]; rfl
    · rw [decide_eq_true z, Bool.or_true]) p
  exact this.imp fun {a b} h => of_decide_eq_true h
end Z
set_option Elab.async false
set_option linter.all false
set_option maxRecDepth 100000
set_option autoImplicit false
set_option maxHeartbeats 1000000
namespace Z
open PySem PySem.Spec PyProof.Rows L2
/-! ### like, of an order, of one that is lifted -/
def sft (k : Int) (c : List Int) : List Int := c.map fun x => x + k
theorem sft_len (k : Int) (c : List Int) : (sft k c).length = c.length := List.length_map ..
theorem sft_sft (j k : Int) (c : List Int) : sft j (sft k c) = sft (k + j) c := by
  unfold sft
  rw [List.map_map]
  apply List.map_congr_left
  intro x _
  simp only [Function.comp]
  omega
theorem sft_zero (c : List Int) : sft 0 c = c := by
  unfold sft
  exact (List.map_congr_left fun x _ => by simp only [id]; omega).trans (List.map_id c)
theorem cnt_range (y : Int) : ∀ n : Nat, 1 ≤ y → y ≤ n + 1 → ((irange 1 n).filter fun x => decide (x < y)).length = (y - 1).toNat
  | 0, h1, h2 => by
    rw [irange_zero]
    simp
    omega
  | n + 1, h1, h2 => by
    rw [irange_snoc, List.filter_append, List.length_append]
    by_cases h : y ≤ n + 1
    · rw [cnt_range y n h1 h, List.filter_cons_of_neg (by simp; omega)]
      rfl
    · have e : y = (n : Int) + 2 := by omega
      rw [List.filter_cons_of_pos (by simp; omega)]
      have : (irange 1 n).filter (fun x => decide (x < y)) = irange 1 n := List.filter_eq_self.mpr fun x hx => by
        have := irange_mem.mp hx
        simp
        omega
      rw [this, irange_len]
      simp
      omega
theorem like_ord {p : List Int} (h : IsOrd p) : like p = p := by
  unfold like
  refine (List.map_congr_left fun y hy => ?_).trans (List.map_id p)
  have h1 := h.lo y hy
  have h2 := h.hi y hy
  have := (h.perm.filter fun x => decide (x < y)).length_eq
  rw [this, cnt_range y p.length h1 (by omega)]
  simp only [id]
  omega
theorem like_sft (k : Int) (c : List Int) : like (sft k c) = like c := by
  unfold like sft
  rw [List.map_map]
  apply List.map_congr_left
  intro y _
  simp only [Function.comp]
  congr 2
  rw [List.filter_map, List.length_map]
  congr 1
  apply List.filter_congr
  intro x _
  simp only [Function.comp]
  by_cases h : x < y
  · rw [decide_eq_true h, decide_eq_true (by omega)]
  · rw [decide_eq_false h, decide_eq_false (by omega)]
theorem like_lifted {c : List Int} {k : Int} (h : IsOrd (sft (-k) c)) : like c = sft (-k) c := by
  have := like_sft (-k) c
  rw [← this, like_ord h]
/-! ### cuts -/
def cut (p : List Int) (s : Nat) : Bool := (p.take s).all fun x => decide (x ≤ (s : Int))
theorem cut_iff {p : List Int} {s : Nat} : cut p s = true ↔ ∀ x ∈ p.take s, x ≤ s := by
  unfold cut
  rw [List.all_eq_true]
  exact ⟨fun h x hx => of_decide_eq_true (h x hx), fun h x hx => decide_eq_true (h x hx)⟩
theorem take_ord {p : List Int} {s : Nat} (h : IsOrd p) (hs : s ≤ p.length) (hc : cut p s = true) : IsOrd (p.take s) :=
  ⟨h.nd.sublist (List.take_sublist _ _), fun x hx => h.lo x (List.mem_of_mem_take hx), fun x hx => by
    have := cut_iff.mp hc x hx
    rw [List.length_take]
    omega⟩
theorem drop_gt {p : List Int} {s : Nat} (h : IsOrd p) (hs : s ≤ p.length) (hc : cut p s = true) : ∀ x ∈ p.drop s, (s : Int) < x := by
  intro x hx
  by_cases z : (s : Int) < x
  · exact z
  · exfalso
    have ht := take_ord h hs hc
    have hl : (p.take s).length = s := by rw [List.length_take]; omega
    have hm : x ∈ p.take s := ht.mem (h.lo x (List.mem_of_mem_drop hx)) (by rw [hl]; omega)
    have nd := h.nd
    rw [← List.take_append_drop s p] at nd
    exact (List.nodup_append.mp nd).2.2 x hm x hx rfl
theorem drop_ord {p : List Int} {s : Nat} (h : IsOrd p) (hs : s ≤ p.length) (hc : cut p s = true) : IsOrd (sft (-(s : Int)) (p.drop s)) := by
  refine ⟨?_, fun x hx => ?_, fun x hx => ?_⟩
  · unfold sft
    exact List.pairwise_map.mpr ((h.nd.sublist (List.drop_sublist _ _)).imp fun {a b} e => by omega)
  · obtain ⟨y, hy, rfl⟩ := List.mem_map.mp hx
    have := drop_gt h hs hc y hy
    omega
  · obtain ⟨y, hy, rfl⟩ := List.mem_map.mp hx
    have := h.hi y (List.mem_of_mem_drop hy)
    rw [sft_len, List.length_drop]
    omega
theorem cut_all {p : List Int} (h : IsOrd p) : cut p p.length = true := cut_iff.mpr fun x hx => h.hi x (List.mem_of_mem_take hx)
/-- a cut further on -/
theorem cut_add {p : List Int} {s t : Nat} (h : IsOrd p) (hs : s ≤ p.length) (hc : cut p s = true) : cut p (s + t) = cut (sft (-(s : Int)) (p.drop s)) t := by
  have e : p.take (s + t) = p.take s ++ (p.drop s).take t := by rw [List.take_add]
  apply Bool.eq_iff_iff.mpr
  rw [cut_iff, cut_iff, e]
  constructor
  · intro k x hx
    unfold sft at hx
    rw [← List.map_take] at hx
    obtain ⟨y, hy, rfl⟩ := List.mem_map.mp hx
    have := k y (List.mem_append_right _ hy)
    omega
  · intro k x hx
    rcases List.mem_append.mp hx with hx | hx
    · have := cut_iff.mp hc x hx
      omega
    · have := k (x + -(s : Int)) (by
        unfold sft
        rw [← List.map_take]
        exact List.mem_map.mpr ⟨x, hx, rfl⟩)
      omega
/-- the first cut, from s on -/
def fcut (p : List Int) : Nat → Nat → Nat
  | s, 0 => s
  | s, n + 1 => if cut p s = true then s else fcut p (s + 1) n
theorem fcut_spec {p : List Int} (h : IsOrd p) : ∀ (n s : Nat), s + n = p.length → s ≤ fcut p s n ∧ fcut p s n ≤ p.length ∧ cut p (fcut p s n) = true ∧ ∀ t, s ≤ t → t < fcut p s n → cut p t = false
  | 0, s, e => by
    have : s = p.length := by omega
    subst this
    exact ⟨Nat.le_refl _, Nat.le_refl _, cut_all h, fun t h1 h2 => absurd h1 (Nat.not_le.mpr h2)⟩
  | n + 1, s, e => by
    unfold fcut
    by_cases c : cut p s = true
    · rw [if_pos c]
      exact ⟨Nat.le_refl _, by omega, c, fun t h1 h2 => absurd h1 (Nat.not_le.mpr h2)⟩
    · rw [if_neg c]
      obtain ⟨a1, a2, a3, a4⟩ := fcut_spec h n (s + 1) (by omega)
      refine ⟨by omega, a2, a3, fun t h1 h2 => ?_⟩
      by_cases z : t = s
      · rw [z]
        exact eq_false_of_ne_true c
      · exact a4 t (by omega) h2
def cut1 (p : List Int) : Nat := fcut p 1 (p.length - 1)
theorem cut1_spec {p : List Int} (h : IsOrd p) (hne : p ≠ []) : 1 ≤ cut1 p ∧ cut1 p ≤ p.length ∧ cut p (cut1 p) = true ∧ ∀ t, 1 ≤ t → t < cut1 p → cut p t = false := by
  have : 1 ≤ p.length := by
    cases p with
    | nil => exact absurd rfl hne
    | cons _ _ => simp
  exact fcut_spec h (p.length - 1) 1 (by omega)
/-- the parts of a sum -/
def pts : Nat → List Int → List (List Int)
  | 0, _ => []
  | n + 1, p => if p = [] then [] else p.take (cut1 p) :: pts n (sft (-(cut1 p : Int)) (p.drop (cut1 p)))
end Z
set_option Elab.async false
set_option linter.all false
set_option maxRecDepth 100000
set_option autoImplicit false
set_option maxHeartbeats 1000000
namespace Z
open PySem PySem.Spec PyProof.Rows L2
theorem pts_stable : ∀ (m n : Nat) (p : List Int), IsOrd p → p.length ≤ m → p.length ≤ n → pts m p = pts n p
  | 0, n, p, h, hm, hn => by
    have : p = [] := List.eq_nil_of_length_eq_zero (by omega)
    subst this
    cases n with
    | zero => rfl
    | succ n =>
      unfold pts
      rw [if_pos rfl]
  | m + 1, 0, p, h, hm, hn => by
    have : p = [] := List.eq_nil_of_length_eq_zero (by omega)
    subst this
    unfold pts
    rw [if_pos rfl]
  | m + 1, n + 1, p, h, hm, hn => by
    unfold pts
    by_cases e : p = []
    · rw [if_pos e, if_pos e]
    · rw [if_neg e, if_neg e]
      obtain ⟨c1, c2, c3, c4⟩ := cut1_spec h e
      rw [pts_stable m n _ (drop_ord h c2 c3) (by rw [sft_len, List.length_drop]; omega) (by rw [sft_len, List.length_drop]; omega)]
def Pp (p : List Int) : List (List Int) := pts p.length p
theorem Pp_nil : Pp [] = [] := rfl
theorem Pp_cons {p : List Int} (h : IsOrd p) (hne : p ≠ []) : Pp p = p.take (cut1 p) :: Pp (sft (-(cut1 p : Int)) (p.drop (cut1 p))) := by
  obtain ⟨c1, c2, c3, c4⟩ := cut1_spec h hne
  have hl : p.length = (p.length - 1) + 1 := by omega
  have e1 : Pp p = pts ((p.length - 1) + 1) p := by rw [← hl]; rfl
  have e2 : pts ((p.length - 1) + 1) p = if p = [] then [] else p.take (cut1 p) :: pts (p.length - 1) (sft (-(cut1 p : Int)) (p.drop (cut1 p))) := rfl
  rw [e1, e2, if_neg hne]
  congr 1
  exact pts_stable _ _ _ (drop_ord h c2 c3) (by rw [sft_len, List.length_drop]; omega) (Nat.le_refl _)
/-- the first cut told by what it is -/
theorem cut1_eq {p : List Int} (h : IsOrd p) {s : Nat} (h1 : 1 ≤ s) (h2 : s ≤ p.length) (h3 : cut p s = true) (h4 : ∀ t, 1 ≤ t → t < s → cut p t = false) : cut1 p = s := by
  have hne : p ≠ [] := fun z => by
    rw [z] at h2
    simp at h2
    omega
  obtain ⟨c1, c2, c3, c4⟩ := cut1_spec h hne
  rcases Nat.lt_trichotomy (cut1 p) s with z | z | z
  · have := h4 _ c1 z
    rw [c3] at this
    cases this
  · exact z
  · have := c4 s h1 z
    rw [h3] at this
    cases this
/-! greatest so far -/
def gm (p : List Int) : Nat → Int
  | 0 => 0
  | i + 1 => if p.getD i 0 > gm p i then p.getD i 0 else gm p i
theorem gm_ge {p : List Int} : ∀ {i : Nat}, i ≤ p.length → ∀ x ∈ p.take i, x ≤ gm p i
  | 0, _, x, hx => by
    rw [List.take_zero] at hx
    cases hx
  | i + 1, hi, x, hx => by
    have e : p.take (i + 1) = p.take i ++ [p.getD i 0] := by
      rw [List.take_add_one, getD_get (show i < p.length by omega)]
      rfl
    rw [e] at hx
    unfold gm
    rcases List.mem_append.mp hx with z | z
    · have := gm_ge (i := i) (by omega) x z
      split <;> omega
    · rw [List.mem_singleton.mp z]
      split <;> omega
theorem gm_mem {p : List Int} : ∀ {i : Nat}, i ≤ p.length → gm p i = 0 ∨ gm p i ∈ p.take i
  | 0, _ => .inl rfl
  | i + 1, hi => by
    have e : p.take (i + 1) = p.take i ++ [p.getD i 0] := by
      rw [List.take_add_one, getD_get (show i < p.length by omega)]
      rfl
    rw [e]
    unfold gm
    split
    · exact .inr (List.mem_append_right _ (List.mem_singleton.mpr rfl))
    · rcases gm_mem (p := p) (i := i) (by omega) with z | z
      · exact .inl z
      · exact .inr (List.mem_append_left _ z)
theorem gm_cut {p : List Int} (h : IsOrd p) {i : Nat} (hi : i < p.length) : (gm p (i + 1) = (i : Int) + 1) ↔ cut p (i + 1) = true := by
  rw [cut_iff]
  constructor
  · intro e x hx
    have := gm_ge (show i + 1 ≤ p.length by omega) x hx
    omega
  · intro k
    have hl : (p.take (i + 1)).length = i + 1 := by rw [List.length_take]; omega
    have hge : ((i : Int) + 1) ≤ gm p (i + 1) := by
      have nd := h.nd.sublist (List.take_sublist (i + 1) p)
      have := List.Nodup.length_le_of_subset nd (l₂ := irange 1 (gm p (i + 1)).toNat) fun x hx => irange_mem.mpr ⟨h.lo x (List.mem_of_mem_take hx), by
        have := gm_ge (show i + 1 ≤ p.length by omega) x hx
        omega⟩
      rw [hl, irange_len] at this
      omega
    rcases gm_mem (p := p) (show i + 1 ≤ p.length by omega) with z | z
    · omega
    · have := k _ z
      omega
theorem fCutT_mid (xs : List D) (a b : Nat) (hab : a ≤ b) (hb : b ≤ xs.length) : fCutT (.tuple xs) (some (a : Int)) (some (b : Int)) = some (.tuple ((xs.drop a).take (b - a))) := by
  show some (PyData.tuple (cutD xs (some (a : Int)) (some (b : Int)))) = _
  unfold cutD
  rw [HT.sIx_nat, HT.sIx_nat, Nat.min_eq_left (show a ≤ xs.length by omega), Nat.min_eq_left hb]
theorem fCutT_from (xs : List D) (a : Nat) (ha : a ≤ xs.length) : fCutT (.tuple xs) (some (a : Int)) none = some (.tuple (xs.drop a)) := by
  show some (PyData.tuple (cutD xs (some (a : Int)) none)) = _
  unfold cutD
  rw [HT.sIx_nat, HT.sIx_none, Nat.min_eq_left ha, List.take_of_length_le (by rw [List.length_drop]; omega)]
/-- a loop that is left at the first thing that does -/
theorem forG_find {t : Tg} {ms : List Nat} {b : M Fl} {g g2 : En} {x : D} {l2 : List D} : ∀ (l1 : List D), (∀ y ∈ l1, ∃ g1 g1', setT t y g = some g1 ∧ b g1 = .ok .nx g1' ∧ fgt ms g1' = g) → (∃ g1, setT t x g = some g1 ∧ b g1 = .ok .bk g2) → forG t ms b (l1 ++ x :: l2) g = .ok .nx (fgt ms g2)
  | [], _, ⟨g1, h1, h2⟩ => by
    rw [List.nil_append, forG, h1]
    dsimp only
    rw [h2]
  | y :: l1, h, hx => by
    obtain ⟨g1, g1', k1, k2, k3⟩ := h y List.mem_cons_self
    rw [List.cons_append, forG, k1]
    dsimp only
    rw [k2]
    dsimp only
    rw [k3]
    exact forG_find l1 (fun z hz => h z (List.mem_cons_of_mem _ hz)) hx
theorem irange_split (a : Int) (n s : Nat) (h : s < n) : irange a n = irange a s ++ (a + s) :: irange (a + s + 1) (n - s - 1) := by
  apply List.ext_getElem?
  intro i
  by_cases hi : i < n
  · rw [irange_get _ _ _ hi]
    by_cases h1 : i < s
    · rw [List.getElem?_append_left (by rw [irange_len]; exact h1), irange_get _ _ _ h1]
    · rw [List.getElem?_append_right (by rw [irange_len]; omega), irange_len]
      by_cases h2 : i = s
      · subst h2
        rw [Nat.sub_self]
        rfl
      · rw [show i - s = (i - s - 1) + 1 by omega, List.getElem?_cons_succ, irange_get _ _ _ (by omega)]
        congr 1
        omega
  · rw [List.getElem?_eq_none (by rw [irange_len]; omega), List.getElem?_eq_none (by rw [List.length_append, List.length_cons, irange_len, irange_len]; omega)]
end Z
set_option Elab.async false
set_option linter.all false
set_option maxRecDepth 100000
set_option autoImplicit false
set_option maxHeartbeats 1000000
namespace Z
open PySem PySem.Spec PyProof.Rows L2
def sm (p q : List Int) : List Int := p ++ sft p.length q
def sk (p q : List Int) : List Int := sft q.length p ++ q
theorem Pp_ind {P : List Int → Prop} (h0 : P []) (hs : ∀ p, IsOrd p → p ≠ [] → P (sft (-(cut1 p : Int)) (p.drop (cut1 p))) → P p) : ∀ (n : Nat) (p : List Int), p.length ≤ n → IsOrd p → P p
  | n, [], _, _ => h0
  | 0, a :: p, h, _ => absurd h (by simp)
  | n + 1, a :: p, h, ip => by
    have hne : a :: p ≠ [] := List.cons_ne_nil _ _
    obtain ⟨c1, c2, c3, c4⟩ := cut1_spec ip hne
    refine hs _ ip hne (Pp_ind h0 hs n _ ?_ (drop_ord ip c2 c3))
    rw [sft_len, List.length_drop]
    omega
theorem Pp_mem {p : List Int} (ip : IsOrd p) : ∀ c ∈ Pp p, IsOrd c ∧ c.length ≤ p.length := by
  refine Pp_ind (P := fun p => ∀ c ∈ Pp p, IsOrd c ∧ c.length ≤ p.length) (fun c h => by cases h) (fun p ip hne ih c hc => ?_) p.length p (Nat.le_refl _) ip
  obtain ⟨c1, c2, c3, c4⟩ := cut1_spec ip hne
  rw [Pp_cons ip hne] at hc
  rcases List.mem_cons.mp hc with e | e
  · rw [e]
    exact ⟨take_ord ip c2 c3, by rw [List.length_take]; omega⟩
  · have := ih c e
    rw [sft_len, List.length_drop] at this
    exact ⟨this.1, by omega⟩
theorem Pp_count {p : List Int} (ip : IsOrd p) : (Pp p).length ≤ p.length := by
  refine Pp_ind (P := fun p => (Pp p).length ≤ p.length) (Nat.le_refl _) (fun p ip hne ih => ?_) p.length p (Nat.le_refl _) ip
  obtain ⟨c1, c2, c3, c4⟩ := cut1_spec ip hne
  rw [sft_len, List.length_drop] at ih
  rw [Pp_cons ip hne, List.length_cons]
  omega
theorem sft_app (k : Int) (a b : List Int) : sft k (a ++ b) = sft k a ++ sft k b := List.map_append
theorem sm_assoc (a b c : List Int) : sm (sm a b) c = sm a (sm b c) := by
  unfold sm
  rw [sft_app, sft_sft, List.append_assoc, List.length_append, sft_len]
  congr 3
  omega
theorem sm_nil (a : List Int) : sm a [] = a := by
  unfold sm
  exact List.append_nil _
theorem nil_sm (a : List Int) : sm [] a = a := by
  unfold sm
  exact sft_zero a
theorem sm_parts {p : List Int} (ip : IsOrd p) (hne : p ≠ []) : sm (p.take (cut1 p)) (sft (-(cut1 p : Int)) (p.drop (cut1 p))) = p := by
  obtain ⟨c1, c2, c3, c4⟩ := cut1_spec ip hne
  unfold sm
  rw [sft_sft, List.length_take, Nat.min_eq_left c2, show (-(cut1 p : Int) + (cut1 p : Int)) = 0 by omega, sft_zero, List.take_append_drop]
theorem fold_sm {p : List Int} (ip : IsOrd p) : ∀ a, (Pp p).foldl sm a = sm a p := by
  refine Pp_ind (P := fun p => ∀ a, (Pp p).foldl sm a = sm a p) (fun a => (sm_nil a).symm) (fun p ip hne ih a => ?_) p.length p (Nat.le_refl _) ip
  rw [Pp_cons ip hne, List.foldl_cons, ih, sm_assoc, sm_parts ip hne]
theorem mi_sm (a b : List Int) : mi (sm a b) = sk (mi a) (mi b) := by
  unfold mi sm sk sft
  rw [List.map_append, List.map_map, List.map_map, List.length_append, List.length_map, List.length_map]
  congr 1
  · apply List.map_congr_left
    intro x _
    simp only [Function.comp]
    omega
  · apply List.map_congr_left
    intro x _
    simp only [Function.comp]
    omega
theorem fold_sk (L : List (List Int)) : ∀ a, (L.map mi).foldl sk (mi a) = mi (L.foldl sm a) := by
  induction L with
  | nil => exact fun a => rfl
  | cons c L ih =>
    intro a
    rw [List.map_cons, List.foldl_cons, List.foldl_cons, ← mi_sm]
    exact ih _
theorem fold_skew {p : List Int} (ip : IsOrd p) : ((Pp (mi p)).map mi).foldl sk [] = p := by
  have := fold_sk (Pp (mi p)) []
  rw [fold_sm (isOrd_mi ip), nil_sm, mi_mi] at this
  exact this
theorem cut_lt {p : List Int} (ip : IsOrd p) (h : 1 < (Pp p).length) : ∃ s, 1 ≤ s ∧ s < p.length ∧ cut p s = true := by
  have hne : p ≠ [] := fun z => by
    subst z
    simp [Pp_nil] at h
  obtain ⟨c1, c2, c3, c4⟩ := cut1_spec ip hne
  refine ⟨cut1 p, c1, ?_, c3⟩
  rcases Nat.lt_or_ge (cut1 p) p.length with z | z
  · exact z
  · rw [Pp_cons ip hne, List.drop_eq_nil_of_le z] at h
    have : sft (-(cut1 p : Int)) [] = [] := rfl
    rw [this, Pp_nil] at h
    simp at h
theorem not_both {p : List Int} (ip : IsOrd p) (h1 : 1 < (Pp p).length) (h2 : 1 < (Pp (mi p)).length) : False := by
  obtain ⟨s, s1, s2, s3⟩ := cut_lt ip h1
  obtain ⟨t, t1, t2, t3⟩ := cut_lt (isOrd_mi ip) h2
  rw [mi_len] at t2
  have k2 : ∀ x ∈ p.take t, (p.length : Int) + 1 - x ≤ t := fun x hx => cut_iff.mp t3 _ (by
    unfold mi
    rw [← List.map_take]
    exact List.mem_map.mpr ⟨x, hx, rfl⟩)
  have o1 := take_ord ip (Nat.le_of_lt s2) s3
  have o2 := take_ord (isOrd_mi ip) (by rw [mi_len]; omega) t3
  have l1 : (p.take s).length = s := by rw [List.length_take]; omega
  have l2 : ((mi p).take t).length = t := by rw [List.length_take, mi_len]; omega
  rcases Nat.le_total s t with z | z
  · have m := o1.mem (x := 1) (by omega) (by rw [l1]; omega)
    have := k2 1 (by
      have e : p.take s = (p.take t).take s := by rw [List.take_take, Nat.min_eq_left z]
      rw [e] at m
      exact List.mem_of_mem_take m)
    omega
  · have m := o2.mem (x := 1) (by omega) (by rw [l2]; omega)
    unfold mi at m
    rw [← List.map_take] at m
    obtain ⟨x, hx, e⟩ := List.mem_map.mp m
    have e3 : p.take t = (p.take s).take t := by rw [List.take_take, Nat.min_eq_left z]
    rw [e3] at hx
    have := cut_iff.mp s3 x (List.mem_of_mem_take hx)
    omega
end Z
set_option Elab.async false
set_option linter.all false
set_option maxRecDepth 100000
set_option autoImplicit false
set_option maxHeartbeats 1000000
namespace Z
open PySem PySem.Spec PyProof.Rows L2
theorem irange_sft (k a : Int) : ∀ n : Nat, sft k (irange a n) = irange (a + k) n := fun n => by
  apply List.ext_getElem?
  intro i
  unfold sft
  rw [List.getElem?_map]
  by_cases h : i < n
  · rw [irange_get _ _ _ h, irange_get _ _ _ h]
    show some (a + (i : Int) + k) = some (a + k + i)
    congr 1
    omega
  · rw [List.getElem?_eq_none (by rw [irange_len]; omega), List.getElem?_eq_none (by rw [irange_len]; omega)]
    rfl
def due (k : Bool) (n t : Nat) : List Int := if k then irange ((n : Int) - t + 1) t else irange 1 t
def spl (k : Bool) (p : List Int) : List (List Int) := if k then (Pp (mi p)).map mi else Pp p
theorem spl_nil (k : Bool) : spl k [] = [] := by
  cases k <;> rfl
theorem take_sk {r : List Int} {s : Nat} (hs : s ≤ r.length) : r.take s = sft ((r.length : Int) - s) (mi ((mi r).take s)) := by
  unfold sft mi
  rw [← List.map_take, List.map_map, List.map_map, List.length_map, List.length_take, Nat.min_eq_left hs]
  conv => lhs; rw [← List.map_id (r.take s)]
  apply List.map_congr_left
  intro x _
  simp only [Function.comp, id]
  omega
theorem drop_sk {r : List Int} {s : Nat} (hs : s ≤ r.length) : r.drop s = mi (sft (-(s : Int)) ((mi r).drop s)) := by
  unfold sft mi
  rw [← List.map_drop, List.map_map, List.map_map, List.length_map, List.length_map, List.length_drop]
  conv => lhs; rw [← List.map_id (r.drop s)]
  apply List.map_congr_left
  intro x _
  simp only [Function.comp, id]
  omega
theorem sorted_le (a : Int) (n : Nat) : (irange a n).Pairwise (· ≤ ·) := (irange_sorted a n).imp fun {a b} h => Int.le_of_lt h
theorem spl_step (k : Bool) {r : List Int} (ir : IsOrd r) (hne : r ≠ []) : ∃ s, 1 ≤ s ∧ s ≤ r.length ∧ sortD ((r.take s).map .int) = (due k r.length s).map .int ∧ (∀ t, 1 ≤ t → t < s → ∃ m : List Int, sortD ((r.take t).map .int) = m.map .int ∧ m ≠ due k r.length t) ∧ IsOrd (like (r.drop s)) ∧ (like (r.drop s)).length = r.length - s ∧ spl k r = like (r.take s) :: spl k (like (r.drop s)) := by
  cases k with
  | false =>
    obtain ⟨c1, c2, c3, c4⟩ := cut1_spec ir hne
    have o1 := take_ord ir c2 c3
    have o2 := drop_ord ir c2 c3
    have lt := like_ord o1
    have ld := like_lifted o2
    refine ⟨cut1 r, c1, c2, ?_, fun t t1 t2 => ?_, by rw [ld]; exact o2, by rw [ld, sft_len, List.length_drop], by rw [lt, ld]; exact Pp_cons ir hne⟩
    · have hp := o1.perm
      rw [List.length_take, Nat.min_eq_left c2] at hp
      exact sortD_ints hp (sorted_le _ _)
    · obtain ⟨m, m1, m2⟩ := sorted_some (r.take t)
      refine ⟨m, m1, fun e => ?_⟩
      have hc := c4 t t1 t2
      have : cut r t = true := cut_iff.mpr fun x hx => by
        have := m2.mem_iff.mpr hx
        rw [e] at this
        have := irange_mem.mp this
        omega
      rw [hc] at this
      cases this
  | true =>
    have hne' : mi r ≠ [] := fun z => hne (List.eq_nil_of_length_eq_zero (by rw [← mi_len r, z]; rfl))
    obtain ⟨c1, c2, c3, c4⟩ := cut1_spec (isOrd_mi ir) hne'
    have o1 := isOrd_mi (take_ord (isOrd_mi ir) c2 c3)
    have o2 := isOrd_mi (drop_ord (isOrd_mi ir) c2 c3)
    have l1 : (mi ((mi r).take (cut1 (mi r)))).length = cut1 (mi r) := by rw [mi_len, List.length_take, Nat.min_eq_left c2]
    rw [mi_len] at c2
    have lt : like (r.take (cut1 (mi r))) = mi ((mi r).take (cut1 (mi r))) := by rw [take_sk c2, like_sft, like_ord o1]
    have ed := drop_sk c2
    have ld : like (r.drop (cut1 (mi r))) = r.drop (cut1 (mi r)) := by
      rw [← ed] at o2
      exact like_ord o2
    refine ⟨cut1 (mi r), c1, c2, ?_, fun t t1 t2 => ?_, by rw [ld, ed]; exact o2, by rw [ld, List.length_drop], ?_⟩
    · have hp := o1.perm.map fun x => x + ((r.length : Int) - cut1 (mi r))
      rw [l1] at hp
      have e1 := take_sk c2
      have e2 := irange_sft ((r.length : Int) - cut1 (mi r)) 1 (cut1 (mi r))
      unfold sft at e1 e2
      rw [← e1, e2] at hp
      have := sortD_ints hp (sorted_le _ _)
      rw [this]
      unfold due
      rw [if_pos rfl]
      congr 2
      omega
    · obtain ⟨m, m1, m2⟩ := sorted_some (r.take t)
      refine ⟨m, m1, fun e => ?_⟩
      have hc := c4 t t1 t2
      have : cut (mi r) t = true := cut_iff.mpr fun x hx => by
        unfold mi at hx
        rw [← List.map_take] at hx
        obtain ⟨y, hy, rfl⟩ := List.mem_map.mp hx
        have := m2.mem_iff.mpr hy
        rw [e] at this
        have := irange_mem.mp this
        omega
      rw [hc] at this
      cases this
    · rw [lt, ld]
      unfold spl
      rw [if_pos rfl, if_pos rfl, Pp_cons (isOrd_mi ir) hne', List.map_cons]
      congr 2
      rw [ed, mi_mi]
end Z
set_option Elab.async false
set_option linter.all false
set_option maxRecDepth 100000
set_option autoImplicit false
set_option maxHeartbeats 1000000
namespace Z
open PySem PySem.Spec PyProof.Rows L2
theorem irange_app (a : Int) (m n : Nat) : irange a (m + n) = irange a m ++ irange (a + m) n := by
  apply List.ext_getElem?
  intro i
  by_cases h : i < m + n
  · rw [irange_get _ _ _ h]
    by_cases h1 : i < m
    · rw [List.getElem?_append_left (by rw [irange_len]; exact h1), irange_get _ _ _ h1]
    · rw [List.getElem?_append_right (by rw [irange_len]; omega), irange_len, irange_get _ _ _ (by omega)]
      congr 1
      omega
  · rw [List.getElem?_eq_none (by rw [irange_len]; omega), List.getElem?_eq_none (by rw [List.length_append, irange_len, irange_len]; omega)]
theorem sm_len (a b : List Int) : (sm a b).length = a.length + b.length := by
  unfold sm
  rw [List.length_append, sft_len]
theorem sk_len (a b : List Int) : (sk a b).length = a.length + b.length := by
  unfold sk
  rw [List.length_append, sft_len]
theorem ord_sm {a b : List Int} (ia : IsOrd a) (ib : IsOrd b) : IsOrd (sm a b) := by
  apply IsOrd.of_perm
  rw [sm_len, irange_app, ← irange_sft]
  unfold sm
  have hb : (sft a.length b).Perm (sft a.length (irange 1 b.length)) := ib.perm.map _
  rw [irange_sft] at hb ⊢
  exact ia.perm.append hb
theorem ord_sk {a b : List Int} (ia : IsOrd a) (ib : IsOrd b) : IsOrd (sk a b) := by
  have := isOrd_mi (ord_sm (isOrd_mi ia) (isOrd_mi ib))
  rw [mi_sm, mi_mi, mi_mi] at this
  exact this
theorem fsm_len (L : List (List Int)) : ∀ a, a.length ≤ (L.foldl sm a).length := by
  induction L with
  | nil => exact fun a => Nat.le_refl _
  | cons c L ih =>
    intro a
    have := ih (sm a c)
    rw [sm_len] at this
    rw [List.foldl_cons]
    omega
theorem fsk_len (L : List (List Int)) : ∀ a, a.length ≤ (L.foldl sk a).length := by
  induction L with
  | nil => exact fun a => Nat.le_refl _
  | cons c L ih =>
    intro a
    have := ih (sk a c)
    rw [sk_len] at this
    rw [List.foldl_cons]
    omega
theorem spl_mem (k : Bool) {p : List Int} (ip : IsOrd p) : ∀ c ∈ spl k p, IsOrd c ∧ c.length ≤ p.length := by
  intro c hc
  unfold spl at hc
  cases k with
  | false => exact Pp_mem ip c hc
  | true =>
    rw [if_pos rfl] at hc
    obtain ⟨d, hd, rfl⟩ := List.mem_map.mp hc
    have := Pp_mem (isOrd_mi ip) d hd
    rw [mi_len] at this
    exact ⟨isOrd_mi this.1, by rw [mi_len]; exact this.2⟩
theorem spl_count (k : Bool) {p : List Int} (ip : IsOrd p) : (spl k p).length ≤ p.length := by
  unfold spl
  cases k with
  | false => exact Pp_count ip
  | true =>
    rw [if_pos rfl, List.length_map]
    have := Pp_count (isOrd_mi ip)
    rw [mi_len] at this
    exact this
end Z
set_option Elab.async false
set_option linter.all false
set_option maxRecDepth 100000
set_option autoImplicit false
set_option maxHeartbeats 4000000
namespace Ck04
open PySem PySem.Spec PyProof.Rows L2 Z
def topS (i : Nat) : Stmt := PySem.Challenge.pw_wholeorders_k04_whole_sums_and_parts.main.body.getD i (.Pass ⟨0, 0, 0, 0⟩)
abbrev s_is_integer : Stmt := topS 4
abbrev s_are_integers : Stmt := topS 5
abbrev s_is_order_of : Stmt := topS 6
abbrev s_check_order : Stmt := topS 8
abbrev s_mirrored_of : Stmt := topS 9
abbrev s_mirrored : Stmt := topS 10
abbrev s_lifted : Stmt := topS 12
abbrev s_summed_of : Stmt := topS 13
abbrev s_skew_summed_of : Stmt := topS 14
abbrev s_summed : Stmt := topS 15
abbrev s_skew_summed : Stmt := topS 16
abbrev s_parts_of_sum : Stmt := topS 17
abbrev s_parts_of_skew : Stmt := topS 18
abbrev s_parts : Stmt := topS 19
abbrev s_skew_parts : Stmt := topS 20
abbrev s__law_deck : Stmt := topS 22
abbrev s__law_take : Stmt := topS 23
abbrev s__law_same : Stmt := topS 24
abbrev s__law_drawn : Stmt := topS 25
abbrev s__law_like : Stmt := topS 26
abbrev s__law_filled : Stmt := topS 27
abbrev s__law_row : Stmt := topS 28
abbrev s__law_split : Stmt := topS 31
abbrev s__law_sum : Stmt := topS 32
abbrev s__law_skew_sum : Stmt := topS 33
abbrev s__law_summed_right : Stmt := topS 34
abbrev s__law_parts_right : Stmt := topS 35
abbrev s_law : Stmt := topS 36
/-! ### mirrors -/
def m_is_integer : M Fl :=
  (sRet (dAndV (op1 (fIs [.int]) (dName 0)) (dNotV (op1 (fIs [.bool]) (dName 0)))))
def φ_is_integer : List PyData → Out := runF 1 [.v] m_is_integer
def m_are_integers : M Fl :=
  (sRet (dAndV (op1 (fIs [.tuple]) (dName 0)) (opN fAll (vCons (dv (dFz (compL [1] (.nm 1) (iV (dName 0)) (rt true) (rD (callP [.v] φ_is_integer (vCons (dName 1) vNil)))))) vNil))))
def φ_are_integers : List PyData → Out := runF 2 [.v] m_are_integers
def m_is_order_of : M Fl :=
  (sRet (dAndV (rD (callP [.v] φ_are_integers (vCons (dName 0) vNil))) (op2 fEq (dv (dFz (opNo fSorted (vCons (dName 0) vNil)))) (dv (dFz (dLstRg (rg2 (dv (dC (.int 1))) (dv (rD (op2r fAdd fCat (dv (opN fLen (vCons (dName 0) vNil))) (dv (dC (.int 1)))))))))))))
def φ_is_order_of : List PyData → Out := runF 1 [.v] m_is_order_of
def m_check_order : M Fl :=
  (sIf (dNot (dB (rD (callP [.v] φ_is_order_of (vCons (dName 0) vNil))))) sBad sNx)
def φ_check_order : List PyData → Out := runF 1 [.v] m_check_order
def m_mirrored_of : M Fl :=
  (sRet (opN fTuple (vCons (dv (dFz (compL [1] (.nm 1) (iV (dName 0)) (rt true) (op2 fSub (dv (rD (op2r fAdd fCat (dv (opN fLen (vCons (dName 0) vNil))) (dv (dC (.int 1)))))) (dName 1))))) vNil)))
def φ_mirrored_of : List PyData → Out := runF 2 [.v] m_mirrored_of
def m_mirrored : M Fl :=
  (dSeq (sExprR (callP [.v] φ_check_order (vCons (dName 0) vNil)))
    (sRetR (callP [.v] φ_mirrored_of (vCons (dName 0) vNil))))
def φ_mirrored : List PyData → Out := runF 1 [.v] m_mirrored
def m_lifted : M Fl :=
  (sRet (opN fTuple (vCons (dv (dFz (compL [2] (.nm 2) (iV (dName 0)) (rt true) (rD (op2r fAdd fCat (dName 2) (dName 1)))))) vNil)))
def φ_lifted : List PyData → Out := runF 3 [.v, .v] m_lifted
def m_summed_of : M Fl :=
  (sRetR (op2r fAdd fCat (dName 0) (dv (rD (callP [.v, .v] φ_lifted (vCons (dName 1) (vCons (dv (opN fLen (vCons (dName 0) vNil))) vNil)))))))
def φ_summed_of : List PyData → Out := runF 2 [.v, .v] m_summed_of
def m_skew_summed_of : M Fl :=
  (sRetR (op2r fAdd fCat (dv (rD (callP [.v, .v] φ_lifted (vCons (dName 0) (vCons (dv (opN fLen (vCons (dName 1) vNil))) vNil))))) (dName 1)))
def φ_skew_summed_of : List PyData → Out := runF 2 [.v, .v] m_skew_summed_of
def m_summed : M Fl :=
  (dSeq (sExprR (callP [.v] φ_check_order (vCons (dName 0) vNil)))
    (dSeq (sExprR (callP [.v] φ_check_order (vCons (dName 1) vNil)))
    (sRetR (callP [.v, .v] φ_summed_of (vCons (dName 0) (vCons (dName 1) vNil))))))
def φ_summed : List PyData → Out := runF 2 [.v, .v] m_summed
def m_skew_summed : M Fl :=
  (dSeq (sExprR (callP [.v] φ_check_order (vCons (dName 0) vNil)))
    (dSeq (sExprR (callP [.v] φ_check_order (vCons (dName 1) vNil)))
    (sRetR (callP [.v, .v] φ_skew_summed_of (vCons (dName 0) (vCons (dName 1) vNil))))))
def φ_skew_summed : List PyData → Out := runF 2 [.v, .v] m_skew_summed
def m_parts_of_sum : M Fl :=
  (dSeq (sPar [1, 2, 3] (msO (dLst dNil) (msD (dC (.int 0)) (msD (dC (.int 0)) msNil))))
    (dSeq (sFor (.tup [(.nm 4), (.nm 5)]) [4, 5] (iEnV (dName 0)) (dSeq (sSet 3 (opN fMax (vCons (dName 3) (vCons (dName 5) vNil))))
    (sIf (dB (op2 fEq (dName 3) (dv (rD (op2r fAdd fCat (dName 4) (dv (dC (.int 1)))))))) (dSeq (sExpr (dMut 1 mAppend (dCons (rD (callP [.v, .v] φ_lifted (vCons (dv (rD (cutR (dName 0) (oSome (dEsc (dName 2))) (oSome (rD (op2r fAdd fCat (dName 4) (dv (dC (.int 1))))))))) (vCons (dv (op1 fNeg (dName 2))) vNil)))) dNil)))
    (sSetR 2 (op2r fAdd fCat (dName 4) (dv (dC (.int 1)))))) sNx)))
    (sRet (opN fTuple (vCons (dName 1) vNil)))))
def φ_parts_of_sum : List PyData → Out := runF 6 [.v] m_parts_of_sum
def m_parts_of_skew : M Fl :=
  (dSeq (sSet 1 (opN fLen (vCons (dName 0) vNil)))
    (dSeq (sSet 2 (opN fTuple (vCons (dv (dFz (compL [3] (.nm 3) (iV (dName 0)) (rt true) (op2 fSub (dv (rD (op2r fAdd fCat (dName 1) (dv (dC (.int 1)))))) (dName 3))))) vNil)))
    (sRet (opN fTuple (vCons (dv (dFz (compL [4] (.nm 4) (iV (dv (rD (callP [.v] φ_parts_of_sum (vCons (dName 2) vNil))))) (rt true) (opN fTuple (vCons (dv (dFz (compL [3] (.nm 3) (iV (dName 4)) (rt true) (op2 fSub (dv (rD (op2r fAdd fCat (dv (opN fLen (vCons (dName 4) vNil))) (dv (dC (.int 1)))))) (dName 3))))) vNil))))) vNil)))))
def φ_parts_of_skew : List PyData → Out := runF 5 [.v] m_parts_of_skew
def m_parts : M Fl :=
  (dSeq (sExprR (callP [.v] φ_check_order (vCons (dName 0) vNil)))
    (sRetR (callP [.v] φ_parts_of_sum (vCons (dName 0) vNil))))
def φ_parts : List PyData → Out := runF 1 [.v] m_parts
def m_skew_parts : M Fl :=
  (dSeq (sExprR (callP [.v] φ_check_order (vCons (dName 0) vNil)))
    (sRetR (callP [.v] φ_parts_of_skew (vCons (dName 0) vNil))))
def φ_skew_parts : List PyData → Out := runF 1 [.v] m_skew_parts
def m__law_deck : M Fl :=
  (dSeq (sSet 2 (dC (.int 0)))
    (dSeq (sIf (dB (op2 fLt (dName 1) (dv (opN fLen (vCons (dName 0) vNil))))) (sSet 2 (op2 fIx (dName 0) (dName 1))) sNx)
    (dSeq (sSet 3 (op2 fMod (dv (opN fInt (vCons (dv (rD (op2r fAdd fCat (dv (rD (op2r fAdd fCat (dName 2) (dv (op2 fMul (dv (dC (.int 7919))) (dName 1)))))) (dv (dC (.int 104729)))))) vNil))) (dv (dC (.int 2305843009213693951)))))
    (dSeq (sSet 3 (op2 fMod (dv (opN fInt (vCons (dv (rD (op2r fAdd fCat (dv (rD (op2r fAdd fCat (dv (op2 fMul (dv (op2 fMul (dName 3) (dName 3))) (dName 3))) (dv (op2 fMul (dv (dC (.int 31))) (dName 1)))))) (dv (dC (.int 7)))))) vNil))) (dv (dC (.int 2305843009213693951)))))
    (dSeq (sIf (dB (op2 fLt (dName 2) (dv (op2 fPow (dv (dC (.int 10))) (dv (dC (.int 18))))))) (sRetO (dLst (dCons (dC (.int 0)) (dCons (dEsc (dName 3)) dNil)))) sNx)
    (sRetO (dLst (dCons (op2 fSub (dName 2) (dv (op2 fPow (dv (dC (.int 10))) (dv (dC (.int 18)))))) (dCons (dEsc (dName 3)) dNil)))))))))
def φ__law_deck : List PyData → Out := runF 4 [.v, .v] m__law_deck
def m__law_take : M Fl :=
  (dSeq (sIf (dB (op2 fGt (dv (op2 fIx (dName 0) (dv (dC (.int 0))))) (dv (dC (.int 0))))) (dSeq (sSet 2 (op2 fMod (dv (opN fInt (vCons (dv (op2 fIx (dName 0) (dv (dC (.int 0))))) vNil))) (dName 1)))
    (dSeq (sSub 0 (op2 fDiv (dv (op2 fIx (dName 0) (dv (dC (.int 0))))) (dName 1)) (dv (dC (.int 0))))
    (sRetV 2))) sNx)
    (dSeq (sSub 0 (op2 fMod (dv (opN fInt (vCons (dv (rD (op2r fAdd fCat (dv (op2 fMul (dv (op2 fIx (dName 0) (dv (dC (.int 1))))) (dv (dC (.int 6364136223846793005))))) (dv (dC (.int 1442695040888963407)))))) vNil))) (dv (op2 fPow (dv (dC (.int 2))) (dv (dC (.int 64)))))) (dv (dC (.int 1))))
    (sRet (op2 fMod (dv (op2 fDiv (dv (op2 fIx (dName 0) (dv (dC (.int 1))))) (dv (op2 fPow (dv (dC (.int 2))) (dv (dC (.int 33))))))) (dName 1)))))
def φ__law_take : List PyData → Out := runF 3 [.m, .v] m__law_take
def m__law_same (rec : List PyData → Out) : M Fl :=
  (dSeq (sIf (dB (op1 (fIs [.tuple, .list]) (dName 1))) (dSeq (sIf (dOr (dB (op2 fNe (dv (op1 (fIs [.tuple]) (dName 0))) (dv (op1 (fIs [.tuple]) (dName 1))))) (dB (op2 fNe (dv (op1 (fIs [.list]) (dName 0))) (dv (op1 (fIs [.list]) (dName 1)))))) (sRet (dC (.bool false))) sNx)
    (dSeq (sIf (dB (op2 fNe (dv (opN fLen (vCons (dName 0) vNil))) (dv (opN fLen (vCons (dName 1) vNil))))) (sRet (dC (.bool false))) sNx)
    (sRet (op2 fEq (dv (dFz (compL [2] (.nm 2) (iR1 (vCons (dv (opN fLen (vCons (dName 1) vNil))) vNil)) (dNot (dB (rD (callP [.v, .v] rec (vCons (dv (op2 fIx (dName 0) (dName 2))) (vCons (dv (op2 fIx (dName 1) (dName 2))) vNil)))))) (dEsc (dName 2))))) (dv (dFz (dLst dNil))))))) sNx)
    (dSeq (sIf (dB (op2 fIsN (dName 1) (dv (dC .none)))) (sRet (op2 fIsN (dName 0) (dv (dC .none)))) sNx)
    (dSeq (sIf (dB (op1 (fIs [.str]) (dName 1))) (sRet (dAndV (op1 (fIs [.str]) (dName 0)) (op2 fEq (dName 0) (dName 1)))) sNx)
    (dSeq (sIf (dOr (dB (op1 (fIs [.bool]) (dName 1))) (dB (op1 (fIs [.bool]) (dName 0)))) (sRet (dAndV (op1 (fIs [.bool]) (dName 1)) (dAndV (op1 (fIs [.bool]) (dName 0)) (op2 fEq (dName 0) (dName 1))))) sNx)
    (sRet (dAndV (op1 (fIs [.int]) (dName 0)) (op2 fEq (dName 0) (dName 1))))))))
def φ__law_same : Nat → List PyData → Out
  | 0 => fun _ => .bad
  | n + 1 => runF 3 [.v, .v] (m__law_same (φ__law_same n))
def m__law_drawn : M Fl :=
  (dSeq (sSetO 2 (dLst dNil))
    (dSeq (sFor (.nm 3) [3] (iR2 (vCons (dv (dC (.int 1))) (vCons (dv (rD (op2r fAdd fCat (dName 1) (dv (dC (.int 1)))))) vNil))) (sExpr (dMut 2 mInsert (dCons (rD (callP [.m, .v] φ__law_take (vCons (dName 0) (vCons (dName 3) vNil)))) (dCons (dEsc (dName 3)) dNil)))))
    (sRet (opN fTuple (vCons (dName 2) vNil)))))
def φ__law_drawn : List PyData → Out := runF 4 [.m, .v] m__law_drawn
def m__law_like : M Fl :=
  (sRet (opN fTuple (vCons (dv (dFz (compL [2] (.nm 2) (iV (dName 0)) (rt true) (rD (op2r fAdd fCat (dv (dC (.int 1))) (dv (opN fLen (vCons (dv (dFz (compL [1] (.nm 1) (iV (dName 0)) (dB (op2 fLt (dName 1) (dName 2))) (dEsc (dName 1))))) vNil)))))))) vNil)))
def φ__law_like : List PyData → Out := runF 3 [.v] m__law_like
def m__law_filled : M Fl :=
  (dSeq (sSetO 2 (dLst dNil))
    (dSeq (sFor (.nm 3) [3, 4] (iR1 (vCons (dv (opN fLen (vCons (dName 0) vNil))) vNil)) (dSeq (sSet 4 (opN fSum (vCons (dv (dFz (compL [5] (.nm 5) (iR1 (vCons (dv (opN fLen (vCons (dName 0) vNil))) vNil)) (dB (op2 fLt (dv (op2 fIx (dName 0) (dName 5))) (dv (op2 fIx (dName 0) (dName 3))))) (opN fLen (vCons (dv (op2 fIx (dName 1) (dName 5))) vNil))))) vNil)))
    (sSetR 2 (op2r fAdd fCat (dName 2) (dv (dFz (compL [6] (.nm 6) (iV (dv (op2 fIx (dName 1) (dName 3)))) (rt true) (rD (op2r fAdd fCat (dName 4) (dName 6))))))))))
    (sRet (opN fTuple (vCons (dName 2) vNil)))))
def φ__law_filled : List PyData → Out := runF 7 [.v, .v] m__law_filled
def m__law_row : M Fl :=
  (dSeq (sPar [2, 3] (msR (callP [.m, .v] φ__law_take (vCons (dName 0) (vCons (dv (dC (.int 6))) vNil))) (msR (callP [.m, .v] φ__law_take (vCons (dName 0) (vCons (dv (rD (op2r fAdd fCat (dName 1) (dv (dC (.int 1)))))) vNil))) msNil)))
    (dSeq (sIf (dOr (dB (op2 fLt (dName 2) (dv (dC (.int 2))))) (dB (op2 fLt (dName 3) (dv (dC (.int 2)))))) (sRetR (callP [.m, .v] φ__law_drawn (vCons (dName 0) (vCons (dName 3) vNil)))) sNx)
    (dSeq (sIf (dB (op2 fEq (dName 2) (dv (dC (.int 2))))) (dSeq (sSet 4 (dTupRg (rg2 (dv (dC (.int 1))) (dv (rD (op2r fAdd fCat (dName 3) (dv (dC (.int 1)))))))))
    (sRet (op2 fIx (dv (dFz (dLst (dCons (dEsc (dName 4)) (dCons (rD (mixR (op1 fBack (dName 4)) (op1o fBackL (dName 4)))) dNil))))) (dv (rD (callP [.m, .v] φ__law_take (vCons (dName 0) (vCons (dv (dC (.int 2))) vNil)))))))) sNx)
    (dSeq (sSetR 5 (callP [.m, .v] φ__law_drawn (vCons (dName 0) (vCons (dv (rD (op2r fAdd fCat (dv (dC (.int 2))) (dv (rD (callP [.m, .v] φ__law_take (vCons (dName 0) (vCons (dv (op2 fSub (dName 3) (dv (dC (.int 1))))) vNil)))))))) vNil))))
    (dSeq (sIf (dB (op2 fEq (dName 2) (dv (dC (.int 3))))) (sSet 5 (op2 fIx (dv (dFz (dLst (dCons (dTupRg (rg2 (dv (dC (.int 1))) (dv (rD (op2r fAdd fCat (dv (opN fLen (vCons (dName 5) vNil))) (dv (dC (.int 1)))))))) (dCons (dTupRg3 (vCons (dv (opN fLen (vCons (dName 5) vNil))) (vCons (dv (dC (.int 0))) (vCons (dv (op1 fNeg (dv (dC (.int 1))))) vNil)))) dNil))))) (dv (rD (callP [.m, .v] φ__law_take (vCons (dName 0) (vCons (dv (dC (.int 2))) vNil))))))) sNx)
    (dSeq (sPar [6, 7] (msD (op2 fSub (dName 3) (dv (opN fLen (vCons (dName 5) vNil)))) (msO (dLst dNil) msNil)))
    (dSeq (sFor (.nm 8) [8, 9] (iR1 (vCons (dv (opN fLen (vCons (dName 5) vNil))) vNil)) (dSeq (sSetR 9 (callP [.m, .v] φ__law_take (vCons (dName 0) (vCons (dv (rD (op2r fAdd fCat (dName 6) (dv (dC (.int 1)))))) vNil))))
    (dSeq (sSet 6 (op2 fSub (dName 6) (dName 9)))
    (sExpr (dMut 7 mAppend (dCons (rD (callP [.m, .v] φ__law_drawn (vCons (dName 0) (vCons (dv (rD (op2r fAdd fCat (dv (dC (.int 1))) (dName 9)))) vNil)))) dNil))))))
    (sRetR (callP [.v, .v] φ__law_filled (vCons (dName 5) (vCons (dName 7) vNil)))))))))))
def φ__law_row : List PyData → Out := runF 10 [.m, .v] m__law_row
def m__law_split : M Fl :=
  (dSeq (sPar [2, 3] (msO (dLst dNil) (msD (dEsc (dName 0)) msNil)))
    (dSeq (sFor (.nm 4) [4, 5, 6, 7] (iR1 (vCons (dv (opN fLen (vCons (dName 0) vNil))) vNil)) (dSeq (sSet 5 (opN fLen (vCons (dName 3) vNil)))
    (sFor (.nm 6) [6, 7] (iR2 (vCons (dv (dC (.int 1))) (vCons (dv (rD (op2r fAdd fCat (dName 5) (dv (dC (.int 1)))))) vNil))) (dSeq (sSet 7 (dIfE (dB (dEsc (dName 1))) (dFz (dLstRg (rg2 (dv (rD (op2r fAdd fCat (dv (op2 fSub (dName 5) (dName 6))) (dv (dC (.int 1)))))) (dv (rD (op2r fAdd fCat (dName 5) (dv (dC (.int 1))))))))) (dFz (dLstRg (rg2 (dv (dC (.int 1))) (dv (rD (op2r fAdd fCat (dName 6) (dv (dC (.int 1)))))))))))
    (sIf (dB (op2 fEq (dv (dFz (opNo fSorted (vCons (dv (rD (cutR (dName 3) oNone (oSome (dEsc (dName 6)))))) vNil)))) (dName 7))) (dSeq (sExpr (dMut 2 mAppend (dCons (rD (callP [.v] φ__law_like (vCons (dv (rD (cutR (dName 3) oNone (oSome (dEsc (dName 6)))))) vNil))) dNil)))
    (dSeq (sSetR 3 (callP [.v] φ__law_like (vCons (dv (rD (cutR (dName 3) (oSome (dEsc (dName 6))) oNone))) vNil)))
    sBk)) sNx)))))
    (sRet (opN fTuple (vCons (dName 2) vNil)))))
def φ__law_split : List PyData → Out := runF 8 [.p, .p] m__law_split
def m__law_sum : M Fl :=
  (sRetR (op2r fAdd fCat (dName 0) (dv (opN fTuple (vCons (dv (dFz (compL [2] (.nm 2) (iV (dName 1)) (rt true) (rD (op2r fAdd fCat (dv (opN fLen (vCons (dName 0) vNil))) (dName 2)))))) vNil)))))
def φ__law_sum : List PyData → Out := runF 3 [.v, .v] m__law_sum
def m__law_skew_sum : M Fl :=
  (sRetR (op2r fAdd fCat (dv (opN fTuple (vCons (dv (dFz (compL [2] (.nm 2) (iV (dName 0)) (rt true) (rD (op2r fAdd fCat (dv (opN fLen (vCons (dName 1) vNil))) (dName 2)))))) vNil))) (dName 1)))
def φ__law_skew_sum : List PyData → Out := runF 3 [.v, .v] m__law_skew_sum
def m__law_summed_right : M Fl :=
  (dSeq (sSetR 2 (callP [.v, .v] φ__law_sum (vCons (dName 0) (vCons (dName 1) vNil))))
    (dSeq (sIf (dNot (dB (rD (callP [.v, .v] (φ__law_same 5) (vCons (dv (dFz (dLst (dCons (rD (callP [.v, .v] φ_summed (vCons (dName 0) (vCons (dName 1) vNil)))) (dCons (rD (callK [.v, .v] φ_summed [1, 0] vNil (vCons (dName 1) (vCons (dName 0) vNil)))) dNil))))) (vCons (dv (dFz (dLst (dCons (dEsc (dName 2)) (dCons (dEsc (dName 2)) dNil))))) vNil)))))) (sRet (dC (.bool false))) sNx)
    (dSeq (sSetR 2 (callP [.v, .v] φ__law_skew_sum (vCons (dName 0) (vCons (dName 1) vNil))))
    (sRetR (callP [.v, .v] (φ__law_same 5) (vCons (dv (dFz (dLst (dCons (rD (callP [.v, .v] φ_skew_summed (vCons (dName 0) (vCons (dName 1) vNil)))) (dCons (rD (callK [.v, .v] φ_skew_summed [1, 0] vNil (vCons (dName 1) (vCons (dName 0) vNil)))) dNil))))) (vCons (dv (dFz (dLst (dCons (dEsc (dName 2)) (dCons (dEsc (dName 2)) dNil))))) vNil)))))))
def φ__law_summed_right : List PyData → Out := runF 3 [.v, .v] m__law_summed_right
def m__law_parts_right : M Fl :=
  (dSeq (sPar [1, 2] (msR (callP [.p, .p] φ__law_split (vCons (dv (dEsc (dName 0))) (vCons (dv (dC (.bool false))) vNil))) (msR (callP [.p, .p] φ__law_split (vCons (dv (dEsc (dName 0))) (vCons (dv (dC (.bool true))) vNil))) msNil)))
    (dSeq (sIf (dNot (dB (rD (callP [.v, .v] (φ__law_same 5) (vCons (dv (dFz (dLst (dCons (rD (callP [.v] φ_parts (vCons (dName 0) vNil))) (dCons (rD (callK [.v] φ_parts [0] vNil (vCons (dName 0) vNil))) (dCons (rD (callP [.v] φ_skew_parts (vCons (dName 0) vNil))) (dCons (rD (callK [.v] φ_skew_parts [0] vNil (vCons (dName 0) vNil))) dNil))))))) (vCons (dv (dFz (dLst (dCons (dEsc (dName 1)) (dCons (dEsc (dName 1)) (dCons (dEsc (dName 2)) (dCons (dEsc (dName 2)) dNil))))))) vNil)))))) (sRet (dC (.bool false))) sNx)
    (dSeq (sIf (dAnd (dB (op2 fGt (dv (opN fLen (vCons (dName 0) vNil))) (dv (dC (.int 1))))) (dAnd (dB (op2 fGt (dv (opN fLen (vCons (dName 1) vNil))) (dv (dC (.int 1))))) (dB (op2 fGt (dv (opN fLen (vCons (dName 2) vNil))) (dv (dC (.int 1))))))) (sRet (dC (.bool false))) sNx)
    (dSeq (sPar [3, 4] (msD (dTup dNil) (msD (dTup dNil) msNil)))
    (dSeq (sFor (.nm 5) [5] (iV (dName 1)) (sSetR 3 (callP [.v, .v] φ_summed (vCons (dName 3) (vCons (dName 5) vNil)))))
    (dSeq (sFor (.nm 5) [5] (iV (dName 2)) (sSetR 4 (callP [.v, .v] φ_skew_summed (vCons (dName 4) (vCons (dName 5) vNil)))))
    (dSeq (sSetO 6 (compL [5] (.nm 5) (iV (dName 1)) (rt true) (opN fTuple (vCons (dv (dFz (compL [7] (.nm 7) (iV (dName 5)) (rt true) (op2 fSub (dv (rD (op2r fAdd fCat (dv (opN fLen (vCons (dName 5) vNil))) (dv (dC (.int 1)))))) (dName 7))))) vNil))))
    (sRetR (callP [.v, .v] (φ__law_same 5) (vCons (dv (dFz (dLst (dCons (dEsc (dName 3)) (dCons (dEsc (dName 4)) (dCons (rD (callP [.v] φ_skew_parts (vCons (dv (rD (callP [.v] φ_mirrored (vCons (dName 0) vNil)))) vNil))) dNil)))))) (vCons (dv (dFz (dLst (dCons (dEsc (dName 0)) (dCons (dEsc (dName 0)) (dCons (opN fTuple (vCons (dName 6) vNil)) dNil)))))) vNil)))))))))))
def φ__law_parts_right : List PyData → Out := runF 8 [.p] m__law_parts_right
def m_law : M Fl :=
  (dSeq (sFor (.nm 1) [1, 2, 3, 4, 5] (iR1 (vCons (dv (opN fMax (vCons (dv (dC (.int 2))) (vCons (dv (opN fMin (vCons (dv (opN fLen (vCons (dName 0) vNil))) (vCons (dv (dC (.int 10))) vNil)))) vNil)))) vNil)) (dSeq (sSetR 2 (callP [.v, .v] φ__law_deck (vCons (dName 0) (vCons (dName 1) vNil))))
    (dSeq (sPar [3, 4] (msR (callP [.m, .v] φ__law_row (vCons (dName 2) (vCons (dv (dC (.int 6))) vNil))) (msR (callP [.m, .v] φ__law_row (vCons (dName 2) (vCons (dv (op2 fIx (dv (dFz (dLst (dCons (dC (.int 2)) (dCons (dC (.int 6)) dNil))))) (dv (rD (callP [.m, .v] φ__law_take (vCons (dName 2) (vCons (dv (dC (.int 2))) vNil))))))) vNil))) msNil)))
    (dSeq (sIf (dOr (dNot (dB (rD (callP [.v, .v] φ__law_summed_right (vCons (dName 3) (vCons (dName 4) vNil)))))) (dOr (dNot (dB (rD (callP [.v, .v] φ__law_summed_right (vCons (dv (dTup dNil)) (vCons (dName 3) vNil)))))) (dNot (dB (rD (callP [.v, .v] φ__law_summed_right (vCons (dName 3) (vCons (dv (dTup dNil)) vNil)))))))) (sRet (dC (.bool false))) sNx)
    (dSeq (sSet 5 (op2 fIx (dv (dFz (dLst (dCons (rD (callP [.v, .v] φ__law_sum (vCons (dName 3) (vCons (dName 4) vNil)))) (dCons (rD (callP [.v, .v] φ__law_skew_sum (vCons (dName 3) (vCons (dName 4) vNil)))) (dCons (rD (callP [.m, .v] φ__law_row (vCons (dName 2) (vCons (dv (dC (.int 12))) vNil)))) dNil)))))) (dv (rD (callP [.m, .v] φ__law_take (vCons (dName 2) (vCons (dv (dC (.int 3))) vNil)))))))
    (sIf (dOr (dNot (dB (rD (callP [.p] φ__law_parts_right (vCons (dv (dEsc (dName 5))) vNil))))) (dNot (dB (rD (callP [.p] φ__law_parts_right (vCons (dv (dEsc (dName 3))) vNil)))))) (sRet (dC (.bool false))) sNx))))))
    (sRet (dC (.bool true))))
def φ_law : List PyData → Out := runF 6 [.v] m_law
/-! ### what the top holds -/
structure EnvOk (mg : Str → Option Value) (K : PySem.W.Frag) : Prop where
  f_is_integer : ∃ f fd, Fun K "is_integer" "is_integer" s_is_integer f fd ∧ mg "is_integer" = some (.ref f)
  f_are_integers : ∃ f fd, Fun K "are_integers" "are_integers" s_are_integers f fd ∧ mg "are_integers" = some (.ref f)
  f_is_order_of : ∃ f fd, Fun K "is_order_of" "is_order_of" s_is_order_of f fd ∧ mg "is_order_of" = some (.ref f)
  f_check_order : ∃ f fd, Fun K "check_order" "check_order" s_check_order f fd ∧ mg "check_order" = some (.ref f)
  f_mirrored_of : ∃ f fd, Fun K "mirrored_of" "mirrored_of" s_mirrored_of f fd ∧ mg "mirrored_of" = some (.ref f)
  f_mirrored : ∃ f fd, Fun K "mirrored" "mirrored" s_mirrored f fd ∧ mg "mirrored" = some (.ref f)
  f_lifted : ∃ f fd, Fun K "lifted" "lifted" s_lifted f fd ∧ mg "lifted" = some (.ref f)
  f_summed_of : ∃ f fd, Fun K "summed_of" "summed_of" s_summed_of f fd ∧ mg "summed_of" = some (.ref f)
  f_skew_summed_of : ∃ f fd, Fun K "skew_summed_of" "skew_summed_of" s_skew_summed_of f fd ∧ mg "skew_summed_of" = some (.ref f)
  f_summed : ∃ f fd, Fun K "summed" "summed" s_summed f fd ∧ mg "summed" = some (.ref f)
  f_skew_summed : ∃ f fd, Fun K "skew_summed" "skew_summed" s_skew_summed f fd ∧ mg "skew_summed" = some (.ref f)
  f_parts_of_sum : ∃ f fd, Fun K "parts_of_sum" "parts_of_sum" s_parts_of_sum f fd ∧ mg "parts_of_sum" = some (.ref f)
  f_parts_of_skew : ∃ f fd, Fun K "parts_of_skew" "parts_of_skew" s_parts_of_skew f fd ∧ mg "parts_of_skew" = some (.ref f)
  f_parts : ∃ f fd, Fun K "parts" "parts" s_parts f fd ∧ mg "parts" = some (.ref f)
  f_skew_parts : ∃ f fd, Fun K "skew_parts" "skew_parts" s_skew_parts f fd ∧ mg "skew_parts" = some (.ref f)
  f__law_deck : ∃ f fd, Fun K "_law_deck" "_law_deck" s__law_deck f fd ∧ mg "_law_deck" = some (.ref f)
  f__law_take : ∃ f fd, Fun K "_law_take" "_law_take" s__law_take f fd ∧ mg "_law_take" = some (.ref f)
  f__law_same : ∃ f fd, Fun K "_law_same" "_law_same" s__law_same f fd ∧ mg "_law_same" = some (.ref f)
  f__law_drawn : ∃ f fd, Fun K "_law_drawn" "_law_drawn" s__law_drawn f fd ∧ mg "_law_drawn" = some (.ref f)
  f__law_like : ∃ f fd, Fun K "_law_like" "_law_like" s__law_like f fd ∧ mg "_law_like" = some (.ref f)
  f__law_filled : ∃ f fd, Fun K "_law_filled" "_law_filled" s__law_filled f fd ∧ mg "_law_filled" = some (.ref f)
  f__law_row : ∃ f fd, Fun K "_law_row" "_law_row" s__law_row f fd ∧ mg "_law_row" = some (.ref f)
  f__law_split : ∃ f fd, Fun K "_law_split" "_law_split" s__law_split f fd ∧ mg "_law_split" = some (.ref f)
  f__law_sum : ∃ f fd, Fun K "_law_sum" "_law_sum" s__law_sum f fd ∧ mg "_law_sum" = some (.ref f)
  f__law_skew_sum : ∃ f fd, Fun K "_law_skew_sum" "_law_skew_sum" s__law_skew_sum f fd ∧ mg "_law_skew_sum" = some (.ref f)
  f__law_summed_right : ∃ f fd, Fun K "_law_summed_right" "_law_summed_right" s__law_summed_right f fd ∧ mg "_law_summed_right" = some (.ref f)
  f__law_parts_right : ∃ f fd, Fun K "_law_parts_right" "_law_parts_right" s__law_parts_right f fd ∧ mg "_law_parts_right" = some (.ref f)
  f_law : ∃ f fd, Fun K "law" "law" s_law f fd ∧ mg "law" = some (.ref f)
  b_all : mg "all" = none
  b_bool : mg "bool" = none
  b_enumerate : mg "enumerate" = none
  b_int : mg "int" = none
  b_isinstance : mg "isinstance" = none
  b_len : mg "len" = none
  b_list : mg "list" = none
  b_max : mg "max" = none
  b_min : mg "min" = none
  b_range : mg "range" = none
  b_sorted : mg "sorted" = none
  b_str : mg "str" = none
  b_sum : mg "sum" = none
  b_tuple : mg "tuple" = none
/-! ### derivations -/
section
variable {P : Program} {w : World} {K : PySem.W.Frag} {mg : Str → Option Value} {base : Heap}
theorem sc_is_integer : FnScope ["value"] ["value"] (defScope s_is_integer) := ⟨rfl, rfl, rfl, by decide +kernel, rfl, by decide +kernel, by decide +kernel⟩
theorem fn_is_integer (e : EnvOk mg K) : FnP P w K mg base "is_integer" s_is_integer 1 ["value"] [.v] φ_is_integer := by
  obtain ⟨f, fd, F, hm⟩ := e.f_is_integer
  refine fnP_mk (k := 0) (N := ["value"]) F hm (F.binds (ps := ["value"]) fun _ _ _ _ _ _ us hl => match us, hl with | [_], _ => rfl) sc_is_integer rfl rfl fun cdv A outer s H E hr => ?_
  exact (dss_one (ds_ret (dp_and (dp_isi (t := .int) (by rfl) e.b_isinstance (zv 0) (by rfl) e.b_int boot_int) (dp_one (dp_not (dp_isi (t := .bool) (by rfl) e.b_isinstance (zv 0) (by rfl) e.b_bool boot_bool))))))
theorem sc_are_integers : FnScope ["value", "a"] ["value"] (defScope s_are_integers) := ⟨rfl, rfl, rfl, by decide +kernel, rfl, by decide +kernel, by decide +kernel⟩
theorem fn_are_integers (e : EnvOk mg K) : FnP P w K mg base "are_integers" s_are_integers 2 ["value"] [.v] φ_are_integers := by
  obtain ⟨f, fd, F, hm⟩ := e.f_are_integers
  refine fnP_mk (k := 1) (N := ["value", "a"]) F hm (F.binds (ps := ["value"]) fun _ _ _ _ _ _ us hl => match us, hl with | [_], _ => rfl) sc_are_integers rfl rfl fun cdv A outer s H E hr => ?_
  exact (dss_one (ds_ret (dp_and (dp_isi (t := .tuple) (by rfl) e.b_isinstance (zv 0) (by rfl) e.b_tuple boot_tuple) (dp_one (dp_callB (cd_all rfl) (by rfl) e.b_all boot_all (dvs_cons (dv_of (dp_fz (do_comp [("a", 1)] rfl sc_are_integers.nd (di_val (zv 0)) (blkOk_by (by rfl)) (fun _ _ _ _ _ => (dgb_any (dg_name (i := 1) sc_are_integers.nd rfl (by first | exact Or.inl rfl | exact Or.inr rfl)))) (fun _ _ _ _ _ => dts_nil) (fun _ _ _ _ _ => (dp_ofR (dr_fn ((fn_is_integer e).mono (by omega)) hr (by rfl) (dvs_cons (zv 1) dvs_nil)))) (by simp [tgS, tgsS])))) dvs_nil))))))
theorem sc_is_order_of : FnScope ["told"] ["told"] (defScope s_is_order_of) := ⟨rfl, rfl, rfl, by decide +kernel, rfl, by decide +kernel, by decide +kernel⟩
theorem fn_is_order_of (e : EnvOk mg K) : FnP P w K mg base "is_order_of" s_is_order_of 3 ["told"] [.v] φ_is_order_of := by
  obtain ⟨f, fd, F, hm⟩ := e.f_is_order_of
  refine fnP_mk (k := 2) (N := ["told"]) F hm (F.binds (ps := ["told"]) fun _ _ _ _ _ _ us hl => match us, hl with | [_], _ => rfl) sc_is_order_of rfl rfl fun cdv A outer s H E hr => ?_
  exact (dss_one (ds_ret (dp_and (dp_ofR (dr_fn ((fn_are_integers e).mono (by omega)) hr (by rfl) (dvs_cons (zv 0) dvs_nil))) (dp_one (dp_cmp (or_eq hr.units) (dv_of (dp_fz (do_callB (cd_sorted hr.units) (by rfl) e.b_sorted boot_sorted (dvs_cons (zv 0) dvs_nil)))) (dv_of (dp_fz (do_lstRg rfl (by rfl) e.b_list (drg2 (by rfl) e.b_range (dv_of dp_int) (dv_of (dp_ofR (dr_bin or_add or_cat (dv_of (dp_callB cd_len (by rfl) e.b_len boot_len (dvs_cons (zv 0) dvs_nil))) (dv_of dp_int)))))))) (by rfl))))))
theorem sc_check_order : FnScope ["order"] ["order"] (defScope s_check_order) := ⟨rfl, rfl, rfl, by decide +kernel, rfl, by decide +kernel, by decide +kernel⟩
theorem fn_check_order (e : EnvOk mg K) : FnP P w K mg base "check_order" s_check_order 4 ["order"] [.v] φ_check_order := by
  obtain ⟨f, fd, F, hm⟩ := e.f_check_order
  refine fnP_mk (k := 3) (N := ["order"]) F hm (F.binds (ps := ["order"]) fun _ _ _ _ _ _ us hl => match us, hl with | [_], _ => rfl) sc_check_order rfl rfl fun cdv A outer s H E hr => ?_
  exact (dss_one (ds_if (dt_not (dt_val (dp_ofR (dr_fn ((fn_is_order_of e).mono (by omega)) hr (by rfl) (dvs_cons (zv 0) dvs_nil))))) (dss_one ds_bad) dss_nil))
theorem sc_mirrored_of : FnScope ["order", "number"] ["order"] (defScope s_mirrored_of) := ⟨rfl, rfl, rfl, by decide +kernel, rfl, by decide +kernel, by decide +kernel⟩
theorem fn_mirrored_of (e : EnvOk mg K) : FnP P w K mg base "mirrored_of" s_mirrored_of 1 ["order"] [.v] φ_mirrored_of := by
  obtain ⟨f, fd, F, hm⟩ := e.f_mirrored_of
  refine fnP_mk (k := 0) (N := ["order", "number"]) F hm (F.binds (ps := ["order"]) fun _ _ _ _ _ _ us hl => match us, hl with | [_], _ => rfl) sc_mirrored_of rfl rfl fun cdv A outer s H E hr => ?_
  exact (dss_one (ds_ret (dp_callTy cd_tuple (by rfl) e.b_tuple boot_tuple (dvs_cons (dv_of (dp_fz (do_comp [("number", 1)] rfl sc_mirrored_of.nd (di_val (zv 0)) (blkOk_by (by rfl)) (fun _ _ _ _ _ => (dgb_any (dg_name (i := 1) sc_mirrored_of.nd rfl (by first | exact Or.inl rfl | exact Or.inr rfl)))) (fun _ _ _ _ _ => dts_nil) (fun _ _ _ _ _ => (dp_bin or_sub (dv_of (dp_ofR (dr_bin or_add or_cat (dv_of (dp_callB cd_len (by rfl) e.b_len boot_len (dvs_cons (zv 0) dvs_nil))) (dv_of dp_int)))) (zv 1))) (by simp [tgS, tgsS])))) dvs_nil))))
theorem sc_mirrored : FnScope ["order"] ["order"] (defScope s_mirrored) := ⟨rfl, rfl, rfl, by decide +kernel, rfl, by decide +kernel, by decide +kernel⟩
theorem fn_mirrored (e : EnvOk mg K) : FnP P w K mg base "mirrored" s_mirrored 5 ["order"] [.v] φ_mirrored := by
  obtain ⟨f, fd, F, hm⟩ := e.f_mirrored
  refine fnP_mk (k := 4) (N := ["order"]) F hm (F.binds (ps := ["order"]) fun _ _ _ _ _ _ us hl => match us, hl with | [_], _ => rfl) sc_mirrored rfl rfl fun cdv A outer s H E hr => ?_
  exact (dss_cons (ds_exprR (dr_fn ((fn_check_order e).mono (by omega)) hr (by rfl) (dvs_cons (zv 0) dvs_nil)))
      (dss_one (ds_retR (dr_fn ((fn_mirrored_of e).mono (by omega)) hr (by rfl) (dvs_cons (zv 0) dvs_nil)))))
theorem sc_lifted : FnScope ["order", "by", "number"] ["order", "by"] (defScope s_lifted) := ⟨rfl, rfl, rfl, by decide +kernel, rfl, by decide +kernel, by decide +kernel⟩
theorem fn_lifted (e : EnvOk mg K) : FnP P w K mg base "lifted" s_lifted 1 ["order", "by"] [.v, .v] φ_lifted := by
  obtain ⟨f, fd, F, hm⟩ := e.f_lifted
  refine fnP_mk (k := 0) (N := ["order", "by", "number"]) F hm (F.binds (ps := ["order", "by"]) fun _ _ _ _ _ _ us hl => match us, hl with | [_, _], _ => rfl) sc_lifted rfl rfl fun cdv A outer s H E hr => ?_
  exact (dss_one (ds_ret (dp_callTy cd_tuple (by rfl) e.b_tuple boot_tuple (dvs_cons (dv_of (dp_fz (do_comp [("number", 2)] rfl sc_lifted.nd (di_val (zv 0)) (blkOk_by (by rfl)) (fun _ _ _ _ _ => (dgb_any (dg_name (i := 2) sc_lifted.nd rfl (by first | exact Or.inl rfl | exact Or.inr rfl)))) (fun _ _ _ _ _ => dts_nil) (fun _ _ _ _ _ => (dp_ofR (dr_bin or_add or_cat (zv 2) (zv 1)))) (by simp [tgS, tgsS])))) dvs_nil))))
theorem sc_summed_of : FnScope ["one", "other"] ["one", "other"] (defScope s_summed_of) := ⟨rfl, rfl, rfl, by decide +kernel, rfl, by decide +kernel, by decide +kernel⟩
theorem fn_summed_of (e : EnvOk mg K) : FnP P w K mg base "summed_of" s_summed_of 2 ["one", "other"] [.v, .v] φ_summed_of := by
  obtain ⟨f, fd, F, hm⟩ := e.f_summed_of
  refine fnP_mk (k := 1) (N := ["one", "other"]) F hm (F.binds (ps := ["one", "other"]) fun _ _ _ _ _ _ us hl => match us, hl with | [_, _], _ => rfl) sc_summed_of rfl rfl fun cdv A outer s H E hr => ?_
  exact (dss_one (ds_retR (dr_bin or_add or_cat (zv 0) (dv_of (dp_ofR (dr_fn ((fn_lifted e).mono (by omega)) hr (by rfl) (dvs_cons (zv 1) (dvs_cons (dv_of (dp_callB cd_len (by rfl) e.b_len boot_len (dvs_cons (zv 0) dvs_nil))) dvs_nil))))))))
theorem sc_skew_summed_of : FnScope ["one", "other"] ["one", "other"] (defScope s_skew_summed_of) := ⟨rfl, rfl, rfl, by decide +kernel, rfl, by decide +kernel, by decide +kernel⟩
theorem fn_skew_summed_of (e : EnvOk mg K) : FnP P w K mg base "skew_summed_of" s_skew_summed_of 2 ["one", "other"] [.v, .v] φ_skew_summed_of := by
  obtain ⟨f, fd, F, hm⟩ := e.f_skew_summed_of
  refine fnP_mk (k := 1) (N := ["one", "other"]) F hm (F.binds (ps := ["one", "other"]) fun _ _ _ _ _ _ us hl => match us, hl with | [_, _], _ => rfl) sc_skew_summed_of rfl rfl fun cdv A outer s H E hr => ?_
  exact (dss_one (ds_retR (dr_bin or_add or_cat (dv_of (dp_ofR (dr_fn ((fn_lifted e).mono (by omega)) hr (by rfl) (dvs_cons (zv 0) (dvs_cons (dv_of (dp_callB cd_len (by rfl) e.b_len boot_len (dvs_cons (zv 1) dvs_nil))) dvs_nil))))) (zv 1))))
theorem sc_summed : FnScope ["one", "other"] ["one", "other"] (defScope s_summed) := ⟨rfl, rfl, rfl, by decide +kernel, rfl, by decide +kernel, by decide +kernel⟩
theorem fn_summed (e : EnvOk mg K) : FnP P w K mg base "summed" s_summed 5 ["one", "other"] [.v, .v] φ_summed := by
  obtain ⟨f, fd, F, hm⟩ := e.f_summed
  refine fnP_mk (k := 4) (N := ["one", "other"]) F hm (F.binds (ps := ["one", "other"]) fun _ _ _ _ _ _ us hl => match us, hl with | [_, _], _ => rfl) sc_summed rfl rfl fun cdv A outer s H E hr => ?_
  exact (dss_cons (ds_exprR (dr_fn ((fn_check_order e).mono (by omega)) hr (by rfl) (dvs_cons (zv 0) dvs_nil)))
      (dss_cons (ds_exprR (dr_fn ((fn_check_order e).mono (by omega)) hr (by rfl) (dvs_cons (zv 1) dvs_nil)))
      (dss_one (ds_retR (dr_fn ((fn_summed_of e).mono (by omega)) hr (by rfl) (dvs_cons (zv 0) (dvs_cons (zv 1) dvs_nil)))))))
theorem sc_skew_summed : FnScope ["one", "other"] ["one", "other"] (defScope s_skew_summed) := ⟨rfl, rfl, rfl, by decide +kernel, rfl, by decide +kernel, by decide +kernel⟩
theorem fn_skew_summed (e : EnvOk mg K) : FnP P w K mg base "skew_summed" s_skew_summed 5 ["one", "other"] [.v, .v] φ_skew_summed := by
  obtain ⟨f, fd, F, hm⟩ := e.f_skew_summed
  refine fnP_mk (k := 4) (N := ["one", "other"]) F hm (F.binds (ps := ["one", "other"]) fun _ _ _ _ _ _ us hl => match us, hl with | [_, _], _ => rfl) sc_skew_summed rfl rfl fun cdv A outer s H E hr => ?_
  exact (dss_cons (ds_exprR (dr_fn ((fn_check_order e).mono (by omega)) hr (by rfl) (dvs_cons (zv 0) dvs_nil)))
      (dss_cons (ds_exprR (dr_fn ((fn_check_order e).mono (by omega)) hr (by rfl) (dvs_cons (zv 1) dvs_nil)))
      (dss_one (ds_retR (dr_fn ((fn_skew_summed_of e).mono (by omega)) hr (by rfl) (dvs_cons (zv 0) (dvs_cons (zv 1) dvs_nil)))))))
theorem sc_parts_of_sum : FnScope ["order", "found", "begin", "greatest", "at", "number"] ["order"] (defScope s_parts_of_sum) := ⟨rfl, rfl, rfl, by decide +kernel, rfl, by decide +kernel, by decide +kernel⟩
theorem fn_parts_of_sum (e : EnvOk mg K) : FnP P w K mg base "parts_of_sum" s_parts_of_sum 2 ["order"] [.v] φ_parts_of_sum := by
  obtain ⟨f, fd, F, hm⟩ := e.f_parts_of_sum
  refine fnP_mk (k := 1) (N := ["order", "found", "begin", "greatest", "at", "number"]) F hm (F.binds (ps := ["order"]) fun _ _ _ _ _ _ us hl => match us, hl with | [_], _ => rfl) sc_parts_of_sum rfl rfl fun cdv A outer s H E hr => ?_
  exact (dss_cons (ds_par3 (i := 1) (j := 2) (l := 3) rfl sc_parts_of_sum.nd rfl rfl rfl (by decide) (by decide) (by decide) rfl rfl rfl (dms_o (do_lst dps_nil) (dms_d dp_int (dms_d dp_int dms_nil))))
      (dss_cons (ds_for [4, 5] passX rfl (di_enum (by rfl) e.b_enumerate (zv 0)) (dgb_tup rfl (dgs_cons (dg_name (i := 4) sc_parts_of_sum.nd rfl (by first | exact Or.inl rfl | exact Or.inr rfl)) (dgs_cons (dg_name (i := 5) sc_parts_of_sum.nd rfl (by first | exact Or.inl rfl | exact Or.inr rfl)) dgs_nil))) (dss_cons (ds_set (i := 3) sc_parts_of_sum.nd rfl (by first | exact Or.inl rfl | exact Or.inr rfl) (dp_callB (cd_max rfl) (by rfl) e.b_max boot_max (dvs_cons (zv 3) (dvs_cons (zv 5) dvs_nil))))
      (dss_one (ds_if (dt_cmp (or_eq hr.units) (zv 3) (dv_of (dp_ofR (dr_bin or_add or_cat (zv 4) (dv_of dp_int)))) (by rfl)) (dss_cons (ds_expr (dp_mut (i := 1) rfl (by first | exact Or.inl rfl | exact Or.inr (Or.inl rfl) | exact Or.inr (Or.inr rfl)) PySem.F.slot_list_append PySem.F.type_list_append mr_append (dps_cons (dp_ofR (dr_fn ((fn_lifted e).mono (by omega)) hr (by rfl) (dvs_cons (dv_of (dp_ofR (dr_cut (zv 0) (dpo_some (dp_esc (zv 2))) (dpo_some (dp_ofR (dr_bin or_add or_cat (zv 4) (dv_of dp_int))))))) (dvs_cons (dv_of (dp_un un_negD (zv 2))) dvs_nil)))) dps_nil)))
      (dss_one (ds_setR (i := 2) sc_parts_of_sum.nd rfl (by first | exact Or.inl rfl | exact Or.inr rfl) (dr_bin or_add or_cat (zv 4) (dv_of dp_int))))) dss_nil))))
      (dss_one (ds_ret (dp_callTy cd_tuple (by rfl) e.b_tuple boot_tuple (dvs_cons (zv 1) dvs_nil))))))
theorem sc_parts_of_skew : FnScope ["order", "many", "mirror", "number", "part"] ["order"] (defScope s_parts_of_skew) := ⟨rfl, rfl, rfl, by decide +kernel, rfl, by decide +kernel, by decide +kernel⟩
theorem fn_parts_of_skew (e : EnvOk mg K) : FnP P w K mg base "parts_of_skew" s_parts_of_skew 3 ["order"] [.v] φ_parts_of_skew := by
  obtain ⟨f, fd, F, hm⟩ := e.f_parts_of_skew
  refine fnP_mk (k := 2) (N := ["order", "many", "mirror", "number", "part"]) F hm (F.binds (ps := ["order"]) fun _ _ _ _ _ _ us hl => match us, hl with | [_], _ => rfl) sc_parts_of_skew rfl rfl fun cdv A outer s H E hr => ?_
  exact (dss_cons (ds_set (i := 1) sc_parts_of_skew.nd rfl (by first | exact Or.inl rfl | exact Or.inr rfl) (dp_callB cd_len (by rfl) e.b_len boot_len (dvs_cons (zv 0) dvs_nil)))
      (dss_cons (ds_set (i := 2) sc_parts_of_skew.nd rfl (by first | exact Or.inl rfl | exact Or.inr rfl) (dp_callTy cd_tuple (by rfl) e.b_tuple boot_tuple (dvs_cons (dv_of (dp_fz (do_comp [("number", 3)] rfl sc_parts_of_skew.nd (di_val (zv 0)) (blkOk_by (by rfl)) (fun _ _ _ _ _ => (dgb_any (dg_name (i := 3) sc_parts_of_skew.nd rfl (by first | exact Or.inl rfl | exact Or.inr rfl)))) (fun _ _ _ _ _ => dts_nil) (fun _ _ _ _ _ => (dp_bin or_sub (dv_of (dp_ofR (dr_bin or_add or_cat (zv 1) (dv_of dp_int)))) (zv 3))) (by simp [tgS, tgsS])))) dvs_nil)))
      (dss_one (ds_ret (dp_callTy cd_tuple (by rfl) e.b_tuple boot_tuple (dvs_cons (dv_of (dp_fz (do_comp [("part", 4)] rfl sc_parts_of_skew.nd (di_val (dv_of (dp_ofR (dr_fn ((fn_parts_of_sum e).mono (by omega)) hr (by rfl) (dvs_cons (zv 2) dvs_nil))))) (blkOk_by (by rfl)) (fun _ _ _ _ _ => (dgb_any (dg_name (i := 4) sc_parts_of_skew.nd rfl (by first | exact Or.inl rfl | exact Or.inr rfl)))) (fun _ _ _ _ _ => dts_nil) (fun _ _ _ _ _ => (dp_callTy cd_tuple (by rfl) e.b_tuple boot_tuple (dvs_cons (dv_of (dp_fz (do_comp [("number", 3)] rfl sc_parts_of_skew.nd (di_val (zv 4)) (blkOk_by (by rfl)) (fun _ _ _ _ _ => (dgb_any (dg_name (i := 3) sc_parts_of_skew.nd rfl (by first | exact Or.inl rfl | exact Or.inr rfl)))) (fun _ _ _ _ _ => dts_nil) (fun _ _ _ _ _ => (dp_bin or_sub (dv_of (dp_ofR (dr_bin or_add or_cat (dv_of (dp_callB cd_len (by rfl) e.b_len boot_len (dvs_cons (zv 4) dvs_nil))) (dv_of dp_int)))) (zv 3))) (by simp [tgS, tgsS])))) dvs_nil))) (by simp [tgS, tgsS])))) dvs_nil))))))
theorem sc_parts : FnScope ["order"] ["order"] (defScope s_parts) := ⟨rfl, rfl, rfl, by decide +kernel, rfl, by decide +kernel, by decide +kernel⟩
theorem fn_parts (e : EnvOk mg K) : FnP P w K mg base "parts" s_parts 5 ["order"] [.v] φ_parts := by
  obtain ⟨f, fd, F, hm⟩ := e.f_parts
  refine fnP_mk (k := 4) (N := ["order"]) F hm (F.binds (ps := ["order"]) fun _ _ _ _ _ _ us hl => match us, hl with | [_], _ => rfl) sc_parts rfl rfl fun cdv A outer s H E hr => ?_
  exact (dss_cons (ds_exprR (dr_fn ((fn_check_order e).mono (by omega)) hr (by rfl) (dvs_cons (zv 0) dvs_nil)))
      (dss_one (ds_retR (dr_fn ((fn_parts_of_sum e).mono (by omega)) hr (by rfl) (dvs_cons (zv 0) dvs_nil)))))
theorem sc_skew_parts : FnScope ["order"] ["order"] (defScope s_skew_parts) := ⟨rfl, rfl, rfl, by decide +kernel, rfl, by decide +kernel, by decide +kernel⟩
theorem fn_skew_parts (e : EnvOk mg K) : FnP P w K mg base "skew_parts" s_skew_parts 5 ["order"] [.v] φ_skew_parts := by
  obtain ⟨f, fd, F, hm⟩ := e.f_skew_parts
  refine fnP_mk (k := 4) (N := ["order"]) F hm (F.binds (ps := ["order"]) fun _ _ _ _ _ _ us hl => match us, hl with | [_], _ => rfl) sc_skew_parts rfl rfl fun cdv A outer s H E hr => ?_
  exact (dss_cons (ds_exprR (dr_fn ((fn_check_order e).mono (by omega)) hr (by rfl) (dvs_cons (zv 0) dvs_nil)))
      (dss_one (ds_retR (dr_fn ((fn_parts_of_skew e).mono (by omega)) hr (by rfl) (dvs_cons (zv 0) dvs_nil)))))
theorem sc__law_deck : FnScope ["script", "at", "cell", "stir"] ["script", "at"] (defScope s__law_deck) := ⟨rfl, rfl, rfl, by decide +kernel, rfl, by decide +kernel, by decide +kernel⟩
theorem fn__law_deck (e : EnvOk mg K) : FnP P w K mg base "_law_deck" s__law_deck 1 ["script", "at"] [.v, .v] φ__law_deck := by
  obtain ⟨f, fd, F, hm⟩ := e.f__law_deck
  refine fnP_mk (k := 0) (N := ["script", "at", "cell", "stir"]) F hm (F.binds (ps := ["script", "at"]) fun _ _ _ _ _ _ us hl => match us, hl with | [_, _], _ => rfl) sc__law_deck rfl rfl fun cdv A outer s H E hr => ?_
  exact (dss_cons (ds_set (i := 2) sc__law_deck.nd rfl (by first | exact Or.inl rfl | exact Or.inr rfl) dp_int)
      (dss_cons (ds_if (dt_cmp or_lt (zv 1) (dv_of (dp_callB cd_len (by rfl) e.b_len boot_len (dvs_cons (zv 0) dvs_nil))) (by rfl)) (dss_one (ds_set (i := 2) sc__law_deck.nd rfl (by first | exact Or.inl rfl | exact Or.inr rfl) (dp_ix ixr (zv 0) (zv 1) (fun _ _ => rfl)))) dss_nil)
      (dss_cons (ds_set (i := 3) sc__law_deck.nd rfl (by first | exact Or.inl rfl | exact Or.inr rfl) (dp_bin or_mod (dv_of (dp_callTy cd_int (by rfl) e.b_int boot_int (dvs_cons (dv_of (dp_ofR (dr_bin or_add or_cat (dv_of (dp_ofR (dr_bin or_add or_cat (zv 2) (dv_of (dp_bin or_mul (dv_of dp_int) (zv 1)))))) (dv_of dp_int)))) dvs_nil))) (dv_of dp_int)))
      (dss_cons (ds_set (i := 3) sc__law_deck.nd rfl (by first | exact Or.inl rfl | exact Or.inr rfl) (dp_bin or_mod (dv_of (dp_callTy cd_int (by rfl) e.b_int boot_int (dvs_cons (dv_of (dp_ofR (dr_bin or_add or_cat (dv_of (dp_ofR (dr_bin or_add or_cat (dv_of (dp_bin or_mul (dv_of (dp_bin or_mul (zv 3) (zv 3))) (zv 3))) (dv_of (dp_bin or_mul (dv_of dp_int) (zv 1)))))) (dv_of dp_int)))) dvs_nil))) (dv_of dp_int)))
      (dss_cons (ds_if (dt_cmp or_lt (zv 2) (dv_of (dp_bin or_pow (dv_of dp_int) (dv_of dp_int))) (by rfl)) (dss_one (ds_retO (do_lst (dps_cons dp_int (dps_cons (dp_esc (zv 3)) dps_nil))))) dss_nil)
      (dss_one (ds_retO (do_lst (dps_cons (dp_bin or_sub (zv 2) (dv_of (dp_bin or_pow (dv_of dp_int) (dv_of dp_int)))) (dps_cons (dp_esc (zv 3)) dps_nil))))))))))
theorem sc__law_take : FnScope ["deck", "many", "taken"] ["deck", "many"] (defScope s__law_take) := ⟨rfl, rfl, rfl, by decide +kernel, rfl, by decide +kernel, by decide +kernel⟩
theorem fn__law_take (e : EnvOk mg K) : FnP P w K mg base "_law_take" s__law_take 1 ["deck", "many"] [.m, .v] φ__law_take := by
  obtain ⟨f, fd, F, hm⟩ := e.f__law_take
  refine fnP_mk (k := 0) (N := ["deck", "many", "taken"]) F hm (F.binds (ps := ["deck", "many"]) fun _ _ _ _ _ _ us hl => match us, hl with | [_, _], _ => rfl) sc__law_take rfl rfl fun cdv A outer s H E hr => ?_
  exact (dss_cons (ds_if (dt_cmp or_gt (dv_of (dp_ix ixr (zv 0) (dv_of dp_int) (fun _ _ => rfl))) (dv_of dp_int) (by rfl)) (dss_cons (ds_set (i := 2) sc__law_take.nd rfl (by first | exact Or.inl rfl | exact Or.inr rfl) (dp_bin or_mod (dv_of (dp_callTy cd_int (by rfl) e.b_int boot_int (dvs_cons (dv_of (dp_ix ixr (zv 0) (dv_of dp_int) (fun _ _ => rfl))) dvs_nil))) (zv 1)))
      (dss_cons (ds_sub (i := 0) rfl (by first | exact Or.inl rfl | exact Or.inr (Or.inl rfl) | exact Or.inr (Or.inr rfl)) (dp_bin or_div (dv_of (dp_ix ixr (zv 0) (dv_of dp_int) (fun _ _ => rfl))) (zv 1)) (dv_of dp_int))
      (dss_one (ds_retV (i := 2) rfl (by first | exact Or.inl rfl | exact Or.inr (Or.inl rfl) | exact Or.inr (Or.inr rfl)))))) dss_nil)
      (dss_cons (ds_sub (i := 0) rfl (by first | exact Or.inl rfl | exact Or.inr (Or.inl rfl) | exact Or.inr (Or.inr rfl)) (dp_bin or_mod (dv_of (dp_callTy cd_int (by rfl) e.b_int boot_int (dvs_cons (dv_of (dp_ofR (dr_bin or_add or_cat (dv_of (dp_bin or_mul (dv_of (dp_ix ixr (zv 0) (dv_of dp_int) (fun _ _ => rfl))) (dv_of dp_int))) (dv_of dp_int)))) dvs_nil))) (dv_of (dp_bin or_pow (dv_of dp_int) (dv_of dp_int)))) (dv_of dp_int))
      (dss_one (ds_ret (dp_bin or_mod (dv_of (dp_bin or_div (dv_of (dp_ix ixr (zv 0) (dv_of dp_int) (fun _ _ => rfl))) (dv_of (dp_bin or_pow (dv_of dp_int) (dv_of dp_int))))) (zv 1))))))
theorem sc__law_same : FnScope ["found", "due", "at"] ["found", "due"] (defScope s__law_same) := ⟨rfl, rfl, rfl, by decide +kernel, rfl, by decide +kernel, by decide +kernel⟩
theorem fn__law_same (e : EnvOk mg K) : ∀ n : Nat, FnP P w K mg base "_law_same" s__law_same (n + 1) ["found", "due"] [.v, .v] (φ__law_same n)
  | 0 => by
    obtain ⟨f, fd, F, hm⟩ := e.f__law_same
    exact fnP_bad F hm (F.binds (ps := ["found", "due"]) fun _ _ _ _ _ _ us hl => match us, hl with | [_, _], _ => rfl)
  | n + 1 => by
    have ih := fn__law_same e n
    obtain ⟨f, fd, F, hm⟩ := e.f__law_same
    refine (show n + 1 + 1 = (n + 1) + 1 by omega) ▸ fnP_mk (N := ["found", "due", "at"]) F hm (F.binds (ps := ["found", "due"]) fun _ _ _ _ _ _ us hl => match us, hl with | [_, _], _ => rfl) sc__law_same rfl rfl fun cdv A outer s H E hr => ?_
    exact (dss_cons (ds_if (dt_val (dp_isiT (by rfl) e.b_isinstance (zv 1) (ty_cons (t := .tuple) (by rfl) e.b_tuple boot_tuple (ty_cons (t := .list) (by rfl) e.b_list boot_list ty_nil)) (by decide))) (dss_cons (ds_if (dt_w (dw_or (dt_cmp (or_ne hr.units) (dv_of (dp_isi (t := .tuple) (by rfl) e.b_isinstance (zv 0) (by rfl) e.b_tuple boot_tuple)) (dv_of (dp_isi (t := .tuple) (by rfl) e.b_isinstance (zv 1) (by rfl) e.b_tuple boot_tuple)) (by rfl)) (dw_or1 (dt_cmp (or_ne hr.units) (dv_of (dp_isi (t := .list) (by rfl) e.b_isinstance (zv 0) (by rfl) e.b_list boot_list)) (dv_of (dp_isi (t := .list) (by rfl) e.b_isinstance (zv 1) (by rfl) e.b_list boot_list)) (by rfl))))) (dss_one (ds_ret dp_bool)) dss_nil)
      (dss_cons (ds_if (dt_cmp (or_ne hr.units) (dv_of (dp_callB cd_len (by rfl) e.b_len boot_len (dvs_cons (zv 0) dvs_nil))) (dv_of (dp_callB cd_len (by rfl) e.b_len boot_len (dvs_cons (zv 1) dvs_nil))) (by rfl)) (dss_one (ds_ret dp_bool)) dss_nil)
      (dss_one (ds_ret (dp_cmp (or_eq hr.units) (dv_of (dp_fz (do_comp [("at", 2)] rfl sc__law_same.nd (di_range1 (by rfl) e.b_range (dvs_cons (dv_of (dp_callB cd_len (by rfl) e.b_len boot_len (dvs_cons (zv 1) dvs_nil))) dvs_nil)) (blkOk_by (by rfl)) (fun _ _ _ _ _ => (dgb_any (dg_name (i := 2) sc__law_same.nd rfl (by first | exact Or.inl rfl | exact Or.inr rfl)))) (fun _ _ _ _ _ => (dts_one (dt_not (dt_val (dp_ofR (dr_fn ih hr (by rfl) (dvs_cons (dv_of (dp_ix ixr (zv 0) (zv 2) (fun _ _ => rfl))) (dvs_cons (dv_of (dp_ix ixr (zv 1) (zv 2) (fun _ _ => rfl))) dvs_nil)))))))) (fun _ _ _ _ _ => (dp_esc (zv 2))) (by simp [tgS, tgsS])))) (dv_of (dp_fz (do_lst dps_nil))) (by rfl)))))) dss_nil)
      (dss_cons (ds_if (dt_cmp or_isN (zv 1) (dv_of dp_none) (by rfl)) (dss_one (ds_ret (dp_cmp or_isN (zv 0) (dv_of dp_none) (by rfl)))) dss_nil)
      (dss_cons (ds_if (dt_val (dp_isi (t := .str) (by rfl) e.b_isinstance (zv 1) (by rfl) e.b_str boot_str)) (dss_one (ds_ret (dp_and (dp_isi (t := .str) (by rfl) e.b_isinstance (zv 0) (by rfl) e.b_str boot_str) (dp_one (dp_cmp (or_eq hr.units) (zv 0) (zv 1) (by rfl)))))) dss_nil)
      (dss_cons (ds_if (dt_w (dw_or (dt_val (dp_isi (t := .bool) (by rfl) e.b_isinstance (zv 1) (by rfl) e.b_bool boot_bool)) (dw_or1 (dt_val (dp_isi (t := .bool) (by rfl) e.b_isinstance (zv 0) (by rfl) e.b_bool boot_bool))))) (dss_one (ds_ret (dp_and (dp_isi (t := .bool) (by rfl) e.b_isinstance (zv 1) (by rfl) e.b_bool boot_bool) (dp_and (dp_isi (t := .bool) (by rfl) e.b_isinstance (zv 0) (by rfl) e.b_bool boot_bool) (dp_one (dp_cmp (or_eq hr.units) (zv 0) (zv 1) (by rfl))))))) dss_nil)
      (dss_one (ds_ret (dp_and (dp_isi (t := .int) (by rfl) e.b_isinstance (zv 0) (by rfl) e.b_int boot_int) (dp_one (dp_cmp (or_eq hr.units) (zv 0) (zv 1) (by rfl))))))))))
theorem sc__law_drawn : FnScope ["deck", "many", "found", "j"] ["deck", "many"] (defScope s__law_drawn) := ⟨rfl, rfl, rfl, by decide +kernel, rfl, by decide +kernel, by decide +kernel⟩
theorem fn__law_drawn (e : EnvOk mg K) : FnP P w K mg base "_law_drawn" s__law_drawn 2 ["deck", "many"] [.m, .v] φ__law_drawn := by
  obtain ⟨f, fd, F, hm⟩ := e.f__law_drawn
  refine fnP_mk (k := 1) (N := ["deck", "many", "found", "j"]) F hm (F.binds (ps := ["deck", "many"]) fun _ _ _ _ _ _ us hl => match us, hl with | [_, _], _ => rfl) sc__law_drawn rfl rfl fun cdv A outer s H E hr => ?_
  exact (dss_cons (ds_setO (i := 2) sc__law_drawn.nd rfl (by first | exact Or.inl rfl | exact Or.inr rfl) (do_lst dps_nil))
      (dss_cons (ds_for [3] passX rfl (di_range2 (by rfl) e.b_range (dvs_cons (dv_of dp_int) (dvs_cons (dv_of (dp_ofR (dr_bin or_add or_cat (zv 1) (dv_of dp_int)))) dvs_nil))) (dgb_any (dg_name (i := 3) sc__law_drawn.nd rfl (by first | exact Or.inl rfl | exact Or.inr rfl))) (dss_one (ds_expr (dp_mut (i := 2) rfl (by first | exact Or.inl rfl | exact Or.inr (Or.inl rfl) | exact Or.inr (Or.inr rfl)) PySem.F.slot_list_insert PySem.F.type_list_insert mr_insert (dps_cons (dp_ofR (dr_fn ((fn__law_take e).mono (by omega)) hr (by rfl) (dvs_cons (zv 0) (dvs_cons (zv 3) dvs_nil)))) (dps_cons (dp_esc (zv 3)) dps_nil))))))
      (dss_one (ds_ret (dp_callTy cd_tuple (by rfl) e.b_tuple boot_tuple (dvs_cons (zv 2) dvs_nil))))))
theorem sc__law_like : FnScope ["cells", "x", "y"] ["cells"] (defScope s__law_like) := ⟨rfl, rfl, rfl, by decide +kernel, rfl, by decide +kernel, by decide +kernel⟩
theorem fn__law_like (e : EnvOk mg K) : FnP P w K mg base "_law_like" s__law_like 1 ["cells"] [.v] φ__law_like := by
  obtain ⟨f, fd, F, hm⟩ := e.f__law_like
  refine fnP_mk (k := 0) (N := ["cells", "x", "y"]) F hm (F.binds (ps := ["cells"]) fun _ _ _ _ _ _ us hl => match us, hl with | [_], _ => rfl) sc__law_like rfl rfl fun cdv A outer s H E hr => ?_
  exact (dss_one (ds_ret (dp_callTy cd_tuple (by rfl) e.b_tuple boot_tuple (dvs_cons (dv_of (dp_fz (do_comp [("y", 2)] rfl sc__law_like.nd (di_val (zv 0)) (blkOk_by (by rfl)) (fun _ _ _ _ _ => (dgb_any (dg_name (i := 2) sc__law_like.nd rfl (by first | exact Or.inl rfl | exact Or.inr rfl)))) (fun _ _ _ _ _ => dts_nil) (fun _ _ _ _ _ => (dp_ofR (dr_bin or_add or_cat (dv_of dp_int) (dv_of (dp_callB cd_len (by rfl) e.b_len boot_len (dvs_cons (dv_of (dp_fz (do_comp [("x", 1)] rfl sc__law_like.nd (di_val (zv 0)) (blkOk_by (by rfl)) (fun _ _ _ _ _ => (dgb_any (dg_name (i := 1) sc__law_like.nd rfl (by first | exact Or.inl rfl | exact Or.inr rfl)))) (fun _ _ _ _ _ => (dts_one (dt_cmp or_lt (zv 1) (zv 2) (by rfl)))) (fun _ _ _ _ _ => (dp_esc (zv 1))) (by simp [tgS, tgsS])))) dvs_nil)))))) (by simp [tgS, tgsS])))) dvs_nil))))
theorem sc__law_filled : FnScope ["row", "rows", "found", "at", "less", "j", "x"] ["row", "rows"] (defScope s__law_filled) := ⟨rfl, rfl, rfl, by decide +kernel, rfl, by decide +kernel, by decide +kernel⟩
theorem fn__law_filled (e : EnvOk mg K) : FnP P w K mg base "_law_filled" s__law_filled 1 ["row", "rows"] [.v, .v] φ__law_filled := by
  obtain ⟨f, fd, F, hm⟩ := e.f__law_filled
  refine fnP_mk (k := 0) (N := ["row", "rows", "found", "at", "less", "j", "x"]) F hm (F.binds (ps := ["row", "rows"]) fun _ _ _ _ _ _ us hl => match us, hl with | [_, _], _ => rfl) sc__law_filled rfl rfl fun cdv A outer s H E hr => ?_
  exact (dss_cons (ds_setO (i := 2) sc__law_filled.nd rfl (by first | exact Or.inl rfl | exact Or.inr rfl) (do_lst dps_nil))
      (dss_cons (ds_for [3, 4] passX rfl (di_range1 (by rfl) e.b_range (dvs_cons (dv_of (dp_callB cd_len (by rfl) e.b_len boot_len (dvs_cons (zv 0) dvs_nil))) dvs_nil)) (dgb_any (dg_name (i := 3) sc__law_filled.nd rfl (by first | exact Or.inl rfl | exact Or.inr rfl))) (dss_cons (ds_set (i := 4) sc__law_filled.nd rfl (by first | exact Or.inl rfl | exact Or.inr rfl) (dp_callB (cd_sum rfl) (by rfl) e.b_sum boot_sum (dvs_cons (dv_of (dp_fz (do_comp [("j", 5)] rfl sc__law_filled.nd (di_range1 (by rfl) e.b_range (dvs_cons (dv_of (dp_callB cd_len (by rfl) e.b_len boot_len (dvs_cons (zv 0) dvs_nil))) dvs_nil)) (blkOk_by (by rfl)) (fun _ _ _ _ _ => (dgb_any (dg_name (i := 5) sc__law_filled.nd rfl (by first | exact Or.inl rfl | exact Or.inr rfl)))) (fun _ _ _ _ _ => (dts_one (dt_cmp or_lt (dv_of (dp_ix ixr (zv 0) (zv 5) (fun _ _ => rfl))) (dv_of (dp_ix ixr (zv 0) (zv 3) (fun _ _ => rfl))) (by rfl)))) (fun _ _ _ _ _ => (dp_callB cd_len (by rfl) e.b_len boot_len (dvs_cons (dv_of (dp_ix ixr (zv 1) (zv 5) (fun _ _ => rfl))) dvs_nil))) (by simp [tgS, tgsS])))) dvs_nil)))
      (dss_one (ds_setR (i := 2) sc__law_filled.nd rfl (by first | exact Or.inl rfl | exact Or.inr rfl) (dr_bin or_add or_cat (zv 2) (dv_of (dp_fz (do_comp [("x", 6)] rfl sc__law_filled.nd (di_val (dv_of (dp_ix ixr (zv 1) (zv 3) (fun _ _ => rfl)))) (blkOk_by (by rfl)) (fun _ _ _ _ _ => (dgb_any (dg_name (i := 6) sc__law_filled.nd rfl (by first | exact Or.inl rfl | exact Or.inr rfl)))) (fun _ _ _ _ _ => dts_nil) (fun _ _ _ _ _ => (dp_ofR (dr_bin or_add or_cat (zv 4) (zv 6)))) (by simp [tgS, tgsS])))))))))
      (dss_one (ds_ret (dp_callTy cd_tuple (by rfl) e.b_tuple boot_tuple (dvs_cons (zv 2) dvs_nil))))))
theorem sc__law_row : FnScope ["deck", "most", "way", "many", "straight", "base", "rest", "rows", "at", "more"] ["deck", "most"] (defScope s__law_row) := ⟨rfl, rfl, rfl, by decide +kernel, rfl, by decide +kernel, by decide +kernel⟩
theorem fn__law_row (e : EnvOk mg K) : FnP P w K mg base "_law_row" s__law_row 3 ["deck", "most"] [.m, .v] φ__law_row := by
  obtain ⟨f, fd, F, hm⟩ := e.f__law_row
  refine fnP_mk (k := 2) (N := ["deck", "most", "way", "many", "straight", "base", "rest", "rows", "at", "more"]) F hm (F.binds (ps := ["deck", "most"]) fun _ _ _ _ _ _ us hl => match us, hl with | [_, _], _ => rfl) sc__law_row rfl rfl fun cdv A outer s H E hr => ?_
  exact (dss_cons (ds_par (i := 2) (j := 3) rfl sc__law_row.nd rfl rfl (by decide) rfl rfl (dms_r (dr_fn ((fn__law_take e).mono (by omega)) hr (by rfl) (dvs_cons (zv 0) (dvs_cons (dv_of dp_int) dvs_nil))) (dms_r (dr_fn ((fn__law_take e).mono (by omega)) hr (by rfl) (dvs_cons (zv 0) (dvs_cons (dv_of (dp_ofR (dr_bin or_add or_cat (zv 1) (dv_of dp_int)))) dvs_nil))) dms_nil)))
      (dss_cons (ds_if (dt_w (dw_or (dt_cmp or_lt (zv 2) (dv_of dp_int) (by rfl)) (dw_or1 (dt_cmp or_lt (zv 3) (dv_of dp_int) (by rfl))))) (dss_one (ds_retR (dr_fn ((fn__law_drawn e).mono (by omega)) hr (by rfl) (dvs_cons (zv 0) (dvs_cons (zv 3) dvs_nil))))) dss_nil)
      (dss_cons (ds_if (dt_cmp (or_eq hr.units) (zv 2) (dv_of dp_int) (by rfl)) (dss_cons (ds_set (i := 4) sc__law_row.nd rfl (by first | exact Or.inl rfl | exact Or.inr rfl) (dp_tupRg rfl (by rfl) e.b_tuple (drg2 (by rfl) e.b_range (dv_of dp_int) (dv_of (dp_ofR (dr_bin or_add or_cat (zv 3) (dv_of dp_int)))))))
      (dss_one (ds_ret (dp_ix ixr (dv_of (dp_fz (do_lst (dps_cons (dp_esc (zv 4)) (dps_cons (dp_ofR (dr_or (dp_back (zv 4)) (do_backL (zv 4)))) dps_nil))))) (dv_of (dp_ofR (dr_fn ((fn__law_take e).mono (by omega)) hr (by rfl) (dvs_cons (zv 0) (dvs_cons (dv_of dp_int) dvs_nil))))) (fun _ _ => rfl))))) dss_nil)
      (dss_cons (ds_setR (i := 5) sc__law_row.nd rfl (by first | exact Or.inl rfl | exact Or.inr rfl) (dr_fn ((fn__law_drawn e).mono (by omega)) hr (by rfl) (dvs_cons (zv 0) (dvs_cons (dv_of (dp_ofR (dr_bin or_add or_cat (dv_of dp_int) (dv_of (dp_ofR (dr_fn ((fn__law_take e).mono (by omega)) hr (by rfl) (dvs_cons (zv 0) (dvs_cons (dv_of (dp_bin or_sub (zv 3) (dv_of dp_int))) dvs_nil)))))))) dvs_nil))))
      (dss_cons (ds_if (dt_cmp (or_eq hr.units) (zv 2) (dv_of dp_int) (by rfl)) (dss_one (ds_set (i := 5) sc__law_row.nd rfl (by first | exact Or.inl rfl | exact Or.inr rfl) (dp_ix ixr (dv_of (dp_fz (do_lst (dps_cons (dp_tupRg rfl (by rfl) e.b_tuple (drg2 (by rfl) e.b_range (dv_of dp_int) (dv_of (dp_ofR (dr_bin or_add or_cat (dv_of (dp_callB cd_len (by rfl) e.b_len boot_len (dvs_cons (zv 5) dvs_nil))) (dv_of dp_int)))))) (dps_cons (dp_tupRg3 rfl (by rfl) e.b_tuple (by rfl) e.b_range (dvs_cons (dv_of (dp_callB cd_len (by rfl) e.b_len boot_len (dvs_cons (zv 5) dvs_nil))) (dvs_cons (dv_of dp_int) (dvs_cons (dv_of (dp_un un_negD (dv_of dp_int))) dvs_nil)))) dps_nil))))) (dv_of (dp_ofR (dr_fn ((fn__law_take e).mono (by omega)) hr (by rfl) (dvs_cons (zv 0) (dvs_cons (dv_of dp_int) dvs_nil))))) (fun _ _ => rfl)))) dss_nil)
      (dss_cons (ds_par (i := 6) (j := 7) rfl sc__law_row.nd rfl rfl (by decide) rfl rfl (dms_d (dp_bin or_sub (zv 3) (dv_of (dp_callB cd_len (by rfl) e.b_len boot_len (dvs_cons (zv 5) dvs_nil)))) (dms_o (do_lst dps_nil) dms_nil)))
      (dss_cons (ds_for [8, 9] passX rfl (di_range1 (by rfl) e.b_range (dvs_cons (dv_of (dp_callB cd_len (by rfl) e.b_len boot_len (dvs_cons (zv 5) dvs_nil))) dvs_nil)) (dgb_any (dg_name (i := 8) sc__law_row.nd rfl (by first | exact Or.inl rfl | exact Or.inr rfl))) (dss_cons (ds_setR (i := 9) sc__law_row.nd rfl (by first | exact Or.inl rfl | exact Or.inr rfl) (dr_fn ((fn__law_take e).mono (by omega)) hr (by rfl) (dvs_cons (zv 0) (dvs_cons (dv_of (dp_ofR (dr_bin or_add or_cat (zv 6) (dv_of dp_int)))) dvs_nil))))
      (dss_cons (ds_set (i := 6) sc__law_row.nd rfl (by first | exact Or.inl rfl | exact Or.inr rfl) (dp_bin or_sub (zv 6) (zv 9)))
      (dss_one (ds_expr (dp_mut (i := 7) rfl (by first | exact Or.inl rfl | exact Or.inr (Or.inl rfl) | exact Or.inr (Or.inr rfl)) PySem.F.slot_list_append PySem.F.type_list_append mr_append (dps_cons (dp_ofR (dr_fn ((fn__law_drawn e).mono (by omega)) hr (by rfl) (dvs_cons (zv 0) (dvs_cons (dv_of (dp_ofR (dr_bin or_add or_cat (dv_of dp_int) (zv 9)))) dvs_nil)))) dps_nil)))))))
      (dss_one (ds_retR (dr_fn ((fn__law_filled e).mono (by omega)) hr (by rfl) (dvs_cons (zv 5) (dvs_cons (zv 7) dvs_nil))))))))))))
theorem sc__law_split : FnScope ["row", "skew", "found", "rest", "turn", "many", "size", "ends"] ["row", "skew"] (defScope s__law_split) := ⟨rfl, rfl, rfl, by decide +kernel, rfl, by decide +kernel, by decide +kernel⟩
theorem fn__law_split (e : EnvOk mg K) : FnP P w K mg base "_law_split" s__law_split 2 ["row", "skew"] [.p, .p] φ__law_split := by
  obtain ⟨f, fd, F, hm⟩ := e.f__law_split
  refine fnP_mk (k := 1) (N := ["row", "skew", "found", "rest", "turn", "many", "size", "ends"]) F hm (F.binds (ps := ["row", "skew"]) fun _ _ _ _ _ _ us hl => match us, hl with | [_, _], _ => rfl) sc__law_split rfl rfl fun cdv A outer s H E hr => ?_
  exact (dss_cons (ds_par (i := 2) (j := 3) rfl sc__law_split.nd rfl rfl (by decide) rfl rfl (dms_o (do_lst dps_nil) (dms_d (dp_esc (zv 0)) dms_nil)))
      (dss_cons (ds_for [4, 5, 6, 7] passX rfl (di_range1 (by rfl) e.b_range (dvs_cons (dv_of (dp_callB cd_len (by rfl) e.b_len boot_len (dvs_cons (zv 0) dvs_nil))) dvs_nil)) (dgb_any (dg_name (i := 4) sc__law_split.nd rfl (by first | exact Or.inl rfl | exact Or.inr rfl))) (dss_cons (ds_set (i := 5) sc__law_split.nd rfl (by first | exact Or.inl rfl | exact Or.inr rfl) (dp_callB cd_len (by rfl) e.b_len boot_len (dvs_cons (zv 3) dvs_nil)))
      (dss_one (ds_for [6, 7] passX rfl (di_range2 (by rfl) e.b_range (dvs_cons (dv_of dp_int) (dvs_cons (dv_of (dp_ofR (dr_bin or_add or_cat (zv 5) (dv_of dp_int)))) dvs_nil))) (dgb_any (dg_name (i := 6) sc__law_split.nd rfl (by first | exact Or.inl rfl | exact Or.inr rfl))) (dss_cons (ds_set (i := 7) sc__law_split.nd rfl (by first | exact Or.inl rfl | exact Or.inr rfl) (dp_ifE (dt_val (dp_esc (zv 1))) (dp_fz (do_lstRg rfl (by rfl) e.b_list (drg2 (by rfl) e.b_range (dv_of (dp_ofR (dr_bin or_add or_cat (dv_of (dp_bin or_sub (zv 5) (zv 6))) (dv_of dp_int)))) (dv_of (dp_ofR (dr_bin or_add or_cat (zv 5) (dv_of dp_int))))))) (dp_fz (do_lstRg rfl (by rfl) e.b_list (drg2 (by rfl) e.b_range (dv_of dp_int) (dv_of (dp_ofR (dr_bin or_add or_cat (zv 6) (dv_of dp_int)))))))))
      (dss_one (ds_if (dt_cmp (or_eq hr.units) (dv_of (dp_fz (do_callB (cd_sorted hr.units) (by rfl) e.b_sorted boot_sorted (dvs_cons (dv_of (dp_ofR (dr_cut (zv 3) dpo_none (dpo_some (dp_esc (zv 6)))))) dvs_nil)))) (zv 7) (by rfl)) (dss_cons (ds_expr (dp_mut (i := 2) rfl (by first | exact Or.inl rfl | exact Or.inr (Or.inl rfl) | exact Or.inr (Or.inr rfl)) PySem.F.slot_list_append PySem.F.type_list_append mr_append (dps_cons (dp_ofR (dr_fn ((fn__law_like e).mono (by omega)) hr (by rfl) (dvs_cons (dv_of (dp_ofR (dr_cut (zv 3) dpo_none (dpo_some (dp_esc (zv 6)))))) dvs_nil))) dps_nil)))
      (dss_cons (ds_setR (i := 3) sc__law_split.nd rfl (by first | exact Or.inl rfl | exact Or.inr rfl) (dr_fn ((fn__law_like e).mono (by omega)) hr (by rfl) (dvs_cons (dv_of (dp_ofR (dr_cut (zv 3) (dpo_some (dp_esc (zv 6))) dpo_none))) dvs_nil)))
      (dss_one ds_break))) dss_nil)))))))
      (dss_one (ds_ret (dp_callTy cd_tuple (by rfl) e.b_tuple boot_tuple (dvs_cons (zv 2) dvs_nil))))))
theorem sc__law_sum : FnScope ["row", "second_row", "x"] ["row", "second_row"] (defScope s__law_sum) := ⟨rfl, rfl, rfl, by decide +kernel, rfl, by decide +kernel, by decide +kernel⟩
theorem fn__law_sum (e : EnvOk mg K) : FnP P w K mg base "_law_sum" s__law_sum 1 ["row", "second_row"] [.v, .v] φ__law_sum := by
  obtain ⟨f, fd, F, hm⟩ := e.f__law_sum
  refine fnP_mk (k := 0) (N := ["row", "second_row", "x"]) F hm (F.binds (ps := ["row", "second_row"]) fun _ _ _ _ _ _ us hl => match us, hl with | [_, _], _ => rfl) sc__law_sum rfl rfl fun cdv A outer s H E hr => ?_
  exact (dss_one (ds_retR (dr_bin or_add or_cat (zv 0) (dv_of (dp_callTy cd_tuple (by rfl) e.b_tuple boot_tuple (dvs_cons (dv_of (dp_fz (do_comp [("x", 2)] rfl sc__law_sum.nd (di_val (zv 1)) (blkOk_by (by rfl)) (fun _ _ _ _ _ => (dgb_any (dg_name (i := 2) sc__law_sum.nd rfl (by first | exact Or.inl rfl | exact Or.inr rfl)))) (fun _ _ _ _ _ => dts_nil) (fun _ _ _ _ _ => (dp_ofR (dr_bin or_add or_cat (dv_of (dp_callB cd_len (by rfl) e.b_len boot_len (dvs_cons (zv 0) dvs_nil))) (zv 2)))) (by simp [tgS, tgsS])))) dvs_nil))))))
theorem sc__law_skew_sum : FnScope ["row", "second_row", "x"] ["row", "second_row"] (defScope s__law_skew_sum) := ⟨rfl, rfl, rfl, by decide +kernel, rfl, by decide +kernel, by decide +kernel⟩
theorem fn__law_skew_sum (e : EnvOk mg K) : FnP P w K mg base "_law_skew_sum" s__law_skew_sum 1 ["row", "second_row"] [.v, .v] φ__law_skew_sum := by
  obtain ⟨f, fd, F, hm⟩ := e.f__law_skew_sum
  refine fnP_mk (k := 0) (N := ["row", "second_row", "x"]) F hm (F.binds (ps := ["row", "second_row"]) fun _ _ _ _ _ _ us hl => match us, hl with | [_, _], _ => rfl) sc__law_skew_sum rfl rfl fun cdv A outer s H E hr => ?_
  exact (dss_one (ds_retR (dr_bin or_add or_cat (dv_of (dp_callTy cd_tuple (by rfl) e.b_tuple boot_tuple (dvs_cons (dv_of (dp_fz (do_comp [("x", 2)] rfl sc__law_skew_sum.nd (di_val (zv 0)) (blkOk_by (by rfl)) (fun _ _ _ _ _ => (dgb_any (dg_name (i := 2) sc__law_skew_sum.nd rfl (by first | exact Or.inl rfl | exact Or.inr rfl)))) (fun _ _ _ _ _ => dts_nil) (fun _ _ _ _ _ => (dp_ofR (dr_bin or_add or_cat (dv_of (dp_callB cd_len (by rfl) e.b_len boot_len (dvs_cons (zv 1) dvs_nil))) (zv 2)))) (by simp [tgS, tgsS])))) dvs_nil))) (zv 1))))
theorem sc__law_summed_right : FnScope ["row", "second_row", "due"] ["row", "second_row"] (defScope s__law_summed_right) := ⟨rfl, rfl, rfl, by decide +kernel, rfl, by decide +kernel, by decide +kernel⟩
theorem fn__law_summed_right (e : EnvOk mg K) : FnP P w K mg base "_law_summed_right" s__law_summed_right 7 ["row", "second_row"] [.v, .v] φ__law_summed_right := by
  obtain ⟨f, fd, F, hm⟩ := e.f__law_summed_right
  refine fnP_mk (k := 6) (N := ["row", "second_row", "due"]) F hm (F.binds (ps := ["row", "second_row"]) fun _ _ _ _ _ _ us hl => match us, hl with | [_, _], _ => rfl) sc__law_summed_right rfl rfl fun cdv A outer s H E hr => ?_
  exact (dss_cons (ds_setR (i := 2) sc__law_summed_right.nd rfl (by first | exact Or.inl rfl | exact Or.inr rfl) (dr_fn ((fn__law_sum e).mono (by omega)) hr (by rfl) (dvs_cons (zv 0) (dvs_cons (zv 1) dvs_nil))))
      (dss_cons (ds_if (dt_not (dt_val (dp_ofR (dr_fn ((fn__law_same e 5).mono (by omega)) hr (by rfl) (dvs_cons (dv_of (dp_fz (do_lst (dps_cons (dp_ofR (dr_fn ((fn_summed e).mono (by omega)) hr (by rfl) (dvs_cons (zv 0) (dvs_cons (zv 1) dvs_nil)))) (dps_cons (dp_ofR (dr_fnK0 ((fn_summed e).mono (by omega)) hr (by rfl) ["other", "one"] [1, 0] (dks_cons (zv 1) (dks_cons (zv 0) dks_nil)) (fun _ _ _ _ _ _ _ ws hl => match ws, hl with | [_, _], _ => rfl) (hln := fun W σ H Q _ q => len_zt (len_cons (len_cons len_nil)) q))) dps_nil))))) (dvs_cons (dv_of (dp_fz (do_lst (dps_cons (dp_esc (zv 2)) (dps_cons (dp_esc (zv 2)) dps_nil))))) dvs_nil)))))) (dss_one (ds_ret dp_bool)) dss_nil)
      (dss_cons (ds_setR (i := 2) sc__law_summed_right.nd rfl (by first | exact Or.inl rfl | exact Or.inr rfl) (dr_fn ((fn__law_skew_sum e).mono (by omega)) hr (by rfl) (dvs_cons (zv 0) (dvs_cons (zv 1) dvs_nil))))
      (dss_one (ds_retR (dr_fn ((fn__law_same e 5).mono (by omega)) hr (by rfl) (dvs_cons (dv_of (dp_fz (do_lst (dps_cons (dp_ofR (dr_fn ((fn_skew_summed e).mono (by omega)) hr (by rfl) (dvs_cons (zv 0) (dvs_cons (zv 1) dvs_nil)))) (dps_cons (dp_ofR (dr_fnK0 ((fn_skew_summed e).mono (by omega)) hr (by rfl) ["other", "one"] [1, 0] (dks_cons (zv 1) (dks_cons (zv 0) dks_nil)) (fun _ _ _ _ _ _ _ ws hl => match ws, hl with | [_, _], _ => rfl) (hln := fun W σ H Q _ q => len_zt (len_cons (len_cons len_nil)) q))) dps_nil))))) (dvs_cons (dv_of (dp_fz (do_lst (dps_cons (dp_esc (zv 2)) (dps_cons (dp_esc (zv 2)) dps_nil))))) dvs_nil))))))))
theorem sc__law_parts_right : FnScope ["row", "due", "skew_due", "again", "skew_again", "part", "mirror", "x"] ["row"] (defScope s__law_parts_right) := ⟨rfl, rfl, rfl, by decide +kernel, rfl, by decide +kernel, by decide +kernel⟩
theorem fn__law_parts_right (e : EnvOk mg K) : FnP P w K mg base "_law_parts_right" s__law_parts_right 7 ["row"] [.p] φ__law_parts_right := by
  obtain ⟨f, fd, F, hm⟩ := e.f__law_parts_right
  refine fnP_mk (k := 6) (N := ["row", "due", "skew_due", "again", "skew_again", "part", "mirror", "x"]) F hm (F.binds (ps := ["row"]) fun _ _ _ _ _ _ us hl => match us, hl with | [_], _ => rfl) sc__law_parts_right rfl rfl fun cdv A outer s H E hr => ?_
  exact (dss_cons (ds_par (i := 1) (j := 2) rfl sc__law_parts_right.nd rfl rfl (by decide) rfl rfl (dms_r (dr_fn ((fn__law_split e).mono (by omega)) hr (by rfl) (dvs_cons (dv_of (dp_esc (zv 0))) (dvs_cons (dv_of dp_bool) dvs_nil))) (dms_r (dr_fn ((fn__law_split e).mono (by omega)) hr (by rfl) (dvs_cons (dv_of (dp_esc (zv 0))) (dvs_cons (dv_of dp_bool) dvs_nil))) dms_nil)))
      (dss_cons (ds_if (dt_not (dt_val (dp_ofR (dr_fn ((fn__law_same e 5).mono (by omega)) hr (by rfl) (dvs_cons (dv_of (dp_fz (do_lst (dps_cons (dp_ofR (dr_fn ((fn_parts e).mono (by omega)) hr (by rfl) (dvs_cons (zv 0) dvs_nil))) (dps_cons (dp_ofR (dr_fnK0 ((fn_parts e).mono (by omega)) hr (by rfl) ["order"] [0] (dks_cons (zv 0) dks_nil) (fun _ _ _ _ _ _ _ ws hl => match ws, hl with | [_], _ => rfl) (hln := fun W σ H Q _ q => len_zt (len_cons len_nil) q))) (dps_cons (dp_ofR (dr_fn ((fn_skew_parts e).mono (by omega)) hr (by rfl) (dvs_cons (zv 0) dvs_nil))) (dps_cons (dp_ofR (dr_fnK0 ((fn_skew_parts e).mono (by omega)) hr (by rfl) ["order"] [0] (dks_cons (zv 0) dks_nil) (fun _ _ _ _ _ _ _ ws hl => match ws, hl with | [_], _ => rfl) (hln := fun W σ H Q _ q => len_zt (len_cons len_nil) q))) dps_nil))))))) (dvs_cons (dv_of (dp_fz (do_lst (dps_cons (dp_esc (zv 1)) (dps_cons (dp_esc (zv 1)) (dps_cons (dp_esc (zv 2)) (dps_cons (dp_esc (zv 2)) dps_nil))))))) dvs_nil)))))) (dss_one (ds_ret dp_bool)) dss_nil)
      (dss_cons (ds_if (dt_w (dw_and (dt_cmp or_gt (dv_of (dp_callB cd_len (by rfl) e.b_len boot_len (dvs_cons (zv 0) dvs_nil))) (dv_of dp_int) (by rfl)) (dw_and (dt_cmp or_gt (dv_of (dp_callB cd_len (by rfl) e.b_len boot_len (dvs_cons (zv 1) dvs_nil))) (dv_of dp_int) (by rfl)) (dw_and1 (dt_cmp or_gt (dv_of (dp_callB cd_len (by rfl) e.b_len boot_len (dvs_cons (zv 2) dvs_nil))) (dv_of dp_int) (by rfl)))))) (dss_one (ds_ret dp_bool)) dss_nil)
      (dss_cons (ds_parG rfl sc__law_parts_right.nd (.cons (i := 3) rfl (by first | exact Or.inl rfl | exact Or.inr rfl) (.inl rfl) rfl (.cons (i := 4) rfl (by first | exact Or.inl rfl | exact Or.inr rfl) (.inl rfl) rfl .nil)) (dms_d (dp_tup dps_nil) (dms_d (dp_tup dps_nil) dms_nil)) (by decide))
      (dss_cons (ds_for [5] passX rfl (di_val (zv 1)) (dgb_any (dg_name (i := 5) sc__law_parts_right.nd rfl (by first | exact Or.inl rfl | exact Or.inr rfl))) (dss_one (ds_setR (i := 3) sc__law_parts_right.nd rfl (by first | exact Or.inl rfl | exact Or.inr rfl) (dr_fn ((fn_summed e).mono (by omega)) hr (by rfl) (dvs_cons (zv 3) (dvs_cons (zv 5) dvs_nil))))))
      (dss_cons (ds_for [5] passX rfl (di_val (zv 2)) (dgb_any (dg_name (i := 5) sc__law_parts_right.nd rfl (by first | exact Or.inl rfl | exact Or.inr rfl))) (dss_one (ds_setR (i := 4) sc__law_parts_right.nd rfl (by first | exact Or.inl rfl | exact Or.inr rfl) (dr_fn ((fn_skew_summed e).mono (by omega)) hr (by rfl) (dvs_cons (zv 4) (dvs_cons (zv 5) dvs_nil))))))
      (dss_cons (ds_setComp [("part", 5)] (i := 6) rfl sc__law_parts_right.nd rfl rfl (sw_true rfl rfl (by rfl) (by rfl)) (di_val (zv 1)) (blkOk_by (by rfl)) (fun _ _ _ _ _ => (dgb_any (dg_name (i := 5) sc__law_parts_right.nd rfl (by first | exact Or.inl rfl | exact Or.inr rfl)))) (fun _ _ _ _ _ => dts_nil) (fun _ _ _ _ _ => (dp_callTy cd_tuple (by rfl) e.b_tuple boot_tuple (dvs_cons (dv_of (dp_fz (do_comp [("x", 7)] rfl sc__law_parts_right.nd (di_val (zv 5)) (blkOk_by (by rfl)) (fun _ _ _ _ _ => (dgb_any (dg_name (i := 7) sc__law_parts_right.nd rfl (by first | exact Or.inl rfl | exact Or.inr rfl)))) (fun _ _ _ _ _ => dts_nil) (fun _ _ _ _ _ => (dp_bin or_sub (dv_of (dp_ofR (dr_bin or_add or_cat (dv_of (dp_callB cd_len (by rfl) e.b_len boot_len (dvs_cons (zv 5) dvs_nil))) (dv_of dp_int)))) (zv 7))) (by simp [tgS, tgsS])))) dvs_nil))) (by simp [tgS, tgsS]))
      (dss_one (ds_retR (dr_fn ((fn__law_same e 5).mono (by omega)) hr (by rfl) (dvs_cons (dv_of (dp_fz (do_lst (dps_cons (dp_esc (zv 3)) (dps_cons (dp_esc (zv 4)) (dps_cons (dp_ofR (dr_fn ((fn_skew_parts e).mono (by omega)) hr (by rfl) (dvs_cons (dv_of (dp_ofR (dr_fn ((fn_mirrored e).mono (by omega)) hr (by rfl) (dvs_cons (zv 0) dvs_nil)))) dvs_nil))) dps_nil)))))) (dvs_cons (dv_of (dp_fz (do_lst (dps_cons (dp_esc (zv 0)) (dps_cons (dp_esc (zv 0)) (dps_cons (dp_callTy cd_tuple (by rfl) e.b_tuple boot_tuple (dvs_cons (zv 6) dvs_nil)) dps_nil)))))) dvs_nil))))))))))))
theorem sc_law : FnScope ["script", "at", "deck", "row", "second_row", "wide"] ["script"] (defScope s_law) := ⟨rfl, rfl, rfl, by decide +kernel, rfl, by decide +kernel, by decide +kernel⟩
theorem fn_law (e : EnvOk mg K) : FnP P w K mg base "law" s_law 8 ["script"] [.v] φ_law := by
  obtain ⟨f, fd, F, hm⟩ := e.f_law
  refine fnP_mk (k := 7) (N := ["script", "at", "deck", "row", "second_row", "wide"]) F hm (F.binds (ps := ["script"]) fun _ _ _ _ _ _ us hl => match us, hl with | [_], _ => rfl) sc_law rfl rfl fun cdv A outer s H E hr => ?_
  exact (dss_cons (ds_for [1, 2, 3, 4, 5] passX rfl (di_range1 (by rfl) e.b_range (dvs_cons (dv_of (dp_callB (cd_max rfl) (by rfl) e.b_max boot_max (dvs_cons (dv_of dp_int) (dvs_cons (dv_of (dp_callB (cd_min rfl) (by rfl) e.b_min boot_min (dvs_cons (dv_of (dp_callB cd_len (by rfl) e.b_len boot_len (dvs_cons (zv 0) dvs_nil))) (dvs_cons (dv_of dp_int) dvs_nil)))) dvs_nil)))) dvs_nil)) (dgb_any (dg_name (i := 1) sc_law.nd rfl (by first | exact Or.inl rfl | exact Or.inr rfl))) (dss_cons (ds_setR (i := 2) sc_law.nd rfl (by first | exact Or.inl rfl | exact Or.inr rfl) (dr_fn ((fn__law_deck e).mono (by omega)) hr (by rfl) (dvs_cons (zv 0) (dvs_cons (zv 1) dvs_nil))))
      (dss_cons (ds_par (i := 3) (j := 4) rfl sc_law.nd rfl rfl (by decide) rfl rfl (dms_r (dr_fn ((fn__law_row e).mono (by omega)) hr (by rfl) (dvs_cons (zv 2) (dvs_cons (dv_of dp_int) dvs_nil))) (dms_r (dr_fn ((fn__law_row e).mono (by omega)) hr (by rfl) (dvs_cons (zv 2) (dvs_cons (dv_of (dp_ix ixr (dv_of (dp_fz (do_lst (dps_cons dp_int (dps_cons dp_int dps_nil))))) (dv_of (dp_ofR (dr_fn ((fn__law_take e).mono (by omega)) hr (by rfl) (dvs_cons (zv 2) (dvs_cons (dv_of dp_int) dvs_nil))))) (fun _ _ => rfl))) dvs_nil))) dms_nil)))
      (dss_cons (ds_if (dt_w (dw_or (dt_not (dt_val (dp_ofR (dr_fn ((fn__law_summed_right e).mono (by omega)) hr (by rfl) (dvs_cons (zv 3) (dvs_cons (zv 4) dvs_nil)))))) (dw_or (dt_not (dt_val (dp_ofR (dr_fn ((fn__law_summed_right e).mono (by omega)) hr (by rfl) (dvs_cons (dv_of (dp_tup dps_nil)) (dvs_cons (zv 3) dvs_nil)))))) (dw_or1 (dt_not (dt_val (dp_ofR (dr_fn ((fn__law_summed_right e).mono (by omega)) hr (by rfl) (dvs_cons (zv 3) (dvs_cons (dv_of (dp_tup dps_nil)) dvs_nil)))))))))) (dss_one (ds_ret dp_bool)) dss_nil)
      (dss_cons (ds_set (i := 5) sc_law.nd rfl (by first | exact Or.inl rfl | exact Or.inr rfl) (dp_ix ixr (dv_of (dp_fz (do_lst (dps_cons (dp_ofR (dr_fn ((fn__law_sum e).mono (by omega)) hr (by rfl) (dvs_cons (zv 3) (dvs_cons (zv 4) dvs_nil)))) (dps_cons (dp_ofR (dr_fn ((fn__law_skew_sum e).mono (by omega)) hr (by rfl) (dvs_cons (zv 3) (dvs_cons (zv 4) dvs_nil)))) (dps_cons (dp_ofR (dr_fn ((fn__law_row e).mono (by omega)) hr (by rfl) (dvs_cons (zv 2) (dvs_cons (dv_of dp_int) dvs_nil)))) dps_nil)))))) (dv_of (dp_ofR (dr_fn ((fn__law_take e).mono (by omega)) hr (by rfl) (dvs_cons (zv 2) (dvs_cons (dv_of dp_int) dvs_nil))))) (fun _ _ => rfl)))
      (dss_one (ds_if (dt_w (dw_or (dt_not (dt_val (dp_ofR (dr_fn ((fn__law_parts_right e).mono (by omega)) hr (by rfl) (dvs_cons (dv_of (dp_esc (zv 5))) dvs_nil))))) (dw_or1 (dt_not (dt_val (dp_ofR (dr_fn ((fn__law_parts_right e).mono (by omega)) hr (by rfl) (dvs_cons (dv_of (dp_esc (zv 3))) dvs_nil)))))))) (dss_one (ds_ret dp_bool)) dss_nil)))))))
      (dss_one (ds_ret dp_bool)))
end
theorem all_mk {w : World} {K : PySem.W.Frag} {h : Heap} {mg : Str → Option Value} {fa : Addr} (X : K.In h) (G : h.Ns mainGlobals mg) (hfa : mg "law" = some (.ref fa)) (main : ∀ ns : List Int, ns.length ≤ 63 → φ_law [.list (ns.map PyData.int)] = .ret (.d (.bool true)) [])
    {od0 an0 : Option Addr} {f0 : Addr} {sl0 : Array (Option Value)} {oc0 kV0 dc0 pm0 cd0 ct0 : Value} (a0 : PySem.W.nsIn K mainGlobals "is_integer" = some (some (.ref f0))) (l0 : K.lookup f0 = some ⟨oc0, od0, .func (PySem.W.fnOf "is_integer" "is_integer" (defArgs s_is_integer) (defBody s_is_integer) (defScope s_is_integer) .none kV0 dc0 pm0 an0 cd0 ct0), sl0⟩) (c0 : PySem.W.codeIn K cd0 "is_integer" = true) (k0 : PySem.W.keepIn K (.ref f0) = true)
    {od1 an1 : Option Addr} {f1 : Addr} {sl1 : Array (Option Value)} {oc1 kV1 dc1 pm1 cd1 ct1 : Value} (a1 : PySem.W.nsIn K mainGlobals "are_integers" = some (some (.ref f1))) (l1 : K.lookup f1 = some ⟨oc1, od1, .func (PySem.W.fnOf "are_integers" "are_integers" (defArgs s_are_integers) (defBody s_are_integers) (defScope s_are_integers) .none kV1 dc1 pm1 an1 cd1 ct1), sl1⟩) (c1 : PySem.W.codeIn K cd1 "are_integers" = true) (k1 : PySem.W.keepIn K (.ref f1) = true)
    {od2 an2 : Option Addr} {f2 : Addr} {sl2 : Array (Option Value)} {oc2 kV2 dc2 pm2 cd2 ct2 : Value} (a2 : PySem.W.nsIn K mainGlobals "is_order_of" = some (some (.ref f2))) (l2 : K.lookup f2 = some ⟨oc2, od2, .func (PySem.W.fnOf "is_order_of" "is_order_of" (defArgs s_is_order_of) (defBody s_is_order_of) (defScope s_is_order_of) .none kV2 dc2 pm2 an2 cd2 ct2), sl2⟩) (c2 : PySem.W.codeIn K cd2 "is_order_of" = true) (k2 : PySem.W.keepIn K (.ref f2) = true)
    {od3 an3 : Option Addr} {f3 : Addr} {sl3 : Array (Option Value)} {oc3 kV3 dc3 pm3 cd3 ct3 : Value} (a3 : PySem.W.nsIn K mainGlobals "check_order" = some (some (.ref f3))) (l3 : K.lookup f3 = some ⟨oc3, od3, .func (PySem.W.fnOf "check_order" "check_order" (defArgs s_check_order) (defBody s_check_order) (defScope s_check_order) .none kV3 dc3 pm3 an3 cd3 ct3), sl3⟩) (c3 : PySem.W.codeIn K cd3 "check_order" = true) (k3 : PySem.W.keepIn K (.ref f3) = true)
    {od4 an4 : Option Addr} {f4 : Addr} {sl4 : Array (Option Value)} {oc4 kV4 dc4 pm4 cd4 ct4 : Value} (a4 : PySem.W.nsIn K mainGlobals "mirrored_of" = some (some (.ref f4))) (l4 : K.lookup f4 = some ⟨oc4, od4, .func (PySem.W.fnOf "mirrored_of" "mirrored_of" (defArgs s_mirrored_of) (defBody s_mirrored_of) (defScope s_mirrored_of) .none kV4 dc4 pm4 an4 cd4 ct4), sl4⟩) (c4 : PySem.W.codeIn K cd4 "mirrored_of" = true) (k4 : PySem.W.keepIn K (.ref f4) = true)
    {od5 an5 : Option Addr} {f5 : Addr} {sl5 : Array (Option Value)} {oc5 kV5 dc5 pm5 cd5 ct5 : Value} (a5 : PySem.W.nsIn K mainGlobals "mirrored" = some (some (.ref f5))) (l5 : K.lookup f5 = some ⟨oc5, od5, .func (PySem.W.fnOf "mirrored" "mirrored" (defArgs s_mirrored) (defBody s_mirrored) (defScope s_mirrored) .none kV5 dc5 pm5 an5 cd5 ct5), sl5⟩) (c5 : PySem.W.codeIn K cd5 "mirrored" = true) (k5 : PySem.W.keepIn K (.ref f5) = true)
    {od6 an6 : Option Addr} {f6 : Addr} {sl6 : Array (Option Value)} {oc6 kV6 dc6 pm6 cd6 ct6 : Value} (a6 : PySem.W.nsIn K mainGlobals "lifted" = some (some (.ref f6))) (l6 : K.lookup f6 = some ⟨oc6, od6, .func (PySem.W.fnOf "lifted" "lifted" (defArgs s_lifted) (defBody s_lifted) (defScope s_lifted) .none kV6 dc6 pm6 an6 cd6 ct6), sl6⟩) (c6 : PySem.W.codeIn K cd6 "lifted" = true) (k6 : PySem.W.keepIn K (.ref f6) = true)
    {od7 an7 : Option Addr} {f7 : Addr} {sl7 : Array (Option Value)} {oc7 kV7 dc7 pm7 cd7 ct7 : Value} (a7 : PySem.W.nsIn K mainGlobals "summed_of" = some (some (.ref f7))) (l7 : K.lookup f7 = some ⟨oc7, od7, .func (PySem.W.fnOf "summed_of" "summed_of" (defArgs s_summed_of) (defBody s_summed_of) (defScope s_summed_of) .none kV7 dc7 pm7 an7 cd7 ct7), sl7⟩) (c7 : PySem.W.codeIn K cd7 "summed_of" = true) (k7 : PySem.W.keepIn K (.ref f7) = true)
    {od8 an8 : Option Addr} {f8 : Addr} {sl8 : Array (Option Value)} {oc8 kV8 dc8 pm8 cd8 ct8 : Value} (a8 : PySem.W.nsIn K mainGlobals "skew_summed_of" = some (some (.ref f8))) (l8 : K.lookup f8 = some ⟨oc8, od8, .func (PySem.W.fnOf "skew_summed_of" "skew_summed_of" (defArgs s_skew_summed_of) (defBody s_skew_summed_of) (defScope s_skew_summed_of) .none kV8 dc8 pm8 an8 cd8 ct8), sl8⟩) (c8 : PySem.W.codeIn K cd8 "skew_summed_of" = true) (k8 : PySem.W.keepIn K (.ref f8) = true)
    {od9 an9 : Option Addr} {f9 : Addr} {sl9 : Array (Option Value)} {oc9 kV9 dc9 pm9 cd9 ct9 : Value} (a9 : PySem.W.nsIn K mainGlobals "summed" = some (some (.ref f9))) (l9 : K.lookup f9 = some ⟨oc9, od9, .func (PySem.W.fnOf "summed" "summed" (defArgs s_summed) (defBody s_summed) (defScope s_summed) .none kV9 dc9 pm9 an9 cd9 ct9), sl9⟩) (c9 : PySem.W.codeIn K cd9 "summed" = true) (k9 : PySem.W.keepIn K (.ref f9) = true)
    {od10 an10 : Option Addr} {f10 : Addr} {sl10 : Array (Option Value)} {oc10 kV10 dc10 pm10 cd10 ct10 : Value} (a10 : PySem.W.nsIn K mainGlobals "skew_summed" = some (some (.ref f10))) (l10 : K.lookup f10 = some ⟨oc10, od10, .func (PySem.W.fnOf "skew_summed" "skew_summed" (defArgs s_skew_summed) (defBody s_skew_summed) (defScope s_skew_summed) .none kV10 dc10 pm10 an10 cd10 ct10), sl10⟩) (c10 : PySem.W.codeIn K cd10 "skew_summed" = true) (k10 : PySem.W.keepIn K (.ref f10) = true)
    {od11 an11 : Option Addr} {f11 : Addr} {sl11 : Array (Option Value)} {oc11 kV11 dc11 pm11 cd11 ct11 : Value} (a11 : PySem.W.nsIn K mainGlobals "parts_of_sum" = some (some (.ref f11))) (l11 : K.lookup f11 = some ⟨oc11, od11, .func (PySem.W.fnOf "parts_of_sum" "parts_of_sum" (defArgs s_parts_of_sum) (defBody s_parts_of_sum) (defScope s_parts_of_sum) .none kV11 dc11 pm11 an11 cd11 ct11), sl11⟩) (c11 : PySem.W.codeIn K cd11 "parts_of_sum" = true) (k11 : PySem.W.keepIn K (.ref f11) = true)
    {od12 an12 : Option Addr} {f12 : Addr} {sl12 : Array (Option Value)} {oc12 kV12 dc12 pm12 cd12 ct12 : Value} (a12 : PySem.W.nsIn K mainGlobals "parts_of_skew" = some (some (.ref f12))) (l12 : K.lookup f12 = some ⟨oc12, od12, .func (PySem.W.fnOf "parts_of_skew" "parts_of_skew" (defArgs s_parts_of_skew) (defBody s_parts_of_skew) (defScope s_parts_of_skew) .none kV12 dc12 pm12 an12 cd12 ct12), sl12⟩) (c12 : PySem.W.codeIn K cd12 "parts_of_skew" = true) (k12 : PySem.W.keepIn K (.ref f12) = true)
    {od13 an13 : Option Addr} {f13 : Addr} {sl13 : Array (Option Value)} {oc13 kV13 dc13 pm13 cd13 ct13 : Value} (a13 : PySem.W.nsIn K mainGlobals "parts" = some (some (.ref f13))) (l13 : K.lookup f13 = some ⟨oc13, od13, .func (PySem.W.fnOf "parts" "parts" (defArgs s_parts) (defBody s_parts) (defScope s_parts) .none kV13 dc13 pm13 an13 cd13 ct13), sl13⟩) (c13 : PySem.W.codeIn K cd13 "parts" = true) (k13 : PySem.W.keepIn K (.ref f13) = true)
    {od14 an14 : Option Addr} {f14 : Addr} {sl14 : Array (Option Value)} {oc14 kV14 dc14 pm14 cd14 ct14 : Value} (a14 : PySem.W.nsIn K mainGlobals "skew_parts" = some (some (.ref f14))) (l14 : K.lookup f14 = some ⟨oc14, od14, .func (PySem.W.fnOf "skew_parts" "skew_parts" (defArgs s_skew_parts) (defBody s_skew_parts) (defScope s_skew_parts) .none kV14 dc14 pm14 an14 cd14 ct14), sl14⟩) (c14 : PySem.W.codeIn K cd14 "skew_parts" = true) (k14 : PySem.W.keepIn K (.ref f14) = true)
    {od15 an15 : Option Addr} {f15 : Addr} {sl15 : Array (Option Value)} {oc15 kV15 dc15 pm15 cd15 ct15 : Value} (a15 : PySem.W.nsIn K mainGlobals "_law_deck" = some (some (.ref f15))) (l15 : K.lookup f15 = some ⟨oc15, od15, .func (PySem.W.fnOf "_law_deck" "_law_deck" (defArgs s__law_deck) (defBody s__law_deck) (defScope s__law_deck) .none kV15 dc15 pm15 an15 cd15 ct15), sl15⟩) (c15 : PySem.W.codeIn K cd15 "_law_deck" = true) (k15 : PySem.W.keepIn K (.ref f15) = true)
    {od16 an16 : Option Addr} {f16 : Addr} {sl16 : Array (Option Value)} {oc16 kV16 dc16 pm16 cd16 ct16 : Value} (a16 : PySem.W.nsIn K mainGlobals "_law_take" = some (some (.ref f16))) (l16 : K.lookup f16 = some ⟨oc16, od16, .func (PySem.W.fnOf "_law_take" "_law_take" (defArgs s__law_take) (defBody s__law_take) (defScope s__law_take) .none kV16 dc16 pm16 an16 cd16 ct16), sl16⟩) (c16 : PySem.W.codeIn K cd16 "_law_take" = true) (k16 : PySem.W.keepIn K (.ref f16) = true)
    {od17 an17 : Option Addr} {f17 : Addr} {sl17 : Array (Option Value)} {oc17 kV17 dc17 pm17 cd17 ct17 : Value} (a17 : PySem.W.nsIn K mainGlobals "_law_same" = some (some (.ref f17))) (l17 : K.lookup f17 = some ⟨oc17, od17, .func (PySem.W.fnOf "_law_same" "_law_same" (defArgs s__law_same) (defBody s__law_same) (defScope s__law_same) .none kV17 dc17 pm17 an17 cd17 ct17), sl17⟩) (c17 : PySem.W.codeIn K cd17 "_law_same" = true) (k17 : PySem.W.keepIn K (.ref f17) = true)
    {od18 an18 : Option Addr} {f18 : Addr} {sl18 : Array (Option Value)} {oc18 kV18 dc18 pm18 cd18 ct18 : Value} (a18 : PySem.W.nsIn K mainGlobals "_law_drawn" = some (some (.ref f18))) (l18 : K.lookup f18 = some ⟨oc18, od18, .func (PySem.W.fnOf "_law_drawn" "_law_drawn" (defArgs s__law_drawn) (defBody s__law_drawn) (defScope s__law_drawn) .none kV18 dc18 pm18 an18 cd18 ct18), sl18⟩) (c18 : PySem.W.codeIn K cd18 "_law_drawn" = true) (k18 : PySem.W.keepIn K (.ref f18) = true)
    {od19 an19 : Option Addr} {f19 : Addr} {sl19 : Array (Option Value)} {oc19 kV19 dc19 pm19 cd19 ct19 : Value} (a19 : PySem.W.nsIn K mainGlobals "_law_like" = some (some (.ref f19))) (l19 : K.lookup f19 = some ⟨oc19, od19, .func (PySem.W.fnOf "_law_like" "_law_like" (defArgs s__law_like) (defBody s__law_like) (defScope s__law_like) .none kV19 dc19 pm19 an19 cd19 ct19), sl19⟩) (c19 : PySem.W.codeIn K cd19 "_law_like" = true) (k19 : PySem.W.keepIn K (.ref f19) = true)
    {od20 an20 : Option Addr} {f20 : Addr} {sl20 : Array (Option Value)} {oc20 kV20 dc20 pm20 cd20 ct20 : Value} (a20 : PySem.W.nsIn K mainGlobals "_law_filled" = some (some (.ref f20))) (l20 : K.lookup f20 = some ⟨oc20, od20, .func (PySem.W.fnOf "_law_filled" "_law_filled" (defArgs s__law_filled) (defBody s__law_filled) (defScope s__law_filled) .none kV20 dc20 pm20 an20 cd20 ct20), sl20⟩) (c20 : PySem.W.codeIn K cd20 "_law_filled" = true) (k20 : PySem.W.keepIn K (.ref f20) = true)
    {od21 an21 : Option Addr} {f21 : Addr} {sl21 : Array (Option Value)} {oc21 kV21 dc21 pm21 cd21 ct21 : Value} (a21 : PySem.W.nsIn K mainGlobals "_law_row" = some (some (.ref f21))) (l21 : K.lookup f21 = some ⟨oc21, od21, .func (PySem.W.fnOf "_law_row" "_law_row" (defArgs s__law_row) (defBody s__law_row) (defScope s__law_row) .none kV21 dc21 pm21 an21 cd21 ct21), sl21⟩) (c21 : PySem.W.codeIn K cd21 "_law_row" = true) (k21 : PySem.W.keepIn K (.ref f21) = true)
    {od22 an22 : Option Addr} {f22 : Addr} {sl22 : Array (Option Value)} {oc22 kV22 dc22 pm22 cd22 ct22 : Value} (a22 : PySem.W.nsIn K mainGlobals "_law_split" = some (some (.ref f22))) (l22 : K.lookup f22 = some ⟨oc22, od22, .func (PySem.W.fnOf "_law_split" "_law_split" (defArgs s__law_split) (defBody s__law_split) (defScope s__law_split) .none kV22 dc22 pm22 an22 cd22 ct22), sl22⟩) (c22 : PySem.W.codeIn K cd22 "_law_split" = true) (k22 : PySem.W.keepIn K (.ref f22) = true)
    {od23 an23 : Option Addr} {f23 : Addr} {sl23 : Array (Option Value)} {oc23 kV23 dc23 pm23 cd23 ct23 : Value} (a23 : PySem.W.nsIn K mainGlobals "_law_sum" = some (some (.ref f23))) (l23 : K.lookup f23 = some ⟨oc23, od23, .func (PySem.W.fnOf "_law_sum" "_law_sum" (defArgs s__law_sum) (defBody s__law_sum) (defScope s__law_sum) .none kV23 dc23 pm23 an23 cd23 ct23), sl23⟩) (c23 : PySem.W.codeIn K cd23 "_law_sum" = true) (k23 : PySem.W.keepIn K (.ref f23) = true)
    {od24 an24 : Option Addr} {f24 : Addr} {sl24 : Array (Option Value)} {oc24 kV24 dc24 pm24 cd24 ct24 : Value} (a24 : PySem.W.nsIn K mainGlobals "_law_skew_sum" = some (some (.ref f24))) (l24 : K.lookup f24 = some ⟨oc24, od24, .func (PySem.W.fnOf "_law_skew_sum" "_law_skew_sum" (defArgs s__law_skew_sum) (defBody s__law_skew_sum) (defScope s__law_skew_sum) .none kV24 dc24 pm24 an24 cd24 ct24), sl24⟩) (c24 : PySem.W.codeIn K cd24 "_law_skew_sum" = true) (k24 : PySem.W.keepIn K (.ref f24) = true)
    {od25 an25 : Option Addr} {f25 : Addr} {sl25 : Array (Option Value)} {oc25 kV25 dc25 pm25 cd25 ct25 : Value} (a25 : PySem.W.nsIn K mainGlobals "_law_summed_right" = some (some (.ref f25))) (l25 : K.lookup f25 = some ⟨oc25, od25, .func (PySem.W.fnOf "_law_summed_right" "_law_summed_right" (defArgs s__law_summed_right) (defBody s__law_summed_right) (defScope s__law_summed_right) .none kV25 dc25 pm25 an25 cd25 ct25), sl25⟩) (c25 : PySem.W.codeIn K cd25 "_law_summed_right" = true) (k25 : PySem.W.keepIn K (.ref f25) = true)
    {od26 an26 : Option Addr} {f26 : Addr} {sl26 : Array (Option Value)} {oc26 kV26 dc26 pm26 cd26 ct26 : Value} (a26 : PySem.W.nsIn K mainGlobals "_law_parts_right" = some (some (.ref f26))) (l26 : K.lookup f26 = some ⟨oc26, od26, .func (PySem.W.fnOf "_law_parts_right" "_law_parts_right" (defArgs s__law_parts_right) (defBody s__law_parts_right) (defScope s__law_parts_right) .none kV26 dc26 pm26 an26 cd26 ct26), sl26⟩) (c26 : PySem.W.codeIn K cd26 "_law_parts_right" = true) (k26 : PySem.W.keepIn K (.ref f26) = true)
    {od27 an27 : Option Addr} {f27 : Addr} {sl27 : Array (Option Value)} {oc27 kV27 dc27 pm27 cd27 ct27 : Value} (a27 : PySem.W.nsIn K mainGlobals "law" = some (some (.ref f27))) (l27 : K.lookup f27 = some ⟨oc27, od27, .func (PySem.W.fnOf "law" "law" (defArgs s_law) (defBody s_law) (defScope s_law) .none kV27 dc27 pm27 an27 cd27 ct27), sl27⟩) (c27 : PySem.W.codeIn K cd27 "law" = true) (k27 : PySem.W.keepIn K (.ref f27) = true)
    (z0 : PySem.W.nsIn K mainGlobals "all" = some none)
    (z1 : PySem.W.nsIn K mainGlobals "bool" = some none)
    (z2 : PySem.W.nsIn K mainGlobals "enumerate" = some none)
    (z3 : PySem.W.nsIn K mainGlobals "int" = some none)
    (z4 : PySem.W.nsIn K mainGlobals "isinstance" = some none)
    (z5 : PySem.W.nsIn K mainGlobals "len" = some none)
    (z6 : PySem.W.nsIn K mainGlobals "list" = some none)
    (z7 : PySem.W.nsIn K mainGlobals "max" = some none)
    (z8 : PySem.W.nsIn K mainGlobals "min" = some none)
    (z9 : PySem.W.nsIn K mainGlobals "range" = some none)
    (z10 : PySem.W.nsIn K mainGlobals "sorted" = some none)
    (z11 : PySem.W.nsIn K mainGlobals "str" = some none)
    (z12 : PySem.W.nsIn K mainGlobals "sum" = some none)
    (z13 : PySem.W.nsIn K mainGlobals "tuple" = some none) :
    ∃ fd : FuncData, (∀ (s : Shared) (v : Value), BindsTo s fd ⟨[v], []⟩ [("script", v)]) ∧ ∀ base : Heap, K.In base → base.Ns mainGlobals mg → FnOk PySem.Challenge.pw_wholeorders_k04_whole_sums_and_parts w K mg base (L2.CX PySem.Challenge.pw_wholeorders_k04_whole_sums_and_parts w) 8 fa fd ["script"] (Z.spLaw K) := by
  have e := hfa.symm.trans (PySem.W.mg_of X G a27)
  cases e
  have en : EnvOk mg K := ⟨⟨_, _, fun_mk (st := s_is_integer) l0 c0 k0, PySem.W.mg_of X G a0⟩,
    ⟨_, _, fun_mk (st := s_are_integers) l1 c1 k1, PySem.W.mg_of X G a1⟩,
    ⟨_, _, fun_mk (st := s_is_order_of) l2 c2 k2, PySem.W.mg_of X G a2⟩,
    ⟨_, _, fun_mk (st := s_check_order) l3 c3 k3, PySem.W.mg_of X G a3⟩,
    ⟨_, _, fun_mk (st := s_mirrored_of) l4 c4 k4, PySem.W.mg_of X G a4⟩,
    ⟨_, _, fun_mk (st := s_mirrored) l5 c5 k5, PySem.W.mg_of X G a5⟩,
    ⟨_, _, fun_mk (st := s_lifted) l6 c6 k6, PySem.W.mg_of X G a6⟩,
    ⟨_, _, fun_mk (st := s_summed_of) l7 c7 k7, PySem.W.mg_of X G a7⟩,
    ⟨_, _, fun_mk (st := s_skew_summed_of) l8 c8 k8, PySem.W.mg_of X G a8⟩,
    ⟨_, _, fun_mk (st := s_summed) l9 c9 k9, PySem.W.mg_of X G a9⟩,
    ⟨_, _, fun_mk (st := s_skew_summed) l10 c10 k10, PySem.W.mg_of X G a10⟩,
    ⟨_, _, fun_mk (st := s_parts_of_sum) l11 c11 k11, PySem.W.mg_of X G a11⟩,
    ⟨_, _, fun_mk (st := s_parts_of_skew) l12 c12 k12, PySem.W.mg_of X G a12⟩,
    ⟨_, _, fun_mk (st := s_parts) l13 c13 k13, PySem.W.mg_of X G a13⟩,
    ⟨_, _, fun_mk (st := s_skew_parts) l14 c14 k14, PySem.W.mg_of X G a14⟩,
    ⟨_, _, fun_mk (st := s__law_deck) l15 c15 k15, PySem.W.mg_of X G a15⟩,
    ⟨_, _, fun_mk (st := s__law_take) l16 c16 k16, PySem.W.mg_of X G a16⟩,
    ⟨_, _, fun_mk (st := s__law_same) l17 c17 k17, PySem.W.mg_of X G a17⟩,
    ⟨_, _, fun_mk (st := s__law_drawn) l18 c18 k18, PySem.W.mg_of X G a18⟩,
    ⟨_, _, fun_mk (st := s__law_like) l19 c19 k19, PySem.W.mg_of X G a19⟩,
    ⟨_, _, fun_mk (st := s__law_filled) l20 c20 k20, PySem.W.mg_of X G a20⟩,
    ⟨_, _, fun_mk (st := s__law_row) l21 c21 k21, PySem.W.mg_of X G a21⟩,
    ⟨_, _, fun_mk (st := s__law_split) l22 c22 k22, PySem.W.mg_of X G a22⟩,
    ⟨_, _, fun_mk (st := s__law_sum) l23 c23 k23, PySem.W.mg_of X G a23⟩,
    ⟨_, _, fun_mk (st := s__law_skew_sum) l24 c24 k24, PySem.W.mg_of X G a24⟩,
    ⟨_, _, fun_mk (st := s__law_summed_right) l25 c25 k25, PySem.W.mg_of X G a25⟩,
    ⟨_, _, fun_mk (st := s__law_parts_right) l26 c26 k26, PySem.W.mg_of X G a26⟩,
    ⟨_, _, fun_mk (st := s_law) l27 c27 k27, PySem.W.mg_of X G a27⟩,
    PySem.W.mg_none_of X G z0,
    PySem.W.mg_none_of X G z1,
    PySem.W.mg_none_of X G z2,
    PySem.W.mg_none_of X G z3,
    PySem.W.mg_none_of X G z4,
    PySem.W.mg_none_of X G z5,
    PySem.W.mg_none_of X G z6,
    PySem.W.mg_none_of X G z7,
    PySem.W.mg_none_of X G z8,
    PySem.W.mg_none_of X G z9,
    PySem.W.mg_none_of X G z10,
    PySem.W.mg_none_of X G z11,
    PySem.W.mg_none_of X G z12,
    PySem.W.mg_none_of X G z13⟩
  exact ⟨PySem.W.fnOf "law" "law" (defArgs s_law) (defBody s_law) (defScope s_law) .none kV27 dc27 pm27 an27 cd27 ct27, fun s v => .of_eq rfl, fun base _ _ => law_fn (fn_law en) hfa ⟨_, _, _, l27⟩ main⟩
end Ck04
set_option Elab.async false
set_option linter.all false
set_option maxRecDepth 100000
set_option autoImplicit false
set_option maxHeartbeats 2000000
namespace Ck04
open PySem PySem.Spec PyProof.Rows L2 Z
def Deck (l : List D) : Prop := ∃ a b : Int, l = [.int a, .int b]
theorem take_ok {l : List D} (hl : Deck l) (many : Int) (hm : 0 < many) (hs : many < 1000) : ∃ (r : Int) (l' : List D), φ__law_take [.list l, .int many] = .ret (.d (.int r)) l' ∧ Deck l' ∧ 0 ≤ r ∧ r < many := by
  obtain ⟨a, b, rfl⟩ := hl
  have h2 : many < 1073741824 := by omega
  by_cases h : 0 < a
  · refine ⟨a % many, [.int (a / many), .int b], ?_, ⟨_, _, rfl⟩, Int.emod_nonneg _ (by omega), Int.emod_lt_of_pos _ hm⟩
    unfold φ__law_take m__law_take
    simp only [bnd_at, rt_at, thn_ok, thn_ex, oRo_some, oMap_some, brn_t, brn_f, dName_at, slR_d, slR_a, slR_o, vl_d, vl_s, slV_d, slV_a, slV_o, dv_at, dEsc_at, esc_d, esc_s, escS_d, escS_o, dFz_at, dC_at, dNil_at, dCons_at, vNil_at, vCons_at, op2_at, op2r_at, op1_at, op1o_at, opN_at, opNo_at, vls_nil, vls_cons, cutR_at, oNone_at, oSome_at, dTup_at, dLst_at, dB_at, boolD_b, dNot_at, dAnd_at, dOr_at, dIfE_at, dAndV_at, dOrV_at, dNotV_at, dSeq_at, dsq_nx, dsq_rt, dsq_bk, dsq_ct, dsq_ex, sNx_at, sBk_at, sCt_at, sExpr_at, sRet_at, sRetO_at, sRetN_at, sRetV_at, retS_d, retS_o, sSet_at, sSetO_at, sIf_at, ownV_o, msNil_at, msD_at, msO_at, msR_at, gRo_some, sPar_at, setRs_nil, setRs_d, setRs_o, callP_at, callK_at, argO_some, callM_at, outR_ret, outR_ex, argD_nil, argD_v, argD_p, argD_m, argD_vn, argD_vs, Option.some.injEq, Nat.reduceEqDiff, mIx_m, mIx_v, mIx_p, mIx_nil, putM_none, putM_some, putO_o, call1_at, rD_at, rtD_d, rtD_o, rO_at, rtO_o, sExprR_at, sRetR_at, sSetR_at, setS_d, setS_o, runF_at, outF_nx, outF_rt, mOut_some, muOf_nil, muOf_m, muOf_v, muOf_p, chk_some, sSub_at, subS0, subS1, mutS_some, mutP_some, dMut_at, mixR_at, dChain_at, dRep_at, intD_i, rg1_at, rg2_at, dLstRg_go, rgL_ok, dTupRg_go, rgT_ok, dTupRg3_go, rgT3_ok, rgO1_ok, rgO2_ok, rgO3_ok, sm0, sm1, dIndexT_at, seqS_d, seqS_a, seqS_o, seqD_l, seqD_t, itR_d, itR_s, iV_at, iO_at, iR1_go, iR2_go, iR3_go, iEnV_at, iEnO_at, sFor_at, compL_at, fAdd_i, fSub_i, fLt_i, fLe_i, fGt_i, fGe_i, fDiv_33, fPow_64, fPow_33, fPow_18, fNeg_i, fLen_l, fLen_t, fInt_i, fTuple_l, fList_l, fMax_2, fMin_2, fIx_l0, fIx_l1, fIx_l2, fEq_i, start0, svs, svK, svA, List.length_cons, List.length_nil, List.replicate, List.append_nil, List.cons_append, List.nil_append, List.getElem?_cons_zero, List.getElem?_cons_succ, List.set_cons_zero, List.set_cons_succ, Bool.not_true, Bool.not_false, decide_true, decide_false, ne_eq, not_false_eq_true, Nat.reduceAdd, Nat.reduceSub, fMul_take, fMul_7919, fMul_31, Nat.reduceLT, Int.reduceLT, Int.reduceEq, fMod_i, fDiv_i, bdz_ok, setT_nm, fgt_nil, fgt_cons, wipG_nil, wipG_cons, sz1, sz2, sz3, sz4, sz5, Nat.zero_le, fIs_ii, fIs_ib, fIs_is, fIs_itl, fIs_tt, fIs_tl, fIs_ttl, fIs_lt, fIs_ll, fIs_ltl, fAll_b, fSum_i, fBack_t, fBackL_l, h, hm, h2]
  · refine ⟨(b * 6364136223846793005 + 1442695040888963407) % 18446744073709551616 / 8589934592 % many, [.int a, .int ((b * 6364136223846793005 + 1442695040888963407) % 18446744073709551616)], ?_, ⟨_, _, rfl⟩, Int.emod_nonneg _ (by omega), Int.emod_lt_of_pos _ hm⟩
    unfold φ__law_take m__law_take
    simp only [bnd_at, rt_at, thn_ok, thn_ex, oRo_some, oMap_some, brn_t, brn_f, dName_at, slR_d, slR_a, slR_o, vl_d, vl_s, slV_d, slV_a, slV_o, dv_at, dEsc_at, esc_d, esc_s, escS_d, escS_o, dFz_at, dC_at, dNil_at, dCons_at, vNil_at, vCons_at, op2_at, op2r_at, op1_at, op1o_at, opN_at, opNo_at, vls_nil, vls_cons, cutR_at, oNone_at, oSome_at, dTup_at, dLst_at, dB_at, boolD_b, dNot_at, dAnd_at, dOr_at, dIfE_at, dAndV_at, dOrV_at, dNotV_at, dSeq_at, dsq_nx, dsq_rt, dsq_bk, dsq_ct, dsq_ex, sNx_at, sBk_at, sCt_at, sExpr_at, sRet_at, sRetO_at, sRetN_at, sRetV_at, retS_d, retS_o, sSet_at, sSetO_at, sIf_at, ownV_o, msNil_at, msD_at, msO_at, msR_at, gRo_some, sPar_at, setRs_nil, setRs_d, setRs_o, callP_at, callK_at, argO_some, callM_at, outR_ret, outR_ex, argD_nil, argD_v, argD_p, argD_m, argD_vn, argD_vs, Option.some.injEq, Nat.reduceEqDiff, mIx_m, mIx_v, mIx_p, mIx_nil, putM_none, putM_some, putO_o, call1_at, rD_at, rtD_d, rtD_o, rO_at, rtO_o, sExprR_at, sRetR_at, sSetR_at, setS_d, setS_o, runF_at, outF_nx, outF_rt, mOut_some, muOf_nil, muOf_m, muOf_v, muOf_p, chk_some, sSub_at, subS0, subS1, mutS_some, mutP_some, dMut_at, mixR_at, dChain_at, dRep_at, intD_i, rg1_at, rg2_at, dLstRg_go, rgL_ok, dTupRg_go, rgT_ok, dTupRg3_go, rgT3_ok, rgO1_ok, rgO2_ok, rgO3_ok, sm0, sm1, dIndexT_at, seqS_d, seqS_a, seqS_o, seqD_l, seqD_t, itR_d, itR_s, iV_at, iO_at, iR1_go, iR2_go, iR3_go, iEnV_at, iEnO_at, sFor_at, compL_at, fAdd_i, fSub_i, fLt_i, fLe_i, fGt_i, fGe_i, fDiv_33, fPow_64, fPow_33, fPow_18, fNeg_i, fLen_l, fLen_t, fInt_i, fTuple_l, fList_l, fMax_2, fMin_2, fIx_l0, fIx_l1, fIx_l2, fEq_i, start0, svs, svK, svA, List.length_cons, List.length_nil, List.replicate, List.append_nil, List.cons_append, List.nil_append, List.getElem?_cons_zero, List.getElem?_cons_succ, List.set_cons_zero, List.set_cons_succ, Bool.not_true, Bool.not_false, decide_true, decide_false, ne_eq, not_false_eq_true, Nat.reduceAdd, Nat.reduceSub, fMul_take, fMul_7919, fMul_31, Nat.reduceLT, Int.reduceLT, Int.reduceEq, fMod_i, fDiv_i, bdz_ok, setT_nm, fgt_nil, fgt_cons, wipG_nil, wipG_cons, sz1, sz2, sz3, sz4, sz5, Nat.zero_le, fIs_ii, fIs_ib, fIs_is, fIs_itl, fIs_tt, fIs_tl, fIs_ttl, fIs_lt, fIs_ll, fIs_ltl, fAll_b, fSum_i, fBack_t, fBackL_l, h, hm, h2]
theorem natAbs_mod61 (x : Int) : (x % 2305843009213693951).natAbs < 18446744073709551616 := by
  have h1 := Int.emod_nonneg x (show (2305843009213693951 : Int) ≠ 0 by decide)
  have h2 := Int.emod_lt_of_pos x (show (0 : Int) < 2305843009213693951 by decide)
  omega
theorem deck_ok (ns : List Int) (k : Nat) : ∃ l' : List D, φ__law_deck [li ns, .int (k : Int)] = .ret (.own l') [] ∧ Deck l' := by
  have main : ∀ (cell : Int) (hc : brn (decide ((k : Int) < ns.length)) (sSet 2 (op2 fIx (dName 0) (dName 1))) sNx [.a (ns.map .int), .d (.int k), .d (.int 0), .u] = .ok .nx [.a (ns.map .int), .d (.int k), .d (.int cell), .u]), ∃ l' : List D, φ__law_deck [li ns, .int (k : Int)] = .ret (.own l') [] ∧ Deck l' := by
    intro cell hc
    obtain ⟨st, hst⟩ : ∃ st, st = (cell + 7919 * (k : Int) + 104729) % 2305843009213693951 := ⟨_, rfl⟩
    have z1 := natAbs_mod61 (cell + 7919 * k + 104729)
    rw [← hst] at z1
    by_cases h : cell < 1000000000000000000
    · refine ⟨[.int 0, .int ((st * st * st + 31 * k + 7) % 2305843009213693951)], ?_, ⟨_, _, rfl⟩⟩
      unfold φ__law_deck m__law_deck
      simp only [bnd_at, rt_at, thn_ok, thn_ex, oRo_some, oMap_some, brn_t, brn_f, dName_at, slR_d, slR_a, slR_o, vl_d, vl_s, slV_d, slV_a, slV_o, dv_at, dEsc_at, esc_d, esc_s, escS_d, escS_o, dFz_at, dC_at, dNil_at, dCons_at, vNil_at, vCons_at, op2_at, op2r_at, op1_at, op1o_at, opN_at, opNo_at, vls_nil, vls_cons, cutR_at, oNone_at, oSome_at, dTup_at, dLst_at, dB_at, boolD_b, dNot_at, dAnd_at, dOr_at, dIfE_at, dAndV_at, dOrV_at, dNotV_at, dSeq_at, dsq_nx, dsq_rt, dsq_bk, dsq_ct, dsq_ex, sNx_at, sBk_at, sCt_at, sExpr_at, sRet_at, sRetO_at, sRetN_at, sRetV_at, retS_d, retS_o, sSet_at, sSetO_at, sIf_at, ownV_o, msNil_at, msD_at, msO_at, msR_at, gRo_some, sPar_at, setRs_nil, setRs_d, setRs_o, callP_at, callK_at, argO_some, callM_at, outR_ret, outR_ex, argD_nil, argD_v, argD_p, argD_m, argD_vn, argD_vs, Option.some.injEq, Nat.reduceEqDiff, mIx_m, mIx_v, mIx_p, mIx_nil, putM_none, putM_some, putO_o, call1_at, rD_at, rtD_d, rtD_o, rO_at, rtO_o, sExprR_at, sRetR_at, sSetR_at, setS_d, setS_o, runF_at, outF_nx, outF_rt, mOut_some, muOf_nil, muOf_m, muOf_v, muOf_p, chk_some, sSub_at, subS0, subS1, mutS_some, mutP_some, dMut_at, mixR_at, dChain_at, dRep_at, intD_i, rg1_at, rg2_at, dLstRg_go, rgL_ok, dTupRg_go, rgT_ok, dTupRg3_go, rgT3_ok, rgO1_ok, rgO2_ok, rgO3_ok, sm0, sm1, dIndexT_at, seqS_d, seqS_a, seqS_o, seqD_l, seqD_t, itR_d, itR_s, iV_at, iO_at, iR1_go, iR2_go, iR3_go, iEnV_at, iEnO_at, sFor_at, compL_at, fAdd_i, fSub_i, fLt_i, fLe_i, fGt_i, fGe_i, fDiv_33, fPow_64, fPow_33, fPow_18, fNeg_i, fLen_l, fLen_t, fInt_i, fTuple_l, fList_l, fMax_2, fMin_2, fIx_l0, fIx_l1, fIx_l2, fEq_i, start0, svs, svK, svA, List.length_cons, List.length_nil, List.replicate, List.append_nil, List.cons_append, List.nil_append, List.getElem?_cons_zero, List.getElem?_cons_succ, List.set_cons_zero, List.set_cons_succ, Bool.not_true, Bool.not_false, decide_true, decide_false, ne_eq, not_false_eq_true, Nat.reduceAdd, Nat.reduceSub, fMul_take, fMul_7919, fMul_31, Nat.reduceLT, Int.reduceLT, Int.reduceEq, fMod_i, fDiv_i, bdz_ok, setT_nm, fgt_nil, fgt_cons, wipG_nil, wipG_cons, sz1, sz2, sz3, sz4, sz5, Nat.zero_le, fIs_ii, fIs_ib, fIs_is, fIs_itl, fIs_tt, fIs_tl, fIs_ttl, fIs_lt, fIs_ll, fIs_ltl, fAll_b, fSum_i, fBack_t, fBackL_l, List.length_map, hc, h, ← hst, fMul_r _ _ z1]
    · refine ⟨[.int (cell - 1000000000000000000), .int ((st * st * st + 31 * k + 7) % 2305843009213693951)], ?_, ⟨_, _, rfl⟩⟩
      unfold φ__law_deck m__law_deck
      simp only [bnd_at, rt_at, thn_ok, thn_ex, oRo_some, oMap_some, brn_t, brn_f, dName_at, slR_d, slR_a, slR_o, vl_d, vl_s, slV_d, slV_a, slV_o, dv_at, dEsc_at, esc_d, esc_s, escS_d, escS_o, dFz_at, dC_at, dNil_at, dCons_at, vNil_at, vCons_at, op2_at, op2r_at, op1_at, op1o_at, opN_at, opNo_at, vls_nil, vls_cons, cutR_at, oNone_at, oSome_at, dTup_at, dLst_at, dB_at, boolD_b, dNot_at, dAnd_at, dOr_at, dIfE_at, dAndV_at, dOrV_at, dNotV_at, dSeq_at, dsq_nx, dsq_rt, dsq_bk, dsq_ct, dsq_ex, sNx_at, sBk_at, sCt_at, sExpr_at, sRet_at, sRetO_at, sRetN_at, sRetV_at, retS_d, retS_o, sSet_at, sSetO_at, sIf_at, ownV_o, msNil_at, msD_at, msO_at, msR_at, gRo_some, sPar_at, setRs_nil, setRs_d, setRs_o, callP_at, callK_at, argO_some, callM_at, outR_ret, outR_ex, argD_nil, argD_v, argD_p, argD_m, argD_vn, argD_vs, Option.some.injEq, Nat.reduceEqDiff, mIx_m, mIx_v, mIx_p, mIx_nil, putM_none, putM_some, putO_o, call1_at, rD_at, rtD_d, rtD_o, rO_at, rtO_o, sExprR_at, sRetR_at, sSetR_at, setS_d, setS_o, runF_at, outF_nx, outF_rt, mOut_some, muOf_nil, muOf_m, muOf_v, muOf_p, chk_some, sSub_at, subS0, subS1, mutS_some, mutP_some, dMut_at, mixR_at, dChain_at, dRep_at, intD_i, rg1_at, rg2_at, dLstRg_go, rgL_ok, dTupRg_go, rgT_ok, dTupRg3_go, rgT3_ok, rgO1_ok, rgO2_ok, rgO3_ok, sm0, sm1, dIndexT_at, seqS_d, seqS_a, seqS_o, seqD_l, seqD_t, itR_d, itR_s, iV_at, iO_at, iR1_go, iR2_go, iR3_go, iEnV_at, iEnO_at, sFor_at, compL_at, fAdd_i, fSub_i, fLt_i, fLe_i, fGt_i, fGe_i, fDiv_33, fPow_64, fPow_33, fPow_18, fNeg_i, fLen_l, fLen_t, fInt_i, fTuple_l, fList_l, fMax_2, fMin_2, fIx_l0, fIx_l1, fIx_l2, fEq_i, start0, svs, svK, svA, List.length_cons, List.length_nil, List.replicate, List.append_nil, List.cons_append, List.nil_append, List.getElem?_cons_zero, List.getElem?_cons_succ, List.set_cons_zero, List.set_cons_succ, Bool.not_true, Bool.not_false, decide_true, decide_false, ne_eq, not_false_eq_true, Nat.reduceAdd, Nat.reduceSub, fMul_take, fMul_7919, fMul_31, Nat.reduceLT, Int.reduceLT, Int.reduceEq, fMod_i, fDiv_i, bdz_ok, setT_nm, fgt_nil, fgt_cons, wipG_nil, wipG_cons, sz1, sz2, sz3, sz4, sz5, Nat.zero_le, fIs_ii, fIs_ib, fIs_is, fIs_itl, fIs_tt, fIs_tl, fIs_ttl, fIs_lt, fIs_ll, fIs_ltl, fAll_b, fSum_i, fBack_t, fBackL_l, List.length_map, hc, h, ← hst, fMul_r _ _ z1]
  by_cases h : k < ns.length
  · refine main ns[k] ?_
    rw [decide_eq_true (by omega)]
    have hx : (ns.map PyData.int)[k]? = some (.int ns[k]) := by simp [h]
    simp only [bnd_at, rt_at, thn_ok, thn_ex, oRo_some, oMap_some, brn_t, brn_f, dName_at, slR_d, slR_a, slR_o, vl_d, vl_s, slV_d, slV_a, slV_o, dv_at, dEsc_at, esc_d, esc_s, escS_d, escS_o, dFz_at, dC_at, dNil_at, dCons_at, vNil_at, vCons_at, op2_at, op2r_at, op1_at, op1o_at, opN_at, opNo_at, vls_nil, vls_cons, cutR_at, oNone_at, oSome_at, dTup_at, dLst_at, dB_at, boolD_b, dNot_at, dAnd_at, dOr_at, dIfE_at, dAndV_at, dOrV_at, dNotV_at, dSeq_at, dsq_nx, dsq_rt, dsq_bk, dsq_ct, dsq_ex, sNx_at, sBk_at, sCt_at, sExpr_at, sRet_at, sRetO_at, sRetN_at, sRetV_at, retS_d, retS_o, sSet_at, sSetO_at, sIf_at, ownV_o, msNil_at, msD_at, msO_at, msR_at, gRo_some, sPar_at, setRs_nil, setRs_d, setRs_o, callP_at, callK_at, argO_some, callM_at, outR_ret, outR_ex, argD_nil, argD_v, argD_p, argD_m, argD_vn, argD_vs, Option.some.injEq, Nat.reduceEqDiff, mIx_m, mIx_v, mIx_p, mIx_nil, putM_none, putM_some, putO_o, call1_at, rD_at, rtD_d, rtD_o, rO_at, rtO_o, sExprR_at, sRetR_at, sSetR_at, setS_d, setS_o, runF_at, outF_nx, outF_rt, mOut_some, muOf_nil, muOf_m, muOf_v, muOf_p, chk_some, sSub_at, subS0, subS1, mutS_some, mutP_some, dMut_at, mixR_at, dChain_at, dRep_at, intD_i, rg1_at, rg2_at, dLstRg_go, rgL_ok, dTupRg_go, rgT_ok, dTupRg3_go, rgT3_ok, rgO1_ok, rgO2_ok, rgO3_ok, sm0, sm1, dIndexT_at, seqS_d, seqS_a, seqS_o, seqD_l, seqD_t, itR_d, itR_s, iV_at, iO_at, iR1_go, iR2_go, iR3_go, iEnV_at, iEnO_at, sFor_at, compL_at, fAdd_i, fSub_i, fLt_i, fLe_i, fGt_i, fGe_i, fDiv_33, fPow_64, fPow_33, fPow_18, fNeg_i, fLen_l, fLen_t, fInt_i, fTuple_l, fList_l, fMax_2, fMin_2, fIx_l0, fIx_l1, fIx_l2, fEq_i, start0, svs, svK, svA, List.length_cons, List.length_nil, List.replicate, List.append_nil, List.cons_append, List.nil_append, List.getElem?_cons_zero, List.getElem?_cons_succ, List.set_cons_zero, List.set_cons_succ, Bool.not_true, Bool.not_false, decide_true, decide_false, ne_eq, not_false_eq_true, Nat.reduceAdd, Nat.reduceSub, fMul_take, fMul_7919, fMul_31, Nat.reduceLT, Int.reduceLT, Int.reduceEq, fMod_i, fDiv_i, bdz_ok, setT_nm, fgt_nil, fgt_cons, wipG_nil, wipG_cons, sz1, sz2, sz3, sz4, sz5, Nat.zero_le, fIs_ii, fIs_ib, fIs_is, fIs_itl, fIs_tt, fIs_tl, fIs_ttl, fIs_lt, fIs_ll, fIs_ltl, fAll_b, fSum_i, fBack_t, fBackL_l, fIx_l hx]
  · refine main 0 ?_
    rw [decide_eq_false (by omega)]
    rfl
theorem drawn_ok {l : List D} (hl : Deck l) (n : Nat) (hn : n < 900) : ∃ (p : List Int) (l' : List D), φ__law_drawn [.list l, .int (n : Int)] = .ret (.d (ti p)) l' ∧ Deck l' ∧ IsOrd p ∧ p.length = n := by
  have hr : ((n : Int) + 1 - 1).toNat = n := by omega
  obtain ⟨g', e1, rest, l', p, hp1, hp2, hp3, hp4, hp5, hg⟩ := forG_inv (t := .nm 3) (ms := [3]) (b := sExpr (dMut 2 mInsert (dCons (rD (callP [.m, .v] φ__law_take (vCons (dName 0) (vCons (dName 3) vNil)))) (dCons (dEsc (dName 3)) dNil))))
    ((irange 1 n).map .int) (fun r g => ∃ (rest : List Int) (l' : List D) (p : List Int), r = rest.map .int ∧ rest = irange (p.length + 1) (n - p.length) ∧ Deck l' ∧ IsOrd p ∧ p.length ≤ n ∧ g = [.own true l', .d (.int n), .own false (p.map .int), .u])
    [.own true l, .d (.int n), .own false [], .u] ⟨irange 1 n, l, [], rfl, by simp, hl, isOrd_nil, Nat.zero_le _, rfl⟩ (by
    rintro x r g ⟨rest, l', p, hp1, hp2, hp3, hp4, hp5, rfl⟩ _
    have hlt : p.length < n := by
      have h1 := congrArg List.length hp1
      rw [hp2, List.length_map, irange_len, List.length_cons] at h1
      omega
    have hs : n - p.length = (n - p.length - 1) + 1 := by omega
    rw [hs, irange_succ] at hp2
    rw [hp2, List.map_cons] at hp1
    injection hp1 with hx hr'
    subst hx
    obtain ⟨t, l2, ht, hd, h0, h1⟩ := take_ok hp3 ((p.length : Int) + 1) (by omega) (by omega)
    have hins := mInsert_ok (p.map .int) t (.int ((p.length : Int) + 1)) (by rw [List.length_map]; exact sz_lt (by omega)) h0 (by omega)
    refine ⟨[.own true l', .d (.int n), .own false (p.map .int), .d (.int ((p.length : Int) + 1))], [.own true l2, .d (.int n), .own false ((p.take t.toNat ++ [((p.length + 1 : Nat) : Int)] ++ p.drop t.toNat).map .int), .d (.int ((p.length : Int) + 1))], rfl, .inl ?_, ?_⟩
    · simp only [bnd_at, rt_at, thn_ok, thn_ex, oRo_some, oMap_some, brn_t, brn_f, dName_at, slR_d, slR_a, slR_o, vl_d, vl_s, slV_d, slV_a, slV_o, dv_at, dEsc_at, esc_d, esc_s, escS_d, escS_o, dFz_at, dC_at, dNil_at, dCons_at, vNil_at, vCons_at, op2_at, op2r_at, op1_at, op1o_at, opN_at, opNo_at, vls_nil, vls_cons, cutR_at, oNone_at, oSome_at, dTup_at, dLst_at, dB_at, boolD_b, dNot_at, dAnd_at, dOr_at, dIfE_at, dAndV_at, dOrV_at, dNotV_at, dSeq_at, dsq_nx, dsq_rt, dsq_bk, dsq_ct, dsq_ex, sNx_at, sBk_at, sCt_at, sExpr_at, sRet_at, sRetO_at, sRetN_at, sRetV_at, retS_d, retS_o, sSet_at, sSetO_at, sIf_at, ownV_o, msNil_at, msD_at, msO_at, msR_at, gRo_some, sPar_at, setRs_nil, setRs_d, setRs_o, callP_at, callK_at, argO_some, callM_at, outR_ret, outR_ex, argD_nil, argD_v, argD_p, argD_m, argD_vn, argD_vs, Option.some.injEq, Nat.reduceEqDiff, mIx_m, mIx_v, mIx_p, mIx_nil, putM_none, putM_some, putO_o, call1_at, rD_at, rtD_d, rtD_o, rO_at, rtO_o, sExprR_at, sRetR_at, sSetR_at, setS_d, setS_o, runF_at, outF_nx, outF_rt, mOut_some, muOf_nil, muOf_m, muOf_v, muOf_p, chk_some, sSub_at, subS0, subS1, mutS_some, mutP_some, dMut_at, mixR_at, dChain_at, dRep_at, intD_i, rg1_at, rg2_at, dLstRg_go, rgL_ok, dTupRg_go, rgT_ok, dTupRg3_go, rgT3_ok, rgO1_ok, rgO2_ok, rgO3_ok, sm0, sm1, dIndexT_at, seqS_d, seqS_a, seqS_o, seqD_l, seqD_t, itR_d, itR_s, iV_at, iO_at, iR1_go, iR2_go, iR3_go, iEnV_at, iEnO_at, sFor_at, compL_at, fAdd_i, fSub_i, fLt_i, fLe_i, fGt_i, fGe_i, fDiv_33, fPow_64, fPow_33, fPow_18, fNeg_i, fLen_l, fLen_t, fInt_i, fTuple_l, fList_l, fMax_2, fMin_2, fIx_l0, fIx_l1, fIx_l2, fEq_i, start0, svs, svK, svA, List.length_cons, List.length_nil, List.replicate, List.append_nil, List.cons_append, List.nil_append, List.getElem?_cons_zero, List.getElem?_cons_succ, List.set_cons_zero, List.set_cons_succ, Bool.not_true, Bool.not_false, decide_true, decide_false, ne_eq, not_false_eq_true, Nat.reduceAdd, Nat.reduceSub, fMul_take, fMul_7919, fMul_31, Nat.reduceLT, Int.reduceLT, Int.reduceEq, fMod_i, fDiv_i, bdz_ok, setT_nm, fgt_nil, fgt_cons, wipG_nil, wipG_cons, sz1, sz2, sz3, sz4, sz5, Nat.zero_le, fIs_ii, fIs_ib, fIs_is, fIs_itl, fIs_tt, fIs_tl, fIs_ttl, fIs_lt, fIs_ll, fIs_ltl, fAll_b, fSum_i, fBack_t, fBackL_l, ht, hins]
      simp
    · have hl2 : (p.take t.toNat ++ [((p.length + 1 : Nat) : Int)] ++ p.drop t.toNat).length = p.length + 1 := by
        have : (p.take t.toNat).length + (p.drop t.toNat).length = p.length := by rw [← List.length_append, List.take_append_drop]
        simp only [List.length_append, List.length_singleton]
        omega
      refine ⟨irange (p.length + 1 + 1) (n - p.length - 1), l2, _, hr', ?_, hd, isOrd_insert hp4 _, by rw [hl2]; omega, rfl⟩
      rw [hl2]
      congr 1)
  have hl : p.length = n := by
    have h0 : rest = [] := List.map_eq_nil_iff.mp hp1.symm
    have h1 := congrArg List.length hp2
    rw [h0, irange_len] at h1
    simp at h1
    omega
  refine ⟨p, l', ?_, hp3, hp4, hl⟩
  unfold φ__law_drawn m__law_drawn
  have hsm : Sm ((n : Int) + 1) := sm_of (by omega) (by omega)
  simp only [bnd_at, rt_at, thn_ok, thn_ex, oRo_some, oMap_some, brn_t, brn_f, dName_at, slR_d, slR_a, slR_o, vl_d, vl_s, slV_d, slV_a, slV_o, dv_at, dEsc_at, esc_d, esc_s, escS_d, escS_o, dFz_at, dC_at, dNil_at, dCons_at, vNil_at, vCons_at, op2_at, op2r_at, op1_at, op1o_at, opN_at, opNo_at, vls_nil, vls_cons, cutR_at, oNone_at, oSome_at, dTup_at, dLst_at, dB_at, boolD_b, dNot_at, dAnd_at, dOr_at, dIfE_at, dAndV_at, dOrV_at, dNotV_at, dSeq_at, dsq_nx, dsq_rt, dsq_bk, dsq_ct, dsq_ex, sNx_at, sBk_at, sCt_at, sExpr_at, sRet_at, sRetO_at, sRetN_at, sRetV_at, retS_d, retS_o, sSet_at, sSetO_at, sIf_at, ownV_o, msNil_at, msD_at, msO_at, msR_at, gRo_some, sPar_at, setRs_nil, setRs_d, setRs_o, callP_at, callK_at, argO_some, callM_at, outR_ret, outR_ex, argD_nil, argD_v, argD_p, argD_m, argD_vn, argD_vs, Option.some.injEq, Nat.reduceEqDiff, mIx_m, mIx_v, mIx_p, mIx_nil, putM_none, putM_some, putO_o, call1_at, rD_at, rtD_d, rtD_o, rO_at, rtO_o, sExprR_at, sRetR_at, sSetR_at, setS_d, setS_o, runF_at, outF_nx, outF_rt, mOut_some, muOf_nil, muOf_m, muOf_v, muOf_p, chk_some, sSub_at, subS0, subS1, mutS_some, mutP_some, dMut_at, mixR_at, dChain_at, dRep_at, intD_i, rg1_at, rg2_at, dLstRg_go, rgL_ok, dTupRg_go, rgT_ok, dTupRg3_go, rgT3_ok, rgO1_ok, rgO2_ok, rgO3_ok, sm0, sm1, dIndexT_at, seqS_d, seqS_a, seqS_o, seqD_l, seqD_t, itR_d, itR_s, iV_at, iO_at, iR1_go, iR2_go, iR3_go, iEnV_at, iEnO_at, sFor_at, compL_at, fAdd_i, fSub_i, fLt_i, fLe_i, fGt_i, fGe_i, fDiv_33, fPow_64, fPow_33, fPow_18, fNeg_i, fLen_l, fLen_t, fInt_i, fTuple_l, fList_l, fMax_2, fMin_2, fIx_l0, fIx_l1, fIx_l2, fEq_i, start0, svs, svK, svA, List.length_cons, List.length_nil, List.replicate, List.append_nil, List.cons_append, List.nil_append, List.getElem?_cons_zero, List.getElem?_cons_succ, List.set_cons_zero, List.set_cons_succ, Bool.not_true, Bool.not_false, decide_true, decide_false, ne_eq, not_false_eq_true, Nat.reduceAdd, Nat.reduceSub, fMul_take, fMul_7919, fMul_31, Nat.reduceLT, Int.reduceLT, Int.reduceEq, fMod_i, fDiv_i, bdz_ok, setT_nm, fgt_nil, fgt_cons, wipG_nil, wipG_cons, sz1, sz2, sz3, sz4, sz5, Nat.zero_le, fIs_ii, fIs_ib, fIs_is, fIs_itl, fIs_tt, fIs_tl, fIs_ttl, fIs_lt, fIs_ll, fIs_ltl, fAll_b, fSum_i, fBack_t, fBackL_l, hsm, hr, e1, hg]
theorem is_integer_ok (i : Int) : φ_is_integer [.int i] = .ret (.d (.bool true)) [] := by
  unfold φ_is_integer m_is_integer
  simp only [bnd_at, rt_at, thn_ok, thn_ex, oRo_some, oMap_some, brn_t, brn_f, dName_at, slR_d, slR_a, slR_o, vl_d, vl_s, slV_d, slV_a, slV_o, dv_at, dEsc_at, esc_d, esc_s, escS_d, escS_o, dFz_at, dC_at, dNil_at, dCons_at, vNil_at, vCons_at, op2_at, op2r_at, op1_at, op1o_at, opN_at, opNo_at, vls_nil, vls_cons, cutR_at, oNone_at, oSome_at, dTup_at, dLst_at, dB_at, boolD_b, dNot_at, dAnd_at, dOr_at, dIfE_at, dAndV_at, dOrV_at, dNotV_at, dSeq_at, dsq_nx, dsq_rt, dsq_bk, dsq_ct, dsq_ex, sNx_at, sBk_at, sCt_at, sExpr_at, sRet_at, sRetO_at, sRetN_at, sRetV_at, retS_d, retS_o, sSet_at, sSetO_at, sIf_at, ownV_o, msNil_at, msD_at, msO_at, msR_at, gRo_some, sPar_at, setRs_nil, setRs_d, setRs_o, callP_at, callK_at, argO_some, callM_at, outR_ret, outR_ex, argD_nil, argD_v, argD_p, argD_m, argD_vn, argD_vs, Option.some.injEq, Nat.reduceEqDiff, mIx_m, mIx_v, mIx_p, mIx_nil, putM_none, putM_some, putO_o, call1_at, rD_at, rtD_d, rtD_o, rO_at, rtO_o, sExprR_at, sRetR_at, sSetR_at, setS_d, setS_o, runF_at, outF_nx, outF_rt, mOut_some, muOf_nil, muOf_m, muOf_v, muOf_p, chk_some, sSub_at, subS0, subS1, mutS_some, mutP_some, dMut_at, mixR_at, dChain_at, dRep_at, intD_i, rg1_at, rg2_at, dLstRg_go, rgL_ok, dTupRg_go, rgT_ok, dTupRg3_go, rgT3_ok, rgO1_ok, rgO2_ok, rgO3_ok, sm0, sm1, dIndexT_at, seqS_d, seqS_a, seqS_o, seqD_l, seqD_t, itR_d, itR_s, iV_at, iO_at, iR1_go, iR2_go, iR3_go, iEnV_at, iEnO_at, sFor_at, compL_at, fAdd_i, fSub_i, fLt_i, fLe_i, fGt_i, fGe_i, fDiv_33, fPow_64, fPow_33, fPow_18, fNeg_i, fLen_l, fLen_t, fInt_i, fTuple_l, fList_l, fMax_2, fMin_2, fIx_l0, fIx_l1, fIx_l2, fEq_i, start0, svs, svK, svA, List.length_cons, List.length_nil, List.replicate, List.append_nil, List.cons_append, List.nil_append, List.getElem?_cons_zero, List.getElem?_cons_succ, List.set_cons_zero, List.set_cons_succ, Bool.not_true, Bool.not_false, decide_true, decide_false, ne_eq, not_false_eq_true, Nat.reduceAdd, Nat.reduceSub, fMul_take, fMul_7919, fMul_31, Nat.reduceLT, Int.reduceLT, Int.reduceEq, fMod_i, fDiv_i, bdz_ok, setT_nm, fgt_nil, fgt_cons, wipG_nil, wipG_cons, sz1, sz2, sz3, sz4, sz5, Nat.zero_le, fIs_ii, fIs_ib, fIs_is, fIs_itl, fIs_tt, fIs_tl, fIs_ttl, fIs_lt, fIs_ll, fIs_ltl, fAll_b, fSum_i, fBack_t, fBackL_l]
theorem are_integers_ok (p : List Int) (h : p.length ≤ 1000) : φ_are_integers [ti p] = .ret (.d (.bool true)) [] := by
  have hc := compB_one (i := 1) (enc := PyData.int) (f := fun _ => .bool true) (me := rD (callP [.v] φ_is_integer (vCons (dName 1) vNil))) (g := [.d (ti p), .u]) p (by omega) rfl fun x hx => by simp only [bnd_at, rt_at, thn_ok, thn_ex, oRo_some, oMap_some, brn_t, brn_f, dName_at, slR_d, slR_a, slR_o, vl_d, vl_s, slV_d, slV_a, slV_o, dv_at, dEsc_at, esc_d, esc_s, escS_d, escS_o, dFz_at, dC_at, dNil_at, dCons_at, vNil_at, vCons_at, op2_at, op2r_at, op1_at, op1o_at, opN_at, opNo_at, vls_nil, vls_cons, cutR_at, oNone_at, oSome_at, dTup_at, dLst_at, dB_at, boolD_b, dNot_at, dAnd_at, dOr_at, dIfE_at, dAndV_at, dOrV_at, dNotV_at, dSeq_at, dsq_nx, dsq_rt, dsq_bk, dsq_ct, dsq_ex, sNx_at, sBk_at, sCt_at, sExpr_at, sRet_at, sRetO_at, sRetN_at, sRetV_at, retS_d, retS_o, sSet_at, sSetO_at, sIf_at, ownV_o, msNil_at, msD_at, msO_at, msR_at, gRo_some, sPar_at, setRs_nil, setRs_d, setRs_o, callP_at, callK_at, argO_some, callM_at, outR_ret, outR_ex, argD_nil, argD_v, argD_p, argD_m, argD_vn, argD_vs, Option.some.injEq, Nat.reduceEqDiff, mIx_m, mIx_v, mIx_p, mIx_nil, putM_none, putM_some, putO_o, call1_at, rD_at, rtD_d, rtD_o, rO_at, rtO_o, sExprR_at, sRetR_at, sSetR_at, setS_d, setS_o, runF_at, outF_nx, outF_rt, mOut_some, muOf_nil, muOf_m, muOf_v, muOf_p, chk_some, sSub_at, subS0, subS1, mutS_some, mutP_some, dMut_at, mixR_at, dChain_at, dRep_at, intD_i, rg1_at, rg2_at, dLstRg_go, rgL_ok, dTupRg_go, rgT_ok, dTupRg3_go, rgT3_ok, rgO1_ok, rgO2_ok, rgO3_ok, sm0, sm1, dIndexT_at, seqS_d, seqS_a, seqS_o, seqD_l, seqD_t, itR_d, itR_s, iV_at, iO_at, iR1_go, iR2_go, iR3_go, iEnV_at, iEnO_at, sFor_at, compL_at, fAdd_i, fSub_i, fLt_i, fLe_i, fGt_i, fGe_i, fDiv_33, fPow_64, fPow_33, fPow_18, fNeg_i, fLen_l, fLen_t, fInt_i, fTuple_l, fList_l, fMax_2, fMin_2, fIx_l0, fIx_l1, fIx_l2, fEq_i, start0, svs, svK, svA, List.length_cons, List.length_nil, List.replicate, List.append_nil, List.cons_append, List.nil_append, List.getElem?_cons_zero, List.getElem?_cons_succ, List.set_cons_zero, List.set_cons_succ, Bool.not_true, Bool.not_false, decide_true, decide_false, ne_eq, not_false_eq_true, Nat.reduceAdd, Nat.reduceSub, fMul_take, fMul_7919, fMul_31, Nat.reduceLT, Int.reduceLT, Int.reduceEq, fMod_i, fDiv_i, bdz_ok, setT_nm, fgt_nil, fgt_cons, wipG_nil, wipG_cons, sz1, sz2, sz3, sz4, sz5, Nat.zero_le, fIs_ii, fIs_ib, fIs_is, fIs_itl, fIs_tt, fIs_tl, fIs_ttl, fIs_lt, fIs_ll, fIs_ltl, fAll_b, fSum_i, fBack_t, fBackL_l, is_integer_ok]
  have e : p.map (fun _ => PyData.bool true) = (List.replicate p.length true).map .bool := map_true p
  rw [e] at hc
  unfold φ_are_integers m_are_integers
  simp only [bnd_at, rt_at, thn_ok, thn_ex, oRo_some, oMap_some, brn_t, brn_f, dName_at, slR_d, slR_a, slR_o, vl_d, vl_s, slV_d, slV_a, slV_o, dv_at, dEsc_at, esc_d, esc_s, escS_d, escS_o, dFz_at, dC_at, dNil_at, dCons_at, vNil_at, vCons_at, op2_at, op2r_at, op1_at, op1o_at, opN_at, opNo_at, vls_nil, vls_cons, cutR_at, oNone_at, oSome_at, dTup_at, dLst_at, dB_at, boolD_b, dNot_at, dAnd_at, dOr_at, dIfE_at, dAndV_at, dOrV_at, dNotV_at, dSeq_at, dsq_nx, dsq_rt, dsq_bk, dsq_ct, dsq_ex, sNx_at, sBk_at, sCt_at, sExpr_at, sRet_at, sRetO_at, sRetN_at, sRetV_at, retS_d, retS_o, sSet_at, sSetO_at, sIf_at, ownV_o, msNil_at, msD_at, msO_at, msR_at, gRo_some, sPar_at, setRs_nil, setRs_d, setRs_o, callP_at, callK_at, argO_some, callM_at, outR_ret, outR_ex, argD_nil, argD_v, argD_p, argD_m, argD_vn, argD_vs, Option.some.injEq, Nat.reduceEqDiff, mIx_m, mIx_v, mIx_p, mIx_nil, putM_none, putM_some, putO_o, call1_at, rD_at, rtD_d, rtD_o, rO_at, rtO_o, sExprR_at, sRetR_at, sSetR_at, setS_d, setS_o, runF_at, outF_nx, outF_rt, mOut_some, muOf_nil, muOf_m, muOf_v, muOf_p, chk_some, sSub_at, subS0, subS1, mutS_some, mutP_some, dMut_at, mixR_at, dChain_at, dRep_at, intD_i, rg1_at, rg2_at, dLstRg_go, rgL_ok, dTupRg_go, rgT_ok, dTupRg3_go, rgT3_ok, rgO1_ok, rgO2_ok, rgO3_ok, sm0, sm1, dIndexT_at, seqS_d, seqS_a, seqS_o, seqD_l, seqD_t, itR_d, itR_s, iV_at, iO_at, iR1_go, iR2_go, iR3_go, iEnV_at, iEnO_at, sFor_at, compL_at, fAdd_i, fSub_i, fLt_i, fLe_i, fGt_i, fGe_i, fDiv_33, fPow_64, fPow_33, fPow_18, fNeg_i, fLen_l, fLen_t, fInt_i, fTuple_l, fList_l, fMax_2, fMin_2, fIx_l0, fIx_l1, fIx_l2, fEq_i, start0, svs, svK, svA, List.length_cons, List.length_nil, List.replicate, List.append_nil, List.cons_append, List.nil_append, List.getElem?_cons_zero, List.getElem?_cons_succ, List.set_cons_zero, List.set_cons_succ, Bool.not_true, Bool.not_false, decide_true, decide_false, ne_eq, not_false_eq_true, Nat.reduceAdd, Nat.reduceSub, fMul_take, fMul_7919, fMul_31, Nat.reduceLT, Int.reduceLT, Int.reduceEq, fMod_i, fDiv_i, bdz_ok, setT_nm, fgt_nil, fgt_cons, wipG_nil, wipG_cons, sz1, sz2, sz3, sz4, sz5, Nat.zero_le, fIs_ii, fIs_ib, fIs_is, fIs_itl, fIs_tt, fIs_tl, fIs_ttl, fIs_lt, fIs_ll, fIs_ltl, fAll_b, fSum_i, fBack_t, fBackL_l, hc, all_true]
theorem is_order_of_ok (p : List Int) (hp : IsOrd p) (h : p.length ≤ 900) : φ_is_order_of [ti p] = .ret (.d (.bool true)) [] := by
  have hs : sortD (p.map .int) = (irange 1 p.length).map .int := sortD_ints hp.perm ((irange_sorted _ _).imp fun {a b} h => Int.le_of_lt h)
  have hsm : Sm ((p.length : Int) + 1) := sm_of (by omega) (by omega)
  have hr : ((p.length : Int) + 1 - 1).toNat = p.length := by omega
  have hf := fEq_li (irange 1 p.length) (irange 1 p.length)
  rw [decide_eq_true rfl] at hf
  unfold φ_is_order_of m_is_order_of
  simp only [bnd_at, rt_at, thn_ok, thn_ex, oRo_some, oMap_some, brn_t, brn_f, dName_at, slR_d, slR_a, slR_o, vl_d, vl_s, slV_d, slV_a, slV_o, dv_at, dEsc_at, esc_d, esc_s, escS_d, escS_o, dFz_at, dC_at, dNil_at, dCons_at, vNil_at, vCons_at, op2_at, op2r_at, op1_at, op1o_at, opN_at, opNo_at, vls_nil, vls_cons, cutR_at, oNone_at, oSome_at, dTup_at, dLst_at, dB_at, boolD_b, dNot_at, dAnd_at, dOr_at, dIfE_at, dAndV_at, dOrV_at, dNotV_at, dSeq_at, dsq_nx, dsq_rt, dsq_bk, dsq_ct, dsq_ex, sNx_at, sBk_at, sCt_at, sExpr_at, sRet_at, sRetO_at, sRetN_at, sRetV_at, retS_d, retS_o, sSet_at, sSetO_at, sIf_at, ownV_o, msNil_at, msD_at, msO_at, msR_at, gRo_some, sPar_at, setRs_nil, setRs_d, setRs_o, callP_at, callK_at, argO_some, callM_at, outR_ret, outR_ex, argD_nil, argD_v, argD_p, argD_m, argD_vn, argD_vs, Option.some.injEq, Nat.reduceEqDiff, mIx_m, mIx_v, mIx_p, mIx_nil, putM_none, putM_some, putO_o, call1_at, rD_at, rtD_d, rtD_o, rO_at, rtO_o, sExprR_at, sRetR_at, sSetR_at, setS_d, setS_o, runF_at, outF_nx, outF_rt, mOut_some, muOf_nil, muOf_m, muOf_v, muOf_p, chk_some, sSub_at, subS0, subS1, mutS_some, mutP_some, dMut_at, mixR_at, dChain_at, dRep_at, intD_i, rg1_at, rg2_at, dLstRg_go, rgL_ok, dTupRg_go, rgT_ok, dTupRg3_go, rgT3_ok, rgO1_ok, rgO2_ok, rgO3_ok, sm0, sm1, dIndexT_at, seqS_d, seqS_a, seqS_o, seqD_l, seqD_t, itR_d, itR_s, iV_at, iO_at, iR1_go, iR2_go, iR3_go, iEnV_at, iEnO_at, sFor_at, compL_at, fAdd_i, fSub_i, fLt_i, fLe_i, fGt_i, fGe_i, fDiv_33, fPow_64, fPow_33, fPow_18, fNeg_i, fLen_l, fLen_t, fInt_i, fTuple_l, fList_l, fMax_2, fMin_2, fIx_l0, fIx_l1, fIx_l2, fEq_i, start0, svs, svK, svA, List.length_cons, List.length_nil, List.replicate, List.append_nil, List.cons_append, List.nil_append, List.getElem?_cons_zero, List.getElem?_cons_succ, List.set_cons_zero, List.set_cons_succ, Bool.not_true, Bool.not_false, decide_true, decide_false, ne_eq, not_false_eq_true, Nat.reduceAdd, Nat.reduceSub, fMul_take, fMul_7919, fMul_31, Nat.reduceLT, Int.reduceLT, Int.reduceEq, fMod_i, fDiv_i, bdz_ok, setT_nm, fgt_nil, fgt_cons, wipG_nil, wipG_cons, sz1, sz2, sz3, sz4, sz5, Nat.zero_le, fIs_ii, fIs_ib, fIs_is, fIs_itl, fIs_tt, fIs_tl, fIs_ttl, fIs_lt, fIs_ll, fIs_ltl, fAll_b, fSum_i, fBack_t, fBackL_l, are_integers_ok p (by omega), fSorted_t _ (okSort_ints p (by omega)), hs, List.length_map, hsm, hr, hf]
theorem check_order_ok (p : List Int) (hp : IsOrd p) (h : p.length ≤ 900) : φ_check_order [ti p] = .ret (.d .none) [] := by
  unfold φ_check_order m_check_order
  simp only [bnd_at, rt_at, thn_ok, thn_ex, oRo_some, oMap_some, brn_t, brn_f, dName_at, slR_d, slR_a, slR_o, vl_d, vl_s, slV_d, slV_a, slV_o, dv_at, dEsc_at, esc_d, esc_s, escS_d, escS_o, dFz_at, dC_at, dNil_at, dCons_at, vNil_at, vCons_at, op2_at, op2r_at, op1_at, op1o_at, opN_at, opNo_at, vls_nil, vls_cons, cutR_at, oNone_at, oSome_at, dTup_at, dLst_at, dB_at, boolD_b, dNot_at, dAnd_at, dOr_at, dIfE_at, dAndV_at, dOrV_at, dNotV_at, dSeq_at, dsq_nx, dsq_rt, dsq_bk, dsq_ct, dsq_ex, sNx_at, sBk_at, sCt_at, sExpr_at, sRet_at, sRetO_at, sRetN_at, sRetV_at, retS_d, retS_o, sSet_at, sSetO_at, sIf_at, ownV_o, msNil_at, msD_at, msO_at, msR_at, gRo_some, sPar_at, setRs_nil, setRs_d, setRs_o, callP_at, callK_at, argO_some, callM_at, outR_ret, outR_ex, argD_nil, argD_v, argD_p, argD_m, argD_vn, argD_vs, Option.some.injEq, Nat.reduceEqDiff, mIx_m, mIx_v, mIx_p, mIx_nil, putM_none, putM_some, putO_o, call1_at, rD_at, rtD_d, rtD_o, rO_at, rtO_o, sExprR_at, sRetR_at, sSetR_at, setS_d, setS_o, runF_at, outF_nx, outF_rt, mOut_some, muOf_nil, muOf_m, muOf_v, muOf_p, chk_some, sSub_at, subS0, subS1, mutS_some, mutP_some, dMut_at, mixR_at, dChain_at, dRep_at, intD_i, rg1_at, rg2_at, dLstRg_go, rgL_ok, dTupRg_go, rgT_ok, dTupRg3_go, rgT3_ok, rgO1_ok, rgO2_ok, rgO3_ok, sm0, sm1, dIndexT_at, seqS_d, seqS_a, seqS_o, seqD_l, seqD_t, itR_d, itR_s, iV_at, iO_at, iR1_go, iR2_go, iR3_go, iEnV_at, iEnO_at, sFor_at, compL_at, fAdd_i, fSub_i, fLt_i, fLe_i, fGt_i, fGe_i, fDiv_33, fPow_64, fPow_33, fPow_18, fNeg_i, fLen_l, fLen_t, fInt_i, fTuple_l, fList_l, fMax_2, fMin_2, fIx_l0, fIx_l1, fIx_l2, fEq_i, start0, svs, svK, svA, List.length_cons, List.length_nil, List.replicate, List.append_nil, List.cons_append, List.nil_append, List.getElem?_cons_zero, List.getElem?_cons_succ, List.set_cons_zero, List.set_cons_succ, Bool.not_true, Bool.not_false, decide_true, decide_false, ne_eq, not_false_eq_true, Nat.reduceAdd, Nat.reduceSub, fMul_take, fMul_7919, fMul_31, Nat.reduceLT, Int.reduceLT, Int.reduceEq, fMod_i, fDiv_i, bdz_ok, setT_nm, fgt_nil, fgt_cons, wipG_nil, wipG_cons, sz1, sz2, sz3, sz4, sz5, Nat.zero_le, fIs_ii, fIs_ib, fIs_is, fIs_itl, fIs_tt, fIs_tl, fIs_ttl, fIs_lt, fIs_ll, fIs_ltl, fAll_b, fSum_i, fBack_t, fBackL_l, is_order_of_ok p hp h]
theorem mirrored_ok (p : List Int) (hp : IsOrd p) (h : p.length ≤ 900) : φ_mirrored [ti p] = .ret (.d (ti (mi p))) [] := by
  have hc := compB_one (i := 1) (enc := PyData.int) (f := fun x => .int ((p.length : Int) + 1 - x)) (me := op2 fSub (dv (rD (op2r fAdd fCat (dv (opN fLen (vCons (dName 0) vNil))) (dv (dC (.int 1)))))) (dName 1)) (g := [.d (ti p), .u]) p (by omega) rfl fun x hx => by simp only [bnd_at, rt_at, thn_ok, thn_ex, oRo_some, oMap_some, brn_t, brn_f, dName_at, slR_d, slR_a, slR_o, vl_d, vl_s, slV_d, slV_a, slV_o, dv_at, dEsc_at, esc_d, esc_s, escS_d, escS_o, dFz_at, dC_at, dNil_at, dCons_at, vNil_at, vCons_at, op2_at, op2r_at, op1_at, op1o_at, opN_at, opNo_at, vls_nil, vls_cons, cutR_at, oNone_at, oSome_at, dTup_at, dLst_at, dB_at, boolD_b, dNot_at, dAnd_at, dOr_at, dIfE_at, dAndV_at, dOrV_at, dNotV_at, dSeq_at, dsq_nx, dsq_rt, dsq_bk, dsq_ct, dsq_ex, sNx_at, sBk_at, sCt_at, sExpr_at, sRet_at, sRetO_at, sRetN_at, sRetV_at, retS_d, retS_o, sSet_at, sSetO_at, sIf_at, ownV_o, msNil_at, msD_at, msO_at, msR_at, gRo_some, sPar_at, setRs_nil, setRs_d, setRs_o, callP_at, callK_at, argO_some, callM_at, outR_ret, outR_ex, argD_nil, argD_v, argD_p, argD_m, argD_vn, argD_vs, Option.some.injEq, Nat.reduceEqDiff, mIx_m, mIx_v, mIx_p, mIx_nil, putM_none, putM_some, putO_o, call1_at, rD_at, rtD_d, rtD_o, rO_at, rtO_o, sExprR_at, sRetR_at, sSetR_at, setS_d, setS_o, runF_at, outF_nx, outF_rt, mOut_some, muOf_nil, muOf_m, muOf_v, muOf_p, chk_some, sSub_at, subS0, subS1, mutS_some, mutP_some, dMut_at, mixR_at, dChain_at, dRep_at, intD_i, rg1_at, rg2_at, dLstRg_go, rgL_ok, dTupRg_go, rgT_ok, dTupRg3_go, rgT3_ok, rgO1_ok, rgO2_ok, rgO3_ok, sm0, sm1, dIndexT_at, seqS_d, seqS_a, seqS_o, seqD_l, seqD_t, itR_d, itR_s, iV_at, iO_at, iR1_go, iR2_go, iR3_go, iEnV_at, iEnO_at, sFor_at, compL_at, fAdd_i, fSub_i, fLt_i, fLe_i, fGt_i, fGe_i, fDiv_33, fPow_64, fPow_33, fPow_18, fNeg_i, fLen_l, fLen_t, fInt_i, fTuple_l, fList_l, fMax_2, fMin_2, fIx_l0, fIx_l1, fIx_l2, fEq_i, start0, svs, svK, svA, List.length_cons, List.length_nil, List.replicate, List.append_nil, List.cons_append, List.nil_append, List.getElem?_cons_zero, List.getElem?_cons_succ, List.set_cons_zero, List.set_cons_succ, Bool.not_true, Bool.not_false, decide_true, decide_false, ne_eq, not_false_eq_true, Nat.reduceAdd, Nat.reduceSub, fMul_take, fMul_7919, fMul_31, Nat.reduceLT, Int.reduceLT, Int.reduceEq, fMod_i, fDiv_i, bdz_ok, setT_nm, fgt_nil, fgt_cons, wipG_nil, wipG_cons, sz1, sz2, sz3, sz4, sz5, Nat.zero_le, fIs_ii, fIs_ib, fIs_is, fIs_itl, fIs_tt, fIs_tl, fIs_ttl, fIs_lt, fIs_ll, fIs_ltl, fAll_b, fSum_i, fBack_t, fBackL_l, List.length_map]
  have e : p.map (fun x => PyData.int ((p.length : Int) + 1 - x)) = (mi p).map .int := by simp [mi]
  rw [e] at hc
  unfold φ_mirrored m_mirrored φ_mirrored_of m_mirrored_of
  simp only [bnd_at, rt_at, thn_ok, thn_ex, oRo_some, oMap_some, brn_t, brn_f, dName_at, slR_d, slR_a, slR_o, vl_d, vl_s, slV_d, slV_a, slV_o, dv_at, dEsc_at, esc_d, esc_s, escS_d, escS_o, dFz_at, dC_at, dNil_at, dCons_at, vNil_at, vCons_at, op2_at, op2r_at, op1_at, op1o_at, opN_at, opNo_at, vls_nil, vls_cons, cutR_at, oNone_at, oSome_at, dTup_at, dLst_at, dB_at, boolD_b, dNot_at, dAnd_at, dOr_at, dIfE_at, dAndV_at, dOrV_at, dNotV_at, dSeq_at, dsq_nx, dsq_rt, dsq_bk, dsq_ct, dsq_ex, sNx_at, sBk_at, sCt_at, sExpr_at, sRet_at, sRetO_at, sRetN_at, sRetV_at, retS_d, retS_o, sSet_at, sSetO_at, sIf_at, ownV_o, msNil_at, msD_at, msO_at, msR_at, gRo_some, sPar_at, setRs_nil, setRs_d, setRs_o, callP_at, callK_at, argO_some, callM_at, outR_ret, outR_ex, argD_nil, argD_v, argD_p, argD_m, argD_vn, argD_vs, Option.some.injEq, Nat.reduceEqDiff, mIx_m, mIx_v, mIx_p, mIx_nil, putM_none, putM_some, putO_o, call1_at, rD_at, rtD_d, rtD_o, rO_at, rtO_o, sExprR_at, sRetR_at, sSetR_at, setS_d, setS_o, runF_at, outF_nx, outF_rt, mOut_some, muOf_nil, muOf_m, muOf_v, muOf_p, chk_some, sSub_at, subS0, subS1, mutS_some, mutP_some, dMut_at, mixR_at, dChain_at, dRep_at, intD_i, rg1_at, rg2_at, dLstRg_go, rgL_ok, dTupRg_go, rgT_ok, dTupRg3_go, rgT3_ok, rgO1_ok, rgO2_ok, rgO3_ok, sm0, sm1, dIndexT_at, seqS_d, seqS_a, seqS_o, seqD_l, seqD_t, itR_d, itR_s, iV_at, iO_at, iR1_go, iR2_go, iR3_go, iEnV_at, iEnO_at, sFor_at, compL_at, fAdd_i, fSub_i, fLt_i, fLe_i, fGt_i, fGe_i, fDiv_33, fPow_64, fPow_33, fPow_18, fNeg_i, fLen_l, fLen_t, fInt_i, fTuple_l, fList_l, fMax_2, fMin_2, fIx_l0, fIx_l1, fIx_l2, fEq_i, start0, svs, svK, svA, List.length_cons, List.length_nil, List.replicate, List.append_nil, List.cons_append, List.nil_append, List.getElem?_cons_zero, List.getElem?_cons_succ, List.set_cons_zero, List.set_cons_succ, Bool.not_true, Bool.not_false, decide_true, decide_false, ne_eq, not_false_eq_true, Nat.reduceAdd, Nat.reduceSub, fMul_take, fMul_7919, fMul_31, Nat.reduceLT, Int.reduceLT, Int.reduceEq, fMod_i, fDiv_i, bdz_ok, setT_nm, fgt_nil, fgt_cons, wipG_nil, wipG_cons, sz1, sz2, sz3, sz4, sz5, Nat.zero_le, fIs_ii, fIs_ib, fIs_is, fIs_itl, fIs_tt, fIs_tl, fIs_ttl, fIs_lt, fIs_ll, fIs_ltl, fAll_b, fSum_i, fBack_t, fBackL_l, check_order_ok p hp h, hc]
/-- data whose sequences are short -/
inductive Sh : Nat → D → Prop where
  | int (n : Nat) (i : Int) : Sh n (.int i)
  | bool (n : Nat) (b : Bool) : Sh n (.bool b)
  | non (n : Nat) : Sh n .none
  | tup {n : Nat} {xs : List D} (hl : xs.length ≤ 100000) (h : ∀ x ∈ xs, Sh n x) : Sh (n + 1) (.tuple xs)
  | lst {n : Nat} {xs : List D} (hl : xs.length ≤ 100000) (h : ∀ x ∈ xs, Sh n x) : Sh (n + 1) (.list xs)
theorem same_ok : ∀ (n : Nat) (x : D), Sh n x → ∀ m, n < m → φ__law_same m [x, x] = .ret (.d (.bool true)) []
  | n, x, h, 0, hm => absurd hm (Nat.not_lt_zero _)
  | n, x, h, m + 1, hm => by
    have hf := fEq_li [] []
    rw [decide_eq_true rfl] at hf
    have hf : fEq (.list []) (.list []) = some (.bool true) := hf
    have bt : fNe (.bool true) (.bool true) = some (.bool false) := Eq.trans rfl rfl
    have bf : fNe (.bool false) (.bool false) = some (.bool false) := Eq.trans rfl rfl
    have ii : ∀ k : Int, fNe (.int k) (.int k) = some (.bool false) := fun k => by
      rw [fNe_gd (gd_int 0 k) (gd_int 0 k) (by decide) (by decide), (gd_int 0 k).eqv]
      rfl
    show runF 3 [.v, .v] (m__law_same (φ__law_same m)) [x, x] = _
    cases h with
    | int n i =>
      have e1 : fIsN (.int i) .none = some (.bool false) := Eq.trans rfl rfl
      unfold m__law_same
      simp only [bnd_at, rt_at, thn_ok, thn_ex, oRo_some, oMap_some, brn_t, brn_f, dName_at, slR_d, slR_a, slR_o, vl_d, vl_s, slV_d, slV_a, slV_o, dv_at, dEsc_at, esc_d, esc_s, escS_d, escS_o, dFz_at, dC_at, dNil_at, dCons_at, vNil_at, vCons_at, op2_at, op2r_at, op1_at, op1o_at, opN_at, opNo_at, vls_nil, vls_cons, cutR_at, oNone_at, oSome_at, dTup_at, dLst_at, dB_at, boolD_b, dNot_at, dAnd_at, dOr_at, dIfE_at, dAndV_at, dOrV_at, dNotV_at, dSeq_at, dsq_nx, dsq_rt, dsq_bk, dsq_ct, dsq_ex, sNx_at, sBk_at, sCt_at, sExpr_at, sRet_at, sRetO_at, sRetN_at, sRetV_at, retS_d, retS_o, sSet_at, sSetO_at, sIf_at, ownV_o, msNil_at, msD_at, msO_at, msR_at, gRo_some, sPar_at, setRs_nil, setRs_d, setRs_o, callP_at, callK_at, argO_some, callM_at, outR_ret, outR_ex, argD_nil, argD_v, argD_p, argD_m, argD_vn, argD_vs, Option.some.injEq, Nat.reduceEqDiff, mIx_m, mIx_v, mIx_p, mIx_nil, putM_none, putM_some, putO_o, call1_at, rD_at, rtD_d, rtD_o, rO_at, rtO_o, sExprR_at, sRetR_at, sSetR_at, setS_d, setS_o, runF_at, outF_nx, outF_rt, mOut_some, muOf_nil, muOf_m, muOf_v, muOf_p, chk_some, sSub_at, subS0, subS1, mutS_some, mutP_some, dMut_at, mixR_at, dChain_at, dRep_at, intD_i, rg1_at, rg2_at, dLstRg_go, rgL_ok, dTupRg_go, rgT_ok, dTupRg3_go, rgT3_ok, rgO1_ok, rgO2_ok, rgO3_ok, sm0, sm1, dIndexT_at, seqS_d, seqS_a, seqS_o, seqD_l, seqD_t, itR_d, itR_s, iV_at, iO_at, iR1_go, iR2_go, iR3_go, iEnV_at, iEnO_at, sFor_at, compL_at, fAdd_i, fSub_i, fLt_i, fLe_i, fGt_i, fGe_i, fDiv_33, fPow_64, fPow_33, fPow_18, fNeg_i, fLen_l, fLen_t, fInt_i, fTuple_l, fList_l, fMax_2, fMin_2, fIx_l0, fIx_l1, fIx_l2, fEq_i, start0, svs, svK, svA, List.length_cons, List.length_nil, List.replicate, List.append_nil, List.cons_append, List.nil_append, List.getElem?_cons_zero, List.getElem?_cons_succ, List.set_cons_zero, List.set_cons_succ, Bool.not_true, Bool.not_false, decide_true, decide_false, ne_eq, not_false_eq_true, Nat.reduceAdd, Nat.reduceSub, fMul_take, fMul_7919, fMul_31, Nat.reduceLT, Int.reduceLT, Int.reduceEq, fMod_i, fDiv_i, bdz_ok, setT_nm, fgt_nil, fgt_cons, wipG_nil, wipG_cons, sz1, sz2, sz3, sz4, sz5, Nat.zero_le, fIs_ii, fIs_ib, fIs_is, fIs_itl, fIs_tt, fIs_tl, fIs_ttl, fIs_lt, fIs_ll, fIs_ltl, fAll_b, fSum_i, fBack_t, fBackL_l, e1]
    | bool n b =>
      have e1 : fIs [.tuple, .list] (.bool b) = some (.bool false) := Eq.trans rfl rfl
      have e2 : fIsN (.bool b) .none = some (.bool false) := Eq.trans rfl rfl
      have e3 : fIs [.str] (.bool b) = some (.bool false) := Eq.trans rfl rfl
      have e4 : fIs [.bool] (.bool b) = some (.bool true) := Eq.trans rfl rfl
      have e5 : fEq (.bool b) (.bool b) = some (.bool true) := by
        rw [fEq_gd (gd_bool 0 b) (gd_bool 0 b) (by decide) (by decide), (gd_bool 0 b).eqv]
      unfold m__law_same
      simp only [bnd_at, rt_at, thn_ok, thn_ex, oRo_some, oMap_some, brn_t, brn_f, dName_at, slR_d, slR_a, slR_o, vl_d, vl_s, slV_d, slV_a, slV_o, dv_at, dEsc_at, esc_d, esc_s, escS_d, escS_o, dFz_at, dC_at, dNil_at, dCons_at, vNil_at, vCons_at, op2_at, op2r_at, op1_at, op1o_at, opN_at, opNo_at, vls_nil, vls_cons, cutR_at, oNone_at, oSome_at, dTup_at, dLst_at, dB_at, boolD_b, dNot_at, dAnd_at, dOr_at, dIfE_at, dAndV_at, dOrV_at, dNotV_at, dSeq_at, dsq_nx, dsq_rt, dsq_bk, dsq_ct, dsq_ex, sNx_at, sBk_at, sCt_at, sExpr_at, sRet_at, sRetO_at, sRetN_at, sRetV_at, retS_d, retS_o, sSet_at, sSetO_at, sIf_at, ownV_o, msNil_at, msD_at, msO_at, msR_at, gRo_some, sPar_at, setRs_nil, setRs_d, setRs_o, callP_at, callK_at, argO_some, callM_at, outR_ret, outR_ex, argD_nil, argD_v, argD_p, argD_m, argD_vn, argD_vs, Option.some.injEq, Nat.reduceEqDiff, mIx_m, mIx_v, mIx_p, mIx_nil, putM_none, putM_some, putO_o, call1_at, rD_at, rtD_d, rtD_o, rO_at, rtO_o, sExprR_at, sRetR_at, sSetR_at, setS_d, setS_o, runF_at, outF_nx, outF_rt, mOut_some, muOf_nil, muOf_m, muOf_v, muOf_p, chk_some, sSub_at, subS0, subS1, mutS_some, mutP_some, dMut_at, mixR_at, dChain_at, dRep_at, intD_i, rg1_at, rg2_at, dLstRg_go, rgL_ok, dTupRg_go, rgT_ok, dTupRg3_go, rgT3_ok, rgO1_ok, rgO2_ok, rgO3_ok, sm0, sm1, dIndexT_at, seqS_d, seqS_a, seqS_o, seqD_l, seqD_t, itR_d, itR_s, iV_at, iO_at, iR1_go, iR2_go, iR3_go, iEnV_at, iEnO_at, sFor_at, compL_at, fAdd_i, fSub_i, fLt_i, fLe_i, fGt_i, fGe_i, fDiv_33, fPow_64, fPow_33, fPow_18, fNeg_i, fLen_l, fLen_t, fInt_i, fTuple_l, fList_l, fMax_2, fMin_2, fIx_l0, fIx_l1, fIx_l2, fEq_i, start0, svs, svK, svA, List.length_cons, List.length_nil, List.replicate, List.append_nil, List.cons_append, List.nil_append, List.getElem?_cons_zero, List.getElem?_cons_succ, List.set_cons_zero, List.set_cons_succ, Bool.not_true, Bool.not_false, decide_true, decide_false, ne_eq, not_false_eq_true, Nat.reduceAdd, Nat.reduceSub, fMul_take, fMul_7919, fMul_31, Nat.reduceLT, Int.reduceLT, Int.reduceEq, fMod_i, fDiv_i, bdz_ok, setT_nm, fgt_nil, fgt_cons, wipG_nil, wipG_cons, sz1, sz2, sz3, sz4, sz5, Nat.zero_le, fIs_ii, fIs_ib, fIs_is, fIs_itl, fIs_tt, fIs_tl, fIs_ttl, fIs_lt, fIs_ll, fIs_ltl, fAll_b, fSum_i, fBack_t, fBackL_l, e1, e2, e3, e4, e5]
    | non n =>
      have e1 : fIs [.tuple, .list] .none = some (.bool false) := Eq.trans rfl rfl
      have e2 : fIsN .none .none = some (.bool true) := Eq.trans rfl rfl
      unfold m__law_same
      simp only [bnd_at, rt_at, thn_ok, thn_ex, oRo_some, oMap_some, brn_t, brn_f, dName_at, slR_d, slR_a, slR_o, vl_d, vl_s, slV_d, slV_a, slV_o, dv_at, dEsc_at, esc_d, esc_s, escS_d, escS_o, dFz_at, dC_at, dNil_at, dCons_at, vNil_at, vCons_at, op2_at, op2r_at, op1_at, op1o_at, opN_at, opNo_at, vls_nil, vls_cons, cutR_at, oNone_at, oSome_at, dTup_at, dLst_at, dB_at, boolD_b, dNot_at, dAnd_at, dOr_at, dIfE_at, dAndV_at, dOrV_at, dNotV_at, dSeq_at, dsq_nx, dsq_rt, dsq_bk, dsq_ct, dsq_ex, sNx_at, sBk_at, sCt_at, sExpr_at, sRet_at, sRetO_at, sRetN_at, sRetV_at, retS_d, retS_o, sSet_at, sSetO_at, sIf_at, ownV_o, msNil_at, msD_at, msO_at, msR_at, gRo_some, sPar_at, setRs_nil, setRs_d, setRs_o, callP_at, callK_at, argO_some, callM_at, outR_ret, outR_ex, argD_nil, argD_v, argD_p, argD_m, argD_vn, argD_vs, Option.some.injEq, Nat.reduceEqDiff, mIx_m, mIx_v, mIx_p, mIx_nil, putM_none, putM_some, putO_o, call1_at, rD_at, rtD_d, rtD_o, rO_at, rtO_o, sExprR_at, sRetR_at, sSetR_at, setS_d, setS_o, runF_at, outF_nx, outF_rt, mOut_some, muOf_nil, muOf_m, muOf_v, muOf_p, chk_some, sSub_at, subS0, subS1, mutS_some, mutP_some, dMut_at, mixR_at, dChain_at, dRep_at, intD_i, rg1_at, rg2_at, dLstRg_go, rgL_ok, dTupRg_go, rgT_ok, dTupRg3_go, rgT3_ok, rgO1_ok, rgO2_ok, rgO3_ok, sm0, sm1, dIndexT_at, seqS_d, seqS_a, seqS_o, seqD_l, seqD_t, itR_d, itR_s, iV_at, iO_at, iR1_go, iR2_go, iR3_go, iEnV_at, iEnO_at, sFor_at, compL_at, fAdd_i, fSub_i, fLt_i, fLe_i, fGt_i, fGe_i, fDiv_33, fPow_64, fPow_33, fPow_18, fNeg_i, fLen_l, fLen_t, fInt_i, fTuple_l, fList_l, fMax_2, fMin_2, fIx_l0, fIx_l1, fIx_l2, fEq_i, start0, svs, svK, svA, List.length_cons, List.length_nil, List.replicate, List.append_nil, List.cons_append, List.nil_append, List.getElem?_cons_zero, List.getElem?_cons_succ, List.set_cons_zero, List.set_cons_succ, Bool.not_true, Bool.not_false, decide_true, decide_false, ne_eq, not_false_eq_true, Nat.reduceAdd, Nat.reduceSub, fMul_take, fMul_7919, fMul_31, Nat.reduceLT, Int.reduceLT, Int.reduceEq, fMod_i, fDiv_i, bdz_ok, setT_nm, fgt_nil, fgt_cons, wipG_nil, wipG_cons, sz1, sz2, sz3, sz4, sz5, Nat.zero_le, fIs_ii, fIs_ib, fIs_is, fIs_itl, fIs_tt, fIs_tl, fIs_ttl, fIs_lt, fIs_ll, fIs_ltl, fAll_b, fSum_i, fBack_t, fBackL_l, e1, e2]
    | tup hl hx =>
      rename_i k xs
      have hc := compB_fil (i := 2) (enc := PyData.int) (f := fun i => .int i) (p := fun _ => false) (mt := dNot (dB (rD (callP [.v, .v] (φ__law_same m) (vCons (dv (op2 fIx (dName 0) (dName 2))) (vCons (dv (op2 fIx (dName 1) (dName 2))) vNil)))))) (me := dEsc (dName 2)) (g := [.d (.tuple xs), .d (.tuple xs), .u]) (irange 0 xs.length) (by rw [irange_len]; omega) rfl fun i hi => by
        have hi' := irange_mem.mp hi
        have hlt : i.toNat < xs.length := by omega
        have hix := fIx_t (List.getElem?_eq_getElem hlt)
        rw [show ((i.toNat : Nat) : Int) = i by omega] at hix
        have := same_ok k _ (hx _ (List.getElem_mem hlt)) m (by omega)
        exact ⟨by simp only [bnd_at, rt_at, thn_ok, thn_ex, oRo_some, oMap_some, brn_t, brn_f, dName_at, slR_d, slR_a, slR_o, vl_d, vl_s, slV_d, slV_a, slV_o, dv_at, dEsc_at, esc_d, esc_s, escS_d, escS_o, dFz_at, dC_at, dNil_at, dCons_at, vNil_at, vCons_at, op2_at, op2r_at, op1_at, op1o_at, opN_at, opNo_at, vls_nil, vls_cons, cutR_at, oNone_at, oSome_at, dTup_at, dLst_at, dB_at, boolD_b, dNot_at, dAnd_at, dOr_at, dIfE_at, dAndV_at, dOrV_at, dNotV_at, dSeq_at, dsq_nx, dsq_rt, dsq_bk, dsq_ct, dsq_ex, sNx_at, sBk_at, sCt_at, sExpr_at, sRet_at, sRetO_at, sRetN_at, sRetV_at, retS_d, retS_o, sSet_at, sSetO_at, sIf_at, ownV_o, msNil_at, msD_at, msO_at, msR_at, gRo_some, sPar_at, setRs_nil, setRs_d, setRs_o, callP_at, callK_at, argO_some, callM_at, outR_ret, outR_ex, argD_nil, argD_v, argD_p, argD_m, argD_vn, argD_vs, Option.some.injEq, Nat.reduceEqDiff, mIx_m, mIx_v, mIx_p, mIx_nil, putM_none, putM_some, putO_o, call1_at, rD_at, rtD_d, rtD_o, rO_at, rtO_o, sExprR_at, sRetR_at, sSetR_at, setS_d, setS_o, runF_at, outF_nx, outF_rt, mOut_some, muOf_nil, muOf_m, muOf_v, muOf_p, chk_some, sSub_at, subS0, subS1, mutS_some, mutP_some, dMut_at, mixR_at, dChain_at, dRep_at, intD_i, rg1_at, rg2_at, dLstRg_go, rgL_ok, dTupRg_go, rgT_ok, dTupRg3_go, rgT3_ok, rgO1_ok, rgO2_ok, rgO3_ok, sm0, sm1, dIndexT_at, seqS_d, seqS_a, seqS_o, seqD_l, seqD_t, itR_d, itR_s, iV_at, iO_at, iR1_go, iR2_go, iR3_go, iEnV_at, iEnO_at, sFor_at, compL_at, fAdd_i, fSub_i, fLt_i, fLe_i, fGt_i, fGe_i, fDiv_33, fPow_64, fPow_33, fPow_18, fNeg_i, fLen_l, fLen_t, fInt_i, fTuple_l, fList_l, fMax_2, fMin_2, fIx_l0, fIx_l1, fIx_l2, fEq_i, start0, svs, svK, svA, List.length_cons, List.length_nil, List.replicate, List.append_nil, List.cons_append, List.nil_append, List.getElem?_cons_zero, List.getElem?_cons_succ, List.set_cons_zero, List.set_cons_succ, Bool.not_true, Bool.not_false, decide_true, decide_false, ne_eq, not_false_eq_true, Nat.reduceAdd, Nat.reduceSub, fMul_take, fMul_7919, fMul_31, Nat.reduceLT, Int.reduceLT, Int.reduceEq, fMod_i, fDiv_i, bdz_ok, setT_nm, fgt_nil, fgt_cons, wipG_nil, wipG_cons, sz1, sz2, sz3, sz4, sz5, Nat.zero_le, fIs_ii, fIs_ib, fIs_is, fIs_itl, fIs_tt, fIs_tl, fIs_ttl, fIs_lt, fIs_ll, fIs_ltl, fAll_b, fSum_i, fBack_t, fBackL_l, hix, this], fun z => nomatch z⟩
      rw [show (irange 0 xs.length).filter (fun _ => false) = [] from List.filter_eq_nil_iff.mpr (fun _ _ => Bool.false_ne_true), List.map_nil] at hc
      have hsm : Sm (xs.length : Int) := ⟨by omega, by omega⟩
      unfold m__law_same
      simp only [bnd_at, rt_at, thn_ok, thn_ex, oRo_some, oMap_some, brn_t, brn_f, dName_at, slR_d, slR_a, slR_o, vl_d, vl_s, slV_d, slV_a, slV_o, dv_at, dEsc_at, esc_d, esc_s, escS_d, escS_o, dFz_at, dC_at, dNil_at, dCons_at, vNil_at, vCons_at, op2_at, op2r_at, op1_at, op1o_at, opN_at, opNo_at, vls_nil, vls_cons, cutR_at, oNone_at, oSome_at, dTup_at, dLst_at, dB_at, boolD_b, dNot_at, dAnd_at, dOr_at, dIfE_at, dAndV_at, dOrV_at, dNotV_at, dSeq_at, dsq_nx, dsq_rt, dsq_bk, dsq_ct, dsq_ex, sNx_at, sBk_at, sCt_at, sExpr_at, sRet_at, sRetO_at, sRetN_at, sRetV_at, retS_d, retS_o, sSet_at, sSetO_at, sIf_at, ownV_o, msNil_at, msD_at, msO_at, msR_at, gRo_some, sPar_at, setRs_nil, setRs_d, setRs_o, callP_at, callK_at, argO_some, callM_at, outR_ret, outR_ex, argD_nil, argD_v, argD_p, argD_m, argD_vn, argD_vs, Option.some.injEq, Nat.reduceEqDiff, mIx_m, mIx_v, mIx_p, mIx_nil, putM_none, putM_some, putO_o, call1_at, rD_at, rtD_d, rtD_o, rO_at, rtO_o, sExprR_at, sRetR_at, sSetR_at, setS_d, setS_o, runF_at, outF_nx, outF_rt, mOut_some, muOf_nil, muOf_m, muOf_v, muOf_p, chk_some, sSub_at, subS0, subS1, mutS_some, mutP_some, dMut_at, mixR_at, dChain_at, dRep_at, intD_i, rg1_at, rg2_at, dLstRg_go, rgL_ok, dTupRg_go, rgT_ok, dTupRg3_go, rgT3_ok, rgO1_ok, rgO2_ok, rgO3_ok, sm0, sm1, dIndexT_at, seqS_d, seqS_a, seqS_o, seqD_l, seqD_t, itR_d, itR_s, iV_at, iO_at, iR1_go, iR2_go, iR3_go, iEnV_at, iEnO_at, sFor_at, compL_at, fAdd_i, fSub_i, fLt_i, fLe_i, fGt_i, fGe_i, fDiv_33, fPow_64, fPow_33, fPow_18, fNeg_i, fLen_l, fLen_t, fInt_i, fTuple_l, fList_l, fMax_2, fMin_2, fIx_l0, fIx_l1, fIx_l2, fEq_i, start0, svs, svK, svA, List.length_cons, List.length_nil, List.replicate, List.append_nil, List.cons_append, List.nil_append, List.getElem?_cons_zero, List.getElem?_cons_succ, List.set_cons_zero, List.set_cons_succ, Bool.not_true, Bool.not_false, decide_true, decide_false, ne_eq, not_false_eq_true, Nat.reduceAdd, Nat.reduceSub, fMul_take, fMul_7919, fMul_31, Nat.reduceLT, Int.reduceLT, Int.reduceEq, fMod_i, fDiv_i, bdz_ok, setT_nm, fgt_nil, fgt_cons, wipG_nil, wipG_cons, sz1, sz2, sz3, sz4, sz5, Nat.zero_le, fIs_ii, fIs_ib, fIs_is, fIs_itl, fIs_tt, fIs_tl, fIs_ttl, fIs_lt, fIs_ll, fIs_ltl, fAll_b, fSum_i, fBack_t, fBackL_l, bt, bf, ii, hsm, Int.toNat_natCast, hc, hf]
    | lst hl hx =>
      rename_i k xs
      have hc := compB_fil (i := 2) (enc := PyData.int) (f := fun i => .int i) (p := fun _ => false) (mt := dNot (dB (rD (callP [.v, .v] (φ__law_same m) (vCons (dv (op2 fIx (dName 0) (dName 2))) (vCons (dv (op2 fIx (dName 1) (dName 2))) vNil)))))) (me := dEsc (dName 2)) (g := [.a xs, .a xs, .u]) (irange 0 xs.length) (by rw [irange_len]; omega) rfl fun i hi => by
        have hi' := irange_mem.mp hi
        have hlt : i.toNat < xs.length := by omega
        have hix := fIx_l (List.getElem?_eq_getElem hlt)
        rw [show ((i.toNat : Nat) : Int) = i by omega] at hix
        have := same_ok k _ (hx _ (List.getElem_mem hlt)) m (by omega)
        exact ⟨by simp only [bnd_at, rt_at, thn_ok, thn_ex, oRo_some, oMap_some, brn_t, brn_f, dName_at, slR_d, slR_a, slR_o, vl_d, vl_s, slV_d, slV_a, slV_o, dv_at, dEsc_at, esc_d, esc_s, escS_d, escS_o, dFz_at, dC_at, dNil_at, dCons_at, vNil_at, vCons_at, op2_at, op2r_at, op1_at, op1o_at, opN_at, opNo_at, vls_nil, vls_cons, cutR_at, oNone_at, oSome_at, dTup_at, dLst_at, dB_at, boolD_b, dNot_at, dAnd_at, dOr_at, dIfE_at, dAndV_at, dOrV_at, dNotV_at, dSeq_at, dsq_nx, dsq_rt, dsq_bk, dsq_ct, dsq_ex, sNx_at, sBk_at, sCt_at, sExpr_at, sRet_at, sRetO_at, sRetN_at, sRetV_at, retS_d, retS_o, sSet_at, sSetO_at, sIf_at, ownV_o, msNil_at, msD_at, msO_at, msR_at, gRo_some, sPar_at, setRs_nil, setRs_d, setRs_o, callP_at, callK_at, argO_some, callM_at, outR_ret, outR_ex, argD_nil, argD_v, argD_p, argD_m, argD_vn, argD_vs, Option.some.injEq, Nat.reduceEqDiff, mIx_m, mIx_v, mIx_p, mIx_nil, putM_none, putM_some, putO_o, call1_at, rD_at, rtD_d, rtD_o, rO_at, rtO_o, sExprR_at, sRetR_at, sSetR_at, setS_d, setS_o, runF_at, outF_nx, outF_rt, mOut_some, muOf_nil, muOf_m, muOf_v, muOf_p, chk_some, sSub_at, subS0, subS1, mutS_some, mutP_some, dMut_at, mixR_at, dChain_at, dRep_at, intD_i, rg1_at, rg2_at, dLstRg_go, rgL_ok, dTupRg_go, rgT_ok, dTupRg3_go, rgT3_ok, rgO1_ok, rgO2_ok, rgO3_ok, sm0, sm1, dIndexT_at, seqS_d, seqS_a, seqS_o, seqD_l, seqD_t, itR_d, itR_s, iV_at, iO_at, iR1_go, iR2_go, iR3_go, iEnV_at, iEnO_at, sFor_at, compL_at, fAdd_i, fSub_i, fLt_i, fLe_i, fGt_i, fGe_i, fDiv_33, fPow_64, fPow_33, fPow_18, fNeg_i, fLen_l, fLen_t, fInt_i, fTuple_l, fList_l, fMax_2, fMin_2, fIx_l0, fIx_l1, fIx_l2, fEq_i, start0, svs, svK, svA, List.length_cons, List.length_nil, List.replicate, List.append_nil, List.cons_append, List.nil_append, List.getElem?_cons_zero, List.getElem?_cons_succ, List.set_cons_zero, List.set_cons_succ, Bool.not_true, Bool.not_false, decide_true, decide_false, ne_eq, not_false_eq_true, Nat.reduceAdd, Nat.reduceSub, fMul_take, fMul_7919, fMul_31, Nat.reduceLT, Int.reduceLT, Int.reduceEq, fMod_i, fDiv_i, bdz_ok, setT_nm, fgt_nil, fgt_cons, wipG_nil, wipG_cons, sz1, sz2, sz3, sz4, sz5, Nat.zero_le, fIs_ii, fIs_ib, fIs_is, fIs_itl, fIs_tt, fIs_tl, fIs_ttl, fIs_lt, fIs_ll, fIs_ltl, fAll_b, fSum_i, fBack_t, fBackL_l, hix, this], fun z => nomatch z⟩
      rw [show (irange 0 xs.length).filter (fun _ => false) = [] from List.filter_eq_nil_iff.mpr (fun _ _ => Bool.false_ne_true), List.map_nil] at hc
      have hsm : Sm (xs.length : Int) := ⟨by omega, by omega⟩
      unfold m__law_same
      simp only [bnd_at, rt_at, thn_ok, thn_ex, oRo_some, oMap_some, brn_t, brn_f, dName_at, slR_d, slR_a, slR_o, vl_d, vl_s, slV_d, slV_a, slV_o, dv_at, dEsc_at, esc_d, esc_s, escS_d, escS_o, dFz_at, dC_at, dNil_at, dCons_at, vNil_at, vCons_at, op2_at, op2r_at, op1_at, op1o_at, opN_at, opNo_at, vls_nil, vls_cons, cutR_at, oNone_at, oSome_at, dTup_at, dLst_at, dB_at, boolD_b, dNot_at, dAnd_at, dOr_at, dIfE_at, dAndV_at, dOrV_at, dNotV_at, dSeq_at, dsq_nx, dsq_rt, dsq_bk, dsq_ct, dsq_ex, sNx_at, sBk_at, sCt_at, sExpr_at, sRet_at, sRetO_at, sRetN_at, sRetV_at, retS_d, retS_o, sSet_at, sSetO_at, sIf_at, ownV_o, msNil_at, msD_at, msO_at, msR_at, gRo_some, sPar_at, setRs_nil, setRs_d, setRs_o, callP_at, callK_at, argO_some, callM_at, outR_ret, outR_ex, argD_nil, argD_v, argD_p, argD_m, argD_vn, argD_vs, Option.some.injEq, Nat.reduceEqDiff, mIx_m, mIx_v, mIx_p, mIx_nil, putM_none, putM_some, putO_o, call1_at, rD_at, rtD_d, rtD_o, rO_at, rtO_o, sExprR_at, sRetR_at, sSetR_at, setS_d, setS_o, runF_at, outF_nx, outF_rt, mOut_some, muOf_nil, muOf_m, muOf_v, muOf_p, chk_some, sSub_at, subS0, subS1, mutS_some, mutP_some, dMut_at, mixR_at, dChain_at, dRep_at, intD_i, rg1_at, rg2_at, dLstRg_go, rgL_ok, dTupRg_go, rgT_ok, dTupRg3_go, rgT3_ok, rgO1_ok, rgO2_ok, rgO3_ok, sm0, sm1, dIndexT_at, seqS_d, seqS_a, seqS_o, seqD_l, seqD_t, itR_d, itR_s, iV_at, iO_at, iR1_go, iR2_go, iR3_go, iEnV_at, iEnO_at, sFor_at, compL_at, fAdd_i, fSub_i, fLt_i, fLe_i, fGt_i, fGe_i, fDiv_33, fPow_64, fPow_33, fPow_18, fNeg_i, fLen_l, fLen_t, fInt_i, fTuple_l, fList_l, fMax_2, fMin_2, fIx_l0, fIx_l1, fIx_l2, fEq_i, start0, svs, svK, svA, List.length_cons, List.length_nil, List.replicate, List.append_nil, List.cons_append, List.nil_append, List.getElem?_cons_zero, List.getElem?_cons_succ, List.set_cons_zero, List.set_cons_succ, Bool.not_true, Bool.not_false, decide_true, decide_false, ne_eq, not_false_eq_true, Nat.reduceAdd, Nat.reduceSub, fMul_take, fMul_7919, fMul_31, Nat.reduceLT, Int.reduceLT, Int.reduceEq, fMod_i, fDiv_i, bdz_ok, setT_nm, fgt_nil, fgt_cons, wipG_nil, wipG_cons, sz1, sz2, sz3, sz4, sz5, Nat.zero_le, fIs_ii, fIs_ib, fIs_is, fIs_itl, fIs_tt, fIs_tl, fIs_ttl, fIs_lt, fIs_ll, fIs_ltl, fAll_b, fSum_i, fBack_t, fBackL_l, bt, bf, ii, hsm, Int.toNat_natCast, hc, hf]
theorem fAdd_ll (xs ys : List D) : fAdd (.list xs) (.list ys) = none := Eq.trans rfl rfl
theorem fCat_ok (xs ys : List D) (h : xs.length + ys.length ≤ 100000) : fCat (.list xs) (.list ys) = some (xs ++ ys) := if_pos (sz_le h)
theorem like_ok (c : List Int) (h : c.length ≤ 900) : φ__law_like [li c] = .ret (.d (ti (like c))) [] := by
  have hc := compB_one (i := 2) (enc := PyData.int) (f := fun y => .int (1 + ((c.filter fun x => decide (x < y)).length : Int))) (me := rD (op2r fAdd fCat (dv (dC (.int 1))) (dv (opN fLen (vCons (dv (dFz (compL [1] (.nm 1) (iV (dName 0)) (dB (op2 fLt (dName 1) (dName 2))) (dEsc (dName 1))))) vNil)))))
    (g := [.a (c.map .int), .u, .u]) c (by omega) rfl fun y hy => by
      have hi := compB_fil (i := 1) (enc := PyData.int) (f := fun x => .int x) (p := fun x => decide (x < y)) (mt := dB (op2 fLt (dName 1) (dName 2))) (me := dEsc (dName 1)) (g := [.a (c.map .int), .u, .d (.int y)]) c (by omega) rfl fun x hx => ⟨by simp only [bnd_at, rt_at, thn_ok, thn_ex, oRo_some, oMap_some, brn_t, brn_f, dName_at, slR_d, slR_a, slR_o, vl_d, vl_s, slV_d, slV_a, slV_o, dv_at, dEsc_at, esc_d, esc_s, escS_d, escS_o, dFz_at, dC_at, dNil_at, dCons_at, vNil_at, vCons_at, op2_at, op2r_at, op1_at, op1o_at, opN_at, opNo_at, vls_nil, vls_cons, cutR_at, oNone_at, oSome_at, dTup_at, dLst_at, dB_at, boolD_b, dNot_at, dAnd_at, dOr_at, dIfE_at, dAndV_at, dOrV_at, dNotV_at, dSeq_at, dsq_nx, dsq_rt, dsq_bk, dsq_ct, dsq_ex, sNx_at, sBk_at, sCt_at, sExpr_at, sRet_at, sRetO_at, sRetN_at, sRetV_at, retS_d, retS_o, sSet_at, sSetO_at, sIf_at, ownV_o, msNil_at, msD_at, msO_at, msR_at, gRo_some, sPar_at, setRs_nil, setRs_d, setRs_o, callP_at, callK_at, argO_some, callM_at, outR_ret, outR_ex, argD_nil, argD_v, argD_p, argD_m, argD_vn, argD_vs, Option.some.injEq, Nat.reduceEqDiff, mIx_m, mIx_v, mIx_p, mIx_nil, putM_none, putM_some, putO_o, call1_at, rD_at, rtD_d, rtD_o, rO_at, rtO_o, sExprR_at, sRetR_at, sSetR_at, setS_d, setS_o, runF_at, outF_nx, outF_rt, mOut_some, muOf_nil, muOf_m, muOf_v, muOf_p, chk_some, sSub_at, subS0, subS1, mutS_some, mutP_some, dMut_at, mixR_at, dChain_at, dRep_at, intD_i, rg1_at, rg2_at, dLstRg_go, rgL_ok, dTupRg_go, rgT_ok, dTupRg3_go, rgT3_ok, rgO1_ok, rgO2_ok, rgO3_ok, sm0, sm1, dIndexT_at, seqS_d, seqS_a, seqS_o, seqD_l, seqD_t, itR_d, itR_s, iV_at, iO_at, iR1_go, iR2_go, iR3_go, iEnV_at, iEnO_at, sFor_at, compL_at, fAdd_i, fSub_i, fLt_i, fLe_i, fGt_i, fGe_i, fDiv_33, fPow_64, fPow_33, fPow_18, fNeg_i, fLen_l, fLen_t, fInt_i, fTuple_l, fList_l, fMax_2, fMin_2, fIx_l0, fIx_l1, fIx_l2, fEq_i, start0, svs, svK, svA, List.length_cons, List.length_nil, List.replicate, List.append_nil, List.cons_append, List.nil_append, List.getElem?_cons_zero, List.getElem?_cons_succ, List.set_cons_zero, List.set_cons_succ, Bool.not_true, Bool.not_false, decide_true, decide_false, ne_eq, not_false_eq_true, Nat.reduceAdd, Nat.reduceSub, fMul_take, fMul_7919, fMul_31, Nat.reduceLT, Int.reduceLT, Int.reduceEq, fMod_i, fDiv_i, bdz_ok, setT_nm, fgt_nil, fgt_cons, wipG_nil, wipG_cons, sz1, sz2, sz3, sz4, sz5, Nat.zero_le, fIs_ii, fIs_ib, fIs_is, fIs_itl, fIs_tt, fIs_tl, fIs_ttl, fIs_lt, fIs_ll, fIs_ltl, fAll_b, fSum_i, fBack_t, fBackL_l], fun _ => by simp only [bnd_at, rt_at, thn_ok, thn_ex, oRo_some, oMap_some, brn_t, brn_f, dName_at, slR_d, slR_a, slR_o, vl_d, vl_s, slV_d, slV_a, slV_o, dv_at, dEsc_at, esc_d, esc_s, escS_d, escS_o, dFz_at, dC_at, dNil_at, dCons_at, vNil_at, vCons_at, op2_at, op2r_at, op1_at, op1o_at, opN_at, opNo_at, vls_nil, vls_cons, cutR_at, oNone_at, oSome_at, dTup_at, dLst_at, dB_at, boolD_b, dNot_at, dAnd_at, dOr_at, dIfE_at, dAndV_at, dOrV_at, dNotV_at, dSeq_at, dsq_nx, dsq_rt, dsq_bk, dsq_ct, dsq_ex, sNx_at, sBk_at, sCt_at, sExpr_at, sRet_at, sRetO_at, sRetN_at, sRetV_at, retS_d, retS_o, sSet_at, sSetO_at, sIf_at, ownV_o, msNil_at, msD_at, msO_at, msR_at, gRo_some, sPar_at, setRs_nil, setRs_d, setRs_o, callP_at, callK_at, argO_some, callM_at, outR_ret, outR_ex, argD_nil, argD_v, argD_p, argD_m, argD_vn, argD_vs, Option.some.injEq, Nat.reduceEqDiff, mIx_m, mIx_v, mIx_p, mIx_nil, putM_none, putM_some, putO_o, call1_at, rD_at, rtD_d, rtD_o, rO_at, rtO_o, sExprR_at, sRetR_at, sSetR_at, setS_d, setS_o, runF_at, outF_nx, outF_rt, mOut_some, muOf_nil, muOf_m, muOf_v, muOf_p, chk_some, sSub_at, subS0, subS1, mutS_some, mutP_some, dMut_at, mixR_at, dChain_at, dRep_at, intD_i, rg1_at, rg2_at, dLstRg_go, rgL_ok, dTupRg_go, rgT_ok, dTupRg3_go, rgT3_ok, rgO1_ok, rgO2_ok, rgO3_ok, sm0, sm1, dIndexT_at, seqS_d, seqS_a, seqS_o, seqD_l, seqD_t, itR_d, itR_s, iV_at, iO_at, iR1_go, iR2_go, iR3_go, iEnV_at, iEnO_at, sFor_at, compL_at, fAdd_i, fSub_i, fLt_i, fLe_i, fGt_i, fGe_i, fDiv_33, fPow_64, fPow_33, fPow_18, fNeg_i, fLen_l, fLen_t, fInt_i, fTuple_l, fList_l, fMax_2, fMin_2, fIx_l0, fIx_l1, fIx_l2, fEq_i, start0, svs, svK, svA, List.length_cons, List.length_nil, List.replicate, List.append_nil, List.cons_append, List.nil_append, List.getElem?_cons_zero, List.getElem?_cons_succ, List.set_cons_zero, List.set_cons_succ, Bool.not_true, Bool.not_false, decide_true, decide_false, ne_eq, not_false_eq_true, Nat.reduceAdd, Nat.reduceSub, fMul_take, fMul_7919, fMul_31, Nat.reduceLT, Int.reduceLT, Int.reduceEq, fMod_i, fDiv_i, bdz_ok, setT_nm, fgt_nil, fgt_cons, wipG_nil, wipG_cons, sz1, sz2, sz3, sz4, sz5, Nat.zero_le, fIs_ii, fIs_ib, fIs_is, fIs_itl, fIs_tt, fIs_tl, fIs_ttl, fIs_lt, fIs_ll, fIs_ltl, fAll_b, fSum_i, fBack_t, fBackL_l]⟩
      simp only [bnd_at, rt_at, thn_ok, thn_ex, oRo_some, oMap_some, brn_t, brn_f, dName_at, slR_d, slR_a, slR_o, vl_d, vl_s, slV_d, slV_a, slV_o, dv_at, dEsc_at, esc_d, esc_s, escS_d, escS_o, dFz_at, dC_at, dNil_at, dCons_at, vNil_at, vCons_at, op2_at, op2r_at, op1_at, op1o_at, opN_at, opNo_at, vls_nil, vls_cons, cutR_at, oNone_at, oSome_at, dTup_at, dLst_at, dB_at, boolD_b, dNot_at, dAnd_at, dOr_at, dIfE_at, dAndV_at, dOrV_at, dNotV_at, dSeq_at, dsq_nx, dsq_rt, dsq_bk, dsq_ct, dsq_ex, sNx_at, sBk_at, sCt_at, sExpr_at, sRet_at, sRetO_at, sRetN_at, sRetV_at, retS_d, retS_o, sSet_at, sSetO_at, sIf_at, ownV_o, msNil_at, msD_at, msO_at, msR_at, gRo_some, sPar_at, setRs_nil, setRs_d, setRs_o, callP_at, callK_at, argO_some, callM_at, outR_ret, outR_ex, argD_nil, argD_v, argD_p, argD_m, argD_vn, argD_vs, Option.some.injEq, Nat.reduceEqDiff, mIx_m, mIx_v, mIx_p, mIx_nil, putM_none, putM_some, putO_o, call1_at, rD_at, rtD_d, rtD_o, rO_at, rtO_o, sExprR_at, sRetR_at, sSetR_at, setS_d, setS_o, runF_at, outF_nx, outF_rt, mOut_some, muOf_nil, muOf_m, muOf_v, muOf_p, chk_some, sSub_at, subS0, subS1, mutS_some, mutP_some, dMut_at, mixR_at, dChain_at, dRep_at, intD_i, rg1_at, rg2_at, dLstRg_go, rgL_ok, dTupRg_go, rgT_ok, dTupRg3_go, rgT3_ok, rgO1_ok, rgO2_ok, rgO3_ok, sm0, sm1, dIndexT_at, seqS_d, seqS_a, seqS_o, seqD_l, seqD_t, itR_d, itR_s, iV_at, iO_at, iR1_go, iR2_go, iR3_go, iEnV_at, iEnO_at, sFor_at, compL_at, fAdd_i, fSub_i, fLt_i, fLe_i, fGt_i, fGe_i, fDiv_33, fPow_64, fPow_33, fPow_18, fNeg_i, fLen_l, fLen_t, fInt_i, fTuple_l, fList_l, fMax_2, fMin_2, fIx_l0, fIx_l1, fIx_l2, fEq_i, start0, svs, svK, svA, List.length_cons, List.length_nil, List.replicate, List.append_nil, List.cons_append, List.nil_append, List.getElem?_cons_zero, List.getElem?_cons_succ, List.set_cons_zero, List.set_cons_succ, Bool.not_true, Bool.not_false, decide_true, decide_false, ne_eq, not_false_eq_true, Nat.reduceAdd, Nat.reduceSub, fMul_take, fMul_7919, fMul_31, Nat.reduceLT, Int.reduceLT, Int.reduceEq, fMod_i, fDiv_i, bdz_ok, setT_nm, fgt_nil, fgt_cons, wipG_nil, wipG_cons, sz1, sz2, sz3, sz4, sz5, Nat.zero_le, fIs_ii, fIs_ib, fIs_is, fIs_itl, fIs_tt, fIs_tl, fIs_ttl, fIs_lt, fIs_ll, fIs_ltl, fAll_b, fSum_i, fBack_t, fBackL_l, hi, List.length_map]
  have e : c.map (fun y => PyData.int (1 + ((c.filter fun x => decide (x < y)).length : Int))) = (like c).map .int := by
    unfold like
    rw [List.map_map]
    rfl
  rw [e] at hc
  unfold φ__law_like m__law_like
  simp only [bnd_at, rt_at, thn_ok, thn_ex, oRo_some, oMap_some, brn_t, brn_f, dName_at, slR_d, slR_a, slR_o, vl_d, vl_s, slV_d, slV_a, slV_o, dv_at, dEsc_at, esc_d, esc_s, escS_d, escS_o, dFz_at, dC_at, dNil_at, dCons_at, vNil_at, vCons_at, op2_at, op2r_at, op1_at, op1o_at, opN_at, opNo_at, vls_nil, vls_cons, cutR_at, oNone_at, oSome_at, dTup_at, dLst_at, dB_at, boolD_b, dNot_at, dAnd_at, dOr_at, dIfE_at, dAndV_at, dOrV_at, dNotV_at, dSeq_at, dsq_nx, dsq_rt, dsq_bk, dsq_ct, dsq_ex, sNx_at, sBk_at, sCt_at, sExpr_at, sRet_at, sRetO_at, sRetN_at, sRetV_at, retS_d, retS_o, sSet_at, sSetO_at, sIf_at, ownV_o, msNil_at, msD_at, msO_at, msR_at, gRo_some, sPar_at, setRs_nil, setRs_d, setRs_o, callP_at, callK_at, argO_some, callM_at, outR_ret, outR_ex, argD_nil, argD_v, argD_p, argD_m, argD_vn, argD_vs, Option.some.injEq, Nat.reduceEqDiff, mIx_m, mIx_v, mIx_p, mIx_nil, putM_none, putM_some, putO_o, call1_at, rD_at, rtD_d, rtD_o, rO_at, rtO_o, sExprR_at, sRetR_at, sSetR_at, setS_d, setS_o, runF_at, outF_nx, outF_rt, mOut_some, muOf_nil, muOf_m, muOf_v, muOf_p, chk_some, sSub_at, subS0, subS1, mutS_some, mutP_some, dMut_at, mixR_at, dChain_at, dRep_at, intD_i, rg1_at, rg2_at, dLstRg_go, rgL_ok, dTupRg_go, rgT_ok, dTupRg3_go, rgT3_ok, rgO1_ok, rgO2_ok, rgO3_ok, sm0, sm1, dIndexT_at, seqS_d, seqS_a, seqS_o, seqD_l, seqD_t, itR_d, itR_s, iV_at, iO_at, iR1_go, iR2_go, iR3_go, iEnV_at, iEnO_at, sFor_at, compL_at, fAdd_i, fSub_i, fLt_i, fLe_i, fGt_i, fGe_i, fDiv_33, fPow_64, fPow_33, fPow_18, fNeg_i, fLen_l, fLen_t, fInt_i, fTuple_l, fList_l, fMax_2, fMin_2, fIx_l0, fIx_l1, fIx_l2, fEq_i, start0, svs, svK, svA, List.length_cons, List.length_nil, List.replicate, List.append_nil, List.cons_append, List.nil_append, List.getElem?_cons_zero, List.getElem?_cons_succ, List.set_cons_zero, List.set_cons_succ, Bool.not_true, Bool.not_false, decide_true, decide_false, ne_eq, not_false_eq_true, Nat.reduceAdd, Nat.reduceSub, fMul_take, fMul_7919, fMul_31, Nat.reduceLT, Int.reduceLT, Int.reduceEq, fMod_i, fDiv_i, bdz_ok, setT_nm, fgt_nil, fgt_cons, wipG_nil, wipG_cons, sz1, sz2, sz3, sz4, sz5, Nat.zero_le, fIs_ii, fIs_ib, fIs_is, fIs_itl, fIs_tt, fIs_tl, fIs_ttl, fIs_lt, fIs_ll, fIs_ltl, fAll_b, fSum_i, fBack_t, fBackL_l, hc]
theorem filled_ok (p : List Int) (R : List (List Int)) (hl : R.length = p.length) (hn : p.length ≤ 100) (ht : total R p.length ≤ 1000) : φ__law_filled [ti p, .list (R.map ti)] = .ret (.d (ti (fillL p R p.length))) [] := by
  have hsm : Sm (p.length : Int) := sm_of (by omega) (by omega)
  obtain ⟨g', e1, i, h1, h2, h3⟩ := forG_inv (t := .nm 3) (ms := [3, 4]) (b := (dSeq (sSet 4 (opN fSum (vCons (dv (dFz (compL [5] (.nm 5) (iR1 (vCons (dv (opN fLen (vCons (dName 0) vNil))) vNil)) (dB (op2 fLt (dv (op2 fIx (dName 0) (dName 5))) (dv (op2 fIx (dName 0) (dName 3))))) (opN fLen (vCons (dv (op2 fIx (dName 1) (dName 5))) vNil))))) vNil)))
    (sSetR 2 (op2r fAdd fCat (dName 2) (dv (dFz (compL [6] (.nm 6) (iV (dv (op2 fIx (dName 1) (dName 3)))) (rt true) (rD (op2r fAdd fCat (dName 4) (dName 6)))))))))) ((irange 0 p.length).map .int)
    (fun r g => ∃ (i : Nat), r = (irange i (p.length - i)).map .int ∧ i ≤ p.length ∧ g = [.d (ti p), .a (R.map ti), .own false ((fillL p R i).map .int), .u, .u, .u, .u])
    _ ⟨0, rfl, Nat.zero_le _, rfl⟩ (by
      rintro x r g ⟨i, h1, h2, rfl⟩ _
      have hlt : i < p.length := by
        have := congrArg List.length h1
        rw [List.length_map, irange_len, List.length_cons] at this
        omega
      rw [show p.length - i = (p.length - i - 1) + 1 by omega, irange_succ, List.map_cons] at h1
      injection h1 with hx hr
      subst hx
      have atP : ∀ k : Nat, k < p.length → fIx (.tuple (p.map .int)) (.int (k : Int)) = some (.int (p.getD k 0)) := fun k hk => fIx_t (by rw [List.getElem?_map, List.getD_eq_getElem?_getD, List.getElem?_eq_getElem hk]; rfl)
      have atR : ∀ k : Nat, k < p.length → fIx (.list (R.map ti)) (.int (k : Int)) = some (ti (R.getD k [])) := fun k hk => fIx_l (by rw [List.getElem?_map, List.getD_eq_getElem?_getD, List.getElem?_eq_getElem (by omega)]; rfl)
      have hc := compB_fil (i := 5) (enc := PyData.int) (f := fun j => .int ((R.getD j.toNat []).length : Nat)) (p := fun j => decide (p.getD j.toNat 0 < p.getD i 0)) (mt := dB (op2 fLt (dv (op2 fIx (dName 0) (dName 5))) (dv (op2 fIx (dName 0) (dName 3))))) (me := opN fLen (vCons (dv (op2 fIx (dName 1) (dName 5))) vNil))
        (g := [.d (ti p), .a (R.map ti), .own false ((fillL p R i).map .int), .d (.int i), .u, .u, .u]) (irange 0 p.length) (by rw [irange_len]; omega) rfl fun j hj => by
          have hj' := irange_mem.mp hj
          have a1 := atP j.toNat (by omega)
          have a2 := atR j.toNat (by omega)
          rw [show ((j.toNat : Nat) : Int) = j by omega] at a1 a2
          have a3 := atP i hlt
          exact ⟨by simp only [bnd_at, rt_at, thn_ok, thn_ex, oRo_some, oMap_some, brn_t, brn_f, dName_at, slR_d, slR_a, slR_o, vl_d, vl_s, slV_d, slV_a, slV_o, dv_at, dEsc_at, esc_d, esc_s, escS_d, escS_o, dFz_at, dC_at, dNil_at, dCons_at, vNil_at, vCons_at, op2_at, op2r_at, op1_at, op1o_at, opN_at, opNo_at, vls_nil, vls_cons, cutR_at, oNone_at, oSome_at, dTup_at, dLst_at, dB_at, boolD_b, dNot_at, dAnd_at, dOr_at, dIfE_at, dAndV_at, dOrV_at, dNotV_at, dSeq_at, dsq_nx, dsq_rt, dsq_bk, dsq_ct, dsq_ex, sNx_at, sBk_at, sCt_at, sExpr_at, sRet_at, sRetO_at, sRetN_at, sRetV_at, retS_d, retS_o, sSet_at, sSetO_at, sIf_at, ownV_o, msNil_at, msD_at, msO_at, msR_at, gRo_some, sPar_at, setRs_nil, setRs_d, setRs_o, callP_at, callK_at, argO_some, callM_at, outR_ret, outR_ex, argD_nil, argD_v, argD_p, argD_m, argD_vn, argD_vs, Option.some.injEq, Nat.reduceEqDiff, mIx_m, mIx_v, mIx_p, mIx_nil, putM_none, putM_some, putO_o, call1_at, rD_at, rtD_d, rtD_o, rO_at, rtO_o, sExprR_at, sRetR_at, sSetR_at, setS_d, setS_o, runF_at, outF_nx, outF_rt, mOut_some, muOf_nil, muOf_m, muOf_v, muOf_p, chk_some, sSub_at, subS0, subS1, mutS_some, mutP_some, dMut_at, mixR_at, dChain_at, dRep_at, intD_i, rg1_at, rg2_at, dLstRg_go, rgL_ok, dTupRg_go, rgT_ok, dTupRg3_go, rgT3_ok, rgO1_ok, rgO2_ok, rgO3_ok, sm0, sm1, dIndexT_at, seqS_d, seqS_a, seqS_o, seqD_l, seqD_t, itR_d, itR_s, iV_at, iO_at, iR1_go, iR2_go, iR3_go, iEnV_at, iEnO_at, sFor_at, compL_at, fAdd_i, fSub_i, fLt_i, fLe_i, fGt_i, fGe_i, fDiv_33, fPow_64, fPow_33, fPow_18, fNeg_i, fLen_l, fLen_t, fInt_i, fTuple_l, fList_l, fMax_2, fMin_2, fIx_l0, fIx_l1, fIx_l2, fEq_i, start0, svs, svK, svA, List.length_cons, List.length_nil, List.replicate, List.append_nil, List.cons_append, List.nil_append, List.getElem?_cons_zero, List.getElem?_cons_succ, List.set_cons_zero, List.set_cons_succ, Bool.not_true, Bool.not_false, decide_true, decide_false, ne_eq, not_false_eq_true, Nat.reduceAdd, Nat.reduceSub, fMul_take, fMul_7919, fMul_31, Nat.reduceLT, Int.reduceLT, Int.reduceEq, fMod_i, fDiv_i, bdz_ok, setT_nm, fgt_nil, fgt_cons, wipG_nil, wipG_cons, sz1, sz2, sz3, sz4, sz5, Nat.zero_le, fIs_ii, fIs_ib, fIs_is, fIs_itl, fIs_tt, fIs_tl, fIs_ttl, fIs_lt, fIs_ll, fIs_ltl, fAll_b, fSum_i, fBack_t, fBackL_l, a1, a3], fun _ => by simp only [bnd_at, rt_at, thn_ok, thn_ex, oRo_some, oMap_some, brn_t, brn_f, dName_at, slR_d, slR_a, slR_o, vl_d, vl_s, slV_d, slV_a, slV_o, dv_at, dEsc_at, esc_d, esc_s, escS_d, escS_o, dFz_at, dC_at, dNil_at, dCons_at, vNil_at, vCons_at, op2_at, op2r_at, op1_at, op1o_at, opN_at, opNo_at, vls_nil, vls_cons, cutR_at, oNone_at, oSome_at, dTup_at, dLst_at, dB_at, boolD_b, dNot_at, dAnd_at, dOr_at, dIfE_at, dAndV_at, dOrV_at, dNotV_at, dSeq_at, dsq_nx, dsq_rt, dsq_bk, dsq_ct, dsq_ex, sNx_at, sBk_at, sCt_at, sExpr_at, sRet_at, sRetO_at, sRetN_at, sRetV_at, retS_d, retS_o, sSet_at, sSetO_at, sIf_at, ownV_o, msNil_at, msD_at, msO_at, msR_at, gRo_some, sPar_at, setRs_nil, setRs_d, setRs_o, callP_at, callK_at, argO_some, callM_at, outR_ret, outR_ex, argD_nil, argD_v, argD_p, argD_m, argD_vn, argD_vs, Option.some.injEq, Nat.reduceEqDiff, mIx_m, mIx_v, mIx_p, mIx_nil, putM_none, putM_some, putO_o, call1_at, rD_at, rtD_d, rtD_o, rO_at, rtO_o, sExprR_at, sRetR_at, sSetR_at, setS_d, setS_o, runF_at, outF_nx, outF_rt, mOut_some, muOf_nil, muOf_m, muOf_v, muOf_p, chk_some, sSub_at, subS0, subS1, mutS_some, mutP_some, dMut_at, mixR_at, dChain_at, dRep_at, intD_i, rg1_at, rg2_at, dLstRg_go, rgL_ok, dTupRg_go, rgT_ok, dTupRg3_go, rgT3_ok, rgO1_ok, rgO2_ok, rgO3_ok, sm0, sm1, dIndexT_at, seqS_d, seqS_a, seqS_o, seqD_l, seqD_t, itR_d, itR_s, iV_at, iO_at, iR1_go, iR2_go, iR3_go, iEnV_at, iEnO_at, sFor_at, compL_at, fAdd_i, fSub_i, fLt_i, fLe_i, fGt_i, fGe_i, fDiv_33, fPow_64, fPow_33, fPow_18, fNeg_i, fLen_l, fLen_t, fInt_i, fTuple_l, fList_l, fMax_2, fMin_2, fIx_l0, fIx_l1, fIx_l2, fEq_i, start0, svs, svK, svA, List.length_cons, List.length_nil, List.replicate, List.append_nil, List.cons_append, List.nil_append, List.getElem?_cons_zero, List.getElem?_cons_succ, List.set_cons_zero, List.set_cons_succ, Bool.not_true, Bool.not_false, decide_true, decide_false, ne_eq, not_false_eq_true, Nat.reduceAdd, Nat.reduceSub, fMul_take, fMul_7919, fMul_31, Nat.reduceLT, Int.reduceLT, Int.reduceEq, fMod_i, fDiv_i, bdz_ok, setT_nm, fgt_nil, fgt_cons, wipG_nil, wipG_cons, sz1, sz2, sz3, sz4, sz5, Nat.zero_le, fIs_ii, fIs_ib, fIs_is, fIs_itl, fIs_tt, fIs_tl, fIs_ttl, fIs_lt, fIs_ll, fIs_ltl, fAll_b, fSum_i, fBack_t, fBackL_l, a2, List.length_map]⟩
      have hsum := wsum_eq (fun j => (R.getD j []).length) (fun j => decide (p.getD j 0 < p.getD i 0)) p.length
      have hs2 : fSum [.list (((irange 0 p.length).filter fun j => decide (p.getD j.toNat 0 < p.getD i 0)).map fun j => PyData.int ((R.getD j.toNat []).length : Nat))] = some (.int (lessOf p R i)) := by
        have := fSum_i (((irange 0 p.length).filter fun j => decide (p.getD j.toNat 0 < p.getD i 0)).map fun j => (((R.getD j.toNat []).length : Nat) : Int))
        rw [List.map_map, hsum] at this
        exact this
      have hc2 := compB_one (i := 6) (enc := PyData.int) (f := fun x => .int ((lessOf p R i : Int) + x)) (me := rD (op2r fAdd fCat (dName 4) (dName 6))) (g := [.d (ti p), .a (R.map ti), .own false ((fillL p R i).map .int), .d (.int i), .d (.int (lessOf p R i)), .u, .u]) (R.getD i []) (by
          have := less_total (R := R) hlt
          omega) rfl fun x hx => by simp only [bnd_at, rt_at, thn_ok, thn_ex, oRo_some, oMap_some, brn_t, brn_f, dName_at, slR_d, slR_a, slR_o, vl_d, vl_s, slV_d, slV_a, slV_o, dv_at, dEsc_at, esc_d, esc_s, escS_d, escS_o, dFz_at, dC_at, dNil_at, dCons_at, vNil_at, vCons_at, op2_at, op2r_at, op1_at, op1o_at, opN_at, opNo_at, vls_nil, vls_cons, cutR_at, oNone_at, oSome_at, dTup_at, dLst_at, dB_at, boolD_b, dNot_at, dAnd_at, dOr_at, dIfE_at, dAndV_at, dOrV_at, dNotV_at, dSeq_at, dsq_nx, dsq_rt, dsq_bk, dsq_ct, dsq_ex, sNx_at, sBk_at, sCt_at, sExpr_at, sRet_at, sRetO_at, sRetN_at, sRetV_at, retS_d, retS_o, sSet_at, sSetO_at, sIf_at, ownV_o, msNil_at, msD_at, msO_at, msR_at, gRo_some, sPar_at, setRs_nil, setRs_d, setRs_o, callP_at, callK_at, argO_some, callM_at, outR_ret, outR_ex, argD_nil, argD_v, argD_p, argD_m, argD_vn, argD_vs, Option.some.injEq, Nat.reduceEqDiff, mIx_m, mIx_v, mIx_p, mIx_nil, putM_none, putM_some, putO_o, call1_at, rD_at, rtD_d, rtD_o, rO_at, rtO_o, sExprR_at, sRetR_at, sSetR_at, setS_d, setS_o, runF_at, outF_nx, outF_rt, mOut_some, muOf_nil, muOf_m, muOf_v, muOf_p, chk_some, sSub_at, subS0, subS1, mutS_some, mutP_some, dMut_at, mixR_at, dChain_at, dRep_at, intD_i, rg1_at, rg2_at, dLstRg_go, rgL_ok, dTupRg_go, rgT_ok, dTupRg3_go, rgT3_ok, rgO1_ok, rgO2_ok, rgO3_ok, sm0, sm1, dIndexT_at, seqS_d, seqS_a, seqS_o, seqD_l, seqD_t, itR_d, itR_s, iV_at, iO_at, iR1_go, iR2_go, iR3_go, iEnV_at, iEnO_at, sFor_at, compL_at, fAdd_i, fSub_i, fLt_i, fLe_i, fGt_i, fGe_i, fDiv_33, fPow_64, fPow_33, fPow_18, fNeg_i, fLen_l, fLen_t, fInt_i, fTuple_l, fList_l, fMax_2, fMin_2, fIx_l0, fIx_l1, fIx_l2, fEq_i, start0, svs, svK, svA, List.length_cons, List.length_nil, List.replicate, List.append_nil, List.cons_append, List.nil_append, List.getElem?_cons_zero, List.getElem?_cons_succ, List.set_cons_zero, List.set_cons_succ, Bool.not_true, Bool.not_false, decide_true, decide_false, ne_eq, not_false_eq_true, Nat.reduceAdd, Nat.reduceSub, fMul_take, fMul_7919, fMul_31, Nat.reduceLT, Int.reduceLT, Int.reduceEq, fMod_i, fDiv_i, bdz_ok, setT_nm, fgt_nil, fgt_cons, wipG_nil, wipG_cons, sz1, sz2, sz3, sz4, sz5, Nat.zero_le, fIs_ii, fIs_ib, fIs_is, fIs_itl, fIs_tt, fIs_tl, fIs_ttl, fIs_lt, fIs_ll, fIs_ltl, fAll_b, fSum_i, fBack_t, fBackL_l]
      have a4 := atR i hlt
      have hcat := fCat_ok ((fillL p R i).map .int) ((R.getD i []).map fun x => .int ((lessOf p R i : Int) + x)) (by
        rw [List.length_map, List.length_map, fillL_len]
        have := less_total (R := R) hlt
        have h5 : total R i ≤ total R p.length := by
          have : ∀ m : Nat, total R i ≤ total R (i + m) := by
            intro m
            induction m with
            | zero => exact Nat.le_refl _
            | succ m ih => exact Nat.le_trans ih (Nat.le_add_right _ _)
          have := this (p.length - i)
          rwa [show i + (p.length - i) = p.length by omega] at this
        omega)
      refine ⟨[.d (ti p), .a (R.map ti), .own false ((fillL p R i).map .int), .d (.int i), .u, .u, .u], [.d (ti p), .a (R.map ti), .own false ((fillL p R (i + 1)).map .int), .d (.int i), .d (.int (lessOf p R i)), .u, .u], by simp only [bnd_at, rt_at, thn_ok, thn_ex, oRo_some, oMap_some, brn_t, brn_f, dName_at, slR_d, slR_a, slR_o, vl_d, vl_s, slV_d, slV_a, slV_o, dv_at, dEsc_at, esc_d, esc_s, escS_d, escS_o, dFz_at, dC_at, dNil_at, dCons_at, vNil_at, vCons_at, op2_at, op2r_at, op1_at, op1o_at, opN_at, opNo_at, vls_nil, vls_cons, cutR_at, oNone_at, oSome_at, dTup_at, dLst_at, dB_at, boolD_b, dNot_at, dAnd_at, dOr_at, dIfE_at, dAndV_at, dOrV_at, dNotV_at, dSeq_at, dsq_nx, dsq_rt, dsq_bk, dsq_ct, dsq_ex, sNx_at, sBk_at, sCt_at, sExpr_at, sRet_at, sRetO_at, sRetN_at, sRetV_at, retS_d, retS_o, sSet_at, sSetO_at, sIf_at, ownV_o, msNil_at, msD_at, msO_at, msR_at, gRo_some, sPar_at, setRs_nil, setRs_d, setRs_o, callP_at, callK_at, argO_some, callM_at, outR_ret, outR_ex, argD_nil, argD_v, argD_p, argD_m, argD_vn, argD_vs, Option.some.injEq, Nat.reduceEqDiff, mIx_m, mIx_v, mIx_p, mIx_nil, putM_none, putM_some, putO_o, call1_at, rD_at, rtD_d, rtD_o, rO_at, rtO_o, sExprR_at, sRetR_at, sSetR_at, setS_d, setS_o, runF_at, outF_nx, outF_rt, mOut_some, muOf_nil, muOf_m, muOf_v, muOf_p, chk_some, sSub_at, subS0, subS1, mutS_some, mutP_some, dMut_at, mixR_at, dChain_at, dRep_at, intD_i, rg1_at, rg2_at, dLstRg_go, rgL_ok, dTupRg_go, rgT_ok, dTupRg3_go, rgT3_ok, rgO1_ok, rgO2_ok, rgO3_ok, sm0, sm1, dIndexT_at, seqS_d, seqS_a, seqS_o, seqD_l, seqD_t, itR_d, itR_s, iV_at, iO_at, iR1_go, iR2_go, iR3_go, iEnV_at, iEnO_at, sFor_at, compL_at, fAdd_i, fSub_i, fLt_i, fLe_i, fGt_i, fGe_i, fDiv_33, fPow_64, fPow_33, fPow_18, fNeg_i, fLen_l, fLen_t, fInt_i, fTuple_l, fList_l, fMax_2, fMin_2, fIx_l0, fIx_l1, fIx_l2, fEq_i, start0, svs, svK, svA, List.length_cons, List.length_nil, List.replicate, List.append_nil, List.cons_append, List.nil_append, List.getElem?_cons_zero, List.getElem?_cons_succ, List.set_cons_zero, List.set_cons_succ, Bool.not_true, Bool.not_false, decide_true, decide_false, ne_eq, not_false_eq_true, Nat.reduceAdd, Nat.reduceSub, fMul_take, fMul_7919, fMul_31, Nat.reduceLT, Int.reduceLT, Int.reduceEq, fMod_i, fDiv_i, bdz_ok, setT_nm, fgt_nil, fgt_cons, wipG_nil, wipG_cons, sz1, sz2, sz3, sz4, sz5, Nat.zero_le, fIs_ii, fIs_ib, fIs_is, fIs_itl, fIs_tt, fIs_tl, fIs_ttl, fIs_lt, fIs_ll, fIs_ltl, fAll_b, fSum_i, fBack_t, fBackL_l], .inl ?_, i + 1, ?_, by omega, by simp only [bnd_at, rt_at, thn_ok, thn_ex, oRo_some, oMap_some, brn_t, brn_f, dName_at, slR_d, slR_a, slR_o, vl_d, vl_s, slV_d, slV_a, slV_o, dv_at, dEsc_at, esc_d, esc_s, escS_d, escS_o, dFz_at, dC_at, dNil_at, dCons_at, vNil_at, vCons_at, op2_at, op2r_at, op1_at, op1o_at, opN_at, opNo_at, vls_nil, vls_cons, cutR_at, oNone_at, oSome_at, dTup_at, dLst_at, dB_at, boolD_b, dNot_at, dAnd_at, dOr_at, dIfE_at, dAndV_at, dOrV_at, dNotV_at, dSeq_at, dsq_nx, dsq_rt, dsq_bk, dsq_ct, dsq_ex, sNx_at, sBk_at, sCt_at, sExpr_at, sRet_at, sRetO_at, sRetN_at, sRetV_at, retS_d, retS_o, sSet_at, sSetO_at, sIf_at, ownV_o, msNil_at, msD_at, msO_at, msR_at, gRo_some, sPar_at, setRs_nil, setRs_d, setRs_o, callP_at, callK_at, argO_some, callM_at, outR_ret, outR_ex, argD_nil, argD_v, argD_p, argD_m, argD_vn, argD_vs, Option.some.injEq, Nat.reduceEqDiff, mIx_m, mIx_v, mIx_p, mIx_nil, putM_none, putM_some, putO_o, call1_at, rD_at, rtD_d, rtD_o, rO_at, rtO_o, sExprR_at, sRetR_at, sSetR_at, setS_d, setS_o, runF_at, outF_nx, outF_rt, mOut_some, muOf_nil, muOf_m, muOf_v, muOf_p, chk_some, sSub_at, subS0, subS1, mutS_some, mutP_some, dMut_at, mixR_at, dChain_at, dRep_at, intD_i, rg1_at, rg2_at, dLstRg_go, rgL_ok, dTupRg_go, rgT_ok, dTupRg3_go, rgT3_ok, rgO1_ok, rgO2_ok, rgO3_ok, sm0, sm1, dIndexT_at, seqS_d, seqS_a, seqS_o, seqD_l, seqD_t, itR_d, itR_s, iV_at, iO_at, iR1_go, iR2_go, iR3_go, iEnV_at, iEnO_at, sFor_at, compL_at, fAdd_i, fSub_i, fLt_i, fLe_i, fGt_i, fGe_i, fDiv_33, fPow_64, fPow_33, fPow_18, fNeg_i, fLen_l, fLen_t, fInt_i, fTuple_l, fList_l, fMax_2, fMin_2, fIx_l0, fIx_l1, fIx_l2, fEq_i, start0, svs, svK, svA, List.length_cons, List.length_nil, List.replicate, List.append_nil, List.cons_append, List.nil_append, List.getElem?_cons_zero, List.getElem?_cons_succ, List.set_cons_zero, List.set_cons_succ, Bool.not_true, Bool.not_false, decide_true, decide_false, ne_eq, not_false_eq_true, Nat.reduceAdd, Nat.reduceSub, fMul_take, fMul_7919, fMul_31, Nat.reduceLT, Int.reduceLT, Int.reduceEq, fMod_i, fDiv_i, bdz_ok, setT_nm, fgt_nil, fgt_cons, wipG_nil, wipG_cons, sz1, sz2, sz3, sz4, sz5, Nat.zero_le, fIs_ii, fIs_ib, fIs_is, fIs_itl, fIs_tt, fIs_tl, fIs_ttl, fIs_lt, fIs_ll, fIs_ltl, fAll_b, fSum_i, fBack_t, fBackL_l]⟩
      · simp only [bnd_at, rt_at, thn_ok, thn_ex, oRo_some, oMap_some, brn_t, brn_f, dName_at, slR_d, slR_a, slR_o, vl_d, vl_s, slV_d, slV_a, slV_o, dv_at, dEsc_at, esc_d, esc_s, escS_d, escS_o, dFz_at, dC_at, dNil_at, dCons_at, vNil_at, vCons_at, op2_at, op2r_at, op1_at, op1o_at, opN_at, opNo_at, vls_nil, vls_cons, cutR_at, oNone_at, oSome_at, dTup_at, dLst_at, dB_at, boolD_b, dNot_at, dAnd_at, dOr_at, dIfE_at, dAndV_at, dOrV_at, dNotV_at, dSeq_at, dsq_nx, dsq_rt, dsq_bk, dsq_ct, dsq_ex, sNx_at, sBk_at, sCt_at, sExpr_at, sRet_at, sRetO_at, sRetN_at, sRetV_at, retS_d, retS_o, sSet_at, sSetO_at, sIf_at, ownV_o, msNil_at, msD_at, msO_at, msR_at, gRo_some, sPar_at, setRs_nil, setRs_d, setRs_o, callP_at, callK_at, argO_some, callM_at, outR_ret, outR_ex, argD_nil, argD_v, argD_p, argD_m, argD_vn, argD_vs, Option.some.injEq, Nat.reduceEqDiff, mIx_m, mIx_v, mIx_p, mIx_nil, putM_none, putM_some, putO_o, call1_at, rD_at, rtD_d, rtD_o, rO_at, rtO_o, sExprR_at, sRetR_at, sSetR_at, setS_d, setS_o, runF_at, outF_nx, outF_rt, mOut_some, muOf_nil, muOf_m, muOf_v, muOf_p, chk_some, sSub_at, subS0, subS1, mutS_some, mutP_some, dMut_at, mixR_at, dChain_at, dRep_at, intD_i, rg1_at, rg2_at, dLstRg_go, rgL_ok, dTupRg_go, rgT_ok, dTupRg3_go, rgT3_ok, rgO1_ok, rgO2_ok, rgO3_ok, sm0, sm1, dIndexT_at, seqS_d, seqS_a, seqS_o, seqD_l, seqD_t, itR_d, itR_s, iV_at, iO_at, iR1_go, iR2_go, iR3_go, iEnV_at, iEnO_at, sFor_at, compL_at, fAdd_i, fSub_i, fLt_i, fLe_i, fGt_i, fGe_i, fDiv_33, fPow_64, fPow_33, fPow_18, fNeg_i, fLen_l, fLen_t, fInt_i, fTuple_l, fList_l, fMax_2, fMin_2, fIx_l0, fIx_l1, fIx_l2, fEq_i, start0, svs, svK, svA, List.length_cons, List.length_nil, List.replicate, List.append_nil, List.cons_append, List.nil_append, List.getElem?_cons_zero, List.getElem?_cons_succ, List.set_cons_zero, List.set_cons_succ, Bool.not_true, Bool.not_false, decide_true, decide_false, ne_eq, not_false_eq_true, Nat.reduceAdd, Nat.reduceSub, fMul_take, fMul_7919, fMul_31, Nat.reduceLT, Int.reduceLT, Int.reduceEq, fMod_i, fDiv_i, bdz_ok, setT_nm, fgt_nil, fgt_cons, wipG_nil, wipG_cons, sz1, sz2, sz3, sz4, sz5, Nat.zero_le, fIs_ii, fIs_ib, fIs_is, fIs_itl, fIs_tt, fIs_tl, fIs_ttl, fIs_lt, fIs_ll, fIs_ltl, fAll_b, fSum_i, fBack_t, fBackL_l, List.length_map, hsm, Int.toNat_natCast, hc, hs2, a4, hc2, fAdd_ll, hcat]
        rw [show fillL p R (i + 1) = fillL p R i ++ (R.getD i []).map fun x => (lessOf p R i : Int) + x from rfl, List.map_append, List.map_map]
        rfl
      · rw [hr]
        congr 2)
  have hi : i = p.length := by
    have := congrArg List.length h1
    rw [List.length_map, irange_len] at this
    simp at this
    omega
  subst hi
  unfold φ__law_filled m__law_filled
  have e2 : forG _ _ _ _ [SV.d (ti p), .a (R.map ti), .own false [], .u, .u, .u, .u] = _ := e1
  simp only [bnd_at, rt_at, thn_ok, thn_ex, oRo_some, oMap_some, brn_t, brn_f, dName_at, slR_d, slR_a, slR_o, vl_d, vl_s, slV_d, slV_a, slV_o, dv_at, dEsc_at, esc_d, esc_s, escS_d, escS_o, dFz_at, dC_at, dNil_at, dCons_at, vNil_at, vCons_at, op2_at, op2r_at, op1_at, op1o_at, opN_at, opNo_at, vls_nil, vls_cons, cutR_at, oNone_at, oSome_at, dTup_at, dLst_at, dB_at, boolD_b, dNot_at, dAnd_at, dOr_at, dIfE_at, dAndV_at, dOrV_at, dNotV_at, dSeq_at, dsq_nx, dsq_rt, dsq_bk, dsq_ct, dsq_ex, sNx_at, sBk_at, sCt_at, sExpr_at, sRet_at, sRetO_at, sRetN_at, sRetV_at, retS_d, retS_o, sSet_at, sSetO_at, sIf_at, ownV_o, msNil_at, msD_at, msO_at, msR_at, gRo_some, sPar_at, setRs_nil, setRs_d, setRs_o, callP_at, callK_at, argO_some, callM_at, outR_ret, outR_ex, argD_nil, argD_v, argD_p, argD_m, argD_vn, argD_vs, Option.some.injEq, Nat.reduceEqDiff, mIx_m, mIx_v, mIx_p, mIx_nil, putM_none, putM_some, putO_o, call1_at, rD_at, rtD_d, rtD_o, rO_at, rtO_o, sExprR_at, sRetR_at, sSetR_at, setS_d, setS_o, runF_at, outF_nx, outF_rt, mOut_some, muOf_nil, muOf_m, muOf_v, muOf_p, chk_some, sSub_at, subS0, subS1, mutS_some, mutP_some, dMut_at, mixR_at, dChain_at, dRep_at, intD_i, rg1_at, rg2_at, dLstRg_go, rgL_ok, dTupRg_go, rgT_ok, dTupRg3_go, rgT3_ok, rgO1_ok, rgO2_ok, rgO3_ok, sm0, sm1, dIndexT_at, seqS_d, seqS_a, seqS_o, seqD_l, seqD_t, itR_d, itR_s, iV_at, iO_at, iR1_go, iR2_go, iR3_go, iEnV_at, iEnO_at, sFor_at, compL_at, fAdd_i, fSub_i, fLt_i, fLe_i, fGt_i, fGe_i, fDiv_33, fPow_64, fPow_33, fPow_18, fNeg_i, fLen_l, fLen_t, fInt_i, fTuple_l, fList_l, fMax_2, fMin_2, fIx_l0, fIx_l1, fIx_l2, fEq_i, start0, svs, svK, svA, List.length_cons, List.length_nil, List.replicate, List.append_nil, List.cons_append, List.nil_append, List.getElem?_cons_zero, List.getElem?_cons_succ, List.set_cons_zero, List.set_cons_succ, Bool.not_true, Bool.not_false, decide_true, decide_false, ne_eq, not_false_eq_true, Nat.reduceAdd, Nat.reduceSub, fMul_take, fMul_7919, fMul_31, Nat.reduceLT, Int.reduceLT, Int.reduceEq, fMod_i, fDiv_i, bdz_ok, setT_nm, fgt_nil, fgt_cons, wipG_nil, wipG_cons, sz1, sz2, sz3, sz4, sz5, Nat.zero_le, fIs_ii, fIs_ib, fIs_is, fIs_itl, fIs_tt, fIs_tl, fIs_ttl, fIs_lt, fIs_ll, fIs_ltl, fAll_b, fSum_i, fBack_t, fBackL_l, List.length_map, hsm, Int.toNat_natCast, e2, h3]
theorem isOrd_irange (n : Nat) : IsOrd (irange 1 n) := .of_perm (by rw [irange_len])
theorem drange_rev (n : Nat) : drange n n = tu (irange 1 n) := by
  apply List.ext_getElem?
  intro k
  by_cases hk : k < n
  · rw [drange_get _ _ _ hk, tu, List.getElem?_reverse (by rw [irange_len]; exact hk), irange_len, irange_get _ _ _ (by omega)]
    congr 1
    omega
  · rw [List.getElem?_eq_none (by rw [drange_len]; omega), List.getElem?_eq_none (by rw [tu_len, irange_len]; omega)]
theorem two_of {r : Int} (h0 : 0 ≤ r) (h1 : r < 2) : r = 0 ∨ r = 1 := by omega
abbrev rowBody : M Fl := (dSeq (sSetR 9 (callP [.m, .v] φ__law_take (vCons (dName 0) (vCons (dv (rD (op2r fAdd fCat (dName 6) (dv (dC (.int 1)))))) vNil))))
    (dSeq (sSet 6 (op2 fSub (dName 6) (dName 9)))
    (sExpr (dMut 7 mAppend (dCons (rD (callP [.m, .v] φ__law_drawn (vCons (dName 0) (vCons (dv (rD (op2r fAdd fCat (dv (dC (.int 1))) (dName 9)))) vNil)))) dNil)))))
theorem row_loop (most way : Int) (many : Nat) (base : List Int) {l : List D} (hl : Deck l) (hb : base.length ≤ many) (hm : many ≤ 100) : ∃ (l' : List D) (R : List (List Int)) (rest : Int) (g' : En),
    forG (.nm 8) [8, 9] rowBody ((irange 0 base.length).map .int) [.own true l, .d (.int most), .d (.int way), .d (.int many), .u, .d (ti base), .d (.int ((many : Int) - base.length)), .own false [], .u, .u] = .ok .nx (fgt [8, 9] g') ∧
      g' = [.own true l', .d (.int most), .d (.int way), .d (.int many), .u, .d (ti base), .d (.int rest), .own false (R.map ti), .u, .u] ∧ Deck l' ∧ R.length = base.length ∧ (∀ j, j < base.length → IsOrd (R.getD j [])) ∧ total R base.length ≤ many := by
  obtain ⟨g', e1, i, l', R, rest, h1, h2, h3, h4, h5, h6, h7, h8⟩ := forG_inv (t := .nm 8) (ms := [8, 9]) (b := rowBody) ((irange 0 base.length).map .int)
    (fun r g => ∃ (i : Nat) (l' : List D) (R : List (List Int)) (rest : Int), r = (irange i (base.length - i)).map .int ∧ i ≤ base.length ∧ Deck l' ∧ R.length = i ∧ (∀ j, j < i → IsOrd (R.getD j [])) ∧ 0 ≤ rest ∧ (total R i : Int) + rest = i + ((many : Int) - base.length) ∧
      g = [.own true l', .d (.int most), .d (.int way), .d (.int many), .u, .d (ti base), .d (.int rest), .own false (R.map ti), .u, .u])
    _ ⟨0, l, [], (many : Int) - base.length, rfl, Nat.zero_le _, hl, rfl, fun j hj => absurd hj (Nat.not_lt_zero _), by omega, by simp [total, wsum], rfl⟩ (by
      rintro x r g ⟨i, l', R, rest, h1, h2, h3, h4, h5, h6, h7, rfl⟩ _
      have hlt : i < base.length := by
        have := congrArg List.length h1
        rw [List.length_map, irange_len, List.length_cons] at this
        omega
      rw [show base.length - i = (base.length - i - 1) + 1 by omega, irange_succ, List.map_cons] at h1
      injection h1 with hx hr
      subst hx
      have hrest : rest ≤ 100 := by omega
      obtain ⟨t, l2, ht, hd, t0, t1⟩ := take_ok h3 (rest + 1) (by omega) (by omega)
      obtain ⟨q, l3, hq, hd3, hq1, hq2⟩ := drawn_ok hd (1 + t.toNat) (by omega)
      rw [show ((1 + t.toNat : Nat) : Int) = 1 + t by omega] at hq
      have ha := mAppend_ok (R.map ti) (ti q) (by rw [List.length_map]; exact sz_lt (by omega))
      refine ⟨[.own true l', .d (.int most), .d (.int way), .d (.int many), .u, .d (ti base), .d (.int rest), .own false (R.map ti), .d (.int i), .u], [.own true l3, .d (.int most), .d (.int way), .d (.int many), .u, .d (ti base), .d (.int (rest - t)), .own false ((R ++ [q]).map ti), .d (.int i), .d (.int t)], by simp only [bnd_at, rt_at, thn_ok, thn_ex, oRo_some, oMap_some, brn_t, brn_f, dName_at, slR_d, slR_a, slR_o, vl_d, vl_s, slV_d, slV_a, slV_o, dv_at, dEsc_at, esc_d, esc_s, escS_d, escS_o, dFz_at, dC_at, dNil_at, dCons_at, vNil_at, vCons_at, op2_at, op2r_at, op1_at, op1o_at, opN_at, opNo_at, vls_nil, vls_cons, cutR_at, oNone_at, oSome_at, dTup_at, dLst_at, dB_at, boolD_b, dNot_at, dAnd_at, dOr_at, dIfE_at, dAndV_at, dOrV_at, dNotV_at, dSeq_at, dsq_nx, dsq_rt, dsq_bk, dsq_ct, dsq_ex, sNx_at, sBk_at, sCt_at, sExpr_at, sRet_at, sRetO_at, sRetN_at, sRetV_at, retS_d, retS_o, sSet_at, sSetO_at, sIf_at, ownV_o, msNil_at, msD_at, msO_at, msR_at, gRo_some, sPar_at, setRs_nil, setRs_d, setRs_o, callP_at, callK_at, argO_some, callM_at, outR_ret, outR_ex, argD_nil, argD_v, argD_p, argD_m, argD_vn, argD_vs, Option.some.injEq, Nat.reduceEqDiff, mIx_m, mIx_v, mIx_p, mIx_nil, putM_none, putM_some, putO_o, call1_at, rD_at, rtD_d, rtD_o, rO_at, rtO_o, sExprR_at, sRetR_at, sSetR_at, setS_d, setS_o, runF_at, outF_nx, outF_rt, mOut_some, muOf_nil, muOf_m, muOf_v, muOf_p, chk_some, sSub_at, subS0, subS1, mutS_some, mutP_some, dMut_at, mixR_at, dChain_at, dRep_at, intD_i, rg1_at, rg2_at, dLstRg_go, rgL_ok, dTupRg_go, rgT_ok, dTupRg3_go, rgT3_ok, rgO1_ok, rgO2_ok, rgO3_ok, sm0, sm1, dIndexT_at, seqS_d, seqS_a, seqS_o, seqD_l, seqD_t, itR_d, itR_s, iV_at, iO_at, iR1_go, iR2_go, iR3_go, iEnV_at, iEnO_at, sFor_at, compL_at, fAdd_i, fSub_i, fLt_i, fLe_i, fGt_i, fGe_i, fDiv_33, fPow_64, fPow_33, fPow_18, fNeg_i, fLen_l, fLen_t, fInt_i, fTuple_l, fList_l, fMax_2, fMin_2, fIx_l0, fIx_l1, fIx_l2, fEq_i, start0, svs, svK, svA, List.length_cons, List.length_nil, List.replicate, List.append_nil, List.cons_append, List.nil_append, List.getElem?_cons_zero, List.getElem?_cons_succ, List.set_cons_zero, List.set_cons_succ, Bool.not_true, Bool.not_false, decide_true, decide_false, ne_eq, not_false_eq_true, Nat.reduceAdd, Nat.reduceSub, fMul_take, fMul_7919, fMul_31, Nat.reduceLT, Int.reduceLT, Int.reduceEq, fMod_i, fDiv_i, bdz_ok, setT_nm, fgt_nil, fgt_cons, wipG_nil, wipG_cons, sz1, sz2, sz3, sz4, sz5, Nat.zero_le, fIs_ii, fIs_ib, fIs_is, fIs_itl, fIs_tt, fIs_tl, fIs_ttl, fIs_lt, fIs_ll, fIs_ltl, fAll_b, fSum_i, fBack_t, fBackL_l], .inl ?_, i + 1, l3, R ++ [q], rest - t, ?_, by omega, hd3, ?_, fun j hj => ?_, by omega, ?_, by simp only [bnd_at, rt_at, thn_ok, thn_ex, oRo_some, oMap_some, brn_t, brn_f, dName_at, slR_d, slR_a, slR_o, vl_d, vl_s, slV_d, slV_a, slV_o, dv_at, dEsc_at, esc_d, esc_s, escS_d, escS_o, dFz_at, dC_at, dNil_at, dCons_at, vNil_at, vCons_at, op2_at, op2r_at, op1_at, op1o_at, opN_at, opNo_at, vls_nil, vls_cons, cutR_at, oNone_at, oSome_at, dTup_at, dLst_at, dB_at, boolD_b, dNot_at, dAnd_at, dOr_at, dIfE_at, dAndV_at, dOrV_at, dNotV_at, dSeq_at, dsq_nx, dsq_rt, dsq_bk, dsq_ct, dsq_ex, sNx_at, sBk_at, sCt_at, sExpr_at, sRet_at, sRetO_at, sRetN_at, sRetV_at, retS_d, retS_o, sSet_at, sSetO_at, sIf_at, ownV_o, msNil_at, msD_at, msO_at, msR_at, gRo_some, sPar_at, setRs_nil, setRs_d, setRs_o, callP_at, callK_at, argO_some, callM_at, outR_ret, outR_ex, argD_nil, argD_v, argD_p, argD_m, argD_vn, argD_vs, Option.some.injEq, Nat.reduceEqDiff, mIx_m, mIx_v, mIx_p, mIx_nil, putM_none, putM_some, putO_o, call1_at, rD_at, rtD_d, rtD_o, rO_at, rtO_o, sExprR_at, sRetR_at, sSetR_at, setS_d, setS_o, runF_at, outF_nx, outF_rt, mOut_some, muOf_nil, muOf_m, muOf_v, muOf_p, chk_some, sSub_at, subS0, subS1, mutS_some, mutP_some, dMut_at, mixR_at, dChain_at, dRep_at, intD_i, rg1_at, rg2_at, dLstRg_go, rgL_ok, dTupRg_go, rgT_ok, dTupRg3_go, rgT3_ok, rgO1_ok, rgO2_ok, rgO3_ok, sm0, sm1, dIndexT_at, seqS_d, seqS_a, seqS_o, seqD_l, seqD_t, itR_d, itR_s, iV_at, iO_at, iR1_go, iR2_go, iR3_go, iEnV_at, iEnO_at, sFor_at, compL_at, fAdd_i, fSub_i, fLt_i, fLe_i, fGt_i, fGe_i, fDiv_33, fPow_64, fPow_33, fPow_18, fNeg_i, fLen_l, fLen_t, fInt_i, fTuple_l, fList_l, fMax_2, fMin_2, fIx_l0, fIx_l1, fIx_l2, fEq_i, start0, svs, svK, svA, List.length_cons, List.length_nil, List.replicate, List.append_nil, List.cons_append, List.nil_append, List.getElem?_cons_zero, List.getElem?_cons_succ, List.set_cons_zero, List.set_cons_succ, Bool.not_true, Bool.not_false, decide_true, decide_false, ne_eq, not_false_eq_true, Nat.reduceAdd, Nat.reduceSub, fMul_take, fMul_7919, fMul_31, Nat.reduceLT, Int.reduceLT, Int.reduceEq, fMod_i, fDiv_i, bdz_ok, setT_nm, fgt_nil, fgt_cons, wipG_nil, wipG_cons, sz1, sz2, sz3, sz4, sz5, Nat.zero_le, fIs_ii, fIs_ib, fIs_is, fIs_itl, fIs_tt, fIs_tl, fIs_ttl, fIs_lt, fIs_ll, fIs_ltl, fAll_b, fSum_i, fBack_t, fBackL_l]⟩
      · simp only [bnd_at, rt_at, thn_ok, thn_ex, oRo_some, oMap_some, brn_t, brn_f, dName_at, slR_d, slR_a, slR_o, vl_d, vl_s, slV_d, slV_a, slV_o, dv_at, dEsc_at, esc_d, esc_s, escS_d, escS_o, dFz_at, dC_at, dNil_at, dCons_at, vNil_at, vCons_at, op2_at, op2r_at, op1_at, op1o_at, opN_at, opNo_at, vls_nil, vls_cons, cutR_at, oNone_at, oSome_at, dTup_at, dLst_at, dB_at, boolD_b, dNot_at, dAnd_at, dOr_at, dIfE_at, dAndV_at, dOrV_at, dNotV_at, dSeq_at, dsq_nx, dsq_rt, dsq_bk, dsq_ct, dsq_ex, sNx_at, sBk_at, sCt_at, sExpr_at, sRet_at, sRetO_at, sRetN_at, sRetV_at, retS_d, retS_o, sSet_at, sSetO_at, sIf_at, ownV_o, msNil_at, msD_at, msO_at, msR_at, gRo_some, sPar_at, setRs_nil, setRs_d, setRs_o, callP_at, callK_at, argO_some, callM_at, outR_ret, outR_ex, argD_nil, argD_v, argD_p, argD_m, argD_vn, argD_vs, Option.some.injEq, Nat.reduceEqDiff, mIx_m, mIx_v, mIx_p, mIx_nil, putM_none, putM_some, putO_o, call1_at, rD_at, rtD_d, rtD_o, rO_at, rtO_o, sExprR_at, sRetR_at, sSetR_at, setS_d, setS_o, runF_at, outF_nx, outF_rt, mOut_some, muOf_nil, muOf_m, muOf_v, muOf_p, chk_some, sSub_at, subS0, subS1, mutS_some, mutP_some, dMut_at, mixR_at, dChain_at, dRep_at, intD_i, rg1_at, rg2_at, dLstRg_go, rgL_ok, dTupRg_go, rgT_ok, dTupRg3_go, rgT3_ok, rgO1_ok, rgO2_ok, rgO3_ok, sm0, sm1, dIndexT_at, seqS_d, seqS_a, seqS_o, seqD_l, seqD_t, itR_d, itR_s, iV_at, iO_at, iR1_go, iR2_go, iR3_go, iEnV_at, iEnO_at, sFor_at, compL_at, fAdd_i, fSub_i, fLt_i, fLe_i, fGt_i, fGe_i, fDiv_33, fPow_64, fPow_33, fPow_18, fNeg_i, fLen_l, fLen_t, fInt_i, fTuple_l, fList_l, fMax_2, fMin_2, fIx_l0, fIx_l1, fIx_l2, fEq_i, start0, svs, svK, svA, List.length_cons, List.length_nil, List.replicate, List.append_nil, List.cons_append, List.nil_append, List.getElem?_cons_zero, List.getElem?_cons_succ, List.set_cons_zero, List.set_cons_succ, Bool.not_true, Bool.not_false, decide_true, decide_false, ne_eq, not_false_eq_true, Nat.reduceAdd, Nat.reduceSub, fMul_take, fMul_7919, fMul_31, Nat.reduceLT, Int.reduceLT, Int.reduceEq, fMod_i, fDiv_i, bdz_ok, setT_nm, fgt_nil, fgt_cons, wipG_nil, wipG_cons, sz1, sz2, sz3, sz4, sz5, Nat.zero_le, fIs_ii, fIs_ib, fIs_is, fIs_itl, fIs_tt, fIs_tl, fIs_ttl, fIs_lt, fIs_ll, fIs_ltl, fAll_b, fSum_i, fBack_t, fBackL_l, ht, hq, ha, List.map_append, List.map_cons, List.map_nil]
      · rw [hr]
        congr 2
      · rw [List.length_append, h4]
        rfl
      · by_cases e : j = i
        · subst e
          rw [List.getD_eq_getElem?_getD, List.getElem?_append_right (by omega), h4, Nat.sub_self]
          exact hq1
        · rw [List.getD_eq_getElem?_getD, List.getElem?_append_left (by omega), ← List.getD_eq_getElem?_getD]
          exact h5 j (by omega)
      · have := total_snoc (R := R) (r := q)
        rw [h4] at this
        rw [this]
        omega)
  have hi : i = base.length := by
    have := congrArg List.length h1
    rw [List.length_map, irange_len] at this
    simp at this
    omega
  subst hi
  exact ⟨l', R, rest, g', e1, h8, h3, h4, h5, by omega⟩
theorem row_ok {l : List D} (hl : Deck l) (most : Nat) (hm : most ≤ 100) : ∃ (p : List Int) (l' : List D), φ__law_row [.list l, .int (most : Int)] = .ret (.d (ti p)) l' ∧ Deck l' ∧ IsOrd p ∧ p.length ≤ most := by
  obtain ⟨way, l1, e1, d1, w0, w1⟩ := take_ok hl 6 (by omega) (by omega)
  obtain ⟨manyI, l2, e2, d2, m0, m1⟩ := take_ok d1 ((most : Int) + 1) (by omega) (by omega)
  obtain ⟨many, rfl⟩ : ∃ many : Nat, manyI = many := ⟨manyI.toNat, by omega⟩
  have hmm : many ≤ most := by omega
  by_cases c1 : way < 2
  · obtain ⟨p, l', h1, h2, h3, h4⟩ := drawn_ok d2 many (by omega)
    refine ⟨p, l', ?_, h2, h3, by omega⟩
    unfold φ__law_row m__law_row
    simp only [bnd_at, rt_at, thn_ok, thn_ex, oRo_some, oMap_some, brn_t, brn_f, dName_at, slR_d, slR_a, slR_o, vl_d, vl_s, slV_d, slV_a, slV_o, dv_at, dEsc_at, esc_d, esc_s, escS_d, escS_o, dFz_at, dC_at, dNil_at, dCons_at, vNil_at, vCons_at, op2_at, op2r_at, op1_at, op1o_at, opN_at, opNo_at, vls_nil, vls_cons, cutR_at, oNone_at, oSome_at, dTup_at, dLst_at, dB_at, boolD_b, dNot_at, dAnd_at, dOr_at, dIfE_at, dAndV_at, dOrV_at, dNotV_at, dSeq_at, dsq_nx, dsq_rt, dsq_bk, dsq_ct, dsq_ex, sNx_at, sBk_at, sCt_at, sExpr_at, sRet_at, sRetO_at, sRetN_at, sRetV_at, retS_d, retS_o, sSet_at, sSetO_at, sIf_at, ownV_o, msNil_at, msD_at, msO_at, msR_at, gRo_some, sPar_at, setRs_nil, setRs_d, setRs_o, callP_at, callK_at, argO_some, callM_at, outR_ret, outR_ex, argD_nil, argD_v, argD_p, argD_m, argD_vn, argD_vs, Option.some.injEq, Nat.reduceEqDiff, mIx_m, mIx_v, mIx_p, mIx_nil, putM_none, putM_some, putO_o, call1_at, rD_at, rtD_d, rtD_o, rO_at, rtO_o, sExprR_at, sRetR_at, sSetR_at, setS_d, setS_o, runF_at, outF_nx, outF_rt, mOut_some, muOf_nil, muOf_m, muOf_v, muOf_p, chk_some, sSub_at, subS0, subS1, mutS_some, mutP_some, dMut_at, mixR_at, dChain_at, dRep_at, intD_i, rg1_at, rg2_at, dLstRg_go, rgL_ok, dTupRg_go, rgT_ok, dTupRg3_go, rgT3_ok, rgO1_ok, rgO2_ok, rgO3_ok, sm0, sm1, dIndexT_at, seqS_d, seqS_a, seqS_o, seqD_l, seqD_t, itR_d, itR_s, iV_at, iO_at, iR1_go, iR2_go, iR3_go, iEnV_at, iEnO_at, sFor_at, compL_at, fAdd_i, fSub_i, fLt_i, fLe_i, fGt_i, fGe_i, fDiv_33, fPow_64, fPow_33, fPow_18, fNeg_i, fLen_l, fLen_t, fInt_i, fTuple_l, fList_l, fMax_2, fMin_2, fIx_l0, fIx_l1, fIx_l2, fEq_i, start0, svs, svK, svA, List.length_cons, List.length_nil, List.replicate, List.append_nil, List.cons_append, List.nil_append, List.getElem?_cons_zero, List.getElem?_cons_succ, List.set_cons_zero, List.set_cons_succ, Bool.not_true, Bool.not_false, decide_true, decide_false, ne_eq, not_false_eq_true, Nat.reduceAdd, Nat.reduceSub, fMul_take, fMul_7919, fMul_31, Nat.reduceLT, Int.reduceLT, Int.reduceEq, fMod_i, fDiv_i, bdz_ok, setT_nm, fgt_nil, fgt_cons, wipG_nil, wipG_cons, sz1, sz2, sz3, sz4, sz5, Nat.zero_le, fIs_ii, fIs_ib, fIs_is, fIs_itl, fIs_tt, fIs_tl, fIs_ttl, fIs_lt, fIs_ll, fIs_ltl, fAll_b, fSum_i, fBack_t, fBackL_l, e1, e2, c1, h1]
  by_cases c2 : (many : Int) < 2
  · obtain ⟨p, l', h1, h2, h3, h4⟩ := drawn_ok d2 many (by omega)
    refine ⟨p, l', ?_, h2, h3, by omega⟩
    unfold φ__law_row m__law_row
    simp only [bnd_at, rt_at, thn_ok, thn_ex, oRo_some, oMap_some, brn_t, brn_f, dName_at, slR_d, slR_a, slR_o, vl_d, vl_s, slV_d, slV_a, slV_o, dv_at, dEsc_at, esc_d, esc_s, escS_d, escS_o, dFz_at, dC_at, dNil_at, dCons_at, vNil_at, vCons_at, op2_at, op2r_at, op1_at, op1o_at, opN_at, opNo_at, vls_nil, vls_cons, cutR_at, oNone_at, oSome_at, dTup_at, dLst_at, dB_at, boolD_b, dNot_at, dAnd_at, dOr_at, dIfE_at, dAndV_at, dOrV_at, dNotV_at, dSeq_at, dsq_nx, dsq_rt, dsq_bk, dsq_ct, dsq_ex, sNx_at, sBk_at, sCt_at, sExpr_at, sRet_at, sRetO_at, sRetN_at, sRetV_at, retS_d, retS_o, sSet_at, sSetO_at, sIf_at, ownV_o, msNil_at, msD_at, msO_at, msR_at, gRo_some, sPar_at, setRs_nil, setRs_d, setRs_o, callP_at, callK_at, argO_some, callM_at, outR_ret, outR_ex, argD_nil, argD_v, argD_p, argD_m, argD_vn, argD_vs, Option.some.injEq, Nat.reduceEqDiff, mIx_m, mIx_v, mIx_p, mIx_nil, putM_none, putM_some, putO_o, call1_at, rD_at, rtD_d, rtD_o, rO_at, rtO_o, sExprR_at, sRetR_at, sSetR_at, setS_d, setS_o, runF_at, outF_nx, outF_rt, mOut_some, muOf_nil, muOf_m, muOf_v, muOf_p, chk_some, sSub_at, subS0, subS1, mutS_some, mutP_some, dMut_at, mixR_at, dChain_at, dRep_at, intD_i, rg1_at, rg2_at, dLstRg_go, rgL_ok, dTupRg_go, rgT_ok, dTupRg3_go, rgT3_ok, rgO1_ok, rgO2_ok, rgO3_ok, sm0, sm1, dIndexT_at, seqS_d, seqS_a, seqS_o, seqD_l, seqD_t, itR_d, itR_s, iV_at, iO_at, iR1_go, iR2_go, iR3_go, iEnV_at, iEnO_at, sFor_at, compL_at, fAdd_i, fSub_i, fLt_i, fLe_i, fGt_i, fGe_i, fDiv_33, fPow_64, fPow_33, fPow_18, fNeg_i, fLen_l, fLen_t, fInt_i, fTuple_l, fList_l, fMax_2, fMin_2, fIx_l0, fIx_l1, fIx_l2, fEq_i, start0, svs, svK, svA, List.length_cons, List.length_nil, List.replicate, List.append_nil, List.cons_append, List.nil_append, List.getElem?_cons_zero, List.getElem?_cons_succ, List.set_cons_zero, List.set_cons_succ, Bool.not_true, Bool.not_false, decide_true, decide_false, ne_eq, not_false_eq_true, Nat.reduceAdd, Nat.reduceSub, fMul_take, fMul_7919, fMul_31, Nat.reduceLT, Int.reduceLT, Int.reduceEq, fMod_i, fDiv_i, bdz_ok, setT_nm, fgt_nil, fgt_cons, wipG_nil, wipG_cons, sz1, sz2, sz3, sz4, sz5, Nat.zero_le, fIs_ii, fIs_ib, fIs_is, fIs_itl, fIs_tt, fIs_tl, fIs_ttl, fIs_lt, fIs_ll, fIs_ltl, fAll_b, fSum_i, fBack_t, fBackL_l, e1, e2, c1, c2, h1]
  by_cases c3 : way = 2
  · subst c3
    have hsm : Sm ((many : Int) + 1) := sm_of (by omega) (by omega)
    have hr : ((many : Int) + 1 - 1).toNat = many := by omega
    obtain ⟨t, l3, e3, d3, t0, t1⟩ := take_ok d2 2 (by omega) (by omega)
    rcases two_of t0 t1 with rfl | rfl
    · refine ⟨irange 1 many, l3, ?_, d3, isOrd_irange many, by rw [irange_len]; omega⟩
      unfold φ__law_row m__law_row
      simp only [bnd_at, rt_at, thn_ok, thn_ex, oRo_some, oMap_some, brn_t, brn_f, dName_at, slR_d, slR_a, slR_o, vl_d, vl_s, slV_d, slV_a, slV_o, dv_at, dEsc_at, esc_d, esc_s, escS_d, escS_o, dFz_at, dC_at, dNil_at, dCons_at, vNil_at, vCons_at, op2_at, op2r_at, op1_at, op1o_at, opN_at, opNo_at, vls_nil, vls_cons, cutR_at, oNone_at, oSome_at, dTup_at, dLst_at, dB_at, boolD_b, dNot_at, dAnd_at, dOr_at, dIfE_at, dAndV_at, dOrV_at, dNotV_at, dSeq_at, dsq_nx, dsq_rt, dsq_bk, dsq_ct, dsq_ex, sNx_at, sBk_at, sCt_at, sExpr_at, sRet_at, sRetO_at, sRetN_at, sRetV_at, retS_d, retS_o, sSet_at, sSetO_at, sIf_at, ownV_o, msNil_at, msD_at, msO_at, msR_at, gRo_some, sPar_at, setRs_nil, setRs_d, setRs_o, callP_at, callK_at, argO_some, callM_at, outR_ret, outR_ex, argD_nil, argD_v, argD_p, argD_m, argD_vn, argD_vs, Option.some.injEq, Nat.reduceEqDiff, mIx_m, mIx_v, mIx_p, mIx_nil, putM_none, putM_some, putO_o, call1_at, rD_at, rtD_d, rtD_o, rO_at, rtO_o, sExprR_at, sRetR_at, sSetR_at, setS_d, setS_o, runF_at, outF_nx, outF_rt, mOut_some, muOf_nil, muOf_m, muOf_v, muOf_p, chk_some, sSub_at, subS0, subS1, mutS_some, mutP_some, dMut_at, mixR_at, dChain_at, dRep_at, intD_i, rg1_at, rg2_at, dLstRg_go, rgL_ok, dTupRg_go, rgT_ok, dTupRg3_go, rgT3_ok, rgO1_ok, rgO2_ok, rgO3_ok, sm0, sm1, dIndexT_at, seqS_d, seqS_a, seqS_o, seqD_l, seqD_t, itR_d, itR_s, iV_at, iO_at, iR1_go, iR2_go, iR3_go, iEnV_at, iEnO_at, sFor_at, compL_at, fAdd_i, fSub_i, fLt_i, fLe_i, fGt_i, fGe_i, fDiv_33, fPow_64, fPow_33, fPow_18, fNeg_i, fLen_l, fLen_t, fInt_i, fTuple_l, fList_l, fMax_2, fMin_2, fIx_l0, fIx_l1, fIx_l2, fEq_i, start0, svs, svK, svA, List.length_cons, List.length_nil, List.replicate, List.append_nil, List.cons_append, List.nil_append, List.getElem?_cons_zero, List.getElem?_cons_succ, List.set_cons_zero, List.set_cons_succ, Bool.not_true, Bool.not_false, decide_true, decide_false, ne_eq, not_false_eq_true, Nat.reduceAdd, Nat.reduceSub, fMul_take, fMul_7919, fMul_31, Nat.reduceLT, Int.reduceLT, Int.reduceEq, fMod_i, fDiv_i, bdz_ok, setT_nm, fgt_nil, fgt_cons, wipG_nil, wipG_cons, sz1, sz2, sz3, sz4, sz5, Nat.zero_le, fIs_ii, fIs_ib, fIs_is, fIs_itl, fIs_tt, fIs_tl, fIs_ttl, fIs_lt, fIs_ll, fIs_ltl, fAll_b, fSum_i, fBack_t, fBackL_l, e1, e2, c1, c2, e3, hsm, hr]
    · refine ⟨tu (irange 1 many), l3, ?_, d3, isOrd_tu (isOrd_irange many), by rw [tu_len, irange_len]; omega⟩
      unfold φ__law_row m__law_row
      simp only [bnd_at, rt_at, thn_ok, thn_ex, oRo_some, oMap_some, brn_t, brn_f, dName_at, slR_d, slR_a, slR_o, vl_d, vl_s, slV_d, slV_a, slV_o, dv_at, dEsc_at, esc_d, esc_s, escS_d, escS_o, dFz_at, dC_at, dNil_at, dCons_at, vNil_at, vCons_at, op2_at, op2r_at, op1_at, op1o_at, opN_at, opNo_at, vls_nil, vls_cons, cutR_at, oNone_at, oSome_at, dTup_at, dLst_at, dB_at, boolD_b, dNot_at, dAnd_at, dOr_at, dIfE_at, dAndV_at, dOrV_at, dNotV_at, dSeq_at, dsq_nx, dsq_rt, dsq_bk, dsq_ct, dsq_ex, sNx_at, sBk_at, sCt_at, sExpr_at, sRet_at, sRetO_at, sRetN_at, sRetV_at, retS_d, retS_o, sSet_at, sSetO_at, sIf_at, ownV_o, msNil_at, msD_at, msO_at, msR_at, gRo_some, sPar_at, setRs_nil, setRs_d, setRs_o, callP_at, callK_at, argO_some, callM_at, outR_ret, outR_ex, argD_nil, argD_v, argD_p, argD_m, argD_vn, argD_vs, Option.some.injEq, Nat.reduceEqDiff, mIx_m, mIx_v, mIx_p, mIx_nil, putM_none, putM_some, putO_o, call1_at, rD_at, rtD_d, rtD_o, rO_at, rtO_o, sExprR_at, sRetR_at, sSetR_at, setS_d, setS_o, runF_at, outF_nx, outF_rt, mOut_some, muOf_nil, muOf_m, muOf_v, muOf_p, chk_some, sSub_at, subS0, subS1, mutS_some, mutP_some, dMut_at, mixR_at, dChain_at, dRep_at, intD_i, rg1_at, rg2_at, dLstRg_go, rgL_ok, dTupRg_go, rgT_ok, dTupRg3_go, rgT3_ok, rgO1_ok, rgO2_ok, rgO3_ok, sm0, sm1, dIndexT_at, seqS_d, seqS_a, seqS_o, seqD_l, seqD_t, itR_d, itR_s, iV_at, iO_at, iR1_go, iR2_go, iR3_go, iEnV_at, iEnO_at, sFor_at, compL_at, fAdd_i, fSub_i, fLt_i, fLe_i, fGt_i, fGe_i, fDiv_33, fPow_64, fPow_33, fPow_18, fNeg_i, fLen_l, fLen_t, fInt_i, fTuple_l, fList_l, fMax_2, fMin_2, fIx_l0, fIx_l1, fIx_l2, fEq_i, start0, svs, svK, svA, List.length_cons, List.length_nil, List.replicate, List.append_nil, List.cons_append, List.nil_append, List.getElem?_cons_zero, List.getElem?_cons_succ, List.set_cons_zero, List.set_cons_succ, Bool.not_true, Bool.not_false, decide_true, decide_false, ne_eq, not_false_eq_true, Nat.reduceAdd, Nat.reduceSub, fMul_take, fMul_7919, fMul_31, Nat.reduceLT, Int.reduceLT, Int.reduceEq, fMod_i, fDiv_i, bdz_ok, setT_nm, fgt_nil, fgt_cons, wipG_nil, wipG_cons, sz1, sz2, sz3, sz4, sz5, Nat.zero_le, fIs_ii, fIs_ib, fIs_is, fIs_itl, fIs_tt, fIs_tl, fIs_ttl, fIs_lt, fIs_ll, fIs_ltl, fAll_b, fSum_i, fBack_t, fBackL_l, e1, e2, c1, c2, e3, hsm, hr, ← List.map_reverse]
      rfl
  obtain ⟨t, l3, e3, d3, t0, t1⟩ := take_ok d2 ((many : Int) - 1) (by omega) (by omega)
  obtain ⟨base, l4, e4, d4, b1, b2⟩ := drawn_ok d3 (2 + t.toNat) (by omega)
  rw [show ((2 + t.toNat : Nat) : Int) = 2 + t by omega] at e4
  have main : ∀ (base : List Int) (l4 : List D), Deck l4 → IsOrd base → base.length = 2 + t.toNat → ∃ (p : List Int) (l' : List D) (g' : En), dsq (forG (.nm 8) [8, 9] rowBody ((irange 0 base.length).map .int) [.own true l4, .d (.int most), .d (.int way), .d (.int many), .u, .d (ti base), .d (.int ((many : Int) - base.length)), .own false [], .u, .u]) (sRetR (callP [.v, .v] φ__law_filled (vCons (dName 5) (vCons (dName 7) vNil)))) = .ok (.rt (.d (ti p))) (.own true l' :: g') ∧ Deck l' ∧ IsOrd p ∧ p.length ≤ most := by
    intro base l4 d4 b1 b2
    obtain ⟨l5, R, rest, g', f1, f2, f3, f4, f5, f6⟩ := row_loop most way many base d4 (by omega) (by omega)
    have hf := filled_ok base R f4 (by omega) (by omega)
    refine ⟨fillL base R base.length, l5, [.d (.int most), .d (.int way), .d (.int many), .u, .d (ti base), .d (.int rest), .own false (R.map ti), .u, .u], ?_, f3, isOrd_fill b1.nd f5, by rw [fillL_len]; omega⟩
    rw [f1, f2]
    simp only [bnd_at, rt_at, thn_ok, thn_ex, oRo_some, oMap_some, brn_t, brn_f, dName_at, slR_d, slR_a, slR_o, vl_d, vl_s, slV_d, slV_a, slV_o, dv_at, dEsc_at, esc_d, esc_s, escS_d, escS_o, dFz_at, dC_at, dNil_at, dCons_at, vNil_at, vCons_at, op2_at, op2r_at, op1_at, op1o_at, opN_at, opNo_at, vls_nil, vls_cons, cutR_at, oNone_at, oSome_at, dTup_at, dLst_at, dB_at, boolD_b, dNot_at, dAnd_at, dOr_at, dIfE_at, dAndV_at, dOrV_at, dNotV_at, dSeq_at, dsq_nx, dsq_rt, dsq_bk, dsq_ct, dsq_ex, sNx_at, sBk_at, sCt_at, sExpr_at, sRet_at, sRetO_at, sRetN_at, sRetV_at, retS_d, retS_o, sSet_at, sSetO_at, sIf_at, ownV_o, msNil_at, msD_at, msO_at, msR_at, gRo_some, sPar_at, setRs_nil, setRs_d, setRs_o, callP_at, callK_at, argO_some, callM_at, outR_ret, outR_ex, argD_nil, argD_v, argD_p, argD_m, argD_vn, argD_vs, Option.some.injEq, Nat.reduceEqDiff, mIx_m, mIx_v, mIx_p, mIx_nil, putM_none, putM_some, putO_o, call1_at, rD_at, rtD_d, rtD_o, rO_at, rtO_o, sExprR_at, sRetR_at, sSetR_at, setS_d, setS_o, runF_at, outF_nx, outF_rt, mOut_some, muOf_nil, muOf_m, muOf_v, muOf_p, chk_some, sSub_at, subS0, subS1, mutS_some, mutP_some, dMut_at, mixR_at, dChain_at, dRep_at, intD_i, rg1_at, rg2_at, dLstRg_go, rgL_ok, dTupRg_go, rgT_ok, dTupRg3_go, rgT3_ok, rgO1_ok, rgO2_ok, rgO3_ok, sm0, sm1, dIndexT_at, seqS_d, seqS_a, seqS_o, seqD_l, seqD_t, itR_d, itR_s, iV_at, iO_at, iR1_go, iR2_go, iR3_go, iEnV_at, iEnO_at, sFor_at, compL_at, fAdd_i, fSub_i, fLt_i, fLe_i, fGt_i, fGe_i, fDiv_33, fPow_64, fPow_33, fPow_18, fNeg_i, fLen_l, fLen_t, fInt_i, fTuple_l, fList_l, fMax_2, fMin_2, fIx_l0, fIx_l1, fIx_l2, fEq_i, start0, svs, svK, svA, List.length_cons, List.length_nil, List.replicate, List.append_nil, List.cons_append, List.nil_append, List.getElem?_cons_zero, List.getElem?_cons_succ, List.set_cons_zero, List.set_cons_succ, Bool.not_true, Bool.not_false, decide_true, decide_false, ne_eq, not_false_eq_true, Nat.reduceAdd, Nat.reduceSub, fMul_take, fMul_7919, fMul_31, Nat.reduceLT, Int.reduceLT, Int.reduceEq, fMod_i, fDiv_i, bdz_ok, setT_nm, fgt_nil, fgt_cons, wipG_nil, wipG_cons, sz1, sz2, sz3, sz4, sz5, Nat.zero_le, fIs_ii, fIs_ib, fIs_is, fIs_itl, fIs_tt, fIs_tl, fIs_ttl, fIs_lt, fIs_ll, fIs_ltl, fAll_b, fSum_i, fBack_t, fBackL_l, hf]
  by_cases c4 : way = 3
  · subst c4
    obtain ⟨u, l5, e5, d5, u0, u1⟩ := take_ok d4 2 (by omega) (by omega)
    have hsm : Sm ((base.length : Int) + 1) := sm_of (by omega) (by omega)
    have hsm2 : Sm (base.length : Int) := sm_of (by omega) (by omega)
    have hr : ((base.length : Int) + 1 - 1).toNat = base.length := by omega
    have hr2 : ((base.length : Int) - 0).toNat = base.length := by omega
    rcases two_of u0 u1 with rfl | rfl
    · obtain ⟨p, l', g', h1, h2, h3, h4⟩ := main (irange 1 base.length) l5 d5 (isOrd_irange _) (by rw [irange_len]; omega)
      refine ⟨p, l', ?_, h2, h3, h4⟩
      rw [irange_len] at h1
      unfold φ__law_row m__law_row
      simp only [bnd_at, rt_at, thn_ok, thn_ex, oRo_some, oMap_some, brn_t, brn_f, dName_at, slR_d, slR_a, slR_o, vl_d, vl_s, slV_d, slV_a, slV_o, dv_at, dEsc_at, esc_d, esc_s, escS_d, escS_o, dFz_at, dC_at, dNil_at, dCons_at, vNil_at, vCons_at, op2_at, op2r_at, op1_at, op1o_at, opN_at, opNo_at, vls_nil, vls_cons, cutR_at, oNone_at, oSome_at, dTup_at, dLst_at, dB_at, boolD_b, dNot_at, dAnd_at, dOr_at, dIfE_at, dAndV_at, dOrV_at, dNotV_at, dSeq_at, dsq_nx, dsq_rt, dsq_bk, dsq_ct, dsq_ex, sNx_at, sBk_at, sCt_at, sExpr_at, sRet_at, sRetO_at, sRetN_at, sRetV_at, retS_d, retS_o, sSet_at, sSetO_at, sIf_at, ownV_o, msNil_at, msD_at, msO_at, msR_at, gRo_some, sPar_at, setRs_nil, setRs_d, setRs_o, callP_at, callK_at, argO_some, callM_at, outR_ret, outR_ex, argD_nil, argD_v, argD_p, argD_m, argD_vn, argD_vs, Option.some.injEq, Nat.reduceEqDiff, mIx_m, mIx_v, mIx_p, mIx_nil, putM_none, putM_some, putO_o, call1_at, rD_at, rtD_d, rtD_o, rO_at, rtO_o, sExprR_at, sRetR_at, sSetR_at, setS_d, setS_o, runF_at, outF_nx, outF_rt, mOut_some, muOf_nil, muOf_m, muOf_v, muOf_p, chk_some, sSub_at, subS0, subS1, mutS_some, mutP_some, dMut_at, mixR_at, dChain_at, dRep_at, intD_i, rg1_at, rg2_at, dLstRg_go, rgL_ok, dTupRg_go, rgT_ok, dTupRg3_go, rgT3_ok, rgO1_ok, rgO2_ok, rgO3_ok, sm0, sm1, dIndexT_at, seqS_d, seqS_a, seqS_o, seqD_l, seqD_t, itR_d, itR_s, iV_at, iO_at, iR1_go, iR2_go, iR3_go, iEnV_at, iEnO_at, sFor_at, compL_at, fAdd_i, fSub_i, fLt_i, fLe_i, fGt_i, fGe_i, fDiv_33, fPow_64, fPow_33, fPow_18, fNeg_i, fLen_l, fLen_t, fInt_i, fTuple_l, fList_l, fMax_2, fMin_2, fIx_l0, fIx_l1, fIx_l2, fEq_i, start0, svs, svK, svA, List.length_cons, List.length_nil, List.replicate, List.append_nil, List.cons_append, List.nil_append, List.getElem?_cons_zero, List.getElem?_cons_succ, List.set_cons_zero, List.set_cons_succ, Bool.not_true, Bool.not_false, decide_true, decide_false, ne_eq, not_false_eq_true, Nat.reduceAdd, Nat.reduceSub, fMul_take, fMul_7919, fMul_31, Nat.reduceLT, Int.reduceLT, Int.reduceEq, fMod_i, fDiv_i, bdz_ok, setT_nm, fgt_nil, fgt_cons, wipG_nil, wipG_cons, sz1, sz2, sz3, sz4, sz5, Nat.zero_le, fIs_ii, fIs_ib, fIs_is, fIs_itl, fIs_tt, fIs_tl, fIs_ttl, fIs_lt, fIs_ll, fIs_ltl, fAll_b, fSum_i, fBack_t, fBackL_l, e1, e2, c1, c2, e3, e4, e5, hsm, hsm2, hr, hr2, List.length_map, irange_len, Int.toNat_natCast, h1]
    · obtain ⟨p, l', g', h1, h2, h3, h4⟩ := main (drange base.length base.length) l5 d5 (by rw [drange_rev]; exact isOrd_tu (isOrd_irange _)) (by rw [drange_len]; omega)
      refine ⟨p, l', ?_, h2, h3, h4⟩
      rw [drange_len] at h1
      unfold φ__law_row m__law_row
      simp only [bnd_at, rt_at, thn_ok, thn_ex, oRo_some, oMap_some, brn_t, brn_f, dName_at, slR_d, slR_a, slR_o, vl_d, vl_s, slV_d, slV_a, slV_o, dv_at, dEsc_at, esc_d, esc_s, escS_d, escS_o, dFz_at, dC_at, dNil_at, dCons_at, vNil_at, vCons_at, op2_at, op2r_at, op1_at, op1o_at, opN_at, opNo_at, vls_nil, vls_cons, cutR_at, oNone_at, oSome_at, dTup_at, dLst_at, dB_at, boolD_b, dNot_at, dAnd_at, dOr_at, dIfE_at, dAndV_at, dOrV_at, dNotV_at, dSeq_at, dsq_nx, dsq_rt, dsq_bk, dsq_ct, dsq_ex, sNx_at, sBk_at, sCt_at, sExpr_at, sRet_at, sRetO_at, sRetN_at, sRetV_at, retS_d, retS_o, sSet_at, sSetO_at, sIf_at, ownV_o, msNil_at, msD_at, msO_at, msR_at, gRo_some, sPar_at, setRs_nil, setRs_d, setRs_o, callP_at, callK_at, argO_some, callM_at, outR_ret, outR_ex, argD_nil, argD_v, argD_p, argD_m, argD_vn, argD_vs, Option.some.injEq, Nat.reduceEqDiff, mIx_m, mIx_v, mIx_p, mIx_nil, putM_none, putM_some, putO_o, call1_at, rD_at, rtD_d, rtD_o, rO_at, rtO_o, sExprR_at, sRetR_at, sSetR_at, setS_d, setS_o, runF_at, outF_nx, outF_rt, mOut_some, muOf_nil, muOf_m, muOf_v, muOf_p, chk_some, sSub_at, subS0, subS1, mutS_some, mutP_some, dMut_at, mixR_at, dChain_at, dRep_at, intD_i, rg1_at, rg2_at, dLstRg_go, rgL_ok, dTupRg_go, rgT_ok, dTupRg3_go, rgT3_ok, rgO1_ok, rgO2_ok, rgO3_ok, sm0, sm1, dIndexT_at, seqS_d, seqS_a, seqS_o, seqD_l, seqD_t, itR_d, itR_s, iV_at, iO_at, iR1_go, iR2_go, iR3_go, iEnV_at, iEnO_at, sFor_at, compL_at, fAdd_i, fSub_i, fLt_i, fLe_i, fGt_i, fGe_i, fDiv_33, fPow_64, fPow_33, fPow_18, fNeg_i, fLen_l, fLen_t, fInt_i, fTuple_l, fList_l, fMax_2, fMin_2, fIx_l0, fIx_l1, fIx_l2, fEq_i, start0, svs, svK, svA, List.length_cons, List.length_nil, List.replicate, List.append_nil, List.cons_append, List.nil_append, List.getElem?_cons_zero, List.getElem?_cons_succ, List.set_cons_zero, List.set_cons_succ, Bool.not_true, Bool.not_false, decide_true, decide_false, ne_eq, not_false_eq_true, Nat.reduceAdd, Nat.reduceSub, fMul_take, fMul_7919, fMul_31, Nat.reduceLT, Int.reduceLT, Int.reduceEq, fMod_i, fDiv_i, bdz_ok, setT_nm, fgt_nil, fgt_cons, wipG_nil, wipG_cons, sz1, sz2, sz3, sz4, sz5, Nat.zero_le, fIs_ii, fIs_ib, fIs_is, fIs_itl, fIs_tt, fIs_tl, fIs_ttl, fIs_lt, fIs_ll, fIs_ltl, fAll_b, fSum_i, fBack_t, fBackL_l, e1, e2, c1, c2, e3, e4, e5, hsm, hsm2, hr, hr2, List.length_map, drange_len, Int.toNat_natCast, h1]
  · obtain ⟨p, l', g', h1, h2, h3, h4⟩ := main base l4 d4 b1 b2
    have hsm2 : Sm (base.length : Int) := sm_of (by omega) (by omega)
    refine ⟨p, l', ?_, h2, h3, h4⟩
    unfold φ__law_row m__law_row
    simp only [bnd_at, rt_at, thn_ok, thn_ex, oRo_some, oMap_some, brn_t, brn_f, dName_at, slR_d, slR_a, slR_o, vl_d, vl_s, slV_d, slV_a, slV_o, dv_at, dEsc_at, esc_d, esc_s, escS_d, escS_o, dFz_at, dC_at, dNil_at, dCons_at, vNil_at, vCons_at, op2_at, op2r_at, op1_at, op1o_at, opN_at, opNo_at, vls_nil, vls_cons, cutR_at, oNone_at, oSome_at, dTup_at, dLst_at, dB_at, boolD_b, dNot_at, dAnd_at, dOr_at, dIfE_at, dAndV_at, dOrV_at, dNotV_at, dSeq_at, dsq_nx, dsq_rt, dsq_bk, dsq_ct, dsq_ex, sNx_at, sBk_at, sCt_at, sExpr_at, sRet_at, sRetO_at, sRetN_at, sRetV_at, retS_d, retS_o, sSet_at, sSetO_at, sIf_at, ownV_o, msNil_at, msD_at, msO_at, msR_at, gRo_some, sPar_at, setRs_nil, setRs_d, setRs_o, callP_at, callK_at, argO_some, callM_at, outR_ret, outR_ex, argD_nil, argD_v, argD_p, argD_m, argD_vn, argD_vs, Option.some.injEq, Nat.reduceEqDiff, mIx_m, mIx_v, mIx_p, mIx_nil, putM_none, putM_some, putO_o, call1_at, rD_at, rtD_d, rtD_o, rO_at, rtO_o, sExprR_at, sRetR_at, sSetR_at, setS_d, setS_o, runF_at, outF_nx, outF_rt, mOut_some, muOf_nil, muOf_m, muOf_v, muOf_p, chk_some, sSub_at, subS0, subS1, mutS_some, mutP_some, dMut_at, mixR_at, dChain_at, dRep_at, intD_i, rg1_at, rg2_at, dLstRg_go, rgL_ok, dTupRg_go, rgT_ok, dTupRg3_go, rgT3_ok, rgO1_ok, rgO2_ok, rgO3_ok, sm0, sm1, dIndexT_at, seqS_d, seqS_a, seqS_o, seqD_l, seqD_t, itR_d, itR_s, iV_at, iO_at, iR1_go, iR2_go, iR3_go, iEnV_at, iEnO_at, sFor_at, compL_at, fAdd_i, fSub_i, fLt_i, fLe_i, fGt_i, fGe_i, fDiv_33, fPow_64, fPow_33, fPow_18, fNeg_i, fLen_l, fLen_t, fInt_i, fTuple_l, fList_l, fMax_2, fMin_2, fIx_l0, fIx_l1, fIx_l2, fEq_i, start0, svs, svK, svA, List.length_cons, List.length_nil, List.replicate, List.append_nil, List.cons_append, List.nil_append, List.getElem?_cons_zero, List.getElem?_cons_succ, List.set_cons_zero, List.set_cons_succ, Bool.not_true, Bool.not_false, decide_true, decide_false, ne_eq, not_false_eq_true, Nat.reduceAdd, Nat.reduceSub, fMul_take, fMul_7919, fMul_31, Nat.reduceLT, Int.reduceLT, Int.reduceEq, fMod_i, fDiv_i, bdz_ok, setT_nm, fgt_nil, fgt_cons, wipG_nil, wipG_cons, sz1, sz2, sz3, sz4, sz5, Nat.zero_le, fIs_ii, fIs_ib, fIs_is, fIs_itl, fIs_tt, fIs_tl, fIs_ttl, fIs_lt, fIs_ll, fIs_ltl, fAll_b, fSum_i, fBack_t, fBackL_l, e1, e2, c1, c2, c3, c4, e3, e4, hsm2, List.length_map, Int.toNat_natCast, h1]
end Ck04
set_option Elab.async false
set_option linter.all false
set_option maxRecDepth 100000
set_option autoImplicit false
set_option maxHeartbeats 2000000
namespace Ck04
open PySem PySem.Spec PyProof.Rows L2 Z
theorem fAdd_tt' (xs ys : List D) (h : xs.length + ys.length ≤ 100000) : fAdd (.tuple xs) (.tuple ys) = some (.tuple (xs ++ ys)) := if_pos (sz_le h)
theorem lifted_ok (c : List Int) (k : Int) (h : c.length ≤ 1000) : φ_lifted [ti c, .int k] = .ret (.d (ti (sft k c))) [] := by
  have hc := compB_one (i := 2) (enc := PyData.int) (f := fun x => .int (x + k)) (me := rD (op2r fAdd fCat (dName 2) (dName 1))) (g := [.d (ti c), .d (.int k), .u]) c (by omega) rfl fun x hx => by simp only [bnd_at, rt_at, thn_ok, thn_ex, oRo_some, oMap_some, brn_t, brn_f, dName_at, slR_d, slR_a, slR_o, vl_d, vl_s, slV_d, slV_a, slV_o, dv_at, dEsc_at, esc_d, esc_s, escS_d, escS_o, dFz_at, dC_at, dNil_at, dCons_at, vNil_at, vCons_at, op2_at, op2r_at, op1_at, op1o_at, opN_at, opNo_at, vls_nil, vls_cons, cutR_at, oNone_at, oSome_at, dTup_at, dLst_at, dB_at, boolD_b, dNot_at, dAnd_at, dOr_at, dIfE_at, dAndV_at, dOrV_at, dNotV_at, dSeq_at, dsq_nx, dsq_rt, dsq_bk, dsq_ct, dsq_ex, sNx_at, sBk_at, sCt_at, sExpr_at, sRet_at, sRetO_at, sRetN_at, sRetV_at, retS_d, retS_o, sSet_at, sSetO_at, sIf_at, ownV_o, msNil_at, msD_at, msO_at, msR_at, gRo_some, sPar_at, setRs_nil, setRs_d, setRs_o, callP_at, callK_at, argO_some, callM_at, outR_ret, outR_ex, argD_nil, argD_v, argD_p, argD_m, argD_vn, argD_vs, Option.some.injEq, Nat.reduceEqDiff, mIx_m, mIx_v, mIx_p, mIx_nil, putM_none, putM_some, putO_o, call1_at, rD_at, rtD_d, rtD_o, rO_at, rtO_o, sExprR_at, sRetR_at, sSetR_at, setS_d, setS_o, runF_at, outF_nx, outF_rt, mOut_some, muOf_nil, muOf_m, muOf_v, muOf_p, chk_some, sSub_at, subS0, subS1, mutS_some, mutP_some, dMut_at, mixR_at, dChain_at, dRep_at, intD_i, rg1_at, rg2_at, dLstRg_go, rgL_ok, dTupRg_go, rgT_ok, dTupRg3_go, rgT3_ok, rgO1_ok, rgO2_ok, rgO3_ok, sm0, sm1, dIndexT_at, seqS_d, seqS_a, seqS_o, seqD_l, seqD_t, itR_d, itR_s, iV_at, iO_at, iR1_go, iR2_go, iR3_go, iEnV_at, iEnO_at, sFor_at, compL_at, fAdd_i, fSub_i, fLt_i, fLe_i, fGt_i, fGe_i, fDiv_33, fPow_64, fPow_33, fPow_18, fNeg_i, fLen_l, fLen_t, fInt_i, fTuple_l, fList_l, fMax_2, fMin_2, fIx_l0, fIx_l1, fIx_l2, fEq_i, start0, svs, svK, svA, List.length_cons, List.length_nil, List.replicate, List.append_nil, List.cons_append, List.nil_append, List.getElem?_cons_zero, List.getElem?_cons_succ, List.set_cons_zero, List.set_cons_succ, Bool.not_true, Bool.not_false, decide_true, decide_false, ne_eq, not_false_eq_true, Nat.reduceAdd, Nat.reduceSub, fMul_take, fMul_7919, fMul_31, Nat.reduceLT, Int.reduceLT, Int.reduceEq, fMod_i, fDiv_i, bdz_ok, setT_nm, fgt_nil, fgt_cons, wipG_nil, wipG_cons, sz1, sz2, sz3, sz4, sz5, Nat.zero_le, fIs_ii, fIs_ib, fIs_is, fIs_itl, fIs_tt, fIs_tl, fIs_ttl, fIs_lt, fIs_ll, fIs_ltl, fAll_b, fSum_i, fBack_t, fBackL_l]
  have e : c.map (fun x => PyData.int (x + k)) = (sft k c).map .int := by rw [sft, List.map_map]; rfl
  rw [e] at hc
  unfold φ_lifted m_lifted
  simp only [bnd_at, rt_at, thn_ok, thn_ex, oRo_some, oMap_some, brn_t, brn_f, dName_at, slR_d, slR_a, slR_o, vl_d, vl_s, slV_d, slV_a, slV_o, dv_at, dEsc_at, esc_d, esc_s, escS_d, escS_o, dFz_at, dC_at, dNil_at, dCons_at, vNil_at, vCons_at, op2_at, op2r_at, op1_at, op1o_at, opN_at, opNo_at, vls_nil, vls_cons, cutR_at, oNone_at, oSome_at, dTup_at, dLst_at, dB_at, boolD_b, dNot_at, dAnd_at, dOr_at, dIfE_at, dAndV_at, dOrV_at, dNotV_at, dSeq_at, dsq_nx, dsq_rt, dsq_bk, dsq_ct, dsq_ex, sNx_at, sBk_at, sCt_at, sExpr_at, sRet_at, sRetO_at, sRetN_at, sRetV_at, retS_d, retS_o, sSet_at, sSetO_at, sIf_at, ownV_o, msNil_at, msD_at, msO_at, msR_at, gRo_some, sPar_at, setRs_nil, setRs_d, setRs_o, callP_at, callK_at, argO_some, callM_at, outR_ret, outR_ex, argD_nil, argD_v, argD_p, argD_m, argD_vn, argD_vs, Option.some.injEq, Nat.reduceEqDiff, mIx_m, mIx_v, mIx_p, mIx_nil, putM_none, putM_some, putO_o, call1_at, rD_at, rtD_d, rtD_o, rO_at, rtO_o, sExprR_at, sRetR_at, sSetR_at, setS_d, setS_o, runF_at, outF_nx, outF_rt, mOut_some, muOf_nil, muOf_m, muOf_v, muOf_p, chk_some, sSub_at, subS0, subS1, mutS_some, mutP_some, dMut_at, mixR_at, dChain_at, dRep_at, intD_i, rg1_at, rg2_at, dLstRg_go, rgL_ok, dTupRg_go, rgT_ok, dTupRg3_go, rgT3_ok, rgO1_ok, rgO2_ok, rgO3_ok, sm0, sm1, dIndexT_at, seqS_d, seqS_a, seqS_o, seqD_l, seqD_t, itR_d, itR_s, iV_at, iO_at, iR1_go, iR2_go, iR3_go, iEnV_at, iEnO_at, sFor_at, compL_at, fAdd_i, fSub_i, fLt_i, fLe_i, fGt_i, fGe_i, fDiv_33, fPow_64, fPow_33, fPow_18, fNeg_i, fLen_l, fLen_t, fInt_i, fTuple_l, fList_l, fMax_2, fMin_2, fIx_l0, fIx_l1, fIx_l2, fEq_i, start0, svs, svK, svA, List.length_cons, List.length_nil, List.replicate, List.append_nil, List.cons_append, List.nil_append, List.getElem?_cons_zero, List.getElem?_cons_succ, List.set_cons_zero, List.set_cons_succ, Bool.not_true, Bool.not_false, decide_true, decide_false, ne_eq, not_false_eq_true, Nat.reduceAdd, Nat.reduceSub, fMul_take, fMul_7919, fMul_31, Nat.reduceLT, Int.reduceLT, Int.reduceEq, fMod_i, fDiv_i, bdz_ok, setT_nm, fgt_nil, fgt_cons, wipG_nil, wipG_cons, sz1, sz2, sz3, sz4, sz5, Nat.zero_le, fIs_ii, fIs_ib, fIs_is, fIs_itl, fIs_tt, fIs_tl, fIs_ttl, fIs_lt, fIs_ll, fIs_ltl, fAll_b, fSum_i, fBack_t, fBackL_l, hc]
theorem summed_ok (p q : List Int) (ip : IsOrd p) (iq : IsOrd q) (hp : p.length ≤ 100) (hq : q.length ≤ 100) : φ_summed [ti p, ti q] = .ret (.d (ti (sm p q))) [] := by
  have ha := fAdd_tt' (p.map .int) ((sft p.length q).map .int) (by rw [List.length_map, List.length_map, sft_len]; omega)
  have e : ti (sm p q) = .tuple (p.map .int ++ (sft p.length q).map .int) := by rw [sm, ti, List.map_append]
  rw [e]
  unfold φ_summed m_summed φ_summed_of m_summed_of
  simp only [bnd_at, rt_at, thn_ok, thn_ex, oRo_some, oMap_some, brn_t, brn_f, dName_at, slR_d, slR_a, slR_o, vl_d, vl_s, slV_d, slV_a, slV_o, dv_at, dEsc_at, esc_d, esc_s, escS_d, escS_o, dFz_at, dC_at, dNil_at, dCons_at, vNil_at, vCons_at, op2_at, op2r_at, op1_at, op1o_at, opN_at, opNo_at, vls_nil, vls_cons, cutR_at, oNone_at, oSome_at, dTup_at, dLst_at, dB_at, boolD_b, dNot_at, dAnd_at, dOr_at, dIfE_at, dAndV_at, dOrV_at, dNotV_at, dSeq_at, dsq_nx, dsq_rt, dsq_bk, dsq_ct, dsq_ex, sNx_at, sBk_at, sCt_at, sExpr_at, sRet_at, sRetO_at, sRetN_at, sRetV_at, retS_d, retS_o, sSet_at, sSetO_at, sIf_at, ownV_o, msNil_at, msD_at, msO_at, msR_at, gRo_some, sPar_at, setRs_nil, setRs_d, setRs_o, callP_at, callK_at, argO_some, callM_at, outR_ret, outR_ex, argD_nil, argD_v, argD_p, argD_m, argD_vn, argD_vs, Option.some.injEq, Nat.reduceEqDiff, mIx_m, mIx_v, mIx_p, mIx_nil, putM_none, putM_some, putO_o, call1_at, rD_at, rtD_d, rtD_o, rO_at, rtO_o, sExprR_at, sRetR_at, sSetR_at, setS_d, setS_o, runF_at, outF_nx, outF_rt, mOut_some, muOf_nil, muOf_m, muOf_v, muOf_p, chk_some, sSub_at, subS0, subS1, mutS_some, mutP_some, dMut_at, mixR_at, dChain_at, dRep_at, intD_i, rg1_at, rg2_at, dLstRg_go, rgL_ok, dTupRg_go, rgT_ok, dTupRg3_go, rgT3_ok, rgO1_ok, rgO2_ok, rgO3_ok, sm0, sm1, dIndexT_at, seqS_d, seqS_a, seqS_o, seqD_l, seqD_t, itR_d, itR_s, iV_at, iO_at, iR1_go, iR2_go, iR3_go, iEnV_at, iEnO_at, sFor_at, compL_at, fAdd_i, fSub_i, fLt_i, fLe_i, fGt_i, fGe_i, fDiv_33, fPow_64, fPow_33, fPow_18, fNeg_i, fLen_l, fLen_t, fInt_i, fTuple_l, fList_l, fMax_2, fMin_2, fIx_l0, fIx_l1, fIx_l2, fEq_i, start0, svs, svK, svA, List.length_cons, List.length_nil, List.replicate, List.append_nil, List.cons_append, List.nil_append, List.getElem?_cons_zero, List.getElem?_cons_succ, List.set_cons_zero, List.set_cons_succ, Bool.not_true, Bool.not_false, decide_true, decide_false, ne_eq, not_false_eq_true, Nat.reduceAdd, Nat.reduceSub, fMul_take, fMul_7919, fMul_31, Nat.reduceLT, Int.reduceLT, Int.reduceEq, fMod_i, fDiv_i, bdz_ok, setT_nm, fgt_nil, fgt_cons, wipG_nil, wipG_cons, sz1, sz2, sz3, sz4, sz5, Nat.zero_le, fIs_ii, fIs_ib, fIs_is, fIs_itl, fIs_tt, fIs_tl, fIs_ttl, fIs_lt, fIs_ll, fIs_ltl, fAll_b, fSum_i, fBack_t, fBackL_l, check_order_ok p ip (by omega), check_order_ok q iq (by omega), List.length_map, lifted_ok q p.length (by omega), ha]
theorem skew_summed_ok (p q : List Int) (ip : IsOrd p) (iq : IsOrd q) (hp : p.length ≤ 100) (hq : q.length ≤ 100) : φ_skew_summed [ti p, ti q] = .ret (.d (ti (sk p q))) [] := by
  have ha := fAdd_tt' ((sft q.length p).map .int) (q.map .int) (by rw [List.length_map, List.length_map, sft_len]; omega)
  have e : ti (sk p q) = .tuple ((sft q.length p).map .int ++ q.map .int) := by rw [sk, ti, List.map_append]
  rw [e]
  unfold φ_skew_summed m_skew_summed φ_skew_summed_of m_skew_summed_of
  simp only [bnd_at, rt_at, thn_ok, thn_ex, oRo_some, oMap_some, brn_t, brn_f, dName_at, slR_d, slR_a, slR_o, vl_d, vl_s, slV_d, slV_a, slV_o, dv_at, dEsc_at, esc_d, esc_s, escS_d, escS_o, dFz_at, dC_at, dNil_at, dCons_at, vNil_at, vCons_at, op2_at, op2r_at, op1_at, op1o_at, opN_at, opNo_at, vls_nil, vls_cons, cutR_at, oNone_at, oSome_at, dTup_at, dLst_at, dB_at, boolD_b, dNot_at, dAnd_at, dOr_at, dIfE_at, dAndV_at, dOrV_at, dNotV_at, dSeq_at, dsq_nx, dsq_rt, dsq_bk, dsq_ct, dsq_ex, sNx_at, sBk_at, sCt_at, sExpr_at, sRet_at, sRetO_at, sRetN_at, sRetV_at, retS_d, retS_o, sSet_at, sSetO_at, sIf_at, ownV_o, msNil_at, msD_at, msO_at, msR_at, gRo_some, sPar_at, setRs_nil, setRs_d, setRs_o, callP_at, callK_at, argO_some, callM_at, outR_ret, outR_ex, argD_nil, argD_v, argD_p, argD_m, argD_vn, argD_vs, Option.some.injEq, Nat.reduceEqDiff, mIx_m, mIx_v, mIx_p, mIx_nil, putM_none, putM_some, putO_o, call1_at, rD_at, rtD_d, rtD_o, rO_at, rtO_o, sExprR_at, sRetR_at, sSetR_at, setS_d, setS_o, runF_at, outF_nx, outF_rt, mOut_some, muOf_nil, muOf_m, muOf_v, muOf_p, chk_some, sSub_at, subS0, subS1, mutS_some, mutP_some, dMut_at, mixR_at, dChain_at, dRep_at, intD_i, rg1_at, rg2_at, dLstRg_go, rgL_ok, dTupRg_go, rgT_ok, dTupRg3_go, rgT3_ok, rgO1_ok, rgO2_ok, rgO3_ok, sm0, sm1, dIndexT_at, seqS_d, seqS_a, seqS_o, seqD_l, seqD_t, itR_d, itR_s, iV_at, iO_at, iR1_go, iR2_go, iR3_go, iEnV_at, iEnO_at, sFor_at, compL_at, fAdd_i, fSub_i, fLt_i, fLe_i, fGt_i, fGe_i, fDiv_33, fPow_64, fPow_33, fPow_18, fNeg_i, fLen_l, fLen_t, fInt_i, fTuple_l, fList_l, fMax_2, fMin_2, fIx_l0, fIx_l1, fIx_l2, fEq_i, start0, svs, svK, svA, List.length_cons, List.length_nil, List.replicate, List.append_nil, List.cons_append, List.nil_append, List.getElem?_cons_zero, List.getElem?_cons_succ, List.set_cons_zero, List.set_cons_succ, Bool.not_true, Bool.not_false, decide_true, decide_false, ne_eq, not_false_eq_true, Nat.reduceAdd, Nat.reduceSub, fMul_take, fMul_7919, fMul_31, Nat.reduceLT, Int.reduceLT, Int.reduceEq, fMod_i, fDiv_i, bdz_ok, setT_nm, fgt_nil, fgt_cons, wipG_nil, wipG_cons, sz1, sz2, sz3, sz4, sz5, Nat.zero_le, fIs_ii, fIs_ib, fIs_is, fIs_itl, fIs_tt, fIs_tl, fIs_ttl, fIs_lt, fIs_ll, fIs_ltl, fAll_b, fSum_i, fBack_t, fBackL_l, check_order_ok p ip (by omega), check_order_ok q iq (by omega), List.length_map, lifted_ok p q.length (by omega), ha]
theorem lsum_ok (p q : List Int) (hp : p.length ≤ 100) (hq : q.length ≤ 100) : φ__law_sum [ti p, ti q] = .ret (.d (ti (sm p q))) [] := by
  have hc := compB_one (i := 2) (enc := PyData.int) (f := fun x => .int ((p.length : Int) + x)) (me := rD (op2r fAdd fCat (dv (opN fLen (vCons (dName 0) vNil))) (dName 2))) (g := [.d (ti p), .d (ti q), .u]) q (by omega) rfl fun x hx => by simp only [bnd_at, rt_at, thn_ok, thn_ex, oRo_some, oMap_some, brn_t, brn_f, dName_at, slR_d, slR_a, slR_o, vl_d, vl_s, slV_d, slV_a, slV_o, dv_at, dEsc_at, esc_d, esc_s, escS_d, escS_o, dFz_at, dC_at, dNil_at, dCons_at, vNil_at, vCons_at, op2_at, op2r_at, op1_at, op1o_at, opN_at, opNo_at, vls_nil, vls_cons, cutR_at, oNone_at, oSome_at, dTup_at, dLst_at, dB_at, boolD_b, dNot_at, dAnd_at, dOr_at, dIfE_at, dAndV_at, dOrV_at, dNotV_at, dSeq_at, dsq_nx, dsq_rt, dsq_bk, dsq_ct, dsq_ex, sNx_at, sBk_at, sCt_at, sExpr_at, sRet_at, sRetO_at, sRetN_at, sRetV_at, retS_d, retS_o, sSet_at, sSetO_at, sIf_at, ownV_o, msNil_at, msD_at, msO_at, msR_at, gRo_some, sPar_at, setRs_nil, setRs_d, setRs_o, callP_at, callK_at, argO_some, callM_at, outR_ret, outR_ex, argD_nil, argD_v, argD_p, argD_m, argD_vn, argD_vs, Option.some.injEq, Nat.reduceEqDiff, mIx_m, mIx_v, mIx_p, mIx_nil, putM_none, putM_some, putO_o, call1_at, rD_at, rtD_d, rtD_o, rO_at, rtO_o, sExprR_at, sRetR_at, sSetR_at, setS_d, setS_o, runF_at, outF_nx, outF_rt, mOut_some, muOf_nil, muOf_m, muOf_v, muOf_p, chk_some, sSub_at, subS0, subS1, mutS_some, mutP_some, dMut_at, mixR_at, dChain_at, dRep_at, intD_i, rg1_at, rg2_at, dLstRg_go, rgL_ok, dTupRg_go, rgT_ok, dTupRg3_go, rgT3_ok, rgO1_ok, rgO2_ok, rgO3_ok, sm0, sm1, dIndexT_at, seqS_d, seqS_a, seqS_o, seqD_l, seqD_t, itR_d, itR_s, iV_at, iO_at, iR1_go, iR2_go, iR3_go, iEnV_at, iEnO_at, sFor_at, compL_at, fAdd_i, fSub_i, fLt_i, fLe_i, fGt_i, fGe_i, fDiv_33, fPow_64, fPow_33, fPow_18, fNeg_i, fLen_l, fLen_t, fInt_i, fTuple_l, fList_l, fMax_2, fMin_2, fIx_l0, fIx_l1, fIx_l2, fEq_i, start0, svs, svK, svA, List.length_cons, List.length_nil, List.replicate, List.append_nil, List.cons_append, List.nil_append, List.getElem?_cons_zero, List.getElem?_cons_succ, List.set_cons_zero, List.set_cons_succ, Bool.not_true, Bool.not_false, decide_true, decide_false, ne_eq, not_false_eq_true, Nat.reduceAdd, Nat.reduceSub, fMul_take, fMul_7919, fMul_31, Nat.reduceLT, Int.reduceLT, Int.reduceEq, fMod_i, fDiv_i, bdz_ok, setT_nm, fgt_nil, fgt_cons, wipG_nil, wipG_cons, sz1, sz2, sz3, sz4, sz5, Nat.zero_le, fIs_ii, fIs_ib, fIs_is, fIs_itl, fIs_tt, fIs_tl, fIs_ttl, fIs_lt, fIs_ll, fIs_ltl, fAll_b, fSum_i, fBack_t, fBackL_l, List.length_map]
  have e : q.map (fun x => PyData.int ((p.length : Int) + x)) = (sft p.length q).map .int := by
    rw [sft, List.map_map]
    exact List.map_congr_left fun x _ => by simp only [Function.comp]; rw [Int.add_comm]
  rw [e] at hc
  have ha := fAdd_tt' (p.map .int) ((sft p.length q).map .int) (by rw [List.length_map, List.length_map, sft_len]; omega)
  have e2 : ti (sm p q) = .tuple (p.map .int ++ (sft p.length q).map .int) := by rw [sm, ti, List.map_append]
  rw [e2]
  unfold φ__law_sum m__law_sum
  simp only [bnd_at, rt_at, thn_ok, thn_ex, oRo_some, oMap_some, brn_t, brn_f, dName_at, slR_d, slR_a, slR_o, vl_d, vl_s, slV_d, slV_a, slV_o, dv_at, dEsc_at, esc_d, esc_s, escS_d, escS_o, dFz_at, dC_at, dNil_at, dCons_at, vNil_at, vCons_at, op2_at, op2r_at, op1_at, op1o_at, opN_at, opNo_at, vls_nil, vls_cons, cutR_at, oNone_at, oSome_at, dTup_at, dLst_at, dB_at, boolD_b, dNot_at, dAnd_at, dOr_at, dIfE_at, dAndV_at, dOrV_at, dNotV_at, dSeq_at, dsq_nx, dsq_rt, dsq_bk, dsq_ct, dsq_ex, sNx_at, sBk_at, sCt_at, sExpr_at, sRet_at, sRetO_at, sRetN_at, sRetV_at, retS_d, retS_o, sSet_at, sSetO_at, sIf_at, ownV_o, msNil_at, msD_at, msO_at, msR_at, gRo_some, sPar_at, setRs_nil, setRs_d, setRs_o, callP_at, callK_at, argO_some, callM_at, outR_ret, outR_ex, argD_nil, argD_v, argD_p, argD_m, argD_vn, argD_vs, Option.some.injEq, Nat.reduceEqDiff, mIx_m, mIx_v, mIx_p, mIx_nil, putM_none, putM_some, putO_o, call1_at, rD_at, rtD_d, rtD_o, rO_at, rtO_o, sExprR_at, sRetR_at, sSetR_at, setS_d, setS_o, runF_at, outF_nx, outF_rt, mOut_some, muOf_nil, muOf_m, muOf_v, muOf_p, chk_some, sSub_at, subS0, subS1, mutS_some, mutP_some, dMut_at, mixR_at, dChain_at, dRep_at, intD_i, rg1_at, rg2_at, dLstRg_go, rgL_ok, dTupRg_go, rgT_ok, dTupRg3_go, rgT3_ok, rgO1_ok, rgO2_ok, rgO3_ok, sm0, sm1, dIndexT_at, seqS_d, seqS_a, seqS_o, seqD_l, seqD_t, itR_d, itR_s, iV_at, iO_at, iR1_go, iR2_go, iR3_go, iEnV_at, iEnO_at, sFor_at, compL_at, fAdd_i, fSub_i, fLt_i, fLe_i, fGt_i, fGe_i, fDiv_33, fPow_64, fPow_33, fPow_18, fNeg_i, fLen_l, fLen_t, fInt_i, fTuple_l, fList_l, fMax_2, fMin_2, fIx_l0, fIx_l1, fIx_l2, fEq_i, start0, svs, svK, svA, List.length_cons, List.length_nil, List.replicate, List.append_nil, List.cons_append, List.nil_append, List.getElem?_cons_zero, List.getElem?_cons_succ, List.set_cons_zero, List.set_cons_succ, Bool.not_true, Bool.not_false, decide_true, decide_false, ne_eq, not_false_eq_true, Nat.reduceAdd, Nat.reduceSub, fMul_take, fMul_7919, fMul_31, Nat.reduceLT, Int.reduceLT, Int.reduceEq, fMod_i, fDiv_i, bdz_ok, setT_nm, fgt_nil, fgt_cons, wipG_nil, wipG_cons, sz1, sz2, sz3, sz4, sz5, Nat.zero_le, fIs_ii, fIs_ib, fIs_is, fIs_itl, fIs_tt, fIs_tl, fIs_ttl, fIs_lt, fIs_ll, fIs_ltl, fAll_b, fSum_i, fBack_t, fBackL_l, hc, ha]
theorem lskew_ok (p q : List Int) (hp : p.length ≤ 100) (hq : q.length ≤ 100) : φ__law_skew_sum [ti p, ti q] = .ret (.d (ti (sk p q))) [] := by
  have hc := compB_one (i := 2) (enc := PyData.int) (f := fun x => .int ((q.length : Int) + x)) (me := rD (op2r fAdd fCat (dv (opN fLen (vCons (dName 1) vNil))) (dName 2))) (g := [.d (ti p), .d (ti q), .u]) p (by omega) rfl fun x hx => by simp only [bnd_at, rt_at, thn_ok, thn_ex, oRo_some, oMap_some, brn_t, brn_f, dName_at, slR_d, slR_a, slR_o, vl_d, vl_s, slV_d, slV_a, slV_o, dv_at, dEsc_at, esc_d, esc_s, escS_d, escS_o, dFz_at, dC_at, dNil_at, dCons_at, vNil_at, vCons_at, op2_at, op2r_at, op1_at, op1o_at, opN_at, opNo_at, vls_nil, vls_cons, cutR_at, oNone_at, oSome_at, dTup_at, dLst_at, dB_at, boolD_b, dNot_at, dAnd_at, dOr_at, dIfE_at, dAndV_at, dOrV_at, dNotV_at, dSeq_at, dsq_nx, dsq_rt, dsq_bk, dsq_ct, dsq_ex, sNx_at, sBk_at, sCt_at, sExpr_at, sRet_at, sRetO_at, sRetN_at, sRetV_at, retS_d, retS_o, sSet_at, sSetO_at, sIf_at, ownV_o, msNil_at, msD_at, msO_at, msR_at, gRo_some, sPar_at, setRs_nil, setRs_d, setRs_o, callP_at, callK_at, argO_some, callM_at, outR_ret, outR_ex, argD_nil, argD_v, argD_p, argD_m, argD_vn, argD_vs, Option.some.injEq, Nat.reduceEqDiff, mIx_m, mIx_v, mIx_p, mIx_nil, putM_none, putM_some, putO_o, call1_at, rD_at, rtD_d, rtD_o, rO_at, rtO_o, sExprR_at, sRetR_at, sSetR_at, setS_d, setS_o, runF_at, outF_nx, outF_rt, mOut_some, muOf_nil, muOf_m, muOf_v, muOf_p, chk_some, sSub_at, subS0, subS1, mutS_some, mutP_some, dMut_at, mixR_at, dChain_at, dRep_at, intD_i, rg1_at, rg2_at, dLstRg_go, rgL_ok, dTupRg_go, rgT_ok, dTupRg3_go, rgT3_ok, rgO1_ok, rgO2_ok, rgO3_ok, sm0, sm1, dIndexT_at, seqS_d, seqS_a, seqS_o, seqD_l, seqD_t, itR_d, itR_s, iV_at, iO_at, iR1_go, iR2_go, iR3_go, iEnV_at, iEnO_at, sFor_at, compL_at, fAdd_i, fSub_i, fLt_i, fLe_i, fGt_i, fGe_i, fDiv_33, fPow_64, fPow_33, fPow_18, fNeg_i, fLen_l, fLen_t, fInt_i, fTuple_l, fList_l, fMax_2, fMin_2, fIx_l0, fIx_l1, fIx_l2, fEq_i, start0, svs, svK, svA, List.length_cons, List.length_nil, List.replicate, List.append_nil, List.cons_append, List.nil_append, List.getElem?_cons_zero, List.getElem?_cons_succ, List.set_cons_zero, List.set_cons_succ, Bool.not_true, Bool.not_false, decide_true, decide_false, ne_eq, not_false_eq_true, Nat.reduceAdd, Nat.reduceSub, fMul_take, fMul_7919, fMul_31, Nat.reduceLT, Int.reduceLT, Int.reduceEq, fMod_i, fDiv_i, bdz_ok, setT_nm, fgt_nil, fgt_cons, wipG_nil, wipG_cons, sz1, sz2, sz3, sz4, sz5, Nat.zero_le, fIs_ii, fIs_ib, fIs_is, fIs_itl, fIs_tt, fIs_tl, fIs_ttl, fIs_lt, fIs_ll, fIs_ltl, fAll_b, fSum_i, fBack_t, fBackL_l, List.length_map]
  have e : p.map (fun x => PyData.int ((q.length : Int) + x)) = (sft q.length p).map .int := by
    rw [sft, List.map_map]
    exact List.map_congr_left fun x _ => by simp only [Function.comp]; rw [Int.add_comm]
  rw [e] at hc
  have ha := fAdd_tt' ((sft q.length p).map .int) (q.map .int) (by rw [List.length_map, List.length_map, sft_len]; omega)
  have e2 : ti (sk p q) = .tuple ((sft q.length p).map .int ++ q.map .int) := by rw [sk, ti, List.map_append]
  rw [e2]
  unfold φ__law_skew_sum m__law_skew_sum
  simp only [bnd_at, rt_at, thn_ok, thn_ex, oRo_some, oMap_some, brn_t, brn_f, dName_at, slR_d, slR_a, slR_o, vl_d, vl_s, slV_d, slV_a, slV_o, dv_at, dEsc_at, esc_d, esc_s, escS_d, escS_o, dFz_at, dC_at, dNil_at, dCons_at, vNil_at, vCons_at, op2_at, op2r_at, op1_at, op1o_at, opN_at, opNo_at, vls_nil, vls_cons, cutR_at, oNone_at, oSome_at, dTup_at, dLst_at, dB_at, boolD_b, dNot_at, dAnd_at, dOr_at, dIfE_at, dAndV_at, dOrV_at, dNotV_at, dSeq_at, dsq_nx, dsq_rt, dsq_bk, dsq_ct, dsq_ex, sNx_at, sBk_at, sCt_at, sExpr_at, sRet_at, sRetO_at, sRetN_at, sRetV_at, retS_d, retS_o, sSet_at, sSetO_at, sIf_at, ownV_o, msNil_at, msD_at, msO_at, msR_at, gRo_some, sPar_at, setRs_nil, setRs_d, setRs_o, callP_at, callK_at, argO_some, callM_at, outR_ret, outR_ex, argD_nil, argD_v, argD_p, argD_m, argD_vn, argD_vs, Option.some.injEq, Nat.reduceEqDiff, mIx_m, mIx_v, mIx_p, mIx_nil, putM_none, putM_some, putO_o, call1_at, rD_at, rtD_d, rtD_o, rO_at, rtO_o, sExprR_at, sRetR_at, sSetR_at, setS_d, setS_o, runF_at, outF_nx, outF_rt, mOut_some, muOf_nil, muOf_m, muOf_v, muOf_p, chk_some, sSub_at, subS0, subS1, mutS_some, mutP_some, dMut_at, mixR_at, dChain_at, dRep_at, intD_i, rg1_at, rg2_at, dLstRg_go, rgL_ok, dTupRg_go, rgT_ok, dTupRg3_go, rgT3_ok, rgO1_ok, rgO2_ok, rgO3_ok, sm0, sm1, dIndexT_at, seqS_d, seqS_a, seqS_o, seqD_l, seqD_t, itR_d, itR_s, iV_at, iO_at, iR1_go, iR2_go, iR3_go, iEnV_at, iEnO_at, sFor_at, compL_at, fAdd_i, fSub_i, fLt_i, fLe_i, fGt_i, fGe_i, fDiv_33, fPow_64, fPow_33, fPow_18, fNeg_i, fLen_l, fLen_t, fInt_i, fTuple_l, fList_l, fMax_2, fMin_2, fIx_l0, fIx_l1, fIx_l2, fEq_i, start0, svs, svK, svA, List.length_cons, List.length_nil, List.replicate, List.append_nil, List.cons_append, List.nil_append, List.getElem?_cons_zero, List.getElem?_cons_succ, List.set_cons_zero, List.set_cons_succ, Bool.not_true, Bool.not_false, decide_true, decide_false, ne_eq, not_false_eq_true, Nat.reduceAdd, Nat.reduceSub, fMul_take, fMul_7919, fMul_31, Nat.reduceLT, Int.reduceLT, Int.reduceEq, fMod_i, fDiv_i, bdz_ok, setT_nm, fgt_nil, fgt_cons, wipG_nil, wipG_cons, sz1, sz2, sz3, sz4, sz5, Nat.zero_le, fIs_ii, fIs_ib, fIs_is, fIs_itl, fIs_tt, fIs_tl, fIs_ttl, fIs_lt, fIs_ll, fIs_ltl, fAll_b, fSum_i, fBack_t, fBackL_l, hc, ha]
theorem sh_ti (n : Nat) (p : List Int) (h : p.length ≤ 100000) : Sh (n + 1) (ti p) := .tup (by rw [List.length_map]; exact h) fun x hx => by
  obtain ⟨i, _, rfl⟩ := List.mem_map.mp hx
  exact .int n i
theorem sh_2 {n : Nat} {a b : D} (ha : Sh n a) (hb : Sh n b) : Sh (n + 1) (.list [a, b]) := .lst (by simp) fun x hx => by
  rcases List.mem_cons.mp hx with e | hx
  · rw [e]; exact ha
  · rw [List.mem_singleton.mp hx]; exact hb
theorem pick01 (r s : Rs) : pick [0, 1] [r, s] = [r, s] := Eq.trans rfl rfl
theorem pick10 (r s : Rs) : pick [1, 0] [r, s] = [s, r] := Eq.trans rfl rfl
theorem summed_right_ok (p q : List Int) (ip : IsOrd p) (iq : IsOrd q) (hp : p.length ≤ 100) (hq : q.length ≤ 100) : φ__law_summed_right [ti p, ti q] = .ret (.d (.bool true)) [] := by
  have l1 : (sm p q).length ≤ 100000 := by rw [sm, List.length_append, sft_len]; omega
  have l2 : (sk p q).length ≤ 100000 := by rw [sk, List.length_append, sft_len]; omega
  have s1 := same_ok 2 _ (sh_2 (sh_ti 0 _ l1) (sh_ti 0 _ l1)) 5 (by omega)
  have s2 := same_ok 2 _ (sh_2 (sh_ti 0 _ l2) (sh_ti 0 _ l2)) 5 (by omega)
  unfold φ__law_summed_right m__law_summed_right
  simp only [bnd_at, rt_at, thn_ok, thn_ex, oRo_some, oMap_some, brn_t, brn_f, dName_at, slR_d, slR_a, slR_o, vl_d, vl_s, slV_d, slV_a, slV_o, dv_at, dEsc_at, esc_d, esc_s, escS_d, escS_o, dFz_at, dC_at, dNil_at, dCons_at, vNil_at, vCons_at, op2_at, op2r_at, op1_at, op1o_at, opN_at, opNo_at, vls_nil, vls_cons, cutR_at, oNone_at, oSome_at, dTup_at, dLst_at, dB_at, boolD_b, dNot_at, dAnd_at, dOr_at, dIfE_at, dAndV_at, dOrV_at, dNotV_at, dSeq_at, dsq_nx, dsq_rt, dsq_bk, dsq_ct, dsq_ex, sNx_at, sBk_at, sCt_at, sExpr_at, sRet_at, sRetO_at, sRetN_at, sRetV_at, retS_d, retS_o, sSet_at, sSetO_at, sIf_at, ownV_o, msNil_at, msD_at, msO_at, msR_at, gRo_some, sPar_at, setRs_nil, setRs_d, setRs_o, callP_at, callK_at, argO_some, callM_at, outR_ret, outR_ex, argD_nil, argD_v, argD_p, argD_m, argD_vn, argD_vs, Option.some.injEq, Nat.reduceEqDiff, mIx_m, mIx_v, mIx_p, mIx_nil, putM_none, putM_some, putO_o, call1_at, rD_at, rtD_d, rtD_o, rO_at, rtO_o, sExprR_at, sRetR_at, sSetR_at, setS_d, setS_o, runF_at, outF_nx, outF_rt, mOut_some, muOf_nil, muOf_m, muOf_v, muOf_p, chk_some, sSub_at, subS0, subS1, mutS_some, mutP_some, dMut_at, mixR_at, dChain_at, dRep_at, intD_i, rg1_at, rg2_at, dLstRg_go, rgL_ok, dTupRg_go, rgT_ok, dTupRg3_go, rgT3_ok, rgO1_ok, rgO2_ok, rgO3_ok, sm0, sm1, dIndexT_at, seqS_d, seqS_a, seqS_o, seqD_l, seqD_t, itR_d, itR_s, iV_at, iO_at, iR1_go, iR2_go, iR3_go, iEnV_at, iEnO_at, sFor_at, compL_at, fAdd_i, fSub_i, fLt_i, fLe_i, fGt_i, fGe_i, fDiv_33, fPow_64, fPow_33, fPow_18, fNeg_i, fLen_l, fLen_t, fInt_i, fTuple_l, fList_l, fMax_2, fMin_2, fIx_l0, fIx_l1, fIx_l2, fEq_i, start0, svs, svK, svA, List.length_cons, List.length_nil, List.replicate, List.append_nil, List.cons_append, List.nil_append, List.getElem?_cons_zero, List.getElem?_cons_succ, List.set_cons_zero, List.set_cons_succ, Bool.not_true, Bool.not_false, decide_true, decide_false, ne_eq, not_false_eq_true, Nat.reduceAdd, Nat.reduceSub, fMul_take, fMul_7919, fMul_31, Nat.reduceLT, Int.reduceLT, Int.reduceEq, fMod_i, fDiv_i, bdz_ok, setT_nm, fgt_nil, fgt_cons, wipG_nil, wipG_cons, sz1, sz2, sz3, sz4, sz5, Nat.zero_le, fIs_ii, fIs_ib, fIs_is, fIs_itl, fIs_tt, fIs_tl, fIs_ttl, fIs_lt, fIs_ll, fIs_ltl, fAll_b, fSum_i, fBack_t, fBackL_l, lsum_ok p q hp hq, lskew_ok p q hp hq, summed_ok p q ip iq hp hq, skew_summed_ok p q ip iq hp hq, pick10, s1, s2]
end Ck04
set_option Elab.async false
set_option linter.all false
set_option maxRecDepth 100000
set_option autoImplicit false
set_option maxHeartbeats 2000000
namespace Ck04
open PySem PySem.Spec PyProof.Rows L2 Z
abbrev ptBody : M Fl := (dSeq (sSet 3 (opN fMax (vCons (dName 3) (vCons (dName 5) vNil))))
    (sIf (dB (op2 fEq (dName 3) (dv (rD (op2r fAdd fCat (dName 4) (dv (dC (.int 1)))))))) (dSeq (sExpr (dMut 1 mAppend (dCons (rD (callP [.v, .v] φ_lifted (vCons (dv (rD (cutR (dName 0) (oSome (dEsc (dName 2))) (oSome (rD (op2r fAdd fCat (dName 4) (dv (dC (.int 1))))))))) (vCons (dv (op1 fNeg (dName 2))) vNil)))) dNil)))
    (sSetR 2 (op2r fAdd fCat (dName 4) (dv (dC (.int 1)))))) sNx))
theorem parts_of_sum_ok (p : List Int) (ip : IsOrd p) (hp : p.length ≤ 100) : φ_parts_of_sum [ti p] = .ret (.d (.tuple ((Pp p).map ti))) [] := by
  obtain ⟨g', e1, i, b, F, h1, h2, h3, h4, h5, h6, h7, h8⟩ := forG_inv (t := .tup [.nm 4, .nm 5]) (ms := [4, 5]) (b := ptBody) (enumD 0 (p.map .int))
    (fun r g => ∃ (i b : Nat) (F : List (List Int)), r = enumD i ((p.drop i).map .int) ∧ b ≤ i ∧ i ≤ p.length ∧ cut p b = true ∧ (∀ t, b < t → t ≤ i → cut p t = false) ∧ F ++ Pp (sft (-(b : Int)) (p.drop b)) = Pp p ∧ F.length ≤ i ∧
      g = [.d (ti p), .own false (F.map ti), .d (.int (b : Int)), .d (.int (gm p i)), .u, .u])
    [.d (ti p), .own false [], .d (.int 0), .d (.int 0), .u, .u] ⟨0, 0, [], rfl, Nat.le_refl _, Nat.zero_le _, cut_iff.mpr (fun x hx => by rw [List.take_zero] at hx; cases hx), fun t h k => absurd h (by omega), by rw [List.drop_zero, Int.natCast_zero, Int.neg_zero, sft_zero]; rfl, Nat.le_refl _, rfl⟩ (by
      rintro x r g ⟨i, b, F, h1, h2, h3, h4, h5, h6, h7, rfl⟩ _
      have hlt : i < p.length := by
        have := congrArg List.length h1
        rw [enumD_len, List.length_map, List.length_drop, List.length_cons] at this
        omega
      have hd : p.drop i = p.getD i 0 :: p.drop (i + 1) := by
        rw [List.drop_eq_getElem_cons hlt, List.getD_eq_getElem?_getD, List.getElem?_eq_getElem hlt]
        rfl
      rw [hd, List.map_cons, enumD_cons] at h1
      injection h1 with hx hr
      subst hx
      have hg : (if p.getD i 0 > gm p i then p.getD i 0 else gm p i) = gm p (i + 1) := rfl
      refine ⟨[.d (ti p), .own false (F.map ti), .d (.int (b : Int)), .d (.int (gm p i)), .d (.int (i : Int)), .d (.int (p.getD i 0))], ?_⟩
      have hset : setT (.tup [.nm 4, .nm 5]) (.tuple [.int (i : Nat), .int (p.getD i 0)]) [.d (ti p), .own false (F.map ti), .d (.int (b : Int)), .d (.int (gm p i)), .u, .u] = some [.d (ti p), .own false (F.map ti), .d (.int (b : Int)), .d (.int (gm p i)), .d (.int (i : Int)), .d (.int (p.getD i 0))] := by
        rw [setT_tup, setTs_cons _ _ _ _ _ _ (setT_nm _ _ _), setTs_cons _ _ _ _ _ _ (setT_nm _ _ _), setTs_nil]
        simp only [bnd_at, rt_at, thn_ok, thn_ex, oRo_some, oMap_some, brn_t, brn_f, dName_at, slR_d, slR_a, slR_o, vl_d, vl_s, slV_d, slV_a, slV_o, dv_at, dEsc_at, esc_d, esc_s, escS_d, escS_o, dFz_at, dC_at, dNil_at, dCons_at, vNil_at, vCons_at, op2_at, op2r_at, op1_at, op1o_at, opN_at, opNo_at, vls_nil, vls_cons, cutR_at, oNone_at, oSome_at, dTup_at, dLst_at, dB_at, boolD_b, dNot_at, dAnd_at, dOr_at, dIfE_at, dAndV_at, dOrV_at, dNotV_at, dSeq_at, dsq_nx, dsq_rt, dsq_bk, dsq_ct, dsq_ex, sNx_at, sBk_at, sCt_at, sExpr_at, sRet_at, sRetO_at, sRetN_at, sRetV_at, retS_d, retS_o, sSet_at, sSetO_at, sIf_at, ownV_o, msNil_at, msD_at, msO_at, msR_at, gRo_some, sPar_at, setRs_nil, setRs_d, setRs_o, callP_at, callK_at, argO_some, callM_at, outR_ret, outR_ex, argD_nil, argD_v, argD_p, argD_m, argD_vn, argD_vs, Option.some.injEq, Nat.reduceEqDiff, mIx_m, mIx_v, mIx_p, mIx_nil, putM_none, putM_some, putO_o, call1_at, rD_at, rtD_d, rtD_o, rO_at, rtO_o, sExprR_at, sRetR_at, sSetR_at, setS_d, setS_o, runF_at, outF_nx, outF_rt, mOut_some, muOf_nil, muOf_m, muOf_v, muOf_p, chk_some, sSub_at, subS0, subS1, mutS_some, mutP_some, dMut_at, mixR_at, dChain_at, dRep_at, intD_i, rg1_at, rg2_at, dLstRg_go, rgL_ok, dTupRg_go, rgT_ok, dTupRg3_go, rgT3_ok, rgO1_ok, rgO2_ok, rgO3_ok, sm0, sm1, dIndexT_at, seqS_d, seqS_a, seqS_o, seqD_l, seqD_t, itR_d, itR_s, iV_at, iO_at, iR1_go, iR2_go, iR3_go, iEnV_at, iEnO_at, sFor_at, compL_at, fAdd_i, fSub_i, fLt_i, fLe_i, fGt_i, fGe_i, fDiv_33, fPow_64, fPow_33, fPow_18, fNeg_i, fLen_l, fLen_t, fInt_i, fTuple_l, fList_l, fMax_2, fMin_2, fIx_l0, fIx_l1, fIx_l2, fEq_i, start0, svs, svK, svA, List.length_cons, List.length_nil, List.replicate, List.append_nil, List.cons_append, List.nil_append, List.getElem?_cons_zero, List.getElem?_cons_succ, List.set_cons_zero, List.set_cons_succ, Bool.not_true, Bool.not_false, decide_true, decide_false, ne_eq, not_false_eq_true, Nat.reduceAdd, Nat.reduceSub, fMul_take, fMul_7919, fMul_31, Nat.reduceLT, Int.reduceLT, Int.reduceEq, fMod_i, fDiv_i, bdz_ok, setT_nm, fgt_nil, fgt_cons, wipG_nil, wipG_cons, sz1, sz2, sz3, sz4, sz5, Nat.zero_le, fIs_ii, fIs_ib, fIs_is, fIs_itl, fIs_tt, fIs_tl, fIs_ttl, fIs_lt, fIs_ll, fIs_ltl, fAll_b, fSum_i, fBack_t, fBackL_l]
      by_cases c : gm p (i + 1) = (i : Int) + 1
      · have hc := (gm_cut ip hlt).mp c
        have hr0 : IsOrd (sft (-(b : Int)) (p.drop b)) := drop_ord ip (by omega) h4
        have hrl : (sft (-(b : Int)) (p.drop b)).length = p.length - b := by rw [sft_len, List.length_drop]
        have hq : cut1 (sft (-(b : Int)) (p.drop b)) = i + 1 - b := cut1_eq hr0 (by omega) (by omega) (by rw [← cut_add ip (by omega) h4, show b + (i + 1 - b) = i + 1 by omega]; exact hc) fun t t1 t2 => by
          rw [← cut_add ip (by omega) h4]
          exact h5 (b + t) (by omega) (by omega)
        have hPp := Pp_cons hr0 (fun z => by rw [z] at hrl; simp at hrl; omega)
        rw [hq] at hPp
        have et : (sft (-(b : Int)) (p.drop b)).take (i + 1 - b) = sft (-(b : Int)) ((p.drop b).take (i + 1 - b)) := by rw [sft, ← List.map_take]; rfl
        have ed : sft (-((i + 1 - b : Nat) : Int)) ((sft (-(b : Int)) (p.drop b)).drop (i + 1 - b)) = sft (-((i + 1 : Nat) : Int)) (p.drop (i + 1)) := by
          have e0 : (sft (-(b : Int)) (p.drop b)).drop (i + 1 - b) = sft (-(b : Int)) ((p.drop b).drop (i + 1 - b)) := by rw [sft, ← List.map_drop]; rfl
          rw [e0, sft_sft, List.drop_drop, show b + (i + 1 - b) = i + 1 by omega]
          congr 1
          omega
        rw [et, ed] at hPp
        have hcut : fCutT (ti p) (some (b : Int)) (some ((i : Int) + 1)) = some (ti ((p.drop b).take (i + 1 - b))) := by
          have := fCutT_mid (p.map .int) b (i + 1) (by omega) (by rw [List.length_map]; omega)
          rw [← List.map_drop, ← List.map_take] at this
          exact this
        have hlift := lifted_ok ((p.drop b).take (i + 1 - b)) (-(b : Int)) (by rw [List.length_take, List.length_drop]; omega)
        have happ := mAppend_ok (F.map ti) (ti (sft (-(b : Int)) ((p.drop b).take (i + 1 - b)))) (by rw [List.length_map]; exact sz_lt (by omega))
        refine ⟨[.d (ti p), .own false ((F ++ [sft (-(b : Int)) ((p.drop b).take (i + 1 - b))]).map ti), .d (.int ((i + 1 : Nat) : Int)), .d (.int (gm p (i + 1))), .d (.int (i : Int)), .d (.int (p.getD i 0))], hset, .inl ?_, i + 1, i + 1, F ++ [sft (-(b : Int)) ((p.drop b).take (i + 1 - b))], hr, Nat.le_refl _, by omega, hc, fun t a k => absurd a (by omega), ?_, by rw [List.length_append, List.length_singleton]; omega, by simp only [bnd_at, rt_at, thn_ok, thn_ex, oRo_some, oMap_some, brn_t, brn_f, dName_at, slR_d, slR_a, slR_o, vl_d, vl_s, slV_d, slV_a, slV_o, dv_at, dEsc_at, esc_d, esc_s, escS_d, escS_o, dFz_at, dC_at, dNil_at, dCons_at, vNil_at, vCons_at, op2_at, op2r_at, op1_at, op1o_at, opN_at, opNo_at, vls_nil, vls_cons, cutR_at, oNone_at, oSome_at, dTup_at, dLst_at, dB_at, boolD_b, dNot_at, dAnd_at, dOr_at, dIfE_at, dAndV_at, dOrV_at, dNotV_at, dSeq_at, dsq_nx, dsq_rt, dsq_bk, dsq_ct, dsq_ex, sNx_at, sBk_at, sCt_at, sExpr_at, sRet_at, sRetO_at, sRetN_at, sRetV_at, retS_d, retS_o, sSet_at, sSetO_at, sIf_at, ownV_o, msNil_at, msD_at, msO_at, msR_at, gRo_some, sPar_at, setRs_nil, setRs_d, setRs_o, callP_at, callK_at, argO_some, callM_at, outR_ret, outR_ex, argD_nil, argD_v, argD_p, argD_m, argD_vn, argD_vs, Option.some.injEq, Nat.reduceEqDiff, mIx_m, mIx_v, mIx_p, mIx_nil, putM_none, putM_some, putO_o, call1_at, rD_at, rtD_d, rtD_o, rO_at, rtO_o, sExprR_at, sRetR_at, sSetR_at, setS_d, setS_o, runF_at, outF_nx, outF_rt, mOut_some, muOf_nil, muOf_m, muOf_v, muOf_p, chk_some, sSub_at, subS0, subS1, mutS_some, mutP_some, dMut_at, mixR_at, dChain_at, dRep_at, intD_i, rg1_at, rg2_at, dLstRg_go, rgL_ok, dTupRg_go, rgT_ok, dTupRg3_go, rgT3_ok, rgO1_ok, rgO2_ok, rgO3_ok, sm0, sm1, dIndexT_at, seqS_d, seqS_a, seqS_o, seqD_l, seqD_t, itR_d, itR_s, iV_at, iO_at, iR1_go, iR2_go, iR3_go, iEnV_at, iEnO_at, sFor_at, compL_at, fAdd_i, fSub_i, fLt_i, fLe_i, fGt_i, fGe_i, fDiv_33, fPow_64, fPow_33, fPow_18, fNeg_i, fLen_l, fLen_t, fInt_i, fTuple_l, fList_l, fMax_2, fMin_2, fIx_l0, fIx_l1, fIx_l2, fEq_i, start0, svs, svK, svA, List.length_cons, List.length_nil, List.replicate, List.append_nil, List.cons_append, List.nil_append, List.getElem?_cons_zero, List.getElem?_cons_succ, List.set_cons_zero, List.set_cons_succ, Bool.not_true, Bool.not_false, decide_true, decide_false, ne_eq, not_false_eq_true, Nat.reduceAdd, Nat.reduceSub, fMul_take, fMul_7919, fMul_31, Nat.reduceLT, Int.reduceLT, Int.reduceEq, fMod_i, fDiv_i, bdz_ok, setT_nm, fgt_nil, fgt_cons, wipG_nil, wipG_cons, sz1, sz2, sz3, sz4, sz5, Nat.zero_le, fIs_ii, fIs_ib, fIs_is, fIs_itl, fIs_tt, fIs_tl, fIs_ttl, fIs_lt, fIs_ll, fIs_ltl, fAll_b, fSum_i, fBack_t, fBackL_l]⟩
        · unfold ptBody
          simp only [bnd_at, rt_at, thn_ok, thn_ex, oRo_some, oMap_some, brn_t, brn_f, dName_at, slR_d, slR_a, slR_o, vl_d, vl_s, slV_d, slV_a, slV_o, dv_at, dEsc_at, esc_d, esc_s, escS_d, escS_o, dFz_at, dC_at, dNil_at, dCons_at, vNil_at, vCons_at, op2_at, op2r_at, op1_at, op1o_at, opN_at, opNo_at, vls_nil, vls_cons, cutR_at, oNone_at, oSome_at, dTup_at, dLst_at, dB_at, boolD_b, dNot_at, dAnd_at, dOr_at, dIfE_at, dAndV_at, dOrV_at, dNotV_at, dSeq_at, dsq_nx, dsq_rt, dsq_bk, dsq_ct, dsq_ex, sNx_at, sBk_at, sCt_at, sExpr_at, sRet_at, sRetO_at, sRetN_at, sRetV_at, retS_d, retS_o, sSet_at, sSetO_at, sIf_at, ownV_o, msNil_at, msD_at, msO_at, msR_at, gRo_some, sPar_at, setRs_nil, setRs_d, setRs_o, callP_at, callK_at, argO_some, callM_at, outR_ret, outR_ex, argD_nil, argD_v, argD_p, argD_m, argD_vn, argD_vs, Option.some.injEq, Nat.reduceEqDiff, mIx_m, mIx_v, mIx_p, mIx_nil, putM_none, putM_some, putO_o, call1_at, rD_at, rtD_d, rtD_o, rO_at, rtO_o, sExprR_at, sRetR_at, sSetR_at, setS_d, setS_o, runF_at, outF_nx, outF_rt, mOut_some, muOf_nil, muOf_m, muOf_v, muOf_p, chk_some, sSub_at, subS0, subS1, mutS_some, mutP_some, dMut_at, mixR_at, dChain_at, dRep_at, intD_i, rg1_at, rg2_at, dLstRg_go, rgL_ok, dTupRg_go, rgT_ok, dTupRg3_go, rgT3_ok, rgO1_ok, rgO2_ok, rgO3_ok, sm0, sm1, dIndexT_at, seqS_d, seqS_a, seqS_o, seqD_l, seqD_t, itR_d, itR_s, iV_at, iO_at, iR1_go, iR2_go, iR3_go, iEnV_at, iEnO_at, sFor_at, compL_at, fAdd_i, fSub_i, fLt_i, fLe_i, fGt_i, fGe_i, fDiv_33, fPow_64, fPow_33, fPow_18, fNeg_i, fLen_l, fLen_t, fInt_i, fTuple_l, fList_l, fMax_2, fMin_2, fIx_l0, fIx_l1, fIx_l2, fEq_i, start0, svs, svK, svA, List.length_cons, List.length_nil, List.replicate, List.append_nil, List.cons_append, List.nil_append, List.getElem?_cons_zero, List.getElem?_cons_succ, List.set_cons_zero, List.set_cons_succ, Bool.not_true, Bool.not_false, decide_true, decide_false, ne_eq, not_false_eq_true, Nat.reduceAdd, Nat.reduceSub, fMul_take, fMul_7919, fMul_31, Nat.reduceLT, Int.reduceLT, Int.reduceEq, fMod_i, fDiv_i, bdz_ok, setT_nm, fgt_nil, fgt_cons, wipG_nil, wipG_cons, sz1, sz2, sz3, sz4, sz5, Nat.zero_le, fIs_ii, fIs_ib, fIs_is, fIs_itl, fIs_tt, fIs_tl, fIs_ttl, fIs_lt, fIs_ll, fIs_ltl, fAll_b, fSum_i, fBack_t, fBackL_l, hg, c, hcut, hlift, happ, List.map_append, List.map_cons, List.map_nil]
          rfl
        · rw [← h6, hPp, List.append_assoc]
          rfl
      · have hc : cut p (i + 1) = false := eq_false_of_ne_true fun z => c ((gm_cut ip hlt).mpr z)
        refine ⟨[.d (ti p), .own false (F.map ti), .d (.int (b : Int)), .d (.int (gm p (i + 1))), .d (.int (i : Int)), .d (.int (p.getD i 0))], hset, .inl ?_, i + 1, b, F, hr, by omega, by omega, h4, fun t a k => ?_, h6, by omega, by simp only [bnd_at, rt_at, thn_ok, thn_ex, oRo_some, oMap_some, brn_t, brn_f, dName_at, slR_d, slR_a, slR_o, vl_d, vl_s, slV_d, slV_a, slV_o, dv_at, dEsc_at, esc_d, esc_s, escS_d, escS_o, dFz_at, dC_at, dNil_at, dCons_at, vNil_at, vCons_at, op2_at, op2r_at, op1_at, op1o_at, opN_at, opNo_at, vls_nil, vls_cons, cutR_at, oNone_at, oSome_at, dTup_at, dLst_at, dB_at, boolD_b, dNot_at, dAnd_at, dOr_at, dIfE_at, dAndV_at, dOrV_at, dNotV_at, dSeq_at, dsq_nx, dsq_rt, dsq_bk, dsq_ct, dsq_ex, sNx_at, sBk_at, sCt_at, sExpr_at, sRet_at, sRetO_at, sRetN_at, sRetV_at, retS_d, retS_o, sSet_at, sSetO_at, sIf_at, ownV_o, msNil_at, msD_at, msO_at, msR_at, gRo_some, sPar_at, setRs_nil, setRs_d, setRs_o, callP_at, callK_at, argO_some, callM_at, outR_ret, outR_ex, argD_nil, argD_v, argD_p, argD_m, argD_vn, argD_vs, Option.some.injEq, Nat.reduceEqDiff, mIx_m, mIx_v, mIx_p, mIx_nil, putM_none, putM_some, putO_o, call1_at, rD_at, rtD_d, rtD_o, rO_at, rtO_o, sExprR_at, sRetR_at, sSetR_at, setS_d, setS_o, runF_at, outF_nx, outF_rt, mOut_some, muOf_nil, muOf_m, muOf_v, muOf_p, chk_some, sSub_at, subS0, subS1, mutS_some, mutP_some, dMut_at, mixR_at, dChain_at, dRep_at, intD_i, rg1_at, rg2_at, dLstRg_go, rgL_ok, dTupRg_go, rgT_ok, dTupRg3_go, rgT3_ok, rgO1_ok, rgO2_ok, rgO3_ok, sm0, sm1, dIndexT_at, seqS_d, seqS_a, seqS_o, seqD_l, seqD_t, itR_d, itR_s, iV_at, iO_at, iR1_go, iR2_go, iR3_go, iEnV_at, iEnO_at, sFor_at, compL_at, fAdd_i, fSub_i, fLt_i, fLe_i, fGt_i, fGe_i, fDiv_33, fPow_64, fPow_33, fPow_18, fNeg_i, fLen_l, fLen_t, fInt_i, fTuple_l, fList_l, fMax_2, fMin_2, fIx_l0, fIx_l1, fIx_l2, fEq_i, start0, svs, svK, svA, List.length_cons, List.length_nil, List.replicate, List.append_nil, List.cons_append, List.nil_append, List.getElem?_cons_zero, List.getElem?_cons_succ, List.set_cons_zero, List.set_cons_succ, Bool.not_true, Bool.not_false, decide_true, decide_false, ne_eq, not_false_eq_true, Nat.reduceAdd, Nat.reduceSub, fMul_take, fMul_7919, fMul_31, Nat.reduceLT, Int.reduceLT, Int.reduceEq, fMod_i, fDiv_i, bdz_ok, setT_nm, fgt_nil, fgt_cons, wipG_nil, wipG_cons, sz1, sz2, sz3, sz4, sz5, Nat.zero_le, fIs_ii, fIs_ib, fIs_is, fIs_itl, fIs_tt, fIs_tl, fIs_ttl, fIs_lt, fIs_ll, fIs_ltl, fAll_b, fSum_i, fBack_t, fBackL_l]⟩
        · unfold ptBody
          simp only [bnd_at, rt_at, thn_ok, thn_ex, oRo_some, oMap_some, brn_t, brn_f, dName_at, slR_d, slR_a, slR_o, vl_d, vl_s, slV_d, slV_a, slV_o, dv_at, dEsc_at, esc_d, esc_s, escS_d, escS_o, dFz_at, dC_at, dNil_at, dCons_at, vNil_at, vCons_at, op2_at, op2r_at, op1_at, op1o_at, opN_at, opNo_at, vls_nil, vls_cons, cutR_at, oNone_at, oSome_at, dTup_at, dLst_at, dB_at, boolD_b, dNot_at, dAnd_at, dOr_at, dIfE_at, dAndV_at, dOrV_at, dNotV_at, dSeq_at, dsq_nx, dsq_rt, dsq_bk, dsq_ct, dsq_ex, sNx_at, sBk_at, sCt_at, sExpr_at, sRet_at, sRetO_at, sRetN_at, sRetV_at, retS_d, retS_o, sSet_at, sSetO_at, sIf_at, ownV_o, msNil_at, msD_at, msO_at, msR_at, gRo_some, sPar_at, setRs_nil, setRs_d, setRs_o, callP_at, callK_at, argO_some, callM_at, outR_ret, outR_ex, argD_nil, argD_v, argD_p, argD_m, argD_vn, argD_vs, Option.some.injEq, Nat.reduceEqDiff, mIx_m, mIx_v, mIx_p, mIx_nil, putM_none, putM_some, putO_o, call1_at, rD_at, rtD_d, rtD_o, rO_at, rtO_o, sExprR_at, sRetR_at, sSetR_at, setS_d, setS_o, runF_at, outF_nx, outF_rt, mOut_some, muOf_nil, muOf_m, muOf_v, muOf_p, chk_some, sSub_at, subS0, subS1, mutS_some, mutP_some, dMut_at, mixR_at, dChain_at, dRep_at, intD_i, rg1_at, rg2_at, dLstRg_go, rgL_ok, dTupRg_go, rgT_ok, dTupRg3_go, rgT3_ok, rgO1_ok, rgO2_ok, rgO3_ok, sm0, sm1, dIndexT_at, seqS_d, seqS_a, seqS_o, seqD_l, seqD_t, itR_d, itR_s, iV_at, iO_at, iR1_go, iR2_go, iR3_go, iEnV_at, iEnO_at, sFor_at, compL_at, fAdd_i, fSub_i, fLt_i, fLe_i, fGt_i, fGe_i, fDiv_33, fPow_64, fPow_33, fPow_18, fNeg_i, fLen_l, fLen_t, fInt_i, fTuple_l, fList_l, fMax_2, fMin_2, fIx_l0, fIx_l1, fIx_l2, fEq_i, start0, svs, svK, svA, List.length_cons, List.length_nil, List.replicate, List.append_nil, List.cons_append, List.nil_append, List.getElem?_cons_zero, List.getElem?_cons_succ, List.set_cons_zero, List.set_cons_succ, Bool.not_true, Bool.not_false, decide_true, decide_false, ne_eq, not_false_eq_true, Nat.reduceAdd, Nat.reduceSub, fMul_take, fMul_7919, fMul_31, Nat.reduceLT, Int.reduceLT, Int.reduceEq, fMod_i, fDiv_i, bdz_ok, setT_nm, fgt_nil, fgt_cons, wipG_nil, wipG_cons, sz1, sz2, sz3, sz4, sz5, Nat.zero_le, fIs_ii, fIs_ib, fIs_is, fIs_itl, fIs_tt, fIs_tl, fIs_ttl, fIs_lt, fIs_ll, fIs_ltl, fAll_b, fSum_i, fBack_t, fBackL_l, hg, c]
        · by_cases z : t = i + 1
          · rw [z]
            exact hc
          · exact h5 t a (by omega))
  have hi : i = p.length := by
    have := congrArg List.length h1
    rw [enumD_len, List.length_map, List.length_drop] at this
    simp at this
    omega
  subst hi
  have hb : b = p.length := by
    by_cases z : b < p.length
    · have := h5 p.length z (Nat.le_refl _)
      rw [cut_all ip] at this
      cases this
    · omega
  subst hb
  have hF : F = Pp p := by
    rw [List.drop_length] at h6
    have : sft (-(p.length : Int)) [] = [] := rfl
    rw [this, Pp_nil, List.append_nil] at h6
    exact h6
  subst hF
  unfold φ_parts_of_sum m_parts_of_sum
  simp only [bnd_at, rt_at, thn_ok, thn_ex, oRo_some, oMap_some, brn_t, brn_f, dName_at, slR_d, slR_a, slR_o, vl_d, vl_s, slV_d, slV_a, slV_o, dv_at, dEsc_at, esc_d, esc_s, escS_d, escS_o, dFz_at, dC_at, dNil_at, dCons_at, vNil_at, vCons_at, op2_at, op2r_at, op1_at, op1o_at, opN_at, opNo_at, vls_nil, vls_cons, cutR_at, oNone_at, oSome_at, dTup_at, dLst_at, dB_at, boolD_b, dNot_at, dAnd_at, dOr_at, dIfE_at, dAndV_at, dOrV_at, dNotV_at, dSeq_at, dsq_nx, dsq_rt, dsq_bk, dsq_ct, dsq_ex, sNx_at, sBk_at, sCt_at, sExpr_at, sRet_at, sRetO_at, sRetN_at, sRetV_at, retS_d, retS_o, sSet_at, sSetO_at, sIf_at, ownV_o, msNil_at, msD_at, msO_at, msR_at, gRo_some, sPar_at, setRs_nil, setRs_d, setRs_o, callP_at, callK_at, argO_some, callM_at, outR_ret, outR_ex, argD_nil, argD_v, argD_p, argD_m, argD_vn, argD_vs, Option.some.injEq, Nat.reduceEqDiff, mIx_m, mIx_v, mIx_p, mIx_nil, putM_none, putM_some, putO_o, call1_at, rD_at, rtD_d, rtD_o, rO_at, rtO_o, sExprR_at, sRetR_at, sSetR_at, setS_d, setS_o, runF_at, outF_nx, outF_rt, mOut_some, muOf_nil, muOf_m, muOf_v, muOf_p, chk_some, sSub_at, subS0, subS1, mutS_some, mutP_some, dMut_at, mixR_at, dChain_at, dRep_at, intD_i, rg1_at, rg2_at, dLstRg_go, rgL_ok, dTupRg_go, rgT_ok, dTupRg3_go, rgT3_ok, rgO1_ok, rgO2_ok, rgO3_ok, sm0, sm1, dIndexT_at, seqS_d, seqS_a, seqS_o, seqD_l, seqD_t, itR_d, itR_s, iV_at, iO_at, iR1_go, iR2_go, iR3_go, iEnV_at, iEnO_at, sFor_at, compL_at, fAdd_i, fSub_i, fLt_i, fLe_i, fGt_i, fGe_i, fDiv_33, fPow_64, fPow_33, fPow_18, fNeg_i, fLen_l, fLen_t, fInt_i, fTuple_l, fList_l, fMax_2, fMin_2, fIx_l0, fIx_l1, fIx_l2, fEq_i, start0, svs, svK, svA, List.length_cons, List.length_nil, List.replicate, List.append_nil, List.cons_append, List.nil_append, List.getElem?_cons_zero, List.getElem?_cons_succ, List.set_cons_zero, List.set_cons_succ, Bool.not_true, Bool.not_false, decide_true, decide_false, ne_eq, not_false_eq_true, Nat.reduceAdd, Nat.reduceSub, fMul_take, fMul_7919, fMul_31, Nat.reduceLT, Int.reduceLT, Int.reduceEq, fMod_i, fDiv_i, bdz_ok, setT_nm, fgt_nil, fgt_cons, wipG_nil, wipG_cons, sz1, sz2, sz3, sz4, sz5, Nat.zero_le, fIs_ii, fIs_ib, fIs_is, fIs_itl, fIs_tt, fIs_tl, fIs_ttl, fIs_lt, fIs_ll, fIs_ltl, fAll_b, fSum_i, fBack_t, fBackL_l, e1, h8]
end Ck04
set_option Elab.async false
set_option linter.all false
set_option maxRecDepth 100000
set_option autoImplicit false
set_option maxHeartbeats 2000000
namespace Ck04
open PySem PySem.Spec PyProof.Rows L2 Z
theorem parts_ok (p : List Int) (ip : IsOrd p) (hp : p.length ≤ 100) : φ_parts [ti p] = .ret (.d (.tuple ((Pp p).map ti))) [] := by
  unfold φ_parts m_parts
  simp only [bnd_at, rt_at, thn_ok, thn_ex, oRo_some, oMap_some, brn_t, brn_f, dName_at, slR_d, slR_a, slR_o, vl_d, vl_s, slV_d, slV_a, slV_o, dv_at, dEsc_at, esc_d, esc_s, escS_d, escS_o, dFz_at, dC_at, dNil_at, dCons_at, vNil_at, vCons_at, op2_at, op2r_at, op1_at, op1o_at, opN_at, opNo_at, vls_nil, vls_cons, cutR_at, oNone_at, oSome_at, dTup_at, dLst_at, dB_at, boolD_b, dNot_at, dAnd_at, dOr_at, dIfE_at, dAndV_at, dOrV_at, dNotV_at, dSeq_at, dsq_nx, dsq_rt, dsq_bk, dsq_ct, dsq_ex, sNx_at, sBk_at, sCt_at, sExpr_at, sRet_at, sRetO_at, sRetN_at, sRetV_at, retS_d, retS_o, sSet_at, sSetO_at, sIf_at, ownV_o, msNil_at, msD_at, msO_at, msR_at, gRo_some, sPar_at, setRs_nil, setRs_d, setRs_o, callP_at, callK_at, argO_some, callM_at, outR_ret, outR_ex, argD_nil, argD_v, argD_p, argD_m, argD_vn, argD_vs, Option.some.injEq, Nat.reduceEqDiff, mIx_m, mIx_v, mIx_p, mIx_nil, putM_none, putM_some, putO_o, call1_at, rD_at, rtD_d, rtD_o, rO_at, rtO_o, sExprR_at, sRetR_at, sSetR_at, setS_d, setS_o, runF_at, outF_nx, outF_rt, mOut_some, muOf_nil, muOf_m, muOf_v, muOf_p, chk_some, sSub_at, subS0, subS1, mutS_some, mutP_some, dMut_at, mixR_at, dChain_at, dRep_at, intD_i, rg1_at, rg2_at, dLstRg_go, rgL_ok, dTupRg_go, rgT_ok, dTupRg3_go, rgT3_ok, rgO1_ok, rgO2_ok, rgO3_ok, sm0, sm1, dIndexT_at, seqS_d, seqS_a, seqS_o, seqD_l, seqD_t, itR_d, itR_s, iV_at, iO_at, iR1_go, iR2_go, iR3_go, iEnV_at, iEnO_at, sFor_at, compL_at, fAdd_i, fSub_i, fLt_i, fLe_i, fGt_i, fGe_i, fDiv_33, fPow_64, fPow_33, fPow_18, fNeg_i, fLen_l, fLen_t, fInt_i, fTuple_l, fList_l, fMax_2, fMin_2, fIx_l0, fIx_l1, fIx_l2, fEq_i, start0, svs, svK, svA, List.length_cons, List.length_nil, List.replicate, List.append_nil, List.cons_append, List.nil_append, List.getElem?_cons_zero, List.getElem?_cons_succ, List.set_cons_zero, List.set_cons_succ, Bool.not_true, Bool.not_false, decide_true, decide_false, ne_eq, not_false_eq_true, Nat.reduceAdd, Nat.reduceSub, fMul_take, fMul_7919, fMul_31, Nat.reduceLT, Int.reduceLT, Int.reduceEq, fMod_i, fDiv_i, bdz_ok, setT_nm, fgt_nil, fgt_cons, wipG_nil, wipG_cons, sz1, sz2, sz3, sz4, sz5, Nat.zero_le, fIs_ii, fIs_ib, fIs_is, fIs_itl, fIs_tt, fIs_tl, fIs_ttl, fIs_lt, fIs_ll, fIs_ltl, fAll_b, fSum_i, fBack_t, fBackL_l, check_order_ok p ip (by omega), parts_of_sum_ok p ip hp]
theorem skew_parts_ok (p : List Int) (ip : IsOrd p) (hp : p.length ≤ 100) : φ_skew_parts [ti p] = .ret (.d (.tuple (((Pp (mi p)).map mi).map ti))) [] := by
  have hc := compB_one (i := 3) (enc := PyData.int) (f := fun x => .int ((p.length : Int) + 1 - x)) (me := op2 fSub (dv (rD (op2r fAdd fCat (dName 1) (dv (dC (.int 1)))))) (dName 3)) (g := [.d (ti p), .d (.int p.length), .u, .u, .u]) p (by omega) rfl fun x hx => by simp only [bnd_at, rt_at, thn_ok, thn_ex, oRo_some, oMap_some, brn_t, brn_f, dName_at, slR_d, slR_a, slR_o, vl_d, vl_s, slV_d, slV_a, slV_o, dv_at, dEsc_at, esc_d, esc_s, escS_d, escS_o, dFz_at, dC_at, dNil_at, dCons_at, vNil_at, vCons_at, op2_at, op2r_at, op1_at, op1o_at, opN_at, opNo_at, vls_nil, vls_cons, cutR_at, oNone_at, oSome_at, dTup_at, dLst_at, dB_at, boolD_b, dNot_at, dAnd_at, dOr_at, dIfE_at, dAndV_at, dOrV_at, dNotV_at, dSeq_at, dsq_nx, dsq_rt, dsq_bk, dsq_ct, dsq_ex, sNx_at, sBk_at, sCt_at, sExpr_at, sRet_at, sRetO_at, sRetN_at, sRetV_at, retS_d, retS_o, sSet_at, sSetO_at, sIf_at, ownV_o, msNil_at, msD_at, msO_at, msR_at, gRo_some, sPar_at, setRs_nil, setRs_d, setRs_o, callP_at, callK_at, argO_some, callM_at, outR_ret, outR_ex, argD_nil, argD_v, argD_p, argD_m, argD_vn, argD_vs, Option.some.injEq, Nat.reduceEqDiff, mIx_m, mIx_v, mIx_p, mIx_nil, putM_none, putM_some, putO_o, call1_at, rD_at, rtD_d, rtD_o, rO_at, rtO_o, sExprR_at, sRetR_at, sSetR_at, setS_d, setS_o, runF_at, outF_nx, outF_rt, mOut_some, muOf_nil, muOf_m, muOf_v, muOf_p, chk_some, sSub_at, subS0, subS1, mutS_some, mutP_some, dMut_at, mixR_at, dChain_at, dRep_at, intD_i, rg1_at, rg2_at, dLstRg_go, rgL_ok, dTupRg_go, rgT_ok, dTupRg3_go, rgT3_ok, rgO1_ok, rgO2_ok, rgO3_ok, sm0, sm1, dIndexT_at, seqS_d, seqS_a, seqS_o, seqD_l, seqD_t, itR_d, itR_s, iV_at, iO_at, iR1_go, iR2_go, iR3_go, iEnV_at, iEnO_at, sFor_at, compL_at, fAdd_i, fSub_i, fLt_i, fLe_i, fGt_i, fGe_i, fDiv_33, fPow_64, fPow_33, fPow_18, fNeg_i, fLen_l, fLen_t, fInt_i, fTuple_l, fList_l, fMax_2, fMin_2, fIx_l0, fIx_l1, fIx_l2, fEq_i, start0, svs, svK, svA, List.length_cons, List.length_nil, List.replicate, List.append_nil, List.cons_append, List.nil_append, List.getElem?_cons_zero, List.getElem?_cons_succ, List.set_cons_zero, List.set_cons_succ, Bool.not_true, Bool.not_false, decide_true, decide_false, ne_eq, not_false_eq_true, Nat.reduceAdd, Nat.reduceSub, fMul_take, fMul_7919, fMul_31, Nat.reduceLT, Int.reduceLT, Int.reduceEq, fMod_i, fDiv_i, bdz_ok, setT_nm, fgt_nil, fgt_cons, wipG_nil, wipG_cons, sz1, sz2, sz3, sz4, sz5, Nat.zero_le, fIs_ii, fIs_ib, fIs_is, fIs_itl, fIs_tt, fIs_tl, fIs_ttl, fIs_lt, fIs_ll, fIs_ltl, fAll_b, fSum_i, fBack_t, fBackL_l]
  have e : p.map (fun x => PyData.int ((p.length : Int) + 1 - x)) = (mi p).map .int := by simp [mi]
  rw [e] at hc
  have hd := compB_one (i := 4) (enc := ti) (f := fun c => ti (mi c)) (me := opN fTuple (vCons (dv (dFz (compL [3] (.nm 3) (iV (dName 4)) (rt true) (op2 fSub (dv (rD (op2r fAdd fCat (dv (opN fLen (vCons (dName 4) vNil))) (dv (dC (.int 1)))))) (dName 3))))) vNil)) (g := [.d (ti p), .d (.int p.length), .d (ti (mi p)), .u, .u]) (Pp (mi p)) (by have := Pp_count (isOrd_mi ip); rw [mi_len] at this; omega) rfl fun c hcm => by
    have hcl := (Pp_mem (isOrd_mi ip) c hcm).2
    rw [mi_len] at hcl
    have hc' := compB_one (i := 3) (enc := PyData.int) (f := fun x => .int ((c.length : Int) + 1 - x)) (me := op2 fSub (dv (rD (op2r fAdd fCat (dv (opN fLen (vCons (dName 4) vNil))) (dv (dC (.int 1)))))) (dName 3)) (g := [.d (ti p), .d (.int p.length), .d (ti (mi p)), .u, .d (ti c)]) c (by omega) rfl fun x hx => by simp only [bnd_at, rt_at, thn_ok, thn_ex, oRo_some, oMap_some, brn_t, brn_f, dName_at, slR_d, slR_a, slR_o, vl_d, vl_s, slV_d, slV_a, slV_o, dv_at, dEsc_at, esc_d, esc_s, escS_d, escS_o, dFz_at, dC_at, dNil_at, dCons_at, vNil_at, vCons_at, op2_at, op2r_at, op1_at, op1o_at, opN_at, opNo_at, vls_nil, vls_cons, cutR_at, oNone_at, oSome_at, dTup_at, dLst_at, dB_at, boolD_b, dNot_at, dAnd_at, dOr_at, dIfE_at, dAndV_at, dOrV_at, dNotV_at, dSeq_at, dsq_nx, dsq_rt, dsq_bk, dsq_ct, dsq_ex, sNx_at, sBk_at, sCt_at, sExpr_at, sRet_at, sRetO_at, sRetN_at, sRetV_at, retS_d, retS_o, sSet_at, sSetO_at, sIf_at, ownV_o, msNil_at, msD_at, msO_at, msR_at, gRo_some, sPar_at, setRs_nil, setRs_d, setRs_o, callP_at, callK_at, argO_some, callM_at, outR_ret, outR_ex, argD_nil, argD_v, argD_p, argD_m, argD_vn, argD_vs, Option.some.injEq, Nat.reduceEqDiff, mIx_m, mIx_v, mIx_p, mIx_nil, putM_none, putM_some, putO_o, call1_at, rD_at, rtD_d, rtD_o, rO_at, rtO_o, sExprR_at, sRetR_at, sSetR_at, setS_d, setS_o, runF_at, outF_nx, outF_rt, mOut_some, muOf_nil, muOf_m, muOf_v, muOf_p, chk_some, sSub_at, subS0, subS1, mutS_some, mutP_some, dMut_at, mixR_at, dChain_at, dRep_at, intD_i, rg1_at, rg2_at, dLstRg_go, rgL_ok, dTupRg_go, rgT_ok, dTupRg3_go, rgT3_ok, rgO1_ok, rgO2_ok, rgO3_ok, sm0, sm1, dIndexT_at, seqS_d, seqS_a, seqS_o, seqD_l, seqD_t, itR_d, itR_s, iV_at, iO_at, iR1_go, iR2_go, iR3_go, iEnV_at, iEnO_at, sFor_at, compL_at, fAdd_i, fSub_i, fLt_i, fLe_i, fGt_i, fGe_i, fDiv_33, fPow_64, fPow_33, fPow_18, fNeg_i, fLen_l, fLen_t, fInt_i, fTuple_l, fList_l, fMax_2, fMin_2, fIx_l0, fIx_l1, fIx_l2, fEq_i, start0, svs, svK, svA, List.length_cons, List.length_nil, List.replicate, List.append_nil, List.cons_append, List.nil_append, List.getElem?_cons_zero, List.getElem?_cons_succ, List.set_cons_zero, List.set_cons_succ, Bool.not_true, Bool.not_false, decide_true, decide_false, ne_eq, not_false_eq_true, Nat.reduceAdd, Nat.reduceSub, fMul_take, fMul_7919, fMul_31, Nat.reduceLT, Int.reduceLT, Int.reduceEq, fMod_i, fDiv_i, bdz_ok, setT_nm, fgt_nil, fgt_cons, wipG_nil, wipG_cons, sz1, sz2, sz3, sz4, sz5, Nat.zero_le, fIs_ii, fIs_ib, fIs_is, fIs_itl, fIs_tt, fIs_tl, fIs_ttl, fIs_lt, fIs_ll, fIs_ltl, fAll_b, fSum_i, fBack_t, fBackL_l, List.length_map]
    have e' : c.map (fun x => PyData.int ((c.length : Int) + 1 - x)) = (mi c).map .int := by simp [mi]
    rw [e'] at hc'
    simp only [bnd_at, rt_at, thn_ok, thn_ex, oRo_some, oMap_some, brn_t, brn_f, dName_at, slR_d, slR_a, slR_o, vl_d, vl_s, slV_d, slV_a, slV_o, dv_at, dEsc_at, esc_d, esc_s, escS_d, escS_o, dFz_at, dC_at, dNil_at, dCons_at, vNil_at, vCons_at, op2_at, op2r_at, op1_at, op1o_at, opN_at, opNo_at, vls_nil, vls_cons, cutR_at, oNone_at, oSome_at, dTup_at, dLst_at, dB_at, boolD_b, dNot_at, dAnd_at, dOr_at, dIfE_at, dAndV_at, dOrV_at, dNotV_at, dSeq_at, dsq_nx, dsq_rt, dsq_bk, dsq_ct, dsq_ex, sNx_at, sBk_at, sCt_at, sExpr_at, sRet_at, sRetO_at, sRetN_at, sRetV_at, retS_d, retS_o, sSet_at, sSetO_at, sIf_at, ownV_o, msNil_at, msD_at, msO_at, msR_at, gRo_some, sPar_at, setRs_nil, setRs_d, setRs_o, callP_at, callK_at, argO_some, callM_at, outR_ret, outR_ex, argD_nil, argD_v, argD_p, argD_m, argD_vn, argD_vs, Option.some.injEq, Nat.reduceEqDiff, mIx_m, mIx_v, mIx_p, mIx_nil, putM_none, putM_some, putO_o, call1_at, rD_at, rtD_d, rtD_o, rO_at, rtO_o, sExprR_at, sRetR_at, sSetR_at, setS_d, setS_o, runF_at, outF_nx, outF_rt, mOut_some, muOf_nil, muOf_m, muOf_v, muOf_p, chk_some, sSub_at, subS0, subS1, mutS_some, mutP_some, dMut_at, mixR_at, dChain_at, dRep_at, intD_i, rg1_at, rg2_at, dLstRg_go, rgL_ok, dTupRg_go, rgT_ok, dTupRg3_go, rgT3_ok, rgO1_ok, rgO2_ok, rgO3_ok, sm0, sm1, dIndexT_at, seqS_d, seqS_a, seqS_o, seqD_l, seqD_t, itR_d, itR_s, iV_at, iO_at, iR1_go, iR2_go, iR3_go, iEnV_at, iEnO_at, sFor_at, compL_at, fAdd_i, fSub_i, fLt_i, fLe_i, fGt_i, fGe_i, fDiv_33, fPow_64, fPow_33, fPow_18, fNeg_i, fLen_l, fLen_t, fInt_i, fTuple_l, fList_l, fMax_2, fMin_2, fIx_l0, fIx_l1, fIx_l2, fEq_i, start0, svs, svK, svA, List.length_cons, List.length_nil, List.replicate, List.append_nil, List.cons_append, List.nil_append, List.getElem?_cons_zero, List.getElem?_cons_succ, List.set_cons_zero, List.set_cons_succ, Bool.not_true, Bool.not_false, decide_true, decide_false, ne_eq, not_false_eq_true, Nat.reduceAdd, Nat.reduceSub, fMul_take, fMul_7919, fMul_31, Nat.reduceLT, Int.reduceLT, Int.reduceEq, fMod_i, fDiv_i, bdz_ok, setT_nm, fgt_nil, fgt_cons, wipG_nil, wipG_cons, sz1, sz2, sz3, sz4, sz5, Nat.zero_le, fIs_ii, fIs_ib, fIs_is, fIs_itl, fIs_tt, fIs_tl, fIs_ttl, fIs_lt, fIs_ll, fIs_ltl, fAll_b, fSum_i, fBack_t, fBackL_l, hc']
  have ed : (Pp (mi p)).map (fun c => ti (mi c)) = ((Pp (mi p)).map mi).map ti := by rw [List.map_map]; rfl
  rw [ed] at hd
  unfold φ_skew_parts m_skew_parts φ_parts_of_skew m_parts_of_skew
  simp only [bnd_at, rt_at, thn_ok, thn_ex, oRo_some, oMap_some, brn_t, brn_f, dName_at, slR_d, slR_a, slR_o, vl_d, vl_s, slV_d, slV_a, slV_o, dv_at, dEsc_at, esc_d, esc_s, escS_d, escS_o, dFz_at, dC_at, dNil_at, dCons_at, vNil_at, vCons_at, op2_at, op2r_at, op1_at, op1o_at, opN_at, opNo_at, vls_nil, vls_cons, cutR_at, oNone_at, oSome_at, dTup_at, dLst_at, dB_at, boolD_b, dNot_at, dAnd_at, dOr_at, dIfE_at, dAndV_at, dOrV_at, dNotV_at, dSeq_at, dsq_nx, dsq_rt, dsq_bk, dsq_ct, dsq_ex, sNx_at, sBk_at, sCt_at, sExpr_at, sRet_at, sRetO_at, sRetN_at, sRetV_at, retS_d, retS_o, sSet_at, sSetO_at, sIf_at, ownV_o, msNil_at, msD_at, msO_at, msR_at, gRo_some, sPar_at, setRs_nil, setRs_d, setRs_o, callP_at, callK_at, argO_some, callM_at, outR_ret, outR_ex, argD_nil, argD_v, argD_p, argD_m, argD_vn, argD_vs, Option.some.injEq, Nat.reduceEqDiff, mIx_m, mIx_v, mIx_p, mIx_nil, putM_none, putM_some, putO_o, call1_at, rD_at, rtD_d, rtD_o, rO_at, rtO_o, sExprR_at, sRetR_at, sSetR_at, setS_d, setS_o, runF_at, outF_nx, outF_rt, mOut_some, muOf_nil, muOf_m, muOf_v, muOf_p, chk_some, sSub_at, subS0, subS1, mutS_some, mutP_some, dMut_at, mixR_at, dChain_at, dRep_at, intD_i, rg1_at, rg2_at, dLstRg_go, rgL_ok, dTupRg_go, rgT_ok, dTupRg3_go, rgT3_ok, rgO1_ok, rgO2_ok, rgO3_ok, sm0, sm1, dIndexT_at, seqS_d, seqS_a, seqS_o, seqD_l, seqD_t, itR_d, itR_s, iV_at, iO_at, iR1_go, iR2_go, iR3_go, iEnV_at, iEnO_at, sFor_at, compL_at, fAdd_i, fSub_i, fLt_i, fLe_i, fGt_i, fGe_i, fDiv_33, fPow_64, fPow_33, fPow_18, fNeg_i, fLen_l, fLen_t, fInt_i, fTuple_l, fList_l, fMax_2, fMin_2, fIx_l0, fIx_l1, fIx_l2, fEq_i, start0, svs, svK, svA, List.length_cons, List.length_nil, List.replicate, List.append_nil, List.cons_append, List.nil_append, List.getElem?_cons_zero, List.getElem?_cons_succ, List.set_cons_zero, List.set_cons_succ, Bool.not_true, Bool.not_false, decide_true, decide_false, ne_eq, not_false_eq_true, Nat.reduceAdd, Nat.reduceSub, fMul_take, fMul_7919, fMul_31, Nat.reduceLT, Int.reduceLT, Int.reduceEq, fMod_i, fDiv_i, bdz_ok, setT_nm, fgt_nil, fgt_cons, wipG_nil, wipG_cons, sz1, sz2, sz3, sz4, sz5, Nat.zero_le, fIs_ii, fIs_ib, fIs_is, fIs_itl, fIs_tt, fIs_tl, fIs_ttl, fIs_lt, fIs_ll, fIs_ltl, fAll_b, fSum_i, fBack_t, fBackL_l, check_order_ok p ip (by omega), List.length_map, hc, parts_of_sum_ok (mi p) (isOrd_mi ip) (by rw [mi_len]; exact hp), hd]
end Ck04
set_option Elab.async false
set_option linter.all false
set_option maxRecDepth 100000
set_option autoImplicit false
set_option maxHeartbeats 2000000
namespace Ck04
open PySem PySem.Spec PyProof.Rows L2 Z
abbrev spIn : M Fl := (dSeq (sSet 7 (dIfE (dB (dEsc (dName 1))) (dFz (dLstRg (rg2 (dv (rD (op2r fAdd fCat (dv (op2 fSub (dName 5) (dName 6))) (dv (dC (.int 1)))))) (dv (rD (op2r fAdd fCat (dName 5) (dv (dC (.int 1))))))))) (dFz (dLstRg (rg2 (dv (dC (.int 1))) (dv (rD (op2r fAdd fCat (dName 6) (dv (dC (.int 1)))))))))))
    (sIf (dB (op2 fEq (dv (dFz (opNo fSorted (vCons (dv (rD (cutR (dName 3) oNone (oSome (dEsc (dName 6)))))) vNil)))) (dName 7))) (dSeq (sExpr (dMut 2 mAppend (dCons (rD (callP [.v] φ__law_like (vCons (dv (rD (cutR (dName 3) oNone (oSome (dEsc (dName 6)))))) vNil))) dNil)))
    (dSeq (sSetR 3 (callP [.v] φ__law_like (vCons (dv (rD (cutR (dName 3) (oSome (dEsc (dName 6))) oNone))) vNil)))
    sBk)) sNx))
abbrev spBody : M Fl := (dSeq (sSet 5 (opN fLen (vCons (dName 3) vNil)))
    (sFor (.nm 6) [6, 7] (iR2 (vCons (dv (dC (.int 1))) (vCons (dv (rD (op2r fAdd fCat (dName 5) (dv (dC (.int 1)))))) vNil))) spIn))
theorem like_t_ok (c : List Int) (h : c.length ≤ 900) : φ__law_like [ti c] = .ret (.d (ti (like c))) [] := by
  have hc := compB_one (i := 2) (enc := PyData.int) (f := fun y => .int (1 + ((c.filter fun x => decide (x < y)).length : Int))) (me := rD (op2r fAdd fCat (dv (dC (.int 1))) (dv (opN fLen (vCons (dv (dFz (compL [1] (.nm 1) (iV (dName 0)) (dB (op2 fLt (dName 1) (dName 2))) (dEsc (dName 1))))) vNil)))))
    (g := [.d (ti c), .u, .u]) c (by omega) rfl fun y hy => by
      have hi := compB_fil (i := 1) (enc := PyData.int) (f := fun x => .int x) (p := fun x => decide (x < y)) (mt := dB (op2 fLt (dName 1) (dName 2))) (me := dEsc (dName 1)) (g := [.d (ti c), .u, .d (.int y)]) c (by omega) rfl fun x hx => ⟨by simp only [bnd_at, rt_at, thn_ok, thn_ex, oRo_some, oMap_some, brn_t, brn_f, dName_at, slR_d, slR_a, slR_o, vl_d, vl_s, slV_d, slV_a, slV_o, dv_at, dEsc_at, esc_d, esc_s, escS_d, escS_o, dFz_at, dC_at, dNil_at, dCons_at, vNil_at, vCons_at, op2_at, op2r_at, op1_at, op1o_at, opN_at, opNo_at, vls_nil, vls_cons, cutR_at, oNone_at, oSome_at, dTup_at, dLst_at, dB_at, boolD_b, dNot_at, dAnd_at, dOr_at, dIfE_at, dAndV_at, dOrV_at, dNotV_at, dSeq_at, dsq_nx, dsq_rt, dsq_bk, dsq_ct, dsq_ex, sNx_at, sBk_at, sCt_at, sExpr_at, sRet_at, sRetO_at, sRetN_at, sRetV_at, retS_d, retS_o, sSet_at, sSetO_at, sIf_at, ownV_o, msNil_at, msD_at, msO_at, msR_at, gRo_some, sPar_at, setRs_nil, setRs_d, setRs_o, callP_at, callK_at, argO_some, callM_at, outR_ret, outR_ex, argD_nil, argD_v, argD_p, argD_m, argD_vn, argD_vs, Option.some.injEq, Nat.reduceEqDiff, mIx_m, mIx_v, mIx_p, mIx_nil, putM_none, putM_some, putO_o, call1_at, rD_at, rtD_d, rtD_o, rO_at, rtO_o, sExprR_at, sRetR_at, sSetR_at, setS_d, setS_o, runF_at, outF_nx, outF_rt, mOut_some, muOf_nil, muOf_m, muOf_v, muOf_p, chk_some, sSub_at, subS0, subS1, mutS_some, mutP_some, dMut_at, mixR_at, dChain_at, dRep_at, intD_i, rg1_at, rg2_at, dLstRg_go, rgL_ok, dTupRg_go, rgT_ok, dTupRg3_go, rgT3_ok, rgO1_ok, rgO2_ok, rgO3_ok, sm0, sm1, dIndexT_at, seqS_d, seqS_a, seqS_o, seqD_l, seqD_t, itR_d, itR_s, iV_at, iO_at, iR1_go, iR2_go, iR3_go, iEnV_at, iEnO_at, sFor_at, compL_at, fAdd_i, fSub_i, fLt_i, fLe_i, fGt_i, fGe_i, fDiv_33, fPow_64, fPow_33, fPow_18, fNeg_i, fLen_l, fLen_t, fInt_i, fTuple_l, fList_l, fMax_2, fMin_2, fIx_l0, fIx_l1, fIx_l2, fEq_i, start0, svs, svK, svA, List.length_cons, List.length_nil, List.replicate, List.append_nil, List.cons_append, List.nil_append, List.getElem?_cons_zero, List.getElem?_cons_succ, List.set_cons_zero, List.set_cons_succ, Bool.not_true, Bool.not_false, decide_true, decide_false, ne_eq, not_false_eq_true, Nat.reduceAdd, Nat.reduceSub, fMul_take, fMul_7919, fMul_31, Nat.reduceLT, Int.reduceLT, Int.reduceEq, fMod_i, fDiv_i, bdz_ok, setT_nm, fgt_nil, fgt_cons, wipG_nil, wipG_cons, sz1, sz2, sz3, sz4, sz5, Nat.zero_le, fIs_ii, fIs_ib, fIs_is, fIs_itl, fIs_tt, fIs_tl, fIs_ttl, fIs_lt, fIs_ll, fIs_ltl, fAll_b, fSum_i, fBack_t, fBackL_l], fun _ => by simp only [bnd_at, rt_at, thn_ok, thn_ex, oRo_some, oMap_some, brn_t, brn_f, dName_at, slR_d, slR_a, slR_o, vl_d, vl_s, slV_d, slV_a, slV_o, dv_at, dEsc_at, esc_d, esc_s, escS_d, escS_o, dFz_at, dC_at, dNil_at, dCons_at, vNil_at, vCons_at, op2_at, op2r_at, op1_at, op1o_at, opN_at, opNo_at, vls_nil, vls_cons, cutR_at, oNone_at, oSome_at, dTup_at, dLst_at, dB_at, boolD_b, dNot_at, dAnd_at, dOr_at, dIfE_at, dAndV_at, dOrV_at, dNotV_at, dSeq_at, dsq_nx, dsq_rt, dsq_bk, dsq_ct, dsq_ex, sNx_at, sBk_at, sCt_at, sExpr_at, sRet_at, sRetO_at, sRetN_at, sRetV_at, retS_d, retS_o, sSet_at, sSetO_at, sIf_at, ownV_o, msNil_at, msD_at, msO_at, msR_at, gRo_some, sPar_at, setRs_nil, setRs_d, setRs_o, callP_at, callK_at, argO_some, callM_at, outR_ret, outR_ex, argD_nil, argD_v, argD_p, argD_m, argD_vn, argD_vs, Option.some.injEq, Nat.reduceEqDiff, mIx_m, mIx_v, mIx_p, mIx_nil, putM_none, putM_some, putO_o, call1_at, rD_at, rtD_d, rtD_o, rO_at, rtO_o, sExprR_at, sRetR_at, sSetR_at, setS_d, setS_o, runF_at, outF_nx, outF_rt, mOut_some, muOf_nil, muOf_m, muOf_v, muOf_p, chk_some, sSub_at, subS0, subS1, mutS_some, mutP_some, dMut_at, mixR_at, dChain_at, dRep_at, intD_i, rg1_at, rg2_at, dLstRg_go, rgL_ok, dTupRg_go, rgT_ok, dTupRg3_go, rgT3_ok, rgO1_ok, rgO2_ok, rgO3_ok, sm0, sm1, dIndexT_at, seqS_d, seqS_a, seqS_o, seqD_l, seqD_t, itR_d, itR_s, iV_at, iO_at, iR1_go, iR2_go, iR3_go, iEnV_at, iEnO_at, sFor_at, compL_at, fAdd_i, fSub_i, fLt_i, fLe_i, fGt_i, fGe_i, fDiv_33, fPow_64, fPow_33, fPow_18, fNeg_i, fLen_l, fLen_t, fInt_i, fTuple_l, fList_l, fMax_2, fMin_2, fIx_l0, fIx_l1, fIx_l2, fEq_i, start0, svs, svK, svA, List.length_cons, List.length_nil, List.replicate, List.append_nil, List.cons_append, List.nil_append, List.getElem?_cons_zero, List.getElem?_cons_succ, List.set_cons_zero, List.set_cons_succ, Bool.not_true, Bool.not_false, decide_true, decide_false, ne_eq, not_false_eq_true, Nat.reduceAdd, Nat.reduceSub, fMul_take, fMul_7919, fMul_31, Nat.reduceLT, Int.reduceLT, Int.reduceEq, fMod_i, fDiv_i, bdz_ok, setT_nm, fgt_nil, fgt_cons, wipG_nil, wipG_cons, sz1, sz2, sz3, sz4, sz5, Nat.zero_le, fIs_ii, fIs_ib, fIs_is, fIs_itl, fIs_tt, fIs_tl, fIs_ttl, fIs_lt, fIs_ll, fIs_ltl, fAll_b, fSum_i, fBack_t, fBackL_l]⟩
      simp only [bnd_at, rt_at, thn_ok, thn_ex, oRo_some, oMap_some, brn_t, brn_f, dName_at, slR_d, slR_a, slR_o, vl_d, vl_s, slV_d, slV_a, slV_o, dv_at, dEsc_at, esc_d, esc_s, escS_d, escS_o, dFz_at, dC_at, dNil_at, dCons_at, vNil_at, vCons_at, op2_at, op2r_at, op1_at, op1o_at, opN_at, opNo_at, vls_nil, vls_cons, cutR_at, oNone_at, oSome_at, dTup_at, dLst_at, dB_at, boolD_b, dNot_at, dAnd_at, dOr_at, dIfE_at, dAndV_at, dOrV_at, dNotV_at, dSeq_at, dsq_nx, dsq_rt, dsq_bk, dsq_ct, dsq_ex, sNx_at, sBk_at, sCt_at, sExpr_at, sRet_at, sRetO_at, sRetN_at, sRetV_at, retS_d, retS_o, sSet_at, sSetO_at, sIf_at, ownV_o, msNil_at, msD_at, msO_at, msR_at, gRo_some, sPar_at, setRs_nil, setRs_d, setRs_o, callP_at, callK_at, argO_some, callM_at, outR_ret, outR_ex, argD_nil, argD_v, argD_p, argD_m, argD_vn, argD_vs, Option.some.injEq, Nat.reduceEqDiff, mIx_m, mIx_v, mIx_p, mIx_nil, putM_none, putM_some, putO_o, call1_at, rD_at, rtD_d, rtD_o, rO_at, rtO_o, sExprR_at, sRetR_at, sSetR_at, setS_d, setS_o, runF_at, outF_nx, outF_rt, mOut_some, muOf_nil, muOf_m, muOf_v, muOf_p, chk_some, sSub_at, subS0, subS1, mutS_some, mutP_some, dMut_at, mixR_at, dChain_at, dRep_at, intD_i, rg1_at, rg2_at, dLstRg_go, rgL_ok, dTupRg_go, rgT_ok, dTupRg3_go, rgT3_ok, rgO1_ok, rgO2_ok, rgO3_ok, sm0, sm1, dIndexT_at, seqS_d, seqS_a, seqS_o, seqD_l, seqD_t, itR_d, itR_s, iV_at, iO_at, iR1_go, iR2_go, iR3_go, iEnV_at, iEnO_at, sFor_at, compL_at, fAdd_i, fSub_i, fLt_i, fLe_i, fGt_i, fGe_i, fDiv_33, fPow_64, fPow_33, fPow_18, fNeg_i, fLen_l, fLen_t, fInt_i, fTuple_l, fList_l, fMax_2, fMin_2, fIx_l0, fIx_l1, fIx_l2, fEq_i, start0, svs, svK, svA, List.length_cons, List.length_nil, List.replicate, List.append_nil, List.cons_append, List.nil_append, List.getElem?_cons_zero, List.getElem?_cons_succ, List.set_cons_zero, List.set_cons_succ, Bool.not_true, Bool.not_false, decide_true, decide_false, ne_eq, not_false_eq_true, Nat.reduceAdd, Nat.reduceSub, fMul_take, fMul_7919, fMul_31, Nat.reduceLT, Int.reduceLT, Int.reduceEq, fMod_i, fDiv_i, bdz_ok, setT_nm, fgt_nil, fgt_cons, wipG_nil, wipG_cons, sz1, sz2, sz3, sz4, sz5, Nat.zero_le, fIs_ii, fIs_ib, fIs_is, fIs_itl, fIs_tt, fIs_tl, fIs_ttl, fIs_lt, fIs_ll, fIs_ltl, fAll_b, fSum_i, fBack_t, fBackL_l, hi, List.length_map]
  have e : c.map (fun y => PyData.int (1 + ((c.filter fun x => decide (x < y)).length : Int))) = (like c).map .int := by simp [like]
  rw [e] at hc
  unfold φ__law_like m__law_like
  simp only [bnd_at, rt_at, thn_ok, thn_ex, oRo_some, oMap_some, brn_t, brn_f, dName_at, slR_d, slR_a, slR_o, vl_d, vl_s, slV_d, slV_a, slV_o, dv_at, dEsc_at, esc_d, esc_s, escS_d, escS_o, dFz_at, dC_at, dNil_at, dCons_at, vNil_at, vCons_at, op2_at, op2r_at, op1_at, op1o_at, opN_at, opNo_at, vls_nil, vls_cons, cutR_at, oNone_at, oSome_at, dTup_at, dLst_at, dB_at, boolD_b, dNot_at, dAnd_at, dOr_at, dIfE_at, dAndV_at, dOrV_at, dNotV_at, dSeq_at, dsq_nx, dsq_rt, dsq_bk, dsq_ct, dsq_ex, sNx_at, sBk_at, sCt_at, sExpr_at, sRet_at, sRetO_at, sRetN_at, sRetV_at, retS_d, retS_o, sSet_at, sSetO_at, sIf_at, ownV_o, msNil_at, msD_at, msO_at, msR_at, gRo_some, sPar_at, setRs_nil, setRs_d, setRs_o, callP_at, callK_at, argO_some, callM_at, outR_ret, outR_ex, argD_nil, argD_v, argD_p, argD_m, argD_vn, argD_vs, Option.some.injEq, Nat.reduceEqDiff, mIx_m, mIx_v, mIx_p, mIx_nil, putM_none, putM_some, putO_o, call1_at, rD_at, rtD_d, rtD_o, rO_at, rtO_o, sExprR_at, sRetR_at, sSetR_at, setS_d, setS_o, runF_at, outF_nx, outF_rt, mOut_some, muOf_nil, muOf_m, muOf_v, muOf_p, chk_some, sSub_at, subS0, subS1, mutS_some, mutP_some, dMut_at, mixR_at, dChain_at, dRep_at, intD_i, rg1_at, rg2_at, dLstRg_go, rgL_ok, dTupRg_go, rgT_ok, dTupRg3_go, rgT3_ok, rgO1_ok, rgO2_ok, rgO3_ok, sm0, sm1, dIndexT_at, seqS_d, seqS_a, seqS_o, seqD_l, seqD_t, itR_d, itR_s, iV_at, iO_at, iR1_go, iR2_go, iR3_go, iEnV_at, iEnO_at, sFor_at, compL_at, fAdd_i, fSub_i, fLt_i, fLe_i, fGt_i, fGe_i, fDiv_33, fPow_64, fPow_33, fPow_18, fNeg_i, fLen_l, fLen_t, fInt_i, fTuple_l, fList_l, fMax_2, fMin_2, fIx_l0, fIx_l1, fIx_l2, fEq_i, start0, svs, svK, svA, List.length_cons, List.length_nil, List.replicate, List.append_nil, List.cons_append, List.nil_append, List.getElem?_cons_zero, List.getElem?_cons_succ, List.set_cons_zero, List.set_cons_succ, Bool.not_true, Bool.not_false, decide_true, decide_false, ne_eq, not_false_eq_true, Nat.reduceAdd, Nat.reduceSub, fMul_take, fMul_7919, fMul_31, Nat.reduceLT, Int.reduceLT, Int.reduceEq, fMod_i, fDiv_i, bdz_ok, setT_nm, fgt_nil, fgt_cons, wipG_nil, wipG_cons, sz1, sz2, sz3, sz4, sz5, Nat.zero_le, fIs_ii, fIs_ib, fIs_is, fIs_itl, fIs_tt, fIs_tl, fIs_ttl, fIs_lt, fIs_ll, fIs_ltl, fAll_b, fSum_i, fBack_t, fBackL_l, hc]
theorem spIn_due (k : Bool) (n t : Nat) (h1 : 1 ≤ t) (h2 : t ≤ n) (hn : n ≤ 100) (g : List SV) (a b c d e : SV) : (dIfE (dB (dEsc (dName 1))) (dFz (dLstRg (rg2 (dv (rD (op2r fAdd fCat (dv (op2 fSub (dName 5) (dName 6))) (dv (dC (.int 1)))))) (dv (rD (op2r fAdd fCat (dName 5) (dv (dC (.int 1))))))))) (dFz (dLstRg (rg2 (dv (dC (.int 1))) (dv (rD (op2r fAdd fCat (dName 6) (dv (dC (.int 1)))))))))) [a, .d (.bool k), b, c, d, .d (.int n), .d (.int t), .u] = .ok (li (due k n t)) [a, .d (.bool k), b, c, d, .d (.int n), .d (.int t), .u] := by
  have q1 : Sm ((n : Int) - t + 1) := sm_of (by omega) (by omega)
  have q2 : Sm ((n : Int) + 1) := sm_of (by omega) (by omega)
  have q3 : Sm ((t : Int) + 1) := sm_of (by omega) (by omega)
  have r1 : ((n : Int) + 1 - ((n : Int) - t + 1)).toNat = t := by omega
  have r2 : ((t : Int) + 1 - 1).toNat = t := by omega
  cases k with
  | true => simp only [bnd_at, rt_at, thn_ok, thn_ex, oRo_some, oMap_some, brn_t, brn_f, dName_at, slR_d, slR_a, slR_o, vl_d, vl_s, slV_d, slV_a, slV_o, dv_at, dEsc_at, esc_d, esc_s, escS_d, escS_o, dFz_at, dC_at, dNil_at, dCons_at, vNil_at, vCons_at, op2_at, op2r_at, op1_at, op1o_at, opN_at, opNo_at, vls_nil, vls_cons, cutR_at, oNone_at, oSome_at, dTup_at, dLst_at, dB_at, boolD_b, dNot_at, dAnd_at, dOr_at, dIfE_at, dAndV_at, dOrV_at, dNotV_at, dSeq_at, dsq_nx, dsq_rt, dsq_bk, dsq_ct, dsq_ex, sNx_at, sBk_at, sCt_at, sExpr_at, sRet_at, sRetO_at, sRetN_at, sRetV_at, retS_d, retS_o, sSet_at, sSetO_at, sIf_at, ownV_o, msNil_at, msD_at, msO_at, msR_at, gRo_some, sPar_at, setRs_nil, setRs_d, setRs_o, callP_at, callK_at, argO_some, callM_at, outR_ret, outR_ex, argD_nil, argD_v, argD_p, argD_m, argD_vn, argD_vs, Option.some.injEq, Nat.reduceEqDiff, mIx_m, mIx_v, mIx_p, mIx_nil, putM_none, putM_some, putO_o, call1_at, rD_at, rtD_d, rtD_o, rO_at, rtO_o, sExprR_at, sRetR_at, sSetR_at, setS_d, setS_o, runF_at, outF_nx, outF_rt, mOut_some, muOf_nil, muOf_m, muOf_v, muOf_p, chk_some, sSub_at, subS0, subS1, mutS_some, mutP_some, dMut_at, mixR_at, dChain_at, dRep_at, intD_i, rg1_at, rg2_at, dLstRg_go, rgL_ok, dTupRg_go, rgT_ok, dTupRg3_go, rgT3_ok, rgO1_ok, rgO2_ok, rgO3_ok, sm0, sm1, dIndexT_at, seqS_d, seqS_a, seqS_o, seqD_l, seqD_t, itR_d, itR_s, iV_at, iO_at, iR1_go, iR2_go, iR3_go, iEnV_at, iEnO_at, sFor_at, compL_at, fAdd_i, fSub_i, fLt_i, fLe_i, fGt_i, fGe_i, fDiv_33, fPow_64, fPow_33, fPow_18, fNeg_i, fLen_l, fLen_t, fInt_i, fTuple_l, fList_l, fMax_2, fMin_2, fIx_l0, fIx_l1, fIx_l2, fEq_i, start0, svs, svK, svA, List.length_cons, List.length_nil, List.replicate, List.append_nil, List.cons_append, List.nil_append, List.getElem?_cons_zero, List.getElem?_cons_succ, List.set_cons_zero, List.set_cons_succ, Bool.not_true, Bool.not_false, decide_true, decide_false, ne_eq, not_false_eq_true, Nat.reduceAdd, Nat.reduceSub, fMul_take, fMul_7919, fMul_31, Nat.reduceLT, Int.reduceLT, Int.reduceEq, fMod_i, fDiv_i, bdz_ok, setT_nm, fgt_nil, fgt_cons, wipG_nil, wipG_cons, sz1, sz2, sz3, sz4, sz5, Nat.zero_le, fIs_ii, fIs_ib, fIs_is, fIs_itl, fIs_tt, fIs_tl, fIs_ttl, fIs_lt, fIs_ll, fIs_ltl, fAll_b, fSum_i, fBack_t, fBackL_l, q1, q2, r1, due]; rfl
  | false => simp only [bnd_at, rt_at, thn_ok, thn_ex, oRo_some, oMap_some, brn_t, brn_f, dName_at, slR_d, slR_a, slR_o, vl_d, vl_s, slV_d, slV_a, slV_o, dv_at, dEsc_at, esc_d, esc_s, escS_d, escS_o, dFz_at, dC_at, dNil_at, dCons_at, vNil_at, vCons_at, op2_at, op2r_at, op1_at, op1o_at, opN_at, opNo_at, vls_nil, vls_cons, cutR_at, oNone_at, oSome_at, dTup_at, dLst_at, dB_at, boolD_b, dNot_at, dAnd_at, dOr_at, dIfE_at, dAndV_at, dOrV_at, dNotV_at, dSeq_at, dsq_nx, dsq_rt, dsq_bk, dsq_ct, dsq_ex, sNx_at, sBk_at, sCt_at, sExpr_at, sRet_at, sRetO_at, sRetN_at, sRetV_at, retS_d, retS_o, sSet_at, sSetO_at, sIf_at, ownV_o, msNil_at, msD_at, msO_at, msR_at, gRo_some, sPar_at, setRs_nil, setRs_d, setRs_o, callP_at, callK_at, argO_some, callM_at, outR_ret, outR_ex, argD_nil, argD_v, argD_p, argD_m, argD_vn, argD_vs, Option.some.injEq, Nat.reduceEqDiff, mIx_m, mIx_v, mIx_p, mIx_nil, putM_none, putM_some, putO_o, call1_at, rD_at, rtD_d, rtD_o, rO_at, rtO_o, sExprR_at, sRetR_at, sSetR_at, setS_d, setS_o, runF_at, outF_nx, outF_rt, mOut_some, muOf_nil, muOf_m, muOf_v, muOf_p, chk_some, sSub_at, subS0, subS1, mutS_some, mutP_some, dMut_at, mixR_at, dChain_at, dRep_at, intD_i, rg1_at, rg2_at, dLstRg_go, rgL_ok, dTupRg_go, rgT_ok, dTupRg3_go, rgT3_ok, rgO1_ok, rgO2_ok, rgO3_ok, sm0, sm1, dIndexT_at, seqS_d, seqS_a, seqS_o, seqD_l, seqD_t, itR_d, itR_s, iV_at, iO_at, iR1_go, iR2_go, iR3_go, iEnV_at, iEnO_at, sFor_at, compL_at, fAdd_i, fSub_i, fLt_i, fLe_i, fGt_i, fGe_i, fDiv_33, fPow_64, fPow_33, fPow_18, fNeg_i, fLen_l, fLen_t, fInt_i, fTuple_l, fList_l, fMax_2, fMin_2, fIx_l0, fIx_l1, fIx_l2, fEq_i, start0, svs, svK, svA, List.length_cons, List.length_nil, List.replicate, List.append_nil, List.cons_append, List.nil_append, List.getElem?_cons_zero, List.getElem?_cons_succ, List.set_cons_zero, List.set_cons_succ, Bool.not_true, Bool.not_false, decide_true, decide_false, ne_eq, not_false_eq_true, Nat.reduceAdd, Nat.reduceSub, fMul_take, fMul_7919, fMul_31, Nat.reduceLT, Int.reduceLT, Int.reduceEq, fMod_i, fDiv_i, bdz_ok, setT_nm, fgt_nil, fgt_cons, wipG_nil, wipG_cons, sz1, sz2, sz3, sz4, sz5, Nat.zero_le, fIs_ii, fIs_ib, fIs_is, fIs_itl, fIs_tt, fIs_tl, fIs_ttl, fIs_lt, fIs_ll, fIs_ltl, fAll_b, fSum_i, fBack_t, fBackL_l, q3, r2, due]; rfl
theorem split_ok (p : List Int) (ip : IsOrd p) (hp : p.length ≤ 100) (k : Bool) : φ__law_split [ti p, .bool k] = .ret (.d (.tuple ((spl k p).map ti))) [] := by
  obtain ⟨g', e1, i, r, F, h1, h2, h3, h4, h5, h6⟩ := forG_inv (t := .nm 4) (ms := [4, 5, 6, 7]) (b := spBody) ((irange 0 p.length).map .int)
    (fun l g => ∃ (i : Nat) (r : List Int) (F : List (List Int)), l = (irange i (p.length - i)).map .int ∧ IsOrd r ∧ r.length ≤ p.length - i ∧ F.length ≤ i ∧ F ++ spl k r = spl k p ∧
      g = [.d (ti p), .d (.bool k), .own false (F.map ti), .d (ti r), .u, .u, .u, .u])
    [.d (ti p), .d (.bool k), .own false [], .d (ti p), .u, .u, .u, .u] ⟨0, p, [], rfl, ip, Nat.le_refl _, Nat.le_refl _, rfl, rfl⟩ (by
      rintro x l g ⟨i, r, F, h1, h2, h3, h4, h5, rfl⟩ _
      have hlt : i < p.length := by
        have := congrArg List.length h1
        rw [List.length_map, irange_len, List.length_cons] at this
        omega
      rw [show p.length - i = (p.length - i - 1) + 1 by omega, irange_succ, List.map_cons] at h1
      injection h1 with hx hr
      subst hx
      have hl : l = (irange ((i + 1 : Nat) : Int) (p.length - (i + 1))).map .int := by rw [hr]; congr 2
      have hs1 : Sm ((r.length : Int) + 1) := sm_of (by omega) (by omega)
      have hs2 : ((r.length : Int) + 1 - 1).toNat = r.length := by omega
      by_cases hne : r = []
      · subst hne
        refine ⟨[.d (ti p), .d (.bool k), .own false (F.map ti), .d (ti []), .d (.int i), .u, .u, .u], [.d (ti p), .d (.bool k), .own false (F.map ti), .d (ti []), .d (.int i), .d (.int 0), .u, .u], by simp only [bnd_at, rt_at, thn_ok, thn_ex, oRo_some, oMap_some, brn_t, brn_f, dName_at, slR_d, slR_a, slR_o, vl_d, vl_s, slV_d, slV_a, slV_o, dv_at, dEsc_at, esc_d, esc_s, escS_d, escS_o, dFz_at, dC_at, dNil_at, dCons_at, vNil_at, vCons_at, op2_at, op2r_at, op1_at, op1o_at, opN_at, opNo_at, vls_nil, vls_cons, cutR_at, oNone_at, oSome_at, dTup_at, dLst_at, dB_at, boolD_b, dNot_at, dAnd_at, dOr_at, dIfE_at, dAndV_at, dOrV_at, dNotV_at, dSeq_at, dsq_nx, dsq_rt, dsq_bk, dsq_ct, dsq_ex, sNx_at, sBk_at, sCt_at, sExpr_at, sRet_at, sRetO_at, sRetN_at, sRetV_at, retS_d, retS_o, sSet_at, sSetO_at, sIf_at, ownV_o, msNil_at, msD_at, msO_at, msR_at, gRo_some, sPar_at, setRs_nil, setRs_d, setRs_o, callP_at, callK_at, argO_some, callM_at, outR_ret, outR_ex, argD_nil, argD_v, argD_p, argD_m, argD_vn, argD_vs, Option.some.injEq, Nat.reduceEqDiff, mIx_m, mIx_v, mIx_p, mIx_nil, putM_none, putM_some, putO_o, call1_at, rD_at, rtD_d, rtD_o, rO_at, rtO_o, sExprR_at, sRetR_at, sSetR_at, setS_d, setS_o, runF_at, outF_nx, outF_rt, mOut_some, muOf_nil, muOf_m, muOf_v, muOf_p, chk_some, sSub_at, subS0, subS1, mutS_some, mutP_some, dMut_at, mixR_at, dChain_at, dRep_at, intD_i, rg1_at, rg2_at, dLstRg_go, rgL_ok, dTupRg_go, rgT_ok, dTupRg3_go, rgT3_ok, rgO1_ok, rgO2_ok, rgO3_ok, sm0, sm1, dIndexT_at, seqS_d, seqS_a, seqS_o, seqD_l, seqD_t, itR_d, itR_s, iV_at, iO_at, iR1_go, iR2_go, iR3_go, iEnV_at, iEnO_at, sFor_at, compL_at, fAdd_i, fSub_i, fLt_i, fLe_i, fGt_i, fGe_i, fDiv_33, fPow_64, fPow_33, fPow_18, fNeg_i, fLen_l, fLen_t, fInt_i, fTuple_l, fList_l, fMax_2, fMin_2, fIx_l0, fIx_l1, fIx_l2, fEq_i, start0, svs, svK, svA, List.length_cons, List.length_nil, List.replicate, List.append_nil, List.cons_append, List.nil_append, List.getElem?_cons_zero, List.getElem?_cons_succ, List.set_cons_zero, List.set_cons_succ, Bool.not_true, Bool.not_false, decide_true, decide_false, ne_eq, not_false_eq_true, Nat.reduceAdd, Nat.reduceSub, fMul_take, fMul_7919, fMul_31, Nat.reduceLT, Int.reduceLT, Int.reduceEq, fMod_i, fDiv_i, bdz_ok, setT_nm, fgt_nil, fgt_cons, wipG_nil, wipG_cons, sz1, sz2, sz3, sz4, sz5, Nat.zero_le, fIs_ii, fIs_ib, fIs_is, fIs_itl, fIs_tt, fIs_tl, fIs_ttl, fIs_lt, fIs_ll, fIs_ltl, fAll_b, fSum_i, fBack_t, fBackL_l], .inl ?_, i + 1, [], F, hl, isOrd_nil, Nat.zero_le _, by omega, h5, by simp only [bnd_at, rt_at, thn_ok, thn_ex, oRo_some, oMap_some, brn_t, brn_f, dName_at, slR_d, slR_a, slR_o, vl_d, vl_s, slV_d, slV_a, slV_o, dv_at, dEsc_at, esc_d, esc_s, escS_d, escS_o, dFz_at, dC_at, dNil_at, dCons_at, vNil_at, vCons_at, op2_at, op2r_at, op1_at, op1o_at, opN_at, opNo_at, vls_nil, vls_cons, cutR_at, oNone_at, oSome_at, dTup_at, dLst_at, dB_at, boolD_b, dNot_at, dAnd_at, dOr_at, dIfE_at, dAndV_at, dOrV_at, dNotV_at, dSeq_at, dsq_nx, dsq_rt, dsq_bk, dsq_ct, dsq_ex, sNx_at, sBk_at, sCt_at, sExpr_at, sRet_at, sRetO_at, sRetN_at, sRetV_at, retS_d, retS_o, sSet_at, sSetO_at, sIf_at, ownV_o, msNil_at, msD_at, msO_at, msR_at, gRo_some, sPar_at, setRs_nil, setRs_d, setRs_o, callP_at, callK_at, argO_some, callM_at, outR_ret, outR_ex, argD_nil, argD_v, argD_p, argD_m, argD_vn, argD_vs, Option.some.injEq, Nat.reduceEqDiff, mIx_m, mIx_v, mIx_p, mIx_nil, putM_none, putM_some, putO_o, call1_at, rD_at, rtD_d, rtD_o, rO_at, rtO_o, sExprR_at, sRetR_at, sSetR_at, setS_d, setS_o, runF_at, outF_nx, outF_rt, mOut_some, muOf_nil, muOf_m, muOf_v, muOf_p, chk_some, sSub_at, subS0, subS1, mutS_some, mutP_some, dMut_at, mixR_at, dChain_at, dRep_at, intD_i, rg1_at, rg2_at, dLstRg_go, rgL_ok, dTupRg_go, rgT_ok, dTupRg3_go, rgT3_ok, rgO1_ok, rgO2_ok, rgO3_ok, sm0, sm1, dIndexT_at, seqS_d, seqS_a, seqS_o, seqD_l, seqD_t, itR_d, itR_s, iV_at, iO_at, iR1_go, iR2_go, iR3_go, iEnV_at, iEnO_at, sFor_at, compL_at, fAdd_i, fSub_i, fLt_i, fLe_i, fGt_i, fGe_i, fDiv_33, fPow_64, fPow_33, fPow_18, fNeg_i, fLen_l, fLen_t, fInt_i, fTuple_l, fList_l, fMax_2, fMin_2, fIx_l0, fIx_l1, fIx_l2, fEq_i, start0, svs, svK, svA, List.length_cons, List.length_nil, List.replicate, List.append_nil, List.cons_append, List.nil_append, List.getElem?_cons_zero, List.getElem?_cons_succ, List.set_cons_zero, List.set_cons_succ, Bool.not_true, Bool.not_false, decide_true, decide_false, ne_eq, not_false_eq_true, Nat.reduceAdd, Nat.reduceSub, fMul_take, fMul_7919, fMul_31, Nat.reduceLT, Int.reduceLT, Int.reduceEq, fMod_i, fDiv_i, bdz_ok, setT_nm, fgt_nil, fgt_cons, wipG_nil, wipG_cons, sz1, sz2, sz3, sz4, sz5, Nat.zero_le, fIs_ii, fIs_ib, fIs_is, fIs_itl, fIs_tt, fIs_tl, fIs_ttl, fIs_lt, fIs_ll, fIs_ltl, fAll_b, fSum_i, fBack_t, fBackL_l]⟩
        have z0 : forG (.nm 6) [6, 7] spIn ((irange 1 0).map .int) [.d (ti p), .d (.bool k), .own false (F.map ti), .d (ti []), .d (.int i), .d (.int 0), .u, .u] = .ok .nx [.d (ti p), .d (.bool k), .own false (F.map ti), .d (ti []), .d (.int i), .d (.int 0), .u, .u] := rfl
        unfold spBody
        simp only [bnd_at, rt_at, thn_ok, thn_ex, oRo_some, oMap_some, brn_t, brn_f, dName_at, slR_d, slR_a, slR_o, vl_d, vl_s, slV_d, slV_a, slV_o, dv_at, dEsc_at, esc_d, esc_s, escS_d, escS_o, dFz_at, dC_at, dNil_at, dCons_at, vNil_at, vCons_at, op2_at, op2r_at, op1_at, op1o_at, opN_at, opNo_at, vls_nil, vls_cons, cutR_at, oNone_at, oSome_at, dTup_at, dLst_at, dB_at, boolD_b, dNot_at, dAnd_at, dOr_at, dIfE_at, dAndV_at, dOrV_at, dNotV_at, dSeq_at, dsq_nx, dsq_rt, dsq_bk, dsq_ct, dsq_ex, sNx_at, sBk_at, sCt_at, sExpr_at, sRet_at, sRetO_at, sRetN_at, sRetV_at, retS_d, retS_o, sSet_at, sSetO_at, sIf_at, ownV_o, msNil_at, msD_at, msO_at, msR_at, gRo_some, sPar_at, setRs_nil, setRs_d, setRs_o, callP_at, callK_at, argO_some, callM_at, outR_ret, outR_ex, argD_nil, argD_v, argD_p, argD_m, argD_vn, argD_vs, Option.some.injEq, Nat.reduceEqDiff, mIx_m, mIx_v, mIx_p, mIx_nil, putM_none, putM_some, putO_o, call1_at, rD_at, rtD_d, rtD_o, rO_at, rtO_o, sExprR_at, sRetR_at, sSetR_at, setS_d, setS_o, runF_at, outF_nx, outF_rt, mOut_some, muOf_nil, muOf_m, muOf_v, muOf_p, chk_some, sSub_at, subS0, subS1, mutS_some, mutP_some, dMut_at, mixR_at, dChain_at, dRep_at, intD_i, rg1_at, rg2_at, dLstRg_go, rgL_ok, dTupRg_go, rgT_ok, dTupRg3_go, rgT3_ok, rgO1_ok, rgO2_ok, rgO3_ok, sm0, sm1, dIndexT_at, seqS_d, seqS_a, seqS_o, seqD_l, seqD_t, itR_d, itR_s, iV_at, iO_at, iR1_go, iR2_go, iR3_go, iEnV_at, iEnO_at, sFor_at, compL_at, fAdd_i, fSub_i, fLt_i, fLe_i, fGt_i, fGe_i, fDiv_33, fPow_64, fPow_33, fPow_18, fNeg_i, fLen_l, fLen_t, fInt_i, fTuple_l, fList_l, fMax_2, fMin_2, fIx_l0, fIx_l1, fIx_l2, fEq_i, start0, svs, svK, svA, List.length_cons, List.length_nil, List.replicate, List.append_nil, List.cons_append, List.nil_append, List.getElem?_cons_zero, List.getElem?_cons_succ, List.set_cons_zero, List.set_cons_succ, Bool.not_true, Bool.not_false, decide_true, decide_false, ne_eq, not_false_eq_true, Nat.reduceAdd, Nat.reduceSub, fMul_take, fMul_7919, fMul_31, Nat.reduceLT, Int.reduceLT, Int.reduceEq, fMod_i, fDiv_i, bdz_ok, setT_nm, fgt_nil, fgt_cons, wipG_nil, wipG_cons, sz1, sz2, sz3, sz4, sz5, Nat.zero_le, fIs_ii, fIs_ib, fIs_is, fIs_itl, fIs_tt, fIs_tl, fIs_ttl, fIs_lt, fIs_ll, fIs_ltl, fAll_b, fSum_i, fBack_t, fBackL_l, List.length_map, hs1, hs2, List.length_nil] at z0 ⊢
        exact z0
      · obtain ⟨s, s1, s2, s3, s4, s5, s6, s7⟩ := spl_step k h2 hne
        have hcutt : ∀ t : Nat, fCutT (.tuple (r.map .int)) none (some (t : Int)) = some (ti (r.take t)) := fun t => by
          rw [fCutT_take, ← List.map_take]
        have hcutf : fCutT (.tuple (r.map .int)) (some (s : Int)) none = some (ti (r.drop s)) := by
          rw [fCutT_from _ _ (by rw [List.length_map]; exact s2), ← List.map_drop]
        have lt : (r.take s).length ≤ 900 := by rw [List.length_take]; omega
        have ld : (r.drop s).length ≤ 900 := by rw [List.length_drop]; omega
        have happ := mAppend_ok (F.map ti) (ti (like (r.take s))) (by rw [List.length_map]; exact sz_lt (by omega))
        have hfind := forG_find (t := .nm 6) (ms := [6, 7]) (b := spIn) (g := [.d (ti p), .d (.bool k), .own false (F.map ti), .d (ti r), .d (.int i), .d (.int r.length), .u, .u])
          (g2 := [.d (ti p), .d (.bool k), .own false ((F ++ [like (r.take s)]).map ti), .d (ti (like (r.drop s))), .d (.int i), .d (.int r.length), .d (.int s), .d (li (due k r.length s))])
          (x := .int s) (l2 := (irange (1 + ((s - 1 : Nat) : Int) + 1) (r.length - (s - 1) - 1)).map .int) ((irange 1 (s - 1)).map .int) (by
            intro y hy
            obtain ⟨t, ht, rfl⟩ := List.mem_map.mp hy
            have ht := irange_mem.mp ht
            obtain ⟨t, rfl⟩ : ∃ t' : Nat, t = t' := ⟨t.toNat, by omega⟩
            obtain ⟨m, m1, m2⟩ := s4 t (by omega) (by omega)
            refine ⟨[.d (ti p), .d (.bool k), .own false (F.map ti), .d (ti r), .d (.int i), .d (.int r.length), .d (.int t), .u], [.d (ti p), .d (.bool k), .own false (F.map ti), .d (ti r), .d (.int i), .d (.int r.length), .d (.int t), .d (li (due k r.length t))], by simp only [bnd_at, rt_at, thn_ok, thn_ex, oRo_some, oMap_some, brn_t, brn_f, dName_at, slR_d, slR_a, slR_o, vl_d, vl_s, slV_d, slV_a, slV_o, dv_at, dEsc_at, esc_d, esc_s, escS_d, escS_o, dFz_at, dC_at, dNil_at, dCons_at, vNil_at, vCons_at, op2_at, op2r_at, op1_at, op1o_at, opN_at, opNo_at, vls_nil, vls_cons, cutR_at, oNone_at, oSome_at, dTup_at, dLst_at, dB_at, boolD_b, dNot_at, dAnd_at, dOr_at, dIfE_at, dAndV_at, dOrV_at, dNotV_at, dSeq_at, dsq_nx, dsq_rt, dsq_bk, dsq_ct, dsq_ex, sNx_at, sBk_at, sCt_at, sExpr_at, sRet_at, sRetO_at, sRetN_at, sRetV_at, retS_d, retS_o, sSet_at, sSetO_at, sIf_at, ownV_o, msNil_at, msD_at, msO_at, msR_at, gRo_some, sPar_at, setRs_nil, setRs_d, setRs_o, callP_at, callK_at, argO_some, callM_at, outR_ret, outR_ex, argD_nil, argD_v, argD_p, argD_m, argD_vn, argD_vs, Option.some.injEq, Nat.reduceEqDiff, mIx_m, mIx_v, mIx_p, mIx_nil, putM_none, putM_some, putO_o, call1_at, rD_at, rtD_d, rtD_o, rO_at, rtO_o, sExprR_at, sRetR_at, sSetR_at, setS_d, setS_o, runF_at, outF_nx, outF_rt, mOut_some, muOf_nil, muOf_m, muOf_v, muOf_p, chk_some, sSub_at, subS0, subS1, mutS_some, mutP_some, dMut_at, mixR_at, dChain_at, dRep_at, intD_i, rg1_at, rg2_at, dLstRg_go, rgL_ok, dTupRg_go, rgT_ok, dTupRg3_go, rgT3_ok, rgO1_ok, rgO2_ok, rgO3_ok, sm0, sm1, dIndexT_at, seqS_d, seqS_a, seqS_o, seqD_l, seqD_t, itR_d, itR_s, iV_at, iO_at, iR1_go, iR2_go, iR3_go, iEnV_at, iEnO_at, sFor_at, compL_at, fAdd_i, fSub_i, fLt_i, fLe_i, fGt_i, fGe_i, fDiv_33, fPow_64, fPow_33, fPow_18, fNeg_i, fLen_l, fLen_t, fInt_i, fTuple_l, fList_l, fMax_2, fMin_2, fIx_l0, fIx_l1, fIx_l2, fEq_i, start0, svs, svK, svA, List.length_cons, List.length_nil, List.replicate, List.append_nil, List.cons_append, List.nil_append, List.getElem?_cons_zero, List.getElem?_cons_succ, List.set_cons_zero, List.set_cons_succ, Bool.not_true, Bool.not_false, decide_true, decide_false, ne_eq, not_false_eq_true, Nat.reduceAdd, Nat.reduceSub, fMul_take, fMul_7919, fMul_31, Nat.reduceLT, Int.reduceLT, Int.reduceEq, fMod_i, fDiv_i, bdz_ok, setT_nm, fgt_nil, fgt_cons, wipG_nil, wipG_cons, sz1, sz2, sz3, sz4, sz5, Nat.zero_le, fIs_ii, fIs_ib, fIs_is, fIs_itl, fIs_tt, fIs_tl, fIs_ttl, fIs_lt, fIs_ll, fIs_ltl, fAll_b, fSum_i, fBack_t, fBackL_l], ?_, by simp only [bnd_at, rt_at, thn_ok, thn_ex, oRo_some, oMap_some, brn_t, brn_f, dName_at, slR_d, slR_a, slR_o, vl_d, vl_s, slV_d, slV_a, slV_o, dv_at, dEsc_at, esc_d, esc_s, escS_d, escS_o, dFz_at, dC_at, dNil_at, dCons_at, vNil_at, vCons_at, op2_at, op2r_at, op1_at, op1o_at, opN_at, opNo_at, vls_nil, vls_cons, cutR_at, oNone_at, oSome_at, dTup_at, dLst_at, dB_at, boolD_b, dNot_at, dAnd_at, dOr_at, dIfE_at, dAndV_at, dOrV_at, dNotV_at, dSeq_at, dsq_nx, dsq_rt, dsq_bk, dsq_ct, dsq_ex, sNx_at, sBk_at, sCt_at, sExpr_at, sRet_at, sRetO_at, sRetN_at, sRetV_at, retS_d, retS_o, sSet_at, sSetO_at, sIf_at, ownV_o, msNil_at, msD_at, msO_at, msR_at, gRo_some, sPar_at, setRs_nil, setRs_d, setRs_o, callP_at, callK_at, argO_some, callM_at, outR_ret, outR_ex, argD_nil, argD_v, argD_p, argD_m, argD_vn, argD_vs, Option.some.injEq, Nat.reduceEqDiff, mIx_m, mIx_v, mIx_p, mIx_nil, putM_none, putM_some, putO_o, call1_at, rD_at, rtD_d, rtD_o, rO_at, rtO_o, sExprR_at, sRetR_at, sSetR_at, setS_d, setS_o, runF_at, outF_nx, outF_rt, mOut_some, muOf_nil, muOf_m, muOf_v, muOf_p, chk_some, sSub_at, subS0, subS1, mutS_some, mutP_some, dMut_at, mixR_at, dChain_at, dRep_at, intD_i, rg1_at, rg2_at, dLstRg_go, rgL_ok, dTupRg_go, rgT_ok, dTupRg3_go, rgT3_ok, rgO1_ok, rgO2_ok, rgO3_ok, sm0, sm1, dIndexT_at, seqS_d, seqS_a, seqS_o, seqD_l, seqD_t, itR_d, itR_s, iV_at, iO_at, iR1_go, iR2_go, iR3_go, iEnV_at, iEnO_at, sFor_at, compL_at, fAdd_i, fSub_i, fLt_i, fLe_i, fGt_i, fGe_i, fDiv_33, fPow_64, fPow_33, fPow_18, fNeg_i, fLen_l, fLen_t, fInt_i, fTuple_l, fList_l, fMax_2, fMin_2, fIx_l0, fIx_l1, fIx_l2, fEq_i, start0, svs, svK, svA, List.length_cons, List.length_nil, List.replicate, List.append_nil, List.cons_append, List.nil_append, List.getElem?_cons_zero, List.getElem?_cons_succ, List.set_cons_zero, List.set_cons_succ, Bool.not_true, Bool.not_false, decide_true, decide_false, ne_eq, not_false_eq_true, Nat.reduceAdd, Nat.reduceSub, fMul_take, fMul_7919, fMul_31, Nat.reduceLT, Int.reduceLT, Int.reduceEq, fMod_i, fDiv_i, bdz_ok, setT_nm, fgt_nil, fgt_cons, wipG_nil, wipG_cons, sz1, sz2, sz3, sz4, sz5, Nat.zero_le, fIs_ii, fIs_ib, fIs_is, fIs_itl, fIs_tt, fIs_tl, fIs_ttl, fIs_lt, fIs_ll, fIs_ltl, fAll_b, fSum_i, fBack_t, fBackL_l]⟩
            have hd := spIn_due k r.length t (by omega) (by omega) (by omega) [] (.d (ti p)) (.own false (F.map ti)) (.d (ti r)) (.d (.int i)) .u
            have hso := fSorted_t _ (okSort_ints (r.take t) (by rw [List.length_take]; omega))
            have hq := fEq_li m (due k r.length t)
            rw [decide_eq_false m2] at hq
            unfold spIn
            simp only [bnd_at, rt_at, thn_ok, thn_ex, oRo_some, oMap_some, brn_t, brn_f, dName_at, slR_d, slR_a, slR_o, vl_d, vl_s, slV_d, slV_a, slV_o, dv_at, dEsc_at, esc_d, esc_s, escS_d, escS_o, dFz_at, dC_at, dNil_at, dCons_at, vNil_at, vCons_at, op2_at, op2r_at, op1_at, op1o_at, opN_at, opNo_at, vls_nil, vls_cons, cutR_at, oNone_at, oSome_at, dTup_at, dLst_at, dB_at, boolD_b, dNot_at, dAnd_at, dOr_at, dAndV_at, dOrV_at, dNotV_at, dSeq_at, dsq_nx, dsq_rt, dsq_bk, dsq_ct, dsq_ex, sNx_at, sBk_at, sCt_at, sExpr_at, sRet_at, sRetO_at, sRetN_at, sRetV_at, retS_d, retS_o, sSet_at, sSetO_at, sIf_at, ownV_o, msNil_at, msD_at, msO_at, msR_at, gRo_some, sPar_at, setRs_nil, setRs_d, setRs_o, callP_at, callK_at, argO_some, callM_at, outR_ret, outR_ex, argD_nil, argD_v, argD_p, argD_m, argD_vn, argD_vs, Option.some.injEq, Nat.reduceEqDiff, mIx_m, mIx_v, mIx_p, mIx_nil, putM_none, putM_some, putO_o, call1_at, rD_at, rtD_d, rtD_o, rO_at, rtO_o, sExprR_at, sRetR_at, sSetR_at, setS_d, setS_o, runF_at, outF_nx, outF_rt, mOut_some, muOf_nil, muOf_m, muOf_v, muOf_p, chk_some, sSub_at, subS0, subS1, mutS_some, mutP_some, dMut_at, mixR_at, dChain_at, dRep_at, intD_i, rg1_at, rg2_at, dLstRg_go, rgL_ok, dTupRg_go, rgT_ok, dTupRg3_go, rgT3_ok, rgO1_ok, rgO2_ok, rgO3_ok, sm0, sm1, dIndexT_at, seqS_d, seqS_a, seqS_o, seqD_l, seqD_t, itR_d, itR_s, iV_at, iO_at, iR1_go, iR2_go, iR3_go, iEnV_at, iEnO_at, sFor_at, compL_at, fAdd_i, fSub_i, fLt_i, fLe_i, fGt_i, fGe_i, fDiv_33, fPow_64, fPow_33, fPow_18, fNeg_i, fLen_l, fLen_t, fInt_i, fTuple_l, fList_l, fMax_2, fMin_2, fIx_l0, fIx_l1, fIx_l2, fEq_i, start0, svs, svK, svA, List.length_cons, List.length_nil, List.replicate, List.append_nil, List.cons_append, List.nil_append, List.getElem?_cons_zero, List.getElem?_cons_succ, List.set_cons_zero, List.set_cons_succ, Bool.not_true, Bool.not_false, decide_true, decide_false, ne_eq, not_false_eq_true, Nat.reduceAdd, Nat.reduceSub, fMul_take, fMul_7919, fMul_31, Nat.reduceLT, Int.reduceLT, Int.reduceEq, fMod_i, fDiv_i, bdz_ok, setT_nm, fgt_nil, fgt_cons, wipG_nil, wipG_cons, sz1, sz2, sz3, sz4, sz5, Nat.zero_le, fIs_ii, fIs_ib, fIs_is, fIs_itl, fIs_tt, fIs_tl, fIs_ttl, fIs_lt, fIs_ll, fIs_ltl, fAll_b, fSum_i, fBack_t, fBackL_l, hd, hcutt, hso, m1, hq])
          ⟨[.d (ti p), .d (.bool k), .own false (F.map ti), .d (ti r), .d (.int i), .d (.int r.length), .d (.int s), .u], by simp only [bnd_at, rt_at, thn_ok, thn_ex, oRo_some, oMap_some, brn_t, brn_f, dName_at, slR_d, slR_a, slR_o, vl_d, vl_s, slV_d, slV_a, slV_o, dv_at, dEsc_at, esc_d, esc_s, escS_d, escS_o, dFz_at, dC_at, dNil_at, dCons_at, vNil_at, vCons_at, op2_at, op2r_at, op1_at, op1o_at, opN_at, opNo_at, vls_nil, vls_cons, cutR_at, oNone_at, oSome_at, dTup_at, dLst_at, dB_at, boolD_b, dNot_at, dAnd_at, dOr_at, dIfE_at, dAndV_at, dOrV_at, dNotV_at, dSeq_at, dsq_nx, dsq_rt, dsq_bk, dsq_ct, dsq_ex, sNx_at, sBk_at, sCt_at, sExpr_at, sRet_at, sRetO_at, sRetN_at, sRetV_at, retS_d, retS_o, sSet_at, sSetO_at, sIf_at, ownV_o, msNil_at, msD_at, msO_at, msR_at, gRo_some, sPar_at, setRs_nil, setRs_d, setRs_o, callP_at, callK_at, argO_some, callM_at, outR_ret, outR_ex, argD_nil, argD_v, argD_p, argD_m, argD_vn, argD_vs, Option.some.injEq, Nat.reduceEqDiff, mIx_m, mIx_v, mIx_p, mIx_nil, putM_none, putM_some, putO_o, call1_at, rD_at, rtD_d, rtD_o, rO_at, rtO_o, sExprR_at, sRetR_at, sSetR_at, setS_d, setS_o, runF_at, outF_nx, outF_rt, mOut_some, muOf_nil, muOf_m, muOf_v, muOf_p, chk_some, sSub_at, subS0, subS1, mutS_some, mutP_some, dMut_at, mixR_at, dChain_at, dRep_at, intD_i, rg1_at, rg2_at, dLstRg_go, rgL_ok, dTupRg_go, rgT_ok, dTupRg3_go, rgT3_ok, rgO1_ok, rgO2_ok, rgO3_ok, sm0, sm1, dIndexT_at, seqS_d, seqS_a, seqS_o, seqD_l, seqD_t, itR_d, itR_s, iV_at, iO_at, iR1_go, iR2_go, iR3_go, iEnV_at, iEnO_at, sFor_at, compL_at, fAdd_i, fSub_i, fLt_i, fLe_i, fGt_i, fGe_i, fDiv_33, fPow_64, fPow_33, fPow_18, fNeg_i, fLen_l, fLen_t, fInt_i, fTuple_l, fList_l, fMax_2, fMin_2, fIx_l0, fIx_l1, fIx_l2, fEq_i, start0, svs, svK, svA, List.length_cons, List.length_nil, List.replicate, List.append_nil, List.cons_append, List.nil_append, List.getElem?_cons_zero, List.getElem?_cons_succ, List.set_cons_zero, List.set_cons_succ, Bool.not_true, Bool.not_false, decide_true, decide_false, ne_eq, not_false_eq_true, Nat.reduceAdd, Nat.reduceSub, fMul_take, fMul_7919, fMul_31, Nat.reduceLT, Int.reduceLT, Int.reduceEq, fMod_i, fDiv_i, bdz_ok, setT_nm, fgt_nil, fgt_cons, wipG_nil, wipG_cons, sz1, sz2, sz3, sz4, sz5, Nat.zero_le, fIs_ii, fIs_ib, fIs_is, fIs_itl, fIs_tt, fIs_tl, fIs_ttl, fIs_lt, fIs_ll, fIs_ltl, fAll_b, fSum_i, fBack_t, fBackL_l], by
            have hd := spIn_due k r.length s s1 s2 (by omega) [] (.d (ti p)) (.own false (F.map ti)) (.d (ti r)) (.d (.int i)) .u
            have hso := fSorted_t _ (okSort_ints (r.take s) (by rw [List.length_take]; omega))
            have hq := fEq_li (due k r.length s) (due k r.length s)
            rw [decide_eq_true rfl] at hq
            unfold spIn
            simp only [bnd_at, rt_at, thn_ok, thn_ex, oRo_some, oMap_some, brn_t, brn_f, dName_at, slR_d, slR_a, slR_o, vl_d, vl_s, slV_d, slV_a, slV_o, dv_at, dEsc_at, esc_d, esc_s, escS_d, escS_o, dFz_at, dC_at, dNil_at, dCons_at, vNil_at, vCons_at, op2_at, op2r_at, op1_at, op1o_at, opN_at, opNo_at, vls_nil, vls_cons, cutR_at, oNone_at, oSome_at, dTup_at, dLst_at, dB_at, boolD_b, dNot_at, dAnd_at, dOr_at, dAndV_at, dOrV_at, dNotV_at, dSeq_at, dsq_nx, dsq_rt, dsq_bk, dsq_ct, dsq_ex, sNx_at, sBk_at, sCt_at, sExpr_at, sRet_at, sRetO_at, sRetN_at, sRetV_at, retS_d, retS_o, sSet_at, sSetO_at, sIf_at, ownV_o, msNil_at, msD_at, msO_at, msR_at, gRo_some, sPar_at, setRs_nil, setRs_d, setRs_o, callP_at, callK_at, argO_some, callM_at, outR_ret, outR_ex, argD_nil, argD_v, argD_p, argD_m, argD_vn, argD_vs, Option.some.injEq, Nat.reduceEqDiff, mIx_m, mIx_v, mIx_p, mIx_nil, putM_none, putM_some, putO_o, call1_at, rD_at, rtD_d, rtD_o, rO_at, rtO_o, sExprR_at, sRetR_at, sSetR_at, setS_d, setS_o, runF_at, outF_nx, outF_rt, mOut_some, muOf_nil, muOf_m, muOf_v, muOf_p, chk_some, sSub_at, subS0, subS1, mutS_some, mutP_some, dMut_at, mixR_at, dChain_at, dRep_at, intD_i, rg1_at, rg2_at, dLstRg_go, rgL_ok, dTupRg_go, rgT_ok, dTupRg3_go, rgT3_ok, rgO1_ok, rgO2_ok, rgO3_ok, sm0, sm1, dIndexT_at, seqS_d, seqS_a, seqS_o, seqD_l, seqD_t, itR_d, itR_s, iV_at, iO_at, iR1_go, iR2_go, iR3_go, iEnV_at, iEnO_at, sFor_at, compL_at, fAdd_i, fSub_i, fLt_i, fLe_i, fGt_i, fGe_i, fDiv_33, fPow_64, fPow_33, fPow_18, fNeg_i, fLen_l, fLen_t, fInt_i, fTuple_l, fList_l, fMax_2, fMin_2, fIx_l0, fIx_l1, fIx_l2, fEq_i, start0, svs, svK, svA, List.length_cons, List.length_nil, List.replicate, List.append_nil, List.cons_append, List.nil_append, List.getElem?_cons_zero, List.getElem?_cons_succ, List.set_cons_zero, List.set_cons_succ, Bool.not_true, Bool.not_false, decide_true, decide_false, ne_eq, not_false_eq_true, Nat.reduceAdd, Nat.reduceSub, fMul_take, fMul_7919, fMul_31, Nat.reduceLT, Int.reduceLT, Int.reduceEq, fMod_i, fDiv_i, bdz_ok, setT_nm, fgt_nil, fgt_cons, wipG_nil, wipG_cons, sz1, sz2, sz3, sz4, sz5, Nat.zero_le, fIs_ii, fIs_ib, fIs_is, fIs_itl, fIs_tt, fIs_tl, fIs_ttl, fIs_lt, fIs_ll, fIs_ltl, fAll_b, fSum_i, fBack_t, fBackL_l, hd, hcutt, hcutf, hso, s3, hq, like_t_ok _ lt, like_t_ok _ ld, happ, List.map_append, List.map_cons, List.map_nil]⟩
        rw [← List.map_cons (f := PyData.int), ← List.map_append, show (s : Int) = 1 + ((s - 1 : Nat) : Int) by omega, ← irange_split 1 r.length (s - 1) (by omega)] at hfind
        refine ⟨[.d (ti p), .d (.bool k), .own false (F.map ti), .d (ti r), .d (.int i), .u, .u, .u], [.d (ti p), .d (.bool k), .own false ((F ++ [like (r.take s)]).map ti), .d (ti (like (r.drop s))), .d (.int i), .d (.int r.length), .u, .u], by simp only [bnd_at, rt_at, thn_ok, thn_ex, oRo_some, oMap_some, brn_t, brn_f, dName_at, slR_d, slR_a, slR_o, vl_d, vl_s, slV_d, slV_a, slV_o, dv_at, dEsc_at, esc_d, esc_s, escS_d, escS_o, dFz_at, dC_at, dNil_at, dCons_at, vNil_at, vCons_at, op2_at, op2r_at, op1_at, op1o_at, opN_at, opNo_at, vls_nil, vls_cons, cutR_at, oNone_at, oSome_at, dTup_at, dLst_at, dB_at, boolD_b, dNot_at, dAnd_at, dOr_at, dIfE_at, dAndV_at, dOrV_at, dNotV_at, dSeq_at, dsq_nx, dsq_rt, dsq_bk, dsq_ct, dsq_ex, sNx_at, sBk_at, sCt_at, sExpr_at, sRet_at, sRetO_at, sRetN_at, sRetV_at, retS_d, retS_o, sSet_at, sSetO_at, sIf_at, ownV_o, msNil_at, msD_at, msO_at, msR_at, gRo_some, sPar_at, setRs_nil, setRs_d, setRs_o, callP_at, callK_at, argO_some, callM_at, outR_ret, outR_ex, argD_nil, argD_v, argD_p, argD_m, argD_vn, argD_vs, Option.some.injEq, Nat.reduceEqDiff, mIx_m, mIx_v, mIx_p, mIx_nil, putM_none, putM_some, putO_o, call1_at, rD_at, rtD_d, rtD_o, rO_at, rtO_o, sExprR_at, sRetR_at, sSetR_at, setS_d, setS_o, runF_at, outF_nx, outF_rt, mOut_some, muOf_nil, muOf_m, muOf_v, muOf_p, chk_some, sSub_at, subS0, subS1, mutS_some, mutP_some, dMut_at, mixR_at, dChain_at, dRep_at, intD_i, rg1_at, rg2_at, dLstRg_go, rgL_ok, dTupRg_go, rgT_ok, dTupRg3_go, rgT3_ok, rgO1_ok, rgO2_ok, rgO3_ok, sm0, sm1, dIndexT_at, seqS_d, seqS_a, seqS_o, seqD_l, seqD_t, itR_d, itR_s, iV_at, iO_at, iR1_go, iR2_go, iR3_go, iEnV_at, iEnO_at, sFor_at, compL_at, fAdd_i, fSub_i, fLt_i, fLe_i, fGt_i, fGe_i, fDiv_33, fPow_64, fPow_33, fPow_18, fNeg_i, fLen_l, fLen_t, fInt_i, fTuple_l, fList_l, fMax_2, fMin_2, fIx_l0, fIx_l1, fIx_l2, fEq_i, start0, svs, svK, svA, List.length_cons, List.length_nil, List.replicate, List.append_nil, List.cons_append, List.nil_append, List.getElem?_cons_zero, List.getElem?_cons_succ, List.set_cons_zero, List.set_cons_succ, Bool.not_true, Bool.not_false, decide_true, decide_false, ne_eq, not_false_eq_true, Nat.reduceAdd, Nat.reduceSub, fMul_take, fMul_7919, fMul_31, Nat.reduceLT, Int.reduceLT, Int.reduceEq, fMod_i, fDiv_i, bdz_ok, setT_nm, fgt_nil, fgt_cons, wipG_nil, wipG_cons, sz1, sz2, sz3, sz4, sz5, Nat.zero_le, fIs_ii, fIs_ib, fIs_is, fIs_itl, fIs_tt, fIs_tl, fIs_ttl, fIs_lt, fIs_ll, fIs_ltl, fAll_b, fSum_i, fBack_t, fBackL_l], .inl ?_, i + 1, like (r.drop s), F ++ [like (r.take s)], hl, s5, by omega, by rw [List.length_append, List.length_singleton]; omega, by rw [← h5, s7, List.append_assoc]; rfl, by simp only [bnd_at, rt_at, thn_ok, thn_ex, oRo_some, oMap_some, brn_t, brn_f, dName_at, slR_d, slR_a, slR_o, vl_d, vl_s, slV_d, slV_a, slV_o, dv_at, dEsc_at, esc_d, esc_s, escS_d, escS_o, dFz_at, dC_at, dNil_at, dCons_at, vNil_at, vCons_at, op2_at, op2r_at, op1_at, op1o_at, opN_at, opNo_at, vls_nil, vls_cons, cutR_at, oNone_at, oSome_at, dTup_at, dLst_at, dB_at, boolD_b, dNot_at, dAnd_at, dOr_at, dIfE_at, dAndV_at, dOrV_at, dNotV_at, dSeq_at, dsq_nx, dsq_rt, dsq_bk, dsq_ct, dsq_ex, sNx_at, sBk_at, sCt_at, sExpr_at, sRet_at, sRetO_at, sRetN_at, sRetV_at, retS_d, retS_o, sSet_at, sSetO_at, sIf_at, ownV_o, msNil_at, msD_at, msO_at, msR_at, gRo_some, sPar_at, setRs_nil, setRs_d, setRs_o, callP_at, callK_at, argO_some, callM_at, outR_ret, outR_ex, argD_nil, argD_v, argD_p, argD_m, argD_vn, argD_vs, Option.some.injEq, Nat.reduceEqDiff, mIx_m, mIx_v, mIx_p, mIx_nil, putM_none, putM_some, putO_o, call1_at, rD_at, rtD_d, rtD_o, rO_at, rtO_o, sExprR_at, sRetR_at, sSetR_at, setS_d, setS_o, runF_at, outF_nx, outF_rt, mOut_some, muOf_nil, muOf_m, muOf_v, muOf_p, chk_some, sSub_at, subS0, subS1, mutS_some, mutP_some, dMut_at, mixR_at, dChain_at, dRep_at, intD_i, rg1_at, rg2_at, dLstRg_go, rgL_ok, dTupRg_go, rgT_ok, dTupRg3_go, rgT3_ok, rgO1_ok, rgO2_ok, rgO3_ok, sm0, sm1, dIndexT_at, seqS_d, seqS_a, seqS_o, seqD_l, seqD_t, itR_d, itR_s, iV_at, iO_at, iR1_go, iR2_go, iR3_go, iEnV_at, iEnO_at, sFor_at, compL_at, fAdd_i, fSub_i, fLt_i, fLe_i, fGt_i, fGe_i, fDiv_33, fPow_64, fPow_33, fPow_18, fNeg_i, fLen_l, fLen_t, fInt_i, fTuple_l, fList_l, fMax_2, fMin_2, fIx_l0, fIx_l1, fIx_l2, fEq_i, start0, svs, svK, svA, List.length_cons, List.length_nil, List.replicate, List.append_nil, List.cons_append, List.nil_append, List.getElem?_cons_zero, List.getElem?_cons_succ, List.set_cons_zero, List.set_cons_succ, Bool.not_true, Bool.not_false, decide_true, decide_false, ne_eq, not_false_eq_true, Nat.reduceAdd, Nat.reduceSub, fMul_take, fMul_7919, fMul_31, Nat.reduceLT, Int.reduceLT, Int.reduceEq, fMod_i, fDiv_i, bdz_ok, setT_nm, fgt_nil, fgt_cons, wipG_nil, wipG_cons, sz1, sz2, sz3, sz4, sz5, Nat.zero_le, fIs_ii, fIs_ib, fIs_is, fIs_itl, fIs_tt, fIs_tl, fIs_ttl, fIs_lt, fIs_ll, fIs_ltl, fAll_b, fSum_i, fBack_t, fBackL_l]⟩
        unfold spBody
        simp only [bnd_at, rt_at, thn_ok, thn_ex, oRo_some, oMap_some, brn_t, brn_f, dName_at, slR_d, slR_a, slR_o, vl_d, vl_s, slV_d, slV_a, slV_o, dv_at, dEsc_at, esc_d, esc_s, escS_d, escS_o, dFz_at, dC_at, dNil_at, dCons_at, vNil_at, vCons_at, op2_at, op2r_at, op1_at, op1o_at, opN_at, opNo_at, vls_nil, vls_cons, cutR_at, oNone_at, oSome_at, dTup_at, dLst_at, dB_at, boolD_b, dNot_at, dAnd_at, dOr_at, dAndV_at, dOrV_at, dNotV_at, dSeq_at, dsq_nx, dsq_rt, dsq_bk, dsq_ct, dsq_ex, sNx_at, sBk_at, sCt_at, sExpr_at, sRet_at, sRetO_at, sRetN_at, sRetV_at, retS_d, retS_o, sSet_at, sSetO_at, sIf_at, ownV_o, msNil_at, msD_at, msO_at, msR_at, gRo_some, sPar_at, setRs_nil, setRs_d, setRs_o, callP_at, callK_at, argO_some, callM_at, outR_ret, outR_ex, argD_nil, argD_v, argD_p, argD_m, argD_vn, argD_vs, Option.some.injEq, Nat.reduceEqDiff, mIx_m, mIx_v, mIx_p, mIx_nil, putM_none, putM_some, putO_o, call1_at, rD_at, rtD_d, rtD_o, rO_at, rtO_o, sExprR_at, sRetR_at, sSetR_at, setS_d, setS_o, runF_at, outF_nx, outF_rt, mOut_some, muOf_nil, muOf_m, muOf_v, muOf_p, chk_some, sSub_at, subS0, subS1, mutS_some, mutP_some, dMut_at, mixR_at, dChain_at, dRep_at, intD_i, rg1_at, rg2_at, dLstRg_go, rgL_ok, dTupRg_go, rgT_ok, dTupRg3_go, rgT3_ok, rgO1_ok, rgO2_ok, rgO3_ok, sm0, sm1, dIndexT_at, seqS_d, seqS_a, seqS_o, seqD_l, seqD_t, itR_d, itR_s, iV_at, iO_at, iR1_go, iR2_go, iR3_go, iEnV_at, iEnO_at, sFor_at, compL_at, fAdd_i, fSub_i, fLt_i, fLe_i, fGt_i, fGe_i, fDiv_33, fPow_64, fPow_33, fPow_18, fNeg_i, fLen_l, fLen_t, fInt_i, fTuple_l, fList_l, fMax_2, fMin_2, fIx_l0, fIx_l1, fIx_l2, fEq_i, start0, svs, svK, svA, List.length_cons, List.length_nil, List.replicate, List.append_nil, List.cons_append, List.nil_append, List.getElem?_cons_zero, List.getElem?_cons_succ, List.set_cons_zero, List.set_cons_succ, Bool.not_true, Bool.not_false, decide_true, decide_false, ne_eq, not_false_eq_true, Nat.reduceAdd, Nat.reduceSub, fMul_take, fMul_7919, fMul_31, Nat.reduceLT, Int.reduceLT, Int.reduceEq, fMod_i, fDiv_i, bdz_ok, setT_nm, fgt_nil, fgt_cons, wipG_nil, wipG_cons, sz1, sz2, sz3, sz4, sz5, Nat.zero_le, fIs_ii, fIs_ib, fIs_is, fIs_itl, fIs_tt, fIs_tl, fIs_ttl, fIs_lt, fIs_ll, fIs_ltl, fAll_b, fSum_i, fBack_t, fBackL_l, List.length_map, hs1, hs2, hfind])
  have hi : i = p.length ∨ p.length ≤ i := by
    have := congrArg List.length h1
    rw [List.length_map, irange_len, List.length_nil] at this
    omega
  have hr : r = [] := List.eq_nil_of_length_eq_zero (by omega)
  subst hr
  rw [spl_nil, List.append_nil] at h5
  subst h5
  unfold φ__law_split m__law_split
  have hsm : Sm (p.length : Int) := sm_of (by omega) (by omega)
  simp only [bnd_at, rt_at, thn_ok, thn_ex, oRo_some, oMap_some, brn_t, brn_f, dName_at, slR_d, slR_a, slR_o, vl_d, vl_s, slV_d, slV_a, slV_o, dv_at, dEsc_at, esc_d, esc_s, escS_d, escS_o, dFz_at, dC_at, dNil_at, dCons_at, vNil_at, vCons_at, op2_at, op2r_at, op1_at, op1o_at, opN_at, opNo_at, vls_nil, vls_cons, cutR_at, oNone_at, oSome_at, dTup_at, dLst_at, dB_at, boolD_b, dNot_at, dAnd_at, dOr_at, dIfE_at, dAndV_at, dOrV_at, dNotV_at, dSeq_at, dsq_nx, dsq_rt, dsq_bk, dsq_ct, dsq_ex, sNx_at, sBk_at, sCt_at, sExpr_at, sRet_at, sRetO_at, sRetN_at, sRetV_at, retS_d, retS_o, sSet_at, sSetO_at, sIf_at, ownV_o, msNil_at, msD_at, msO_at, msR_at, gRo_some, sPar_at, setRs_nil, setRs_d, setRs_o, callP_at, callK_at, argO_some, callM_at, outR_ret, outR_ex, argD_nil, argD_v, argD_p, argD_m, argD_vn, argD_vs, Option.some.injEq, Nat.reduceEqDiff, mIx_m, mIx_v, mIx_p, mIx_nil, putM_none, putM_some, putO_o, call1_at, rD_at, rtD_d, rtD_o, rO_at, rtO_o, sExprR_at, sRetR_at, sSetR_at, setS_d, setS_o, runF_at, outF_nx, outF_rt, mOut_some, muOf_nil, muOf_m, muOf_v, muOf_p, chk_some, sSub_at, subS0, subS1, mutS_some, mutP_some, dMut_at, mixR_at, dChain_at, dRep_at, intD_i, rg1_at, rg2_at, dLstRg_go, rgL_ok, dTupRg_go, rgT_ok, dTupRg3_go, rgT3_ok, rgO1_ok, rgO2_ok, rgO3_ok, sm0, sm1, dIndexT_at, seqS_d, seqS_a, seqS_o, seqD_l, seqD_t, itR_d, itR_s, iV_at, iO_at, iR1_go, iR2_go, iR3_go, iEnV_at, iEnO_at, sFor_at, compL_at, fAdd_i, fSub_i, fLt_i, fLe_i, fGt_i, fGe_i, fDiv_33, fPow_64, fPow_33, fPow_18, fNeg_i, fLen_l, fLen_t, fInt_i, fTuple_l, fList_l, fMax_2, fMin_2, fIx_l0, fIx_l1, fIx_l2, fEq_i, start0, svs, svK, svA, List.length_cons, List.length_nil, List.replicate, List.append_nil, List.cons_append, List.nil_append, List.getElem?_cons_zero, List.getElem?_cons_succ, List.set_cons_zero, List.set_cons_succ, Bool.not_true, Bool.not_false, decide_true, decide_false, ne_eq, not_false_eq_true, Nat.reduceAdd, Nat.reduceSub, fMul_take, fMul_7919, fMul_31, Nat.reduceLT, Int.reduceLT, Int.reduceEq, fMod_i, fDiv_i, bdz_ok, setT_nm, fgt_nil, fgt_cons, wipG_nil, wipG_cons, sz1, sz2, sz3, sz4, sz5, Nat.zero_le, fIs_ii, fIs_ib, fIs_is, fIs_itl, fIs_tt, fIs_tl, fIs_ttl, fIs_lt, fIs_ll, fIs_ltl, fAll_b, fSum_i, fBack_t, fBackL_l, List.length_map, hsm, Int.toNat_natCast, e1, h6]
end Ck04
set_option Elab.async false
set_option linter.all false
set_option maxRecDepth 100000
set_option autoImplicit false
set_option maxHeartbeats 2000000
namespace Ck04
open PySem PySem.Spec PyProof.Rows L2 Z
abbrev addBody : M Fl := sSetR 3 (callP [.v, .v] φ_summed (vCons (dName 3) (vCons (dName 5) vNil)))
abbrev skBody : M Fl := sSetR 4 (callP [.v, .v] φ_skew_summed (vCons (dName 4) (vCons (dName 5) vNil)))
theorem add_loop (p : List Int) (hp : p.length ≤ 100) (a b : SV) (L : List (List Int)) (hL : ∀ c ∈ L, IsOrd c ∧ c.length ≤ p.length) (hf : L.foldl sm [] = p) : forG (.nm 5) [5] addBody (L.map ti) [.d (ti p), a, b, .d (.tuple []), .d (.tuple []), .u, .u, .u] = .ok .nx [.d (ti p), a, b, .d (ti p), .d (.tuple []), .u, .u, .u] := by
  obtain ⟨g', e1, R, s, h1, h2, h3, h4, h5⟩ := forG_inv (t := .nm 5) (ms := [5]) (b := addBody) (L.map ti)
    (fun l g => ∃ (R : List (List Int)) (s : List Int), l = R.map ti ∧ (∀ c ∈ R, IsOrd c ∧ c.length ≤ p.length) ∧ IsOrd s ∧ R.foldl sm s = p ∧ g = [.d (ti p), a, b, .d (ti s), .d (.tuple []), .u, .u, .u])
    [.d (ti p), a, b, .d (.tuple []), .d (.tuple []), .u, .u, .u] ⟨L, [], rfl, hL, isOrd_nil, hf, rfl⟩ (by
      rintro x l g ⟨R, s, h1, h2, h3, h4, rfl⟩ _
      cases R with
      | nil => cases h1
      | cons c R =>
        rw [List.map_cons] at h1
        injection h1 with hx hr
        subst hx
        obtain ⟨c1, c2⟩ := h2 c List.mem_cons_self
        rw [List.foldl_cons] at h4
        have hl := fsm_len R (sm s c)
        rw [h4, sm_len] at hl
        have hs := summed_ok s c h3 c1 (by omega) (by omega)
        exact ⟨[.d (ti p), a, b, .d (ti s), .d (.tuple []), .d (ti c), .u, .u], [.d (ti p), a, b, .d (ti (sm s c)), .d (.tuple []), .d (ti c), .u, .u], by simp only [bnd_at, rt_at, thn_ok, thn_ex, oRo_some, oMap_some, brn_t, brn_f, dName_at, slR_d, slR_a, slR_o, vl_d, vl_s, slV_d, slV_a, slV_o, dv_at, dEsc_at, esc_d, esc_s, escS_d, escS_o, dFz_at, dC_at, dNil_at, dCons_at, vNil_at, vCons_at, op2_at, op2r_at, op1_at, op1o_at, opN_at, opNo_at, vls_nil, vls_cons, cutR_at, oNone_at, oSome_at, dTup_at, dLst_at, dB_at, boolD_b, dNot_at, dAnd_at, dOr_at, dIfE_at, dAndV_at, dOrV_at, dNotV_at, dSeq_at, dsq_nx, dsq_rt, dsq_bk, dsq_ct, dsq_ex, sNx_at, sBk_at, sCt_at, sExpr_at, sRet_at, sRetO_at, sRetN_at, sRetV_at, retS_d, retS_o, sSet_at, sSetO_at, sIf_at, ownV_o, msNil_at, msD_at, msO_at, msR_at, gRo_some, sPar_at, setRs_nil, setRs_d, setRs_o, callP_at, callK_at, argO_some, callM_at, outR_ret, outR_ex, argD_nil, argD_v, argD_p, argD_m, argD_vn, argD_vs, Option.some.injEq, Nat.reduceEqDiff, mIx_m, mIx_v, mIx_p, mIx_nil, putM_none, putM_some, putO_o, call1_at, rD_at, rtD_d, rtD_o, rO_at, rtO_o, sExprR_at, sRetR_at, sSetR_at, setS_d, setS_o, runF_at, outF_nx, outF_rt, mOut_some, muOf_nil, muOf_m, muOf_v, muOf_p, chk_some, sSub_at, subS0, subS1, mutS_some, mutP_some, dMut_at, mixR_at, dChain_at, dRep_at, intD_i, rg1_at, rg2_at, dLstRg_go, rgL_ok, dTupRg_go, rgT_ok, dTupRg3_go, rgT3_ok, rgO1_ok, rgO2_ok, rgO3_ok, sm0, sm1, dIndexT_at, seqS_d, seqS_a, seqS_o, seqD_l, seqD_t, itR_d, itR_s, iV_at, iO_at, iR1_go, iR2_go, iR3_go, iEnV_at, iEnO_at, sFor_at, compL_at, fAdd_i, fSub_i, fLt_i, fLe_i, fGt_i, fGe_i, fDiv_33, fPow_64, fPow_33, fPow_18, fNeg_i, fLen_l, fLen_t, fInt_i, fTuple_l, fList_l, fMax_2, fMin_2, fIx_l0, fIx_l1, fIx_l2, fEq_i, start0, svs, svK, svA, List.length_cons, List.length_nil, List.replicate, List.append_nil, List.cons_append, List.nil_append, List.getElem?_cons_zero, List.getElem?_cons_succ, List.set_cons_zero, List.set_cons_succ, Bool.not_true, Bool.not_false, decide_true, decide_false, ne_eq, not_false_eq_true, Nat.reduceAdd, Nat.reduceSub, fMul_take, fMul_7919, fMul_31, Nat.reduceLT, Int.reduceLT, Int.reduceEq, fMod_i, fDiv_i, bdz_ok, setT_nm, fgt_nil, fgt_cons, wipG_nil, wipG_cons, sz1, sz2, sz3, sz4, sz5, Nat.zero_le, fIs_ii, fIs_ib, fIs_is, fIs_itl, fIs_tt, fIs_tl, fIs_ttl, fIs_lt, fIs_ll, fIs_ltl, fAll_b, fSum_i, fBack_t, fBackL_l], .inl (by unfold addBody; simp only [bnd_at, rt_at, thn_ok, thn_ex, oRo_some, oMap_some, brn_t, brn_f, dName_at, slR_d, slR_a, slR_o, vl_d, vl_s, slV_d, slV_a, slV_o, dv_at, dEsc_at, esc_d, esc_s, escS_d, escS_o, dFz_at, dC_at, dNil_at, dCons_at, vNil_at, vCons_at, op2_at, op2r_at, op1_at, op1o_at, opN_at, opNo_at, vls_nil, vls_cons, cutR_at, oNone_at, oSome_at, dTup_at, dLst_at, dB_at, boolD_b, dNot_at, dAnd_at, dOr_at, dIfE_at, dAndV_at, dOrV_at, dNotV_at, dSeq_at, dsq_nx, dsq_rt, dsq_bk, dsq_ct, dsq_ex, sNx_at, sBk_at, sCt_at, sExpr_at, sRet_at, sRetO_at, sRetN_at, sRetV_at, retS_d, retS_o, sSet_at, sSetO_at, sIf_at, ownV_o, msNil_at, msD_at, msO_at, msR_at, gRo_some, sPar_at, setRs_nil, setRs_d, setRs_o, callP_at, callK_at, argO_some, callM_at, outR_ret, outR_ex, argD_nil, argD_v, argD_p, argD_m, argD_vn, argD_vs, Option.some.injEq, Nat.reduceEqDiff, mIx_m, mIx_v, mIx_p, mIx_nil, putM_none, putM_some, putO_o, call1_at, rD_at, rtD_d, rtD_o, rO_at, rtO_o, sExprR_at, sRetR_at, sSetR_at, setS_d, setS_o, runF_at, outF_nx, outF_rt, mOut_some, muOf_nil, muOf_m, muOf_v, muOf_p, chk_some, sSub_at, subS0, subS1, mutS_some, mutP_some, dMut_at, mixR_at, dChain_at, dRep_at, intD_i, rg1_at, rg2_at, dLstRg_go, rgL_ok, dTupRg_go, rgT_ok, dTupRg3_go, rgT3_ok, rgO1_ok, rgO2_ok, rgO3_ok, sm0, sm1, dIndexT_at, seqS_d, seqS_a, seqS_o, seqD_l, seqD_t, itR_d, itR_s, iV_at, iO_at, iR1_go, iR2_go, iR3_go, iEnV_at, iEnO_at, sFor_at, compL_at, fAdd_i, fSub_i, fLt_i, fLe_i, fGt_i, fGe_i, fDiv_33, fPow_64, fPow_33, fPow_18, fNeg_i, fLen_l, fLen_t, fInt_i, fTuple_l, fList_l, fMax_2, fMin_2, fIx_l0, fIx_l1, fIx_l2, fEq_i, start0, svs, svK, svA, List.length_cons, List.length_nil, List.replicate, List.append_nil, List.cons_append, List.nil_append, List.getElem?_cons_zero, List.getElem?_cons_succ, List.set_cons_zero, List.set_cons_succ, Bool.not_true, Bool.not_false, decide_true, decide_false, ne_eq, not_false_eq_true, Nat.reduceAdd, Nat.reduceSub, fMul_take, fMul_7919, fMul_31, Nat.reduceLT, Int.reduceLT, Int.reduceEq, fMod_i, fDiv_i, bdz_ok, setT_nm, fgt_nil, fgt_cons, wipG_nil, wipG_cons, sz1, sz2, sz3, sz4, sz5, Nat.zero_le, fIs_ii, fIs_ib, fIs_is, fIs_itl, fIs_tt, fIs_tl, fIs_ttl, fIs_lt, fIs_ll, fIs_ltl, fAll_b, fSum_i, fBack_t, fBackL_l, hs]), R, sm s c, hr, fun d hd => h2 d (List.mem_cons_of_mem _ hd), ord_sm h3 c1, h4, by simp only [bnd_at, rt_at, thn_ok, thn_ex, oRo_some, oMap_some, brn_t, brn_f, dName_at, slR_d, slR_a, slR_o, vl_d, vl_s, slV_d, slV_a, slV_o, dv_at, dEsc_at, esc_d, esc_s, escS_d, escS_o, dFz_at, dC_at, dNil_at, dCons_at, vNil_at, vCons_at, op2_at, op2r_at, op1_at, op1o_at, opN_at, opNo_at, vls_nil, vls_cons, cutR_at, oNone_at, oSome_at, dTup_at, dLst_at, dB_at, boolD_b, dNot_at, dAnd_at, dOr_at, dIfE_at, dAndV_at, dOrV_at, dNotV_at, dSeq_at, dsq_nx, dsq_rt, dsq_bk, dsq_ct, dsq_ex, sNx_at, sBk_at, sCt_at, sExpr_at, sRet_at, sRetO_at, sRetN_at, sRetV_at, retS_d, retS_o, sSet_at, sSetO_at, sIf_at, ownV_o, msNil_at, msD_at, msO_at, msR_at, gRo_some, sPar_at, setRs_nil, setRs_d, setRs_o, callP_at, callK_at, argO_some, callM_at, outR_ret, outR_ex, argD_nil, argD_v, argD_p, argD_m, argD_vn, argD_vs, Option.some.injEq, Nat.reduceEqDiff, mIx_m, mIx_v, mIx_p, mIx_nil, putM_none, putM_some, putO_o, call1_at, rD_at, rtD_d, rtD_o, rO_at, rtO_o, sExprR_at, sRetR_at, sSetR_at, setS_d, setS_o, runF_at, outF_nx, outF_rt, mOut_some, muOf_nil, muOf_m, muOf_v, muOf_p, chk_some, sSub_at, subS0, subS1, mutS_some, mutP_some, dMut_at, mixR_at, dChain_at, dRep_at, intD_i, rg1_at, rg2_at, dLstRg_go, rgL_ok, dTupRg_go, rgT_ok, dTupRg3_go, rgT3_ok, rgO1_ok, rgO2_ok, rgO3_ok, sm0, sm1, dIndexT_at, seqS_d, seqS_a, seqS_o, seqD_l, seqD_t, itR_d, itR_s, iV_at, iO_at, iR1_go, iR2_go, iR3_go, iEnV_at, iEnO_at, sFor_at, compL_at, fAdd_i, fSub_i, fLt_i, fLe_i, fGt_i, fGe_i, fDiv_33, fPow_64, fPow_33, fPow_18, fNeg_i, fLen_l, fLen_t, fInt_i, fTuple_l, fList_l, fMax_2, fMin_2, fIx_l0, fIx_l1, fIx_l2, fEq_i, start0, svs, svK, svA, List.length_cons, List.length_nil, List.replicate, List.append_nil, List.cons_append, List.nil_append, List.getElem?_cons_zero, List.getElem?_cons_succ, List.set_cons_zero, List.set_cons_succ, Bool.not_true, Bool.not_false, decide_true, decide_false, ne_eq, not_false_eq_true, Nat.reduceAdd, Nat.reduceSub, fMul_take, fMul_7919, fMul_31, Nat.reduceLT, Int.reduceLT, Int.reduceEq, fMod_i, fDiv_i, bdz_ok, setT_nm, fgt_nil, fgt_cons, wipG_nil, wipG_cons, sz1, sz2, sz3, sz4, sz5, Nat.zero_le, fIs_ii, fIs_ib, fIs_is, fIs_itl, fIs_tt, fIs_tl, fIs_ttl, fIs_lt, fIs_ll, fIs_ltl, fAll_b, fSum_i, fBack_t, fBackL_l]⟩)
  cases R with
  | cons c R => cases h1
  | nil =>
    have : s = p := h4
    subst this
    rw [e1, h5]
    simp only [bnd_at, rt_at, thn_ok, thn_ex, oRo_some, oMap_some, brn_t, brn_f, dName_at, slR_d, slR_a, slR_o, vl_d, vl_s, slV_d, slV_a, slV_o, dv_at, dEsc_at, esc_d, esc_s, escS_d, escS_o, dFz_at, dC_at, dNil_at, dCons_at, vNil_at, vCons_at, op2_at, op2r_at, op1_at, op1o_at, opN_at, opNo_at, vls_nil, vls_cons, cutR_at, oNone_at, oSome_at, dTup_at, dLst_at, dB_at, boolD_b, dNot_at, dAnd_at, dOr_at, dIfE_at, dAndV_at, dOrV_at, dNotV_at, dSeq_at, dsq_nx, dsq_rt, dsq_bk, dsq_ct, dsq_ex, sNx_at, sBk_at, sCt_at, sExpr_at, sRet_at, sRetO_at, sRetN_at, sRetV_at, retS_d, retS_o, sSet_at, sSetO_at, sIf_at, ownV_o, msNil_at, msD_at, msO_at, msR_at, gRo_some, sPar_at, setRs_nil, setRs_d, setRs_o, callP_at, callK_at, argO_some, callM_at, outR_ret, outR_ex, argD_nil, argD_v, argD_p, argD_m, argD_vn, argD_vs, Option.some.injEq, Nat.reduceEqDiff, mIx_m, mIx_v, mIx_p, mIx_nil, putM_none, putM_some, putO_o, call1_at, rD_at, rtD_d, rtD_o, rO_at, rtO_o, sExprR_at, sRetR_at, sSetR_at, setS_d, setS_o, runF_at, outF_nx, outF_rt, mOut_some, muOf_nil, muOf_m, muOf_v, muOf_p, chk_some, sSub_at, subS0, subS1, mutS_some, mutP_some, dMut_at, mixR_at, dChain_at, dRep_at, intD_i, rg1_at, rg2_at, dLstRg_go, rgL_ok, dTupRg_go, rgT_ok, dTupRg3_go, rgT3_ok, rgO1_ok, rgO2_ok, rgO3_ok, sm0, sm1, dIndexT_at, seqS_d, seqS_a, seqS_o, seqD_l, seqD_t, itR_d, itR_s, iV_at, iO_at, iR1_go, iR2_go, iR3_go, iEnV_at, iEnO_at, sFor_at, compL_at, fAdd_i, fSub_i, fLt_i, fLe_i, fGt_i, fGe_i, fDiv_33, fPow_64, fPow_33, fPow_18, fNeg_i, fLen_l, fLen_t, fInt_i, fTuple_l, fList_l, fMax_2, fMin_2, fIx_l0, fIx_l1, fIx_l2, fEq_i, start0, svs, svK, svA, List.length_cons, List.length_nil, List.replicate, List.append_nil, List.cons_append, List.nil_append, List.getElem?_cons_zero, List.getElem?_cons_succ, List.set_cons_zero, List.set_cons_succ, Bool.not_true, Bool.not_false, decide_true, decide_false, ne_eq, not_false_eq_true, Nat.reduceAdd, Nat.reduceSub, fMul_take, fMul_7919, fMul_31, Nat.reduceLT, Int.reduceLT, Int.reduceEq, fMod_i, fDiv_i, bdz_ok, setT_nm, fgt_nil, fgt_cons, wipG_nil, wipG_cons, sz1, sz2, sz3, sz4, sz5, Nat.zero_le, fIs_ii, fIs_ib, fIs_is, fIs_itl, fIs_tt, fIs_tl, fIs_ttl, fIs_lt, fIs_ll, fIs_ltl, fAll_b, fSum_i, fBack_t, fBackL_l]
theorem sk_loop (p : List Int) (hp : p.length ≤ 100) (a b : SV) (L : List (List Int)) (hL : ∀ c ∈ L, IsOrd c ∧ c.length ≤ p.length) (hf : L.foldl sk [] = p) : forG (.nm 5) [5] skBody (L.map ti) [.d (ti p), a, b, .d (ti p), .d (.tuple []), .u, .u, .u] = .ok .nx [.d (ti p), a, b, .d (ti p), .d (ti p), .u, .u, .u] := by
  obtain ⟨g', e1, R, s, h1, h2, h3, h4, h5⟩ := forG_inv (t := .nm 5) (ms := [5]) (b := skBody) (L.map ti)
    (fun l g => ∃ (R : List (List Int)) (s : List Int), l = R.map ti ∧ (∀ c ∈ R, IsOrd c ∧ c.length ≤ p.length) ∧ IsOrd s ∧ R.foldl sk s = p ∧ g = [.d (ti p), a, b, .d (ti p), .d (ti s), .u, .u, .u])
    [.d (ti p), a, b, .d (ti p), .d (.tuple []), .u, .u, .u] ⟨L, [], rfl, hL, isOrd_nil, hf, rfl⟩ (by
      rintro x l g ⟨R, s, h1, h2, h3, h4, rfl⟩ _
      cases R with
      | nil => cases h1
      | cons c R =>
        rw [List.map_cons] at h1
        injection h1 with hx hr
        subst hx
        obtain ⟨c1, c2⟩ := h2 c List.mem_cons_self
        rw [List.foldl_cons] at h4
        have hl := fsk_len R (sk s c)
        rw [h4, sk_len] at hl
        have hs := skew_summed_ok s c h3 c1 (by omega) (by omega)
        exact ⟨[.d (ti p), a, b, .d (ti p), .d (ti s), .d (ti c), .u, .u], [.d (ti p), a, b, .d (ti p), .d (ti (sk s c)), .d (ti c), .u, .u], by simp only [bnd_at, rt_at, thn_ok, thn_ex, oRo_some, oMap_some, brn_t, brn_f, dName_at, slR_d, slR_a, slR_o, vl_d, vl_s, slV_d, slV_a, slV_o, dv_at, dEsc_at, esc_d, esc_s, escS_d, escS_o, dFz_at, dC_at, dNil_at, dCons_at, vNil_at, vCons_at, op2_at, op2r_at, op1_at, op1o_at, opN_at, opNo_at, vls_nil, vls_cons, cutR_at, oNone_at, oSome_at, dTup_at, dLst_at, dB_at, boolD_b, dNot_at, dAnd_at, dOr_at, dIfE_at, dAndV_at, dOrV_at, dNotV_at, dSeq_at, dsq_nx, dsq_rt, dsq_bk, dsq_ct, dsq_ex, sNx_at, sBk_at, sCt_at, sExpr_at, sRet_at, sRetO_at, sRetN_at, sRetV_at, retS_d, retS_o, sSet_at, sSetO_at, sIf_at, ownV_o, msNil_at, msD_at, msO_at, msR_at, gRo_some, sPar_at, setRs_nil, setRs_d, setRs_o, callP_at, callK_at, argO_some, callM_at, outR_ret, outR_ex, argD_nil, argD_v, argD_p, argD_m, argD_vn, argD_vs, Option.some.injEq, Nat.reduceEqDiff, mIx_m, mIx_v, mIx_p, mIx_nil, putM_none, putM_some, putO_o, call1_at, rD_at, rtD_d, rtD_o, rO_at, rtO_o, sExprR_at, sRetR_at, sSetR_at, setS_d, setS_o, runF_at, outF_nx, outF_rt, mOut_some, muOf_nil, muOf_m, muOf_v, muOf_p, chk_some, sSub_at, subS0, subS1, mutS_some, mutP_some, dMut_at, mixR_at, dChain_at, dRep_at, intD_i, rg1_at, rg2_at, dLstRg_go, rgL_ok, dTupRg_go, rgT_ok, dTupRg3_go, rgT3_ok, rgO1_ok, rgO2_ok, rgO3_ok, sm0, sm1, dIndexT_at, seqS_d, seqS_a, seqS_o, seqD_l, seqD_t, itR_d, itR_s, iV_at, iO_at, iR1_go, iR2_go, iR3_go, iEnV_at, iEnO_at, sFor_at, compL_at, fAdd_i, fSub_i, fLt_i, fLe_i, fGt_i, fGe_i, fDiv_33, fPow_64, fPow_33, fPow_18, fNeg_i, fLen_l, fLen_t, fInt_i, fTuple_l, fList_l, fMax_2, fMin_2, fIx_l0, fIx_l1, fIx_l2, fEq_i, start0, svs, svK, svA, List.length_cons, List.length_nil, List.replicate, List.append_nil, List.cons_append, List.nil_append, List.getElem?_cons_zero, List.getElem?_cons_succ, List.set_cons_zero, List.set_cons_succ, Bool.not_true, Bool.not_false, decide_true, decide_false, ne_eq, not_false_eq_true, Nat.reduceAdd, Nat.reduceSub, fMul_take, fMul_7919, fMul_31, Nat.reduceLT, Int.reduceLT, Int.reduceEq, fMod_i, fDiv_i, bdz_ok, setT_nm, fgt_nil, fgt_cons, wipG_nil, wipG_cons, sz1, sz2, sz3, sz4, sz5, Nat.zero_le, fIs_ii, fIs_ib, fIs_is, fIs_itl, fIs_tt, fIs_tl, fIs_ttl, fIs_lt, fIs_ll, fIs_ltl, fAll_b, fSum_i, fBack_t, fBackL_l], .inl (by unfold skBody; simp only [bnd_at, rt_at, thn_ok, thn_ex, oRo_some, oMap_some, brn_t, brn_f, dName_at, slR_d, slR_a, slR_o, vl_d, vl_s, slV_d, slV_a, slV_o, dv_at, dEsc_at, esc_d, esc_s, escS_d, escS_o, dFz_at, dC_at, dNil_at, dCons_at, vNil_at, vCons_at, op2_at, op2r_at, op1_at, op1o_at, opN_at, opNo_at, vls_nil, vls_cons, cutR_at, oNone_at, oSome_at, dTup_at, dLst_at, dB_at, boolD_b, dNot_at, dAnd_at, dOr_at, dIfE_at, dAndV_at, dOrV_at, dNotV_at, dSeq_at, dsq_nx, dsq_rt, dsq_bk, dsq_ct, dsq_ex, sNx_at, sBk_at, sCt_at, sExpr_at, sRet_at, sRetO_at, sRetN_at, sRetV_at, retS_d, retS_o, sSet_at, sSetO_at, sIf_at, ownV_o, msNil_at, msD_at, msO_at, msR_at, gRo_some, sPar_at, setRs_nil, setRs_d, setRs_o, callP_at, callK_at, argO_some, callM_at, outR_ret, outR_ex, argD_nil, argD_v, argD_p, argD_m, argD_vn, argD_vs, Option.some.injEq, Nat.reduceEqDiff, mIx_m, mIx_v, mIx_p, mIx_nil, putM_none, putM_some, putO_o, call1_at, rD_at, rtD_d, rtD_o, rO_at, rtO_o, sExprR_at, sRetR_at, sSetR_at, setS_d, setS_o, runF_at, outF_nx, outF_rt, mOut_some, muOf_nil, muOf_m, muOf_v, muOf_p, chk_some, sSub_at, subS0, subS1, mutS_some, mutP_some, dMut_at, mixR_at, dChain_at, dRep_at, intD_i, rg1_at, rg2_at, dLstRg_go, rgL_ok, dTupRg_go, rgT_ok, dTupRg3_go, rgT3_ok, rgO1_ok, rgO2_ok, rgO3_ok, sm0, sm1, dIndexT_at, seqS_d, seqS_a, seqS_o, seqD_l, seqD_t, itR_d, itR_s, iV_at, iO_at, iR1_go, iR2_go, iR3_go, iEnV_at, iEnO_at, sFor_at, compL_at, fAdd_i, fSub_i, fLt_i, fLe_i, fGt_i, fGe_i, fDiv_33, fPow_64, fPow_33, fPow_18, fNeg_i, fLen_l, fLen_t, fInt_i, fTuple_l, fList_l, fMax_2, fMin_2, fIx_l0, fIx_l1, fIx_l2, fEq_i, start0, svs, svK, svA, List.length_cons, List.length_nil, List.replicate, List.append_nil, List.cons_append, List.nil_append, List.getElem?_cons_zero, List.getElem?_cons_succ, List.set_cons_zero, List.set_cons_succ, Bool.not_true, Bool.not_false, decide_true, decide_false, ne_eq, not_false_eq_true, Nat.reduceAdd, Nat.reduceSub, fMul_take, fMul_7919, fMul_31, Nat.reduceLT, Int.reduceLT, Int.reduceEq, fMod_i, fDiv_i, bdz_ok, setT_nm, fgt_nil, fgt_cons, wipG_nil, wipG_cons, sz1, sz2, sz3, sz4, sz5, Nat.zero_le, fIs_ii, fIs_ib, fIs_is, fIs_itl, fIs_tt, fIs_tl, fIs_ttl, fIs_lt, fIs_ll, fIs_ltl, fAll_b, fSum_i, fBack_t, fBackL_l, hs]), R, sk s c, hr, fun d hd => h2 d (List.mem_cons_of_mem _ hd), ord_sk h3 c1, h4, by simp only [bnd_at, rt_at, thn_ok, thn_ex, oRo_some, oMap_some, brn_t, brn_f, dName_at, slR_d, slR_a, slR_o, vl_d, vl_s, slV_d, slV_a, slV_o, dv_at, dEsc_at, esc_d, esc_s, escS_d, escS_o, dFz_at, dC_at, dNil_at, dCons_at, vNil_at, vCons_at, op2_at, op2r_at, op1_at, op1o_at, opN_at, opNo_at, vls_nil, vls_cons, cutR_at, oNone_at, oSome_at, dTup_at, dLst_at, dB_at, boolD_b, dNot_at, dAnd_at, dOr_at, dIfE_at, dAndV_at, dOrV_at, dNotV_at, dSeq_at, dsq_nx, dsq_rt, dsq_bk, dsq_ct, dsq_ex, sNx_at, sBk_at, sCt_at, sExpr_at, sRet_at, sRetO_at, sRetN_at, sRetV_at, retS_d, retS_o, sSet_at, sSetO_at, sIf_at, ownV_o, msNil_at, msD_at, msO_at, msR_at, gRo_some, sPar_at, setRs_nil, setRs_d, setRs_o, callP_at, callK_at, argO_some, callM_at, outR_ret, outR_ex, argD_nil, argD_v, argD_p, argD_m, argD_vn, argD_vs, Option.some.injEq, Nat.reduceEqDiff, mIx_m, mIx_v, mIx_p, mIx_nil, putM_none, putM_some, putO_o, call1_at, rD_at, rtD_d, rtD_o, rO_at, rtO_o, sExprR_at, sRetR_at, sSetR_at, setS_d, setS_o, runF_at, outF_nx, outF_rt, mOut_some, muOf_nil, muOf_m, muOf_v, muOf_p, chk_some, sSub_at, subS0, subS1, mutS_some, mutP_some, dMut_at, mixR_at, dChain_at, dRep_at, intD_i, rg1_at, rg2_at, dLstRg_go, rgL_ok, dTupRg_go, rgT_ok, dTupRg3_go, rgT3_ok, rgO1_ok, rgO2_ok, rgO3_ok, sm0, sm1, dIndexT_at, seqS_d, seqS_a, seqS_o, seqD_l, seqD_t, itR_d, itR_s, iV_at, iO_at, iR1_go, iR2_go, iR3_go, iEnV_at, iEnO_at, sFor_at, compL_at, fAdd_i, fSub_i, fLt_i, fLe_i, fGt_i, fGe_i, fDiv_33, fPow_64, fPow_33, fPow_18, fNeg_i, fLen_l, fLen_t, fInt_i, fTuple_l, fList_l, fMax_2, fMin_2, fIx_l0, fIx_l1, fIx_l2, fEq_i, start0, svs, svK, svA, List.length_cons, List.length_nil, List.replicate, List.append_nil, List.cons_append, List.nil_append, List.getElem?_cons_zero, List.getElem?_cons_succ, List.set_cons_zero, List.set_cons_succ, Bool.not_true, Bool.not_false, decide_true, decide_false, ne_eq, not_false_eq_true, Nat.reduceAdd, Nat.reduceSub, fMul_take, fMul_7919, fMul_31, Nat.reduceLT, Int.reduceLT, Int.reduceEq, fMod_i, fDiv_i, bdz_ok, setT_nm, fgt_nil, fgt_cons, wipG_nil, wipG_cons, sz1, sz2, sz3, sz4, sz5, Nat.zero_le, fIs_ii, fIs_ib, fIs_is, fIs_itl, fIs_tt, fIs_tl, fIs_ttl, fIs_lt, fIs_ll, fIs_ltl, fAll_b, fSum_i, fBack_t, fBackL_l]⟩)
  cases R with
  | cons c R => cases h1
  | nil =>
    have : s = p := h4
    subst this
    rw [e1, h5]
    simp only [bnd_at, rt_at, thn_ok, thn_ex, oRo_some, oMap_some, brn_t, brn_f, dName_at, slR_d, slR_a, slR_o, vl_d, vl_s, slV_d, slV_a, slV_o, dv_at, dEsc_at, esc_d, esc_s, escS_d, escS_o, dFz_at, dC_at, dNil_at, dCons_at, vNil_at, vCons_at, op2_at, op2r_at, op1_at, op1o_at, opN_at, opNo_at, vls_nil, vls_cons, cutR_at, oNone_at, oSome_at, dTup_at, dLst_at, dB_at, boolD_b, dNot_at, dAnd_at, dOr_at, dIfE_at, dAndV_at, dOrV_at, dNotV_at, dSeq_at, dsq_nx, dsq_rt, dsq_bk, dsq_ct, dsq_ex, sNx_at, sBk_at, sCt_at, sExpr_at, sRet_at, sRetO_at, sRetN_at, sRetV_at, retS_d, retS_o, sSet_at, sSetO_at, sIf_at, ownV_o, msNil_at, msD_at, msO_at, msR_at, gRo_some, sPar_at, setRs_nil, setRs_d, setRs_o, callP_at, callK_at, argO_some, callM_at, outR_ret, outR_ex, argD_nil, argD_v, argD_p, argD_m, argD_vn, argD_vs, Option.some.injEq, Nat.reduceEqDiff, mIx_m, mIx_v, mIx_p, mIx_nil, putM_none, putM_some, putO_o, call1_at, rD_at, rtD_d, rtD_o, rO_at, rtO_o, sExprR_at, sRetR_at, sSetR_at, setS_d, setS_o, runF_at, outF_nx, outF_rt, mOut_some, muOf_nil, muOf_m, muOf_v, muOf_p, chk_some, sSub_at, subS0, subS1, mutS_some, mutP_some, dMut_at, mixR_at, dChain_at, dRep_at, intD_i, rg1_at, rg2_at, dLstRg_go, rgL_ok, dTupRg_go, rgT_ok, dTupRg3_go, rgT3_ok, rgO1_ok, rgO2_ok, rgO3_ok, sm0, sm1, dIndexT_at, seqS_d, seqS_a, seqS_o, seqD_l, seqD_t, itR_d, itR_s, iV_at, iO_at, iR1_go, iR2_go, iR3_go, iEnV_at, iEnO_at, sFor_at, compL_at, fAdd_i, fSub_i, fLt_i, fLe_i, fGt_i, fGe_i, fDiv_33, fPow_64, fPow_33, fPow_18, fNeg_i, fLen_l, fLen_t, fInt_i, fTuple_l, fList_l, fMax_2, fMin_2, fIx_l0, fIx_l1, fIx_l2, fEq_i, start0, svs, svK, svA, List.length_cons, List.length_nil, List.replicate, List.append_nil, List.cons_append, List.nil_append, List.getElem?_cons_zero, List.getElem?_cons_succ, List.set_cons_zero, List.set_cons_succ, Bool.not_true, Bool.not_false, decide_true, decide_false, ne_eq, not_false_eq_true, Nat.reduceAdd, Nat.reduceSub, fMul_take, fMul_7919, fMul_31, Nat.reduceLT, Int.reduceLT, Int.reduceEq, fMod_i, fDiv_i, bdz_ok, setT_nm, fgt_nil, fgt_cons, wipG_nil, wipG_cons, sz1, sz2, sz3, sz4, sz5, Nat.zero_le, fIs_ii, fIs_ib, fIs_is, fIs_itl, fIs_tt, fIs_tl, fIs_ttl, fIs_lt, fIs_ll, fIs_ltl, fAll_b, fSum_i, fBack_t, fBackL_l]
theorem pick0 (r : Rs) : pick [0] [r] = [r] := Eq.trans rfl rfl
theorem sh_tt (n : Nat) (L : List (List Int)) (h : L.length ≤ 100000) (k : ∀ c ∈ L, c.length ≤ 100000) : Sh (n + 2) (.tuple (L.map ti)) := .tup (by rw [List.length_map]; exact h) fun x hx => by
  obtain ⟨c, hc, rfl⟩ := List.mem_map.mp hx
  exact sh_ti n c (k c hc)
theorem parts_right_ok (p : List Int) (ip : IsOrd p) (hp : p.length ≤ 100) : φ__law_parts_right [ti p] = .ret (.d (.bool true)) [] := by
  have p1 := parts_ok p ip hp
  have p2 := skew_parts_ok p ip hp
  have p3 := skew_parts_ok (mi p) (isOrd_mi ip) (by rw [mi_len]; exact hp)
  rw [mi_mi] at p3
  have q1 := split_ok p ip hp false
  have q2 := split_ok p ip hp true
  have n1 := spl_count false ip
  have n2 := spl_count true ip
  have m1 := spl_mem false ip
  have m2 := spl_mem true ip
  have e1 : Pp p = spl false p := rfl
  have e2 : (Pp (mi p)).map mi = spl true p := rfl
  have fo1 : (spl false p).foldl sm [] = p := by
    rw [← e1, fold_sm ip, nil_sm]
  have fo2 : (spl true p).foldl sk [] = p := by
    rw [← e2]
    exact fold_skew ip
  have nb : ¬(1 < (spl false p).length ∧ 1 < (spl true p).length) := fun z => not_both ip z.1 (by
    have := z.2
    rw [← e2, List.length_map] at this
    exact this)
  rw [e1] at p1 p3
  rw [e2] at p2
  have t1 : Sh 2 (.tuple ((spl false p).map ti)) := sh_tt 0 _ (by omega) fun c hc => by have := (m1 c hc).2; omega
  have t2 : Sh 2 (.tuple ((spl true p).map ti)) := sh_tt 0 _ (by omega) fun c hc => by have := (m2 c hc).2; omega
  have t3 : Sh 2 (.tuple (((spl false p).map mi).map ti)) := sh_tt 0 _ (by rw [List.length_map]; omega) fun c hc => by
    obtain ⟨d, hd, rfl⟩ := List.mem_map.mp hc
    have := (m1 d hd).2
    rw [mi_len]
    omega
  have t0 : Sh 2 (ti p) := sh_ti 1 p (by omega)
  have s1 := same_ok 3 (.list [.tuple ((spl false p).map ti), .tuple ((spl false p).map ti), .tuple ((spl true p).map ti), .tuple ((spl true p).map ti)]) (.lst (by simp) (by
    intro x hx
    simp only [List.mem_cons, List.mem_nil_iff, or_false] at hx
    rcases hx with rfl | rfl | rfl | rfl <;> assumption)) 5 (by omega)
  have s2 := same_ok 3 (.list [ti p, ti p, .tuple (((spl false p).map mi).map ti)]) (.lst (by simp) (by
    intro x hx
    simp only [List.mem_cons, List.mem_nil_iff, or_false] at hx
    rcases hx with rfl | rfl | rfl <;> assumption)) 5 (by omega)
  have lo1 := add_loop p hp (.d (.tuple ((spl false p).map ti))) (.d (.tuple ((spl true p).map ti))) _ m1 fo1
  have lo2 := sk_loop p hp (.d (.tuple ((spl false p).map ti))) (.d (.tuple ((spl true p).map ti))) _ m2 fo2
  have hd := compB_one (i := 5) (enc := ti) (f := fun c => ti (mi c)) (me := opN fTuple (vCons (dv (dFz (compL [7] (.nm 7) (iV (dName 5)) (rt true) (op2 fSub (dv (rD (op2r fAdd fCat (dv (opN fLen (vCons (dName 5) vNil))) (dv (dC (.int 1)))))) (dName 7))))) vNil)) (g := [.d (ti p), .d (.tuple ((spl false p).map ti)), .d (.tuple ((spl true p).map ti)), .d (ti p), .d (ti p), .u, .u, .u]) (spl false p) (by omega) rfl fun c hcm => by
    have hcl := (m1 c hcm).2
    have hc' := compB_one (i := 7) (enc := PyData.int) (f := fun x => .int ((c.length : Int) + 1 - x)) (me := op2 fSub (dv (rD (op2r fAdd fCat (dv (opN fLen (vCons (dName 5) vNil))) (dv (dC (.int 1)))))) (dName 7)) (g := [.d (ti p), .d (.tuple ((spl false p).map ti)), .d (.tuple ((spl true p).map ti)), .d (ti p), .d (ti p), .d (ti c), .u, .u]) c (by omega) rfl fun x hx => by simp only [bnd_at, rt_at, thn_ok, thn_ex, oRo_some, oMap_some, brn_t, brn_f, dName_at, slR_d, slR_a, slR_o, vl_d, vl_s, slV_d, slV_a, slV_o, dv_at, dEsc_at, esc_d, esc_s, escS_d, escS_o, dFz_at, dC_at, dNil_at, dCons_at, vNil_at, vCons_at, op2_at, op2r_at, op1_at, op1o_at, opN_at, opNo_at, vls_nil, vls_cons, cutR_at, oNone_at, oSome_at, dTup_at, dLst_at, dB_at, boolD_b, dNot_at, dAnd_at, dOr_at, dIfE_at, dAndV_at, dOrV_at, dNotV_at, dSeq_at, dsq_nx, dsq_rt, dsq_bk, dsq_ct, dsq_ex, sNx_at, sBk_at, sCt_at, sExpr_at, sRet_at, sRetO_at, sRetN_at, sRetV_at, retS_d, retS_o, sSet_at, sSetO_at, sIf_at, ownV_o, msNil_at, msD_at, msO_at, msR_at, gRo_some, sPar_at, setRs_nil, setRs_d, setRs_o, callP_at, callK_at, argO_some, callM_at, outR_ret, outR_ex, argD_nil, argD_v, argD_p, argD_m, argD_vn, argD_vs, Option.some.injEq, Nat.reduceEqDiff, mIx_m, mIx_v, mIx_p, mIx_nil, putM_none, putM_some, putO_o, call1_at, rD_at, rtD_d, rtD_o, rO_at, rtO_o, sExprR_at, sRetR_at, sSetR_at, setS_d, setS_o, runF_at, outF_nx, outF_rt, mOut_some, muOf_nil, muOf_m, muOf_v, muOf_p, chk_some, sSub_at, subS0, subS1, mutS_some, mutP_some, dMut_at, mixR_at, dChain_at, dRep_at, intD_i, rg1_at, rg2_at, dLstRg_go, rgL_ok, dTupRg_go, rgT_ok, dTupRg3_go, rgT3_ok, rgO1_ok, rgO2_ok, rgO3_ok, sm0, sm1, dIndexT_at, seqS_d, seqS_a, seqS_o, seqD_l, seqD_t, itR_d, itR_s, iV_at, iO_at, iR1_go, iR2_go, iR3_go, iEnV_at, iEnO_at, sFor_at, compL_at, fAdd_i, fSub_i, fLt_i, fLe_i, fGt_i, fGe_i, fDiv_33, fPow_64, fPow_33, fPow_18, fNeg_i, fLen_l, fLen_t, fInt_i, fTuple_l, fList_l, fMax_2, fMin_2, fIx_l0, fIx_l1, fIx_l2, fEq_i, start0, svs, svK, svA, List.length_cons, List.length_nil, List.replicate, List.append_nil, List.cons_append, List.nil_append, List.getElem?_cons_zero, List.getElem?_cons_succ, List.set_cons_zero, List.set_cons_succ, Bool.not_true, Bool.not_false, decide_true, decide_false, ne_eq, not_false_eq_true, Nat.reduceAdd, Nat.reduceSub, fMul_take, fMul_7919, fMul_31, Nat.reduceLT, Int.reduceLT, Int.reduceEq, fMod_i, fDiv_i, bdz_ok, setT_nm, fgt_nil, fgt_cons, wipG_nil, wipG_cons, sz1, sz2, sz3, sz4, sz5, Nat.zero_le, fIs_ii, fIs_ib, fIs_is, fIs_itl, fIs_tt, fIs_tl, fIs_ttl, fIs_lt, fIs_ll, fIs_ltl, fAll_b, fSum_i, fBack_t, fBackL_l, List.length_map]
    have e' : c.map (fun x => PyData.int ((c.length : Int) + 1 - x)) = (mi c).map .int := by simp [mi]
    rw [e'] at hc'
    simp only [bnd_at, rt_at, thn_ok, thn_ex, oRo_some, oMap_some, brn_t, brn_f, dName_at, slR_d, slR_a, slR_o, vl_d, vl_s, slV_d, slV_a, slV_o, dv_at, dEsc_at, esc_d, esc_s, escS_d, escS_o, dFz_at, dC_at, dNil_at, dCons_at, vNil_at, vCons_at, op2_at, op2r_at, op1_at, op1o_at, opN_at, opNo_at, vls_nil, vls_cons, cutR_at, oNone_at, oSome_at, dTup_at, dLst_at, dB_at, boolD_b, dNot_at, dAnd_at, dOr_at, dIfE_at, dAndV_at, dOrV_at, dNotV_at, dSeq_at, dsq_nx, dsq_rt, dsq_bk, dsq_ct, dsq_ex, sNx_at, sBk_at, sCt_at, sExpr_at, sRet_at, sRetO_at, sRetN_at, sRetV_at, retS_d, retS_o, sSet_at, sSetO_at, sIf_at, ownV_o, msNil_at, msD_at, msO_at, msR_at, gRo_some, sPar_at, setRs_nil, setRs_d, setRs_o, callP_at, callK_at, argO_some, callM_at, outR_ret, outR_ex, argD_nil, argD_v, argD_p, argD_m, argD_vn, argD_vs, Option.some.injEq, Nat.reduceEqDiff, mIx_m, mIx_v, mIx_p, mIx_nil, putM_none, putM_some, putO_o, call1_at, rD_at, rtD_d, rtD_o, rO_at, rtO_o, sExprR_at, sRetR_at, sSetR_at, setS_d, setS_o, runF_at, outF_nx, outF_rt, mOut_some, muOf_nil, muOf_m, muOf_v, muOf_p, chk_some, sSub_at, subS0, subS1, mutS_some, mutP_some, dMut_at, mixR_at, dChain_at, dRep_at, intD_i, rg1_at, rg2_at, dLstRg_go, rgL_ok, dTupRg_go, rgT_ok, dTupRg3_go, rgT3_ok, rgO1_ok, rgO2_ok, rgO3_ok, sm0, sm1, dIndexT_at, seqS_d, seqS_a, seqS_o, seqD_l, seqD_t, itR_d, itR_s, iV_at, iO_at, iR1_go, iR2_go, iR3_go, iEnV_at, iEnO_at, sFor_at, compL_at, fAdd_i, fSub_i, fLt_i, fLe_i, fGt_i, fGe_i, fDiv_33, fPow_64, fPow_33, fPow_18, fNeg_i, fLen_l, fLen_t, fInt_i, fTuple_l, fList_l, fMax_2, fMin_2, fIx_l0, fIx_l1, fIx_l2, fEq_i, start0, svs, svK, svA, List.length_cons, List.length_nil, List.replicate, List.append_nil, List.cons_append, List.nil_append, List.getElem?_cons_zero, List.getElem?_cons_succ, List.set_cons_zero, List.set_cons_succ, Bool.not_true, Bool.not_false, decide_true, decide_false, ne_eq, not_false_eq_true, Nat.reduceAdd, Nat.reduceSub, fMul_take, fMul_7919, fMul_31, Nat.reduceLT, Int.reduceLT, Int.reduceEq, fMod_i, fDiv_i, bdz_ok, setT_nm, fgt_nil, fgt_cons, wipG_nil, wipG_cons, sz1, sz2, sz3, sz4, sz5, Nat.zero_le, fIs_ii, fIs_ib, fIs_is, fIs_itl, fIs_tt, fIs_tl, fIs_ttl, fIs_lt, fIs_ll, fIs_ltl, fAll_b, fSum_i, fBack_t, fBackL_l, hc']
  have ed : (spl false p).map (fun c => ti (mi c)) = ((spl false p).map mi).map ti := by rw [List.map_map]; rfl
  rw [ed] at hd
  have g1 : ∀ (a b c : Bool), ¬(b = true ∧ c = true) → (a && b && c) = false := fun a b c h => by
    cases a <;> cases b <;> cases c <;> simp_all
  have i1 : ((1 : Int) < ((spl false p).length : Int)) ↔ 1 < (spl false p).length := by omega
  have i2 : ((1 : Int) < ((spl true p).length : Int)) ↔ 1 < (spl true p).length := by omega
  unfold φ__law_parts_right m__law_parts_right
  by_cases c1 : 1 < (spl false p).length
  · have c2 : ¬ 1 < (spl true p).length := fun z => nb ⟨c1, z⟩
    have c3 : 1 < p.length := by omega
    have d1 : decide ((p.length : Int) > 1) = true := decide_eq_true (by omega)
    have d2 : decide (((spl false p).length : Int) > 1) = true := decide_eq_true (by omega)
    have d3 : decide (((spl true p).length : Int) > 1) = false := decide_eq_false (by omega)
    simp only [bnd_at, rt_at, thn_ok, thn_ex, oRo_some, oMap_some, brn_t, brn_f, dName_at, slR_d, slR_a, slR_o, vl_d, vl_s, slV_d, slV_a, slV_o, dv_at, dEsc_at, esc_d, esc_s, escS_d, escS_o, dFz_at, dC_at, dNil_at, dCons_at, vNil_at, vCons_at, op2_at, op2r_at, op1_at, op1o_at, opN_at, opNo_at, vls_nil, vls_cons, cutR_at, oNone_at, oSome_at, dTup_at, dLst_at, dB_at, boolD_b, dNot_at, dAnd_at, dOr_at, dIfE_at, dAndV_at, dOrV_at, dNotV_at, dSeq_at, dsq_nx, dsq_rt, dsq_bk, dsq_ct, dsq_ex, sNx_at, sBk_at, sCt_at, sExpr_at, sRet_at, sRetO_at, sRetN_at, sRetV_at, retS_d, retS_o, sSet_at, sSetO_at, sIf_at, ownV_o, msNil_at, msD_at, msO_at, msR_at, gRo_some, sPar_at, setRs_nil, setRs_d, setRs_o, callP_at, callK_at, argO_some, callM_at, outR_ret, outR_ex, argD_nil, argD_v, argD_p, argD_m, argD_vn, argD_vs, Option.some.injEq, Nat.reduceEqDiff, mIx_m, mIx_v, mIx_p, mIx_nil, putM_none, putM_some, putO_o, call1_at, rD_at, rtD_d, rtD_o, rO_at, rtO_o, sExprR_at, sRetR_at, sSetR_at, setS_d, setS_o, runF_at, outF_nx, outF_rt, mOut_some, muOf_nil, muOf_m, muOf_v, muOf_p, chk_some, sSub_at, subS0, subS1, mutS_some, mutP_some, dMut_at, mixR_at, dChain_at, dRep_at, intD_i, rg1_at, rg2_at, dLstRg_go, rgL_ok, dTupRg_go, rgT_ok, dTupRg3_go, rgT3_ok, rgO1_ok, rgO2_ok, rgO3_ok, sm0, sm1, dIndexT_at, seqS_d, seqS_a, seqS_o, seqD_l, seqD_t, itR_d, itR_s, iV_at, iO_at, iR1_go, iR2_go, iR3_go, iEnV_at, iEnO_at, sFor_at, compL_at, fAdd_i, fSub_i, fLt_i, fLe_i, fGt_i, fGe_i, fDiv_33, fPow_64, fPow_33, fPow_18, fNeg_i, fLen_l, fLen_t, fInt_i, fTuple_l, fList_l, fMax_2, fMin_2, fIx_l0, fIx_l1, fIx_l2, fEq_i, start0, svs, svK, svA, List.length_cons, List.length_nil, List.replicate, List.append_nil, List.cons_append, List.nil_append, List.getElem?_cons_zero, List.getElem?_cons_succ, List.set_cons_zero, List.set_cons_succ, Bool.not_true, Bool.not_false, decide_true, decide_false, ne_eq, not_false_eq_true, Nat.reduceAdd, Nat.reduceSub, fMul_take, fMul_7919, fMul_31, Nat.reduceLT, Int.reduceLT, Int.reduceEq, fMod_i, fDiv_i, bdz_ok, setT_nm, fgt_nil, fgt_cons, wipG_nil, wipG_cons, sz1, sz2, sz3, sz4, sz5, Nat.zero_le, fIs_ii, fIs_ib, fIs_is, fIs_itl, fIs_tt, fIs_tl, fIs_ttl, fIs_lt, fIs_ll, fIs_ltl, fAll_b, fSum_i, fBack_t, fBackL_l, q1, q2, p1, p2, p3, pick0, s1, s2, List.length_map, d1, d2, d3, lo1, lo2, hd, mirrored_ok p ip (by omega)]
  · have d2 : decide (((spl false p).length : Int) > 1) = false := decide_eq_false (by omega)
    by_cases c3 : 1 < p.length
    · have d1 : decide ((p.length : Int) > 1) = true := decide_eq_true (by omega)
      simp only [bnd_at, rt_at, thn_ok, thn_ex, oRo_some, oMap_some, brn_t, brn_f, dName_at, slR_d, slR_a, slR_o, vl_d, vl_s, slV_d, slV_a, slV_o, dv_at, dEsc_at, esc_d, esc_s, escS_d, escS_o, dFz_at, dC_at, dNil_at, dCons_at, vNil_at, vCons_at, op2_at, op2r_at, op1_at, op1o_at, opN_at, opNo_at, vls_nil, vls_cons, cutR_at, oNone_at, oSome_at, dTup_at, dLst_at, dB_at, boolD_b, dNot_at, dAnd_at, dOr_at, dIfE_at, dAndV_at, dOrV_at, dNotV_at, dSeq_at, dsq_nx, dsq_rt, dsq_bk, dsq_ct, dsq_ex, sNx_at, sBk_at, sCt_at, sExpr_at, sRet_at, sRetO_at, sRetN_at, sRetV_at, retS_d, retS_o, sSet_at, sSetO_at, sIf_at, ownV_o, msNil_at, msD_at, msO_at, msR_at, gRo_some, sPar_at, setRs_nil, setRs_d, setRs_o, callP_at, callK_at, argO_some, callM_at, outR_ret, outR_ex, argD_nil, argD_v, argD_p, argD_m, argD_vn, argD_vs, Option.some.injEq, Nat.reduceEqDiff, mIx_m, mIx_v, mIx_p, mIx_nil, putM_none, putM_some, putO_o, call1_at, rD_at, rtD_d, rtD_o, rO_at, rtO_o, sExprR_at, sRetR_at, sSetR_at, setS_d, setS_o, runF_at, outF_nx, outF_rt, mOut_some, muOf_nil, muOf_m, muOf_v, muOf_p, chk_some, sSub_at, subS0, subS1, mutS_some, mutP_some, dMut_at, mixR_at, dChain_at, dRep_at, intD_i, rg1_at, rg2_at, dLstRg_go, rgL_ok, dTupRg_go, rgT_ok, dTupRg3_go, rgT3_ok, rgO1_ok, rgO2_ok, rgO3_ok, sm0, sm1, dIndexT_at, seqS_d, seqS_a, seqS_o, seqD_l, seqD_t, itR_d, itR_s, iV_at, iO_at, iR1_go, iR2_go, iR3_go, iEnV_at, iEnO_at, sFor_at, compL_at, fAdd_i, fSub_i, fLt_i, fLe_i, fGt_i, fGe_i, fDiv_33, fPow_64, fPow_33, fPow_18, fNeg_i, fLen_l, fLen_t, fInt_i, fTuple_l, fList_l, fMax_2, fMin_2, fIx_l0, fIx_l1, fIx_l2, fEq_i, start0, svs, svK, svA, List.length_cons, List.length_nil, List.replicate, List.append_nil, List.cons_append, List.nil_append, List.getElem?_cons_zero, List.getElem?_cons_succ, List.set_cons_zero, List.set_cons_succ, Bool.not_true, Bool.not_false, decide_true, decide_false, ne_eq, not_false_eq_true, Nat.reduceAdd, Nat.reduceSub, fMul_take, fMul_7919, fMul_31, Nat.reduceLT, Int.reduceLT, Int.reduceEq, fMod_i, fDiv_i, bdz_ok, setT_nm, fgt_nil, fgt_cons, wipG_nil, wipG_cons, sz1, sz2, sz3, sz4, sz5, Nat.zero_le, fIs_ii, fIs_ib, fIs_is, fIs_itl, fIs_tt, fIs_tl, fIs_ttl, fIs_lt, fIs_ll, fIs_ltl, fAll_b, fSum_i, fBack_t, fBackL_l, q1, q2, p1, p2, p3, pick0, s1, s2, List.length_map, d1, d2, lo1, lo2, hd, mirrored_ok p ip (by omega)]
    · have d1 : decide ((p.length : Int) > 1) = false := decide_eq_false (by omega)
      simp only [bnd_at, rt_at, thn_ok, thn_ex, oRo_some, oMap_some, brn_t, brn_f, dName_at, slR_d, slR_a, slR_o, vl_d, vl_s, slV_d, slV_a, slV_o, dv_at, dEsc_at, esc_d, esc_s, escS_d, escS_o, dFz_at, dC_at, dNil_at, dCons_at, vNil_at, vCons_at, op2_at, op2r_at, op1_at, op1o_at, opN_at, opNo_at, vls_nil, vls_cons, cutR_at, oNone_at, oSome_at, dTup_at, dLst_at, dB_at, boolD_b, dNot_at, dAnd_at, dOr_at, dIfE_at, dAndV_at, dOrV_at, dNotV_at, dSeq_at, dsq_nx, dsq_rt, dsq_bk, dsq_ct, dsq_ex, sNx_at, sBk_at, sCt_at, sExpr_at, sRet_at, sRetO_at, sRetN_at, sRetV_at, retS_d, retS_o, sSet_at, sSetO_at, sIf_at, ownV_o, msNil_at, msD_at, msO_at, msR_at, gRo_some, sPar_at, setRs_nil, setRs_d, setRs_o, callP_at, callK_at, argO_some, callM_at, outR_ret, outR_ex, argD_nil, argD_v, argD_p, argD_m, argD_vn, argD_vs, Option.some.injEq, Nat.reduceEqDiff, mIx_m, mIx_v, mIx_p, mIx_nil, putM_none, putM_some, putO_o, call1_at, rD_at, rtD_d, rtD_o, rO_at, rtO_o, sExprR_at, sRetR_at, sSetR_at, setS_d, setS_o, runF_at, outF_nx, outF_rt, mOut_some, muOf_nil, muOf_m, muOf_v, muOf_p, chk_some, sSub_at, subS0, subS1, mutS_some, mutP_some, dMut_at, mixR_at, dChain_at, dRep_at, intD_i, rg1_at, rg2_at, dLstRg_go, rgL_ok, dTupRg_go, rgT_ok, dTupRg3_go, rgT3_ok, rgO1_ok, rgO2_ok, rgO3_ok, sm0, sm1, dIndexT_at, seqS_d, seqS_a, seqS_o, seqD_l, seqD_t, itR_d, itR_s, iV_at, iO_at, iR1_go, iR2_go, iR3_go, iEnV_at, iEnO_at, sFor_at, compL_at, fAdd_i, fSub_i, fLt_i, fLe_i, fGt_i, fGe_i, fDiv_33, fPow_64, fPow_33, fPow_18, fNeg_i, fLen_l, fLen_t, fInt_i, fTuple_l, fList_l, fMax_2, fMin_2, fIx_l0, fIx_l1, fIx_l2, fEq_i, start0, svs, svK, svA, List.length_cons, List.length_nil, List.replicate, List.append_nil, List.cons_append, List.nil_append, List.getElem?_cons_zero, List.getElem?_cons_succ, List.set_cons_zero, List.set_cons_succ, Bool.not_true, Bool.not_false, decide_true, decide_false, ne_eq, not_false_eq_true, Nat.reduceAdd, Nat.reduceSub, fMul_take, fMul_7919, fMul_31, Nat.reduceLT, Int.reduceLT, Int.reduceEq, fMod_i, fDiv_i, bdz_ok, setT_nm, fgt_nil, fgt_cons, wipG_nil, wipG_cons, sz1, sz2, sz3, sz4, sz5, Nat.zero_le, fIs_ii, fIs_ib, fIs_is, fIs_itl, fIs_tt, fIs_tl, fIs_ttl, fIs_lt, fIs_ll, fIs_ltl, fAll_b, fSum_i, fBack_t, fBackL_l, q1, q2, p1, p2, p3, pick0, s1, s2, List.length_map, d1, d2, lo1, lo2, hd, mirrored_ok p ip (by omega)]
end Ck04
set_option Elab.async false
set_option linter.all false
set_option maxRecDepth 100000
set_option autoImplicit false
set_option maxHeartbeats 4000000
namespace Ck04
open PySem PySem.Spec PyProof.Rows L2 Z
abbrev lawBody : M Fl := (dSeq (sSetR 2 (callP [.v, .v] φ__law_deck (vCons (dName 0) (vCons (dName 1) vNil))))
    (dSeq (sPar [3, 4] (msR (callP [.m, .v] φ__law_row (vCons (dName 2) (vCons (dv (dC (.int 6))) vNil))) (msR (callP [.m, .v] φ__law_row (vCons (dName 2) (vCons (dv (op2 fIx (dv (dFz (dLst (dCons (dC (.int 2)) (dCons (dC (.int 6)) dNil))))) (dv (rD (callP [.m, .v] φ__law_take (vCons (dName 2) (vCons (dv (dC (.int 2))) vNil))))))) vNil))) msNil)))
    (dSeq (sIf (dOr (dNot (dB (rD (callP [.v, .v] φ__law_summed_right (vCons (dName 3) (vCons (dName 4) vNil)))))) (dOr (dNot (dB (rD (callP [.v, .v] φ__law_summed_right (vCons (dv (dTup dNil)) (vCons (dName 3) vNil)))))) (dNot (dB (rD (callP [.v, .v] φ__law_summed_right (vCons (dName 3) (vCons (dv (dTup dNil)) vNil)))))))) (sRet (dC (.bool false))) sNx)
    (dSeq (sSet 5 (op2 fIx (dv (dFz (dLst (dCons (rD (callP [.v, .v] φ__law_sum (vCons (dName 3) (vCons (dName 4) vNil)))) (dCons (rD (callP [.v, .v] φ__law_skew_sum (vCons (dName 3) (vCons (dName 4) vNil)))) (dCons (rD (callP [.m, .v] φ__law_row (vCons (dName 2) (vCons (dv (dC (.int 12))) vNil)))) dNil)))))) (dv (rD (callP [.m, .v] φ__law_take (vCons (dName 2) (vCons (dv (dC (.int 3))) vNil)))))))
    (sIf (dOr (dNot (dB (rD (callP [.p] φ__law_parts_right (vCons (dv (dEsc (dName 5))) vNil))))) (dNot (dB (rD (callP [.p] φ__law_parts_right (vCons (dv (dEsc (dName 3))) vNil)))))) (sRet (dC (.bool false))) sNx)))))
theorem law_step (ns : List Int) (k : Nat) : ∃ g : En, lawBody [.a (ns.map .int), .d (.int (k : Int)), .u, .u, .u, .u] = .ok .nx g ∧ fgt [1, 2, 3, 4, 5] g = [.a (ns.map .int), .u, .u, .u, .u, .u] := by
  obtain ⟨l0, h0, d0⟩ := deck_ok ns k
  obtain ⟨p, l1, h1, d1, ip, np⟩ := row_ok d0 6 (by omega)
  obtain ⟨r, l2, h2, d2, r0, r1⟩ := take_ok d1 2 (by omega) (by omega)
  obtain ⟨m, hm, mx⟩ : ∃ m : Nat, fIx (.list [.int 2, .int 6]) (.int r) = some (.int (m : Int)) ∧ m ≤ 6 := by
    have : r = 0 ∨ r = 1 := by omega
    rcases this with rfl | rfl
    · exact ⟨2, fIx_l0 _ _, by omega⟩
    · exact ⟨6, fIx_l1 _ _ _, by omega⟩
  obtain ⟨q, l3, h3, d3, iq, nq⟩ := row_ok d2 m (by omega)
  obtain ⟨w, l4, h4, d4, iw, nw⟩ := row_ok d3 12 (by omega)
  obtain ⟨s, l5, h5, d5, s0, s1⟩ := take_ok d4 3 (by omega) (by omega)
  obtain ⟨z, hz, iz, nz⟩ : ∃ z : List Int, fIx (.list [ti (sm p q), ti (sk p q), ti w]) (.int s) = some (ti z) ∧ IsOrd z ∧ z.length ≤ 100 := by
    have : s = 0 ∨ s = 1 ∨ s = 2 := by omega
    rcases this with rfl | rfl | rfl
    · exact ⟨sm p q, fIx_l0 _ _, ord_sm ip iq, by rw [sm_len]; omega⟩
    · exact ⟨sk p q, fIx_l1 _ _ _, ord_sk ip iq, by rw [sk_len]; omega⟩
    · exact ⟨w, fIx_l2 _ _ _ _, iw, by omega⟩
  have a1 := summed_right_ok p q ip iq (by omega) (by omega)
  have a2 := summed_right_ok [] p isOrd_nil ip (by simp) (by omega)
  have a3 := summed_right_ok p [] ip isOrd_nil (by omega) (by simp)
  have a4 := lsum_ok p q (by omega) (by omega)
  have a5 := lskew_ok p q (by omega) (by omega)
  have a6 := parts_right_ok z iz nz
  have a7 := parts_right_ok p ip (by omega)
  have en : (ti []) = .tuple [] := rfl
  rw [en] at a2 a3
  rw [show ((6 : Nat) : Int) = 6 from rfl] at h1
  rw [show ((12 : Nat) : Int) = 12 from rfl] at h4
  refine ⟨[.a (ns.map .int), .d (.int (k : Int)), .own false l5, .d (ti p), .d (ti q), .d (ti z)], ?_, by simp only [bnd_at, rt_at, thn_ok, thn_ex, oRo_some, oMap_some, brn_t, brn_f, dName_at, slR_d, slR_a, slR_o, vl_d, vl_s, slV_d, slV_a, slV_o, dv_at, dEsc_at, esc_d, esc_s, escS_d, escS_o, dFz_at, dC_at, dNil_at, dCons_at, vNil_at, vCons_at, op2_at, op2r_at, op1_at, op1o_at, opN_at, opNo_at, vls_nil, vls_cons, cutR_at, oNone_at, oSome_at, dTup_at, dLst_at, dB_at, boolD_b, dNot_at, dAnd_at, dOr_at, dIfE_at, dAndV_at, dOrV_at, dNotV_at, dSeq_at, dsq_nx, dsq_rt, dsq_bk, dsq_ct, dsq_ex, sNx_at, sBk_at, sCt_at, sExpr_at, sRet_at, sRetO_at, sRetN_at, sRetV_at, retS_d, retS_o, sSet_at, sSetO_at, sIf_at, ownV_o, msNil_at, msD_at, msO_at, msR_at, gRo_some, sPar_at, setRs_nil, setRs_d, setRs_o, callP_at, callK_at, argO_some, callM_at, outR_ret, outR_ex, argD_nil, argD_v, argD_p, argD_m, argD_vn, argD_vs, Option.some.injEq, Nat.reduceEqDiff, mIx_m, mIx_v, mIx_p, mIx_nil, putM_none, putM_some, putO_o, call1_at, rD_at, rtD_d, rtD_o, rO_at, rtO_o, sExprR_at, sRetR_at, sSetR_at, setS_d, setS_o, runF_at, outF_nx, outF_rt, mOut_some, muOf_nil, muOf_m, muOf_v, muOf_p, chk_some, sSub_at, subS0, subS1, mutS_some, mutP_some, dMut_at, mixR_at, dChain_at, dRep_at, intD_i, rg1_at, rg2_at, dLstRg_go, rgL_ok, dTupRg_go, rgT_ok, dTupRg3_go, rgT3_ok, rgO1_ok, rgO2_ok, rgO3_ok, sm0, sm1, dIndexT_at, seqS_d, seqS_a, seqS_o, seqD_l, seqD_t, itR_d, itR_s, iV_at, iO_at, iR1_go, iR2_go, iR3_go, iEnV_at, iEnO_at, sFor_at, compL_at, fAdd_i, fSub_i, fLt_i, fLe_i, fGt_i, fGe_i, fDiv_33, fPow_64, fPow_33, fPow_18, fNeg_i, fLen_l, fLen_t, fInt_i, fTuple_l, fList_l, fMax_2, fMin_2, fIx_l0, fIx_l1, fIx_l2, fEq_i, start0, svs, svK, svA, List.length_cons, List.length_nil, List.replicate, List.append_nil, List.cons_append, List.nil_append, List.getElem?_cons_zero, List.getElem?_cons_succ, List.set_cons_zero, List.set_cons_succ, Bool.not_true, Bool.not_false, decide_true, decide_false, ne_eq, not_false_eq_true, Nat.reduceAdd, Nat.reduceSub, fMul_take, fMul_7919, fMul_31, Nat.reduceLT, Int.reduceLT, Int.reduceEq, fMod_i, fDiv_i, bdz_ok, setT_nm, fgt_nil, fgt_cons, wipG_nil, wipG_cons, sz1, sz2, sz3, sz4, sz5, Nat.zero_le, fIs_ii, fIs_ib, fIs_is, fIs_itl, fIs_tt, fIs_tl, fIs_ttl, fIs_lt, fIs_ll, fIs_ltl, fAll_b, fSum_i, fBack_t, fBackL_l]⟩
  unfold lawBody
  simp only [bnd_at, rt_at, thn_ok, thn_ex, oRo_some, oMap_some, brn_t, brn_f, dName_at, slR_d, slR_a, slR_o, vl_d, vl_s, slV_d, slV_a, slV_o, dv_at, dEsc_at, esc_d, esc_s, escS_d, escS_o, dFz_at, dC_at, dNil_at, dCons_at, vNil_at, vCons_at, op2_at, op2r_at, op1_at, op1o_at, opN_at, opNo_at, vls_nil, vls_cons, cutR_at, oNone_at, oSome_at, dTup_at, dLst_at, dB_at, boolD_b, dNot_at, dAnd_at, dOr_at, dIfE_at, dAndV_at, dOrV_at, dNotV_at, dSeq_at, dsq_nx, dsq_rt, dsq_bk, dsq_ct, dsq_ex, sNx_at, sBk_at, sCt_at, sExpr_at, sRet_at, sRetO_at, sRetN_at, sRetV_at, retS_d, retS_o, sSet_at, sSetO_at, sIf_at, ownV_o, msNil_at, msD_at, msO_at, msR_at, gRo_some, sPar_at, setRs_nil, setRs_d, setRs_o, callP_at, callK_at, argO_some, callM_at, outR_ret, outR_ex, argD_nil, argD_v, argD_p, argD_m, argD_vn, argD_vs, Option.some.injEq, Nat.reduceEqDiff, mIx_m, mIx_v, mIx_p, mIx_nil, putM_none, putM_some, putO_o, call1_at, rD_at, rtD_d, rtD_o, rO_at, rtO_o, sExprR_at, sRetR_at, sSetR_at, setS_d, setS_o, runF_at, outF_nx, outF_rt, mOut_some, muOf_nil, muOf_m, muOf_v, muOf_p, chk_some, sSub_at, subS0, subS1, mutS_some, mutP_some, dMut_at, mixR_at, dChain_at, dRep_at, intD_i, rg1_at, rg2_at, dLstRg_go, rgL_ok, dTupRg_go, rgT_ok, dTupRg3_go, rgT3_ok, rgO1_ok, rgO2_ok, rgO3_ok, sm0, sm1, dIndexT_at, seqS_d, seqS_a, seqS_o, seqD_l, seqD_t, itR_d, itR_s, iV_at, iO_at, iR1_go, iR2_go, iR3_go, iEnV_at, iEnO_at, sFor_at, compL_at, fAdd_i, fSub_i, fLt_i, fLe_i, fGt_i, fGe_i, fDiv_33, fPow_64, fPow_33, fPow_18, fNeg_i, fLen_l, fLen_t, fInt_i, fTuple_l, fList_l, fMax_2, fMin_2, fIx_l0, fIx_l1, fIx_l2, fEq_i, start0, svs, svK, svA, List.length_cons, List.length_nil, List.replicate, List.append_nil, List.cons_append, List.nil_append, List.getElem?_cons_zero, List.getElem?_cons_succ, List.set_cons_zero, List.set_cons_succ, Bool.not_true, Bool.not_false, decide_true, decide_false, ne_eq, not_false_eq_true, Nat.reduceAdd, Nat.reduceSub, fMul_take, fMul_7919, fMul_31, Nat.reduceLT, Int.reduceLT, Int.reduceEq, fMod_i, fDiv_i, bdz_ok, setT_nm, fgt_nil, fgt_cons, wipG_nil, wipG_cons, sz1, sz2, sz3, sz4, sz5, Nat.zero_le, fIs_ii, fIs_ib, fIs_is, fIs_itl, fIs_tt, fIs_tl, fIs_ttl, fIs_lt, fIs_ll, fIs_ltl, fAll_b, fSum_i, fBack_t, fBackL_l, h0, h1, h2, hm, h3, h4, h5, hz, a1, a2, a3, a4, a5, a6, a7]
theorem law_loop (ns : List Int) (n : Nat) : forG (.nm 1) [1, 2, 3, 4, 5] lawBody ((irange 0 n).map .int) [.a (ns.map .int), .u, .u, .u, .u, .u] = .ok .nx [.a (ns.map .int), .u, .u, .u, .u, .u] := by
  obtain ⟨g', e1, i, h1, h2⟩ := forG_inv (t := .nm 1) (ms := [1, 2, 3, 4, 5]) (b := lawBody) ((irange 0 n).map .int)
    (fun r g => ∃ i : Nat, r = (irange i (n - i)).map .int ∧ g = [.a (ns.map .int), .u, .u, .u, .u, .u])
    _ ⟨0, rfl, rfl⟩ (by
      rintro x r g ⟨i, h1, rfl⟩ _
      have hlt : i < n := by
        have := congrArg List.length h1
        rw [List.length_map, irange_len, List.length_cons] at this
        omega
      rw [show n - i = (n - i - 1) + 1 by omega, irange_succ, List.map_cons] at h1
      injection h1 with hx hr
      subst hx
      obtain ⟨g2, h2, h3⟩ := law_step ns i
      refine ⟨[.a (ns.map .int), .d (.int (i : Int)), .u, .u, .u, .u], g2, by simp only [bnd_at, rt_at, thn_ok, thn_ex, oRo_some, oMap_some, brn_t, brn_f, dName_at, slR_d, slR_a, slR_o, vl_d, vl_s, slV_d, slV_a, slV_o, dv_at, dEsc_at, esc_d, esc_s, escS_d, escS_o, dFz_at, dC_at, dNil_at, dCons_at, vNil_at, vCons_at, op2_at, op2r_at, op1_at, op1o_at, opN_at, opNo_at, vls_nil, vls_cons, cutR_at, oNone_at, oSome_at, dTup_at, dLst_at, dB_at, boolD_b, dNot_at, dAnd_at, dOr_at, dIfE_at, dAndV_at, dOrV_at, dNotV_at, dSeq_at, dsq_nx, dsq_rt, dsq_bk, dsq_ct, dsq_ex, sNx_at, sBk_at, sCt_at, sExpr_at, sRet_at, sRetO_at, sRetN_at, sRetV_at, retS_d, retS_o, sSet_at, sSetO_at, sIf_at, ownV_o, msNil_at, msD_at, msO_at, msR_at, gRo_some, sPar_at, setRs_nil, setRs_d, setRs_o, callP_at, callK_at, argO_some, callM_at, outR_ret, outR_ex, argD_nil, argD_v, argD_p, argD_m, argD_vn, argD_vs, Option.some.injEq, Nat.reduceEqDiff, mIx_m, mIx_v, mIx_p, mIx_nil, putM_none, putM_some, putO_o, call1_at, rD_at, rtD_d, rtD_o, rO_at, rtO_o, sExprR_at, sRetR_at, sSetR_at, setS_d, setS_o, runF_at, outF_nx, outF_rt, mOut_some, muOf_nil, muOf_m, muOf_v, muOf_p, chk_some, sSub_at, subS0, subS1, mutS_some, mutP_some, dMut_at, mixR_at, dChain_at, dRep_at, intD_i, rg1_at, rg2_at, dLstRg_go, rgL_ok, dTupRg_go, rgT_ok, dTupRg3_go, rgT3_ok, rgO1_ok, rgO2_ok, rgO3_ok, sm0, sm1, dIndexT_at, seqS_d, seqS_a, seqS_o, seqD_l, seqD_t, itR_d, itR_s, iV_at, iO_at, iR1_go, iR2_go, iR3_go, iEnV_at, iEnO_at, sFor_at, compL_at, fAdd_i, fSub_i, fLt_i, fLe_i, fGt_i, fGe_i, fDiv_33, fPow_64, fPow_33, fPow_18, fNeg_i, fLen_l, fLen_t, fInt_i, fTuple_l, fList_l, fMax_2, fMin_2, fIx_l0, fIx_l1, fIx_l2, fEq_i, start0, svs, svK, svA, List.length_cons, List.length_nil, List.replicate, List.append_nil, List.cons_append, List.nil_append, List.getElem?_cons_zero, List.getElem?_cons_succ, List.set_cons_zero, List.set_cons_succ, Bool.not_true, Bool.not_false, decide_true, decide_false, ne_eq, not_false_eq_true, Nat.reduceAdd, Nat.reduceSub, fMul_take, fMul_7919, fMul_31, Nat.reduceLT, Int.reduceLT, Int.reduceEq, fMod_i, fDiv_i, bdz_ok, setT_nm, fgt_nil, fgt_cons, wipG_nil, wipG_cons, sz1, sz2, sz3, sz4, sz5, Nat.zero_le, fIs_ii, fIs_ib, fIs_is, fIs_itl, fIs_tt, fIs_tl, fIs_ttl, fIs_lt, fIs_ll, fIs_ltl, fAll_b, fSum_i, fBack_t, fBackL_l], .inl h2, i + 1, ?_, h3⟩
      rw [hr]
      congr 2)
  rw [e1, h2]
  simp only [bnd_at, rt_at, thn_ok, thn_ex, oRo_some, oMap_some, brn_t, brn_f, dName_at, slR_d, slR_a, slR_o, vl_d, vl_s, slV_d, slV_a, slV_o, dv_at, dEsc_at, esc_d, esc_s, escS_d, escS_o, dFz_at, dC_at, dNil_at, dCons_at, vNil_at, vCons_at, op2_at, op2r_at, op1_at, op1o_at, opN_at, opNo_at, vls_nil, vls_cons, cutR_at, oNone_at, oSome_at, dTup_at, dLst_at, dB_at, boolD_b, dNot_at, dAnd_at, dOr_at, dIfE_at, dAndV_at, dOrV_at, dNotV_at, dSeq_at, dsq_nx, dsq_rt, dsq_bk, dsq_ct, dsq_ex, sNx_at, sBk_at, sCt_at, sExpr_at, sRet_at, sRetO_at, sRetN_at, sRetV_at, retS_d, retS_o, sSet_at, sSetO_at, sIf_at, ownV_o, msNil_at, msD_at, msO_at, msR_at, gRo_some, sPar_at, setRs_nil, setRs_d, setRs_o, callP_at, callK_at, argO_some, callM_at, outR_ret, outR_ex, argD_nil, argD_v, argD_p, argD_m, argD_vn, argD_vs, Option.some.injEq, Nat.reduceEqDiff, mIx_m, mIx_v, mIx_p, mIx_nil, putM_none, putM_some, putO_o, call1_at, rD_at, rtD_d, rtD_o, rO_at, rtO_o, sExprR_at, sRetR_at, sSetR_at, setS_d, setS_o, runF_at, outF_nx, outF_rt, mOut_some, muOf_nil, muOf_m, muOf_v, muOf_p, chk_some, sSub_at, subS0, subS1, mutS_some, mutP_some, dMut_at, mixR_at, dChain_at, dRep_at, intD_i, rg1_at, rg2_at, dLstRg_go, rgL_ok, dTupRg_go, rgT_ok, dTupRg3_go, rgT3_ok, rgO1_ok, rgO2_ok, rgO3_ok, sm0, sm1, dIndexT_at, seqS_d, seqS_a, seqS_o, seqD_l, seqD_t, itR_d, itR_s, iV_at, iO_at, iR1_go, iR2_go, iR3_go, iEnV_at, iEnO_at, sFor_at, compL_at, fAdd_i, fSub_i, fLt_i, fLe_i, fGt_i, fGe_i, fDiv_33, fPow_64, fPow_33, fPow_18, fNeg_i, fLen_l, fLen_t, fInt_i, fTuple_l, fList_l, fMax_2, fMin_2, fIx_l0, fIx_l1, fIx_l2, fEq_i, start0, svs, svK, svA, List.length_cons, List.length_nil, List.replicate, List.append_nil, List.cons_append, List.nil_append, List.getElem?_cons_zero, List.getElem?_cons_succ, List.set_cons_zero, List.set_cons_succ, Bool.not_true, Bool.not_false, decide_true, decide_false, ne_eq, not_false_eq_true, Nat.reduceAdd, Nat.reduceSub, fMul_take, fMul_7919, fMul_31, Nat.reduceLT, Int.reduceLT, Int.reduceEq, fMod_i, fDiv_i, bdz_ok, setT_nm, fgt_nil, fgt_cons, wipG_nil, wipG_cons, sz1, sz2, sz3, sz4, sz5, Nat.zero_le, fIs_ii, fIs_ib, fIs_is, fIs_itl, fIs_tt, fIs_tl, fIs_ttl, fIs_lt, fIs_ll, fIs_ltl, fAll_b, fSum_i, fBack_t, fBackL_l]
theorem main (ns : List Int) (h : ns.length ≤ 63) : φ_law [.list (ns.map PyData.int)] = .ret (.d (.bool true)) [] := by
  have hsm : Sm (if (if (10 : Int) < ns.length then 10 else (ns.length : Int)) > 2 then (if (10 : Int) < ns.length then 10 else (ns.length : Int)) else 2) := by
    refine sm_of ?_ ?_ <;> (split <;> (try split) <;> omega)
  have hl := law_loop ns
  unfold φ_law m_law
  simp only [bnd_at, rt_at, thn_ok, thn_ex, oRo_some, oMap_some, brn_t, brn_f, dName_at, slR_d, slR_a, slR_o, vl_d, vl_s, slV_d, slV_a, slV_o, dv_at, dEsc_at, esc_d, esc_s, escS_d, escS_o, dFz_at, dC_at, dNil_at, dCons_at, vNil_at, vCons_at, op2_at, op2r_at, op1_at, op1o_at, opN_at, opNo_at, vls_nil, vls_cons, cutR_at, oNone_at, oSome_at, dTup_at, dLst_at, dB_at, boolD_b, dNot_at, dAnd_at, dOr_at, dIfE_at, dAndV_at, dOrV_at, dNotV_at, dSeq_at, dsq_nx, dsq_rt, dsq_bk, dsq_ct, dsq_ex, sNx_at, sBk_at, sCt_at, sExpr_at, sRet_at, sRetO_at, sRetN_at, sRetV_at, retS_d, retS_o, sSet_at, sSetO_at, sIf_at, ownV_o, msNil_at, msD_at, msO_at, msR_at, gRo_some, sPar_at, setRs_nil, setRs_d, setRs_o, callP_at, callK_at, argO_some, callM_at, outR_ret, outR_ex, argD_nil, argD_v, argD_p, argD_m, argD_vn, argD_vs, Option.some.injEq, Nat.reduceEqDiff, mIx_m, mIx_v, mIx_p, mIx_nil, putM_none, putM_some, putO_o, call1_at, rD_at, rtD_d, rtD_o, rO_at, rtO_o, sExprR_at, sRetR_at, sSetR_at, setS_d, setS_o, runF_at, outF_nx, outF_rt, mOut_some, muOf_nil, muOf_m, muOf_v, muOf_p, chk_some, sSub_at, subS0, subS1, mutS_some, mutP_some, dMut_at, mixR_at, dChain_at, dRep_at, intD_i, rg1_at, rg2_at, dLstRg_go, rgL_ok, dTupRg_go, rgT_ok, dTupRg3_go, rgT3_ok, rgO1_ok, rgO2_ok, rgO3_ok, sm0, sm1, dIndexT_at, seqS_d, seqS_a, seqS_o, seqD_l, seqD_t, itR_d, itR_s, iV_at, iO_at, iR1_go, iR2_go, iR3_go, iEnV_at, iEnO_at, sFor_at, compL_at, fAdd_i, fSub_i, fLt_i, fLe_i, fGt_i, fGe_i, fDiv_33, fPow_64, fPow_33, fPow_18, fNeg_i, fLen_l, fLen_t, fInt_i, fTuple_l, fList_l, fMax_2, fMin_2, fIx_l0, fIx_l1, fIx_l2, fEq_i, start0, svs, svK, svA, List.length_cons, List.length_nil, List.replicate, List.append_nil, List.cons_append, List.nil_append, List.getElem?_cons_zero, List.getElem?_cons_succ, List.set_cons_zero, List.set_cons_succ, Bool.not_true, Bool.not_false, decide_true, decide_false, ne_eq, not_false_eq_true, Nat.reduceAdd, Nat.reduceSub, fMul_take, fMul_7919, fMul_31, Nat.reduceLT, Int.reduceLT, Int.reduceEq, fMod_i, fDiv_i, bdz_ok, setT_nm, fgt_nil, fgt_cons, wipG_nil, wipG_cons, sz1, sz2, sz3, sz4, sz5, Nat.zero_le, fIs_ii, fIs_ib, fIs_is, fIs_itl, fIs_tt, fIs_tl, fIs_ttl, fIs_lt, fIs_ll, fIs_ltl, fAll_b, fSum_i, fBack_t, fBackL_l, List.length_map, hsm, hl]
end Ck04
set_option maxRecDepth 100000
open PySem PySem.W PyProof.Rows
set_option maxHeartbeats 0 in
theorem PySem.Challenge.cw_wholeorders_k04_whole_sums_and_parts_holds : PySem.Challenge.rw_wholeorders_k04_whole_sums_and_parts.Holds := by
  w_on; o_law; k_head; (case hw => w_witness2)
  k_fill
  refine L2.walk_of (l := PySem.Challenge.rw_wholeorders_k04_whole_sums_and_parts) (n := 63) (k := 8) (x := "script") (CX := fun w => L2.CX PySem.Challenge.pw_wholeorders_k04_whole_sums_and_parts w) (sp := fun w => Z.spLaw _) rfl (by decide) rfl ⟨rfl, by decide, by decide⟩ (fun w h Y => PySem.W.kIn_of Y) ?F (fun _ _ a ns hl _ hS => ⟨a, ns, rfl, hS, hl, fun _ _ e => e⟩) (fun _ _ _ _ _ h => Z.cx_none h)
  case F =>
    intro w mg fa h KX G hmg
    refine' Ck04.all_mk KX G hmg Ck04.main ?a0 ?l0 ?c0 ?k0 ?a1 ?l1 ?c1 ?k1 ?a2 ?l2 ?c2 ?k2 ?a3 ?l3 ?c3 ?k3 ?a4 ?l4 ?c4 ?k4 ?a5 ?l5 ?c5 ?k5 ?a6 ?l6 ?c6 ?k6 ?a7 ?l7 ?c7 ?k7 ?a8 ?l8 ?c8 ?k8 ?a9 ?l9 ?c9 ?k9 ?a10 ?l10 ?c10 ?k10 ?a11 ?l11 ?c11 ?k11 ?a12 ?l12 ?c12 ?k12 ?a13 ?l13 ?c13 ?k13 ?a14 ?l14 ?c14 ?k14 ?a15 ?l15 ?c15 ?k15 ?a16 ?l16 ?c16 ?k16 ?a17 ?l17 ?c17 ?k17 ?a18 ?l18 ?c18 ?k18 ?a19 ?l19 ?c19 ?k19 ?a20 ?l20 ?c20 ?k20 ?a21 ?l21 ?c21 ?k21 ?a22 ?l22 ?c22 ?k22 ?a23 ?l23 ?c23 ?k23 ?a24 ?l24 ?c24 ?k24 ?a25 ?l25 ?c25 ?k25 ?a26 ?l26 ?c26 ?k26 ?a27 ?l27 ?c27 ?k27 ?z0 ?z1 ?z2 ?z3 ?z4 ?z5 ?z6 ?z7 ?z8 ?z9 ?z10 ?z11 ?z12 ?z13
    (case a0 => k_is)
    (case l0 => k_is)
    (case c0 => k_is)
    (case k0 => k_is)
    (case a1 => k_is)
    (case l1 => k_is)
    (case c1 => k_is)
    (case k1 => k_is)
    (case a2 => k_is)
    (case l2 => k_is)
    (case c2 => k_is)
    (case k2 => k_is)
    (case a3 => k_is)
    (case l3 => k_is)
    (case c3 => k_is)
    (case k3 => k_is)
    (case a4 => k_is)
    (case l4 => k_is)
    (case c4 => k_is)
    (case k4 => k_is)
    (case a5 => k_is)
    (case l5 => k_is)
    (case c5 => k_is)
    (case k5 => k_is)
    (case a6 => k_is)
    (case l6 => k_is)
    (case c6 => k_is)
    (case k6 => k_is)
    (case a7 => k_is)
    (case l7 => k_is)
    (case c7 => k_is)
    (case k7 => k_is)
    (case a8 => k_is)
    (case l8 => k_is)
    (case c8 => k_is)
    (case k8 => k_is)
    (case a9 => k_is)
    (case l9 => k_is)
    (case c9 => k_is)
    (case k9 => k_is)
    (case a10 => k_is)
    (case l10 => k_is)
    (case c10 => k_is)
    (case k10 => k_is)
    (case a11 => k_is)
    (case l11 => k_is)
    (case c11 => k_is)
    (case k11 => k_is)
    (case a12 => k_is)
    (case l12 => k_is)
    (case c12 => k_is)
    (case k12 => k_is)
    (case a13 => k_is)
    (case l13 => k_is)
    (case c13 => k_is)
    (case k13 => k_is)
    (case a14 => k_is)
    (case l14 => k_is)
    (case c14 => k_is)
    (case k14 => k_is)
    (case a15 => k_is)
    (case l15 => k_is)
    (case c15 => k_is)
    (case k15 => k_is)
    (case a16 => k_is)
    (case l16 => k_is)
    (case c16 => k_is)
    (case k16 => k_is)
    (case a17 => k_is)
    (case l17 => k_is)
    (case c17 => k_is)
    (case k17 => k_is)
    (case a18 => k_is)
    (case l18 => k_is)
    (case c18 => k_is)
    (case k18 => k_is)
    (case a19 => k_is)
    (case l19 => k_is)
    (case c19 => k_is)
    (case k19 => k_is)
    (case a20 => k_is)
    (case l20 => k_is)
    (case c20 => k_is)
    (case k20 => k_is)
    (case a21 => k_is)
    (case l21 => k_is)
    (case c21 => k_is)
    (case k21 => k_is)
    (case a22 => k_is)
    (case l22 => k_is)
    (case c22 => k_is)
    (case k22 => k_is)
    (case a23 => k_is)
    (case l23 => k_is)
    (case c23 => k_is)
    (case k23 => k_is)
    (case a24 => k_is)
    (case l24 => k_is)
    (case c24 => k_is)
    (case k24 => k_is)
    (case a25 => k_is)
    (case l25 => k_is)
    (case c25 => k_is)
    (case k25 => k_is)
    (case a26 => k_is)
    (case l26 => k_is)
    (case c26 => k_is)
    (case k26 => k_is)
    (case a27 => k_is)
    (case l27 => k_is)
    (case c27 => k_is)
    (case k27 => k_is)
    (case z0 => k_is)
    (case z1 => k_is)
    (case z2 => k_is)
    (case z3 => k_is)
    (case z4 => k_is)
    (case z5 => k_is)
    (case z6 => k_is)
    (case z7 => k_is)
    (case z8 => k_is)
    (case z9 => k_is)
    (case z10 => k_is)
    (case z11 => k_is)
    (case z12 => k_is)
    (case z13 => k_is)
