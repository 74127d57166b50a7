import PyProof.Rows.All
import Wide.All
import OpenK.AllK
import Wide.FinOn
import HandS.ForMost
import HandS.ForExc
import HandS.TupAny
import HandS.SortInts
import HandS.Conv
import HandS.Style
import HandS.Zip
import HandS.Walk
import HandS.Wide
import HandS.ExcInit
import HandS.Defaults
import HandS.IsInst
import HandS.TryMany
import HandS.DictComp
import HandS.WordsDict
import KE.DataEq
import PyProof.WalkInts
import KE.SortData
import KE.GoesMore
import KE.GoesEnum
import HandS.Strs
import HandS.More
import KE.GoesZip
import KE.DataFind
import HandS.TryOnly
import HandS.TupLen
import HandS.TupSets
import KE.KeyNested
import HandS.SetBool
import KE.KDictPairs
import HandS.RaiseMore
import PyProof.Rows.SetFrom
import PyProof.Rows.StrJoinMade
import HandS.HeadHook3
import KE.KDictDisplayH
import PyProof.ZipIter
import PyProof.CallType
import PyProof.Walk
import PyProof.WalkLemmas
import PyProof.RangeIter
import PyProof.RulesTry
import HandS.ExcValue
import PyProof.Rows.TupTab
import PySem.Challenge.RW_wholeorders_k38_whole_sorted_exactly_by

set_option Elab.async false
set_option linter.all false
set_option maxRecDepth 100000
set_option autoImplicit false
namespace Z
open PySem PySem.Spec PyProof.Rows L2

abbrev D := PyData
abbrev St := L2.St

/-- a tuple that has no dict of its own -/
def TupN (K : PySem.W.Frag) (H : Hp) (a : Addr) (xs : List V) : Prop := (∃ o, H a = some (.frz o (.tup xs)) ∧ o.dict = none) ∨
  ∃ (o : Obj) (its : Array Value) (n : Nat), K.lookup a = some o ∧ o.cls = .type "tuple" ∧ o.dict = none ∧ o.data = .seq its n ∧ its.size ≤ sizeLine ∧ Vals xs its.toList
/-- a dict's key as data -/
def keyD : Key → PyData
  | .inl i => .int i
  | .inr x => .str x
mutual
inductive Dq (K : PySem.W.Frag) (H : Hp) : V → PyData → Prop
  | non : Dq K H .non .none
  | bl (b : Bool) : Dq K H (.bl b) (.bool b)
  | int (i : Int) : Dq K H (.int i) (.int i)
  | str (x : Str) : Dq K H (.str x) (.str x)
  | lst {a : Addr} {xs : List V} {ds : List PyData} : SqL K H a xs → DqAll K H xs ds → Dq K H (.ref a) (.list ds)
  | tup {a : Addr} {xs : List V} {ds : List PyData} : TupN K H a xs → DqAll K H xs ds → Dq K H (.ref a) (.tuple ds)
  | dic {a : Addr} {kvs : List (Key × V)} {ds : List (PyData × PyData)} : H a = some (.dK kvs) → KvAll K H kvs ds → Dq K H (.ref a) (.dict ds)
inductive DqAll (K : PySem.W.Frag) (H : Hp) : List V → List PyData → Prop
  | nil : DqAll K H [] []
  | cons {v : V} {vs : List V} {d : PyData} {ds : List PyData} : Dq K H v d → DqAll K H vs ds → DqAll K H (v :: vs) (d :: ds)
inductive KvAll (K : PySem.W.Frag) (H : Hp) : List (Key × V) → List (PyData × PyData) → Prop
  | nil : KvAll K H [] []
  | cons {k : Key} {v : V} {kvs : List (Key × V)} {d : PyData} {ds : List (PyData × PyData)} : Dq K H v d → KvAll K H kvs ds → KvAll K H ((k, v) :: kvs) ((keyD k, d) :: ds)
end
section
variable {K : PySem.W.Frag} {G H : Hp}
theorem TupN.sq {a : Addr} {xs : List V} (h : TupN K G a xs) : SqT K G a xs := by
  rcases h with ⟨o, h, _⟩ | ⟨o, its, n, h1, h2, _, h3⟩
  · exact .inl (.inr ⟨o, h⟩)
  · exact .inr ⟨o, its, n, h1, h2, h3⟩
theorem TupN.mono {a : Addr} {xs : List V} (e : Same G H) (h : TupN K G a xs) : TupN K H a xs := by
  rcases h with ⟨o, h, k⟩ | h
  · exact .inl ⟨o, e _ _ h, k⟩
  · exact .inr h
theorem TupN.new {a : Addr} {xs : List V} {o : Obj} (h : o.dict = none) : TupN K (upd G a (.frz o (.tup xs))) a xs := .inl ⟨o, upd_same, h⟩
mutual
theorem Dq.dp : ∀ (d : D) (v : V), d.plain = true → Dq K G v d → Dp K G v d
  | .none, _, _, h => by cases h; exact .non
  | .bool b, _, _, h => by cases h; exact .bl b
  | .int i, _, _, h => by cases h; exact .int i
  | .str x, _, _, h => by cases h; exact .str x
  | .list ds, _, p, h => by
    cases h with
    | lst hs ha => exact .lst hs (DqAll.dp ds _ (by rw [PyData.plain] at p; exact p) ha)
  | .tuple ds, _, p, h => by
    cases h with
    | tup hs ha => exact .tup hs.sq (DqAll.dp ds _ (by rw [PyData.plain] at p; exact p) ha)
  | .dict _, _, p, _ => by
    rw [PyData.plain] at p
    cases p
theorem DqAll.dp : ∀ (ds : List D) (vs : List V), PyData.plainAll ds = true → DqAll K G vs ds → DpAll K G vs ds
  | [], _, _, h => by cases h; exact .nil
  | d :: ds, _, p, h => by
    rw [PyData.plainAll, Bool.and_eq_true] at p
    cases h with
    | cons h1 h2 => exact .cons (Dq.dp d _ p.1 h1) (DqAll.dp ds _ p.2 h2)
end
mutual
theorem dq_up (e : Same G H) : ∀ {v : V} {d : D}, Dq K G v d → Dq K H v d
  | _, _, .non => .non
  | _, _, .bl b => .bl b
  | _, _, .int i => .int i
  | _, _, .str x => .str x
  | _, _, .lst hs ha => .lst (e.seq hs) (dqAll_up e ha)
  | _, _, .tup hs ha => .tup (hs.mono e) (dqAll_up e ha)
  | _, _, .dic hk ha => .dic (e _ _ hk) (kvAll_up e ha)
theorem dqAll_up (e : Same G H) : ∀ {vs : List V} {ds : List D}, DqAll K G vs ds → DqAll K H vs ds
  | _, _, .nil => .nil
  | _, _, .cons a b => .cons (dq_up e a) (dqAll_up e b)
theorem kvAll_up (e : Same G H) : ∀ {kvs : List (Key × V)} {ds : List (D × D)}, KvAll K G kvs ds → KvAll K H kvs ds
  | _, _, .nil => .nil
  | _, _, .cons a b => .cons (dq_up e a) (kvAll_up e b)
end
theorem dp_mono (e : Same G H) : ∀ (d : D) (v : V), Dq K G v d → Dq K H v d := fun _ _ h => dq_up e h
theorem dpAll_mono (e : Same G H) : ∀ (ds : List D) (vs : List V), DqAll K G vs ds → DqAll K H vs ds := fun _ _ h => dqAll_up e h
theorem dpa_length : ∀ {vs : List V} {ds : List D}, DqAll K G vs ds → vs.length = ds.length
  | _, _, .nil => rfl
  | _, _, .cons _ h => by rw [List.length_cons, List.length_cons, dpa_length h]
theorem dpa_append : ∀ {vs : List V} {ds : List D} {us : List V} {es : List D}, DqAll K G vs ds → DqAll K G us es → DqAll K G (vs ++ us) (ds ++ es)
  | _, _, _, _, .nil, h => h
  | _, _, _, _, .cons a b, h => .cons a (dpa_append b h)
theorem dpa_get : ∀ {vs : List V} {ds : List D} {i : Nat} {d : D}, DqAll K G vs ds → ds[i]? = some d → ∃ v, vs[i]? = some v ∧ Dq K G v d
  | _, _, _, _, .nil, h => by simp at h
  | _, _, 0, _, .cons a _, h => by
    simp at h
    subst h
    exact ⟨_, rfl, a⟩
  | _, _, i + 1, d, .cons _ b, h => by
    obtain ⟨v, h1, h2⟩ := dpa_get (i := i) b (by simpa using h)
    exact ⟨v, by simpa using h1, h2⟩
theorem dpa_get' : ∀ {vs : List V} {ds : List D} {i : Nat} {v : V}, DqAll K G vs ds → vs[i]? = some v → ∃ d, ds[i]? = some d ∧ Dq K G v d
  | _, _, _, _, .nil, h => by simp at h
  | _, _, 0, _, .cons a _, h => by
    simp at h
    subst h
    exact ⟨_, rfl, a⟩
  | _, _, i + 1, d, .cons _ b, h => by
    obtain ⟨v, h1, h2⟩ := dpa_get' (i := i) b (by simpa using h)
    exact ⟨v, by simpa using h1, h2⟩
theorem dpa_take : ∀ {vs : List V} {ds : List D} (n : Nat), DqAll K G vs ds → DqAll K G (vs.take n) (ds.take n)
  | _, _, 0, _ => by simp; exact .nil
  | _, _, _ + 1, .nil => .nil
  | _, _, n + 1, .cons a b => .cons a (dpa_take n b)
theorem dpa_drop : ∀ {vs : List V} {ds : List D} (n : Nat), DqAll K G vs ds → DqAll K G (vs.drop n) (ds.drop n)
  | _, _, 0, h => h
  | _, _, _ + 1, .nil => .nil
  | _, _, n + 1, .cons _ b => dpa_drop n b
theorem dpa_set {v : V} {d : D} (r : Dq K G v d) : ∀ {vs : List V} {ds : List D} (i : Nat), DqAll K G vs ds → DqAll K G (vs.set i v) (ds.set i d)
  | _, _, _, .nil => .nil
  | _, _, 0, .cons _ b => .cons r b
  | _, _, i + 1, .cons a b => .cons a (dpa_set r i b)
theorem dpa_reverse {vs : List V} {ds : List D} (h : DqAll K G vs ds) : DqAll K G vs.reverse ds.reverse := by
  induction ds generalizing vs with
  | nil => cases h; exact .nil
  | cons d ds ih =>
    cases h with
    | cons a b =>
      rw [List.reverse_cons, List.reverse_cons]
      exact dpa_append (ih b) (.cons a .nil)
theorem dpa_ints : ∀ (ns : List Int), DqAll K G (ns.map V.int) (ns.map PyData.int)
  | [] => .nil
  | n :: ns => .cons (.int n) (dpa_ints ns)
theorem dpa_ints' : ∀ {ns : List Int} {vs : List V}, DqAll K G vs (ns.map PyData.int) → vs = ns.map V.int
  | [], _, h => by cases h; rfl
  | n :: ns, _, h => by
    cases h with
    | cons a b =>
      cases a
      rw [dpa_ints' b]
      rfl
theorem dpa_of_get : ∀ {vs : List V} {ds : List D}, vs.length = ds.length → (∀ (i : Nat) (v : V) (d : D), vs[i]? = some v → ds[i]? = some d → Dq K G v d) → DqAll K G vs ds
  | [], [], _, _ => .nil
  | [], _ :: _, h, _ => by simp at h
  | _ :: _, [], h, _ => by simp at h
  | v :: vs, d :: ds, h, k => .cons (k 0 v d rfl rfl) (dpa_of_get (by simpa using h) fun i v' d' h1 h2 => k (i + 1) v' d' (by simpa using h1) (by simpa using h2))
end

inductive SV where
  /-- not known -/
  | u
  /-- data that stays -/
  | d (x : D)
  /-- a list that is read alone (an argument) -/
  | a (xs : List D)
  /-- a list of one's own; true: the argument that is changed -/
  | own (m : Bool) (xs : List D)
  /-- a dict of one's own: its keys, tuples of ints, and what it holds -/
  | dk (ds : List (List Int × D))
/-- whether a slot holds a thing of one's own -/
def SV.ow : SV → Bool
  | .own _ _ => true
  | .dk _ => true
  | _ => false
abbrev En := List SV
inductive Rs where
  | d (x : D)
  | sl (i : Nat)
/-- what comes of a run: nothing that is spoken of, a value, an exception -/
inductive Ro (α : Type) where
  | bad
  | ok (x : α) (g : En)
  | ex (c : Str) (x : D) (g : En)
abbrev M (α : Type) := En → Ro α
def bnd {α β : Type} (m : M α) (f : α → M β) : M β := fun g => match m g with
  | .bad => .bad
  | .ok x g' => f x g'
  | .ex c x g' => .ex c x g'
def rt {α : Type} (x : α) : M α := fun g => .ok x g
/-- an argument's slot: what is a list is read alone -/
def svA : D → SV
  | .list xs => .a xs
  | x => .d x

def hT (k : List Int) : Int := reduceHash (Builtin.Tuple.tupleHashOf (k.map hashInt))
structure DkRaw (h : Heap) (l : Addr) (es : List (List Int × Addr × V)) : Prop where
  few : es.length ≤ sizeLine
  sys : (l == sysModules) = false
  ex : ∃ xs : List (List Int × Addr × Value), Paired (fun p q => p.1 = q.1 ∧ p.2.1 = q.2.1 ∧ RelV p.2.2 q.2.2) es xs ∧
    ∃ o e ep, h.get? l = some o ∧ o.ExactDict ∧ o.data = .dict e ep ∧ e.toList = xs.map (fun x => (⟨hT x.1, .ref x.2.1, x.2.2⟩ : DictEntry)) ∧ (xs.map (·.1)).Nodup
def DkO (l : Addr) (es : List (List Int × Addr × V)) : HO := .ext fun h => DkRaw h l es
inductive DkAll (K : PySem.W.Frag) (G : Hp) : List (List Int × Addr × V) → List (List Int × D) → Prop
  | nil : DkAll K G [] []
  | cons {k : List Int} {a : Addr} {v : V} {d : D} {es : List (List Int × Addr × V)} {ds : List (List Int × D)} : TupN K G a (k.map V.int) → Dq K G v d → DkAll K G es ds → DkAll K G ((k, a, v) :: es) ((k, d) :: ds)
theorem dkAll_up {K : PySem.W.Frag} {G H : Hp} (g : Same G H) : ∀ {es : List (List Int × Addr × V)} {ds : List (List Int × D)}, DkAll K G es ds → DkAll K H es ds
  | _, _, .nil => .nil
  | _, _, .cons a b c => .cons (a.mono g) (dp_mono g _ _ b) (dkAll_up g c)
/-- what a run leaves as it is: all that the frame holds; the lists that are read alone; places that a step may not make its own -/
structure Fr where
  f : Hp
  a : Hp
  k : Addr → Prop
  af : Same a f
  kf : ∀ l, k l → f l ≠ none
instance : CoeFun Fr (fun _ => Addr → Option HO) := ⟨Fr.f⟩
instance : Coe Fr Hp := ⟨Fr.f⟩
def SlotRel (K : PySem.W.Frag) (F : Fr) (G H : Hp) (Mu : Option Addr) (sv : SV) (s : Option V) : Prop := match sv with
  | .u => True
  | .d x => ∃ v, s = some v ∧ Dq K G v x
  | .a xs => ∃ l vs, s = some (.ref l) ∧ SqL K F.a l vs ∧ DqAll K G vs xs
  | .own m xs => ∃ l vs, s = some (.ref l) ∧ H l = some (.lst vs) ∧ DqAll K G vs xs ∧ F l = none ∧ G l = none ∧ (m = true → Mu = some l) ∧ (m = false → Mu ≠ some l)
  | .dk ds => ∃ l es, s = some (.ref l) ∧ H l = some (DkO l es) ∧ DkAll K G es ds ∧ F l = none ∧ G l = none ∧ Mu ≠ some l
def Owns (Γ : En) (σ : St) (i : Nat) (l : Addr) : Prop := ∃ sv : SV, Γ[i]? = some sv ∧ sv.ow = true ∧ σ[i]? = some (some (.ref l))
structure Rel (K : PySem.W.Frag) (F : Fr) (G : Hp) (Mu : Option Addr) (Γ : En) (σ : St) (H : Hp) : Prop where
  fh : Same F.f H
  lk : ∀ l, F.k l → G l = none
  gh : Same G H
  mu : ∀ l, Mu = some l → F l = none ∧ G l = none ∧ H l ≠ none
  len : Γ.length = σ.length
  sl : ∀ (i : Nat) (sv : SV), Γ[i]? = some sv → SlotRel K F G H Mu sv (σ[i]?.join)
  sep : ∀ (i j : Nat) (l : Addr), Owns Γ σ i l → Owns Γ σ j l → i = j

section
variable {K : PySem.W.Frag} {F : Fr} {G H H' G' : Hp} {Mu : Option Addr} {Γ : En} {σ : St}
theorem join_some {α : Type} {o : Option (Option α)} {v : α} (h : o.join = some v) : o = some (some v) := by
  cases o with
  | none => cases h
  | some x =>
    cases x with
    | none => cases h
    | some y =>
      cases h
      rfl
theorem Rel.owned (R : Rel K F G Mu Γ σ H) {i : Nat} {m : Bool} {xs : List D} (h : Γ[i]? = some (.own m xs)) : ∃ l vs, σ[i]? = some (some (.ref l)) ∧ H l = some (.lst vs) ∧ DqAll K G vs xs ∧ F l = none ∧ G l = none ∧ (m = true → Mu = some l) ∧ (m = false → Mu ≠ some l) ∧ Owns Γ σ i l := by
  obtain ⟨l, vs, h1, h2, h3, h4, h5, h6, h7⟩ := R.sl i _ h
  have e := join_some h1
  exact ⟨l, vs, e, h2, h3, h4, h5, h6, h7, _, h, rfl, e⟩
theorem Rel.dkd (R : Rel K F G Mu Γ σ H) {i : Nat} {ds : List (List Int × D)} (h : Γ[i]? = some (.dk ds)) : ∃ l es, σ[i]? = some (some (.ref l)) ∧ H l = some (DkO l es) ∧ DkAll K G es ds ∧ F l = none ∧ G l = none ∧ Mu ≠ some l ∧ Owns Γ σ i l := by
  obtain ⟨l, es, h1, h2, h3, h4, h5, h6⟩ := R.sl i _ h
  have e := join_some h1
  exact ⟨l, es, e, h2, h3, h4, h5, h6, _, h, rfl, e⟩
theorem Rel.data (R : Rel K F G Mu Γ σ H) {i : Nat} {x : D} (h : Γ[i]? = some (.d x)) : ∃ v, σ[i]? = some (some v) ∧ Dq K G v x := by
  obtain ⟨v, h1, h2⟩ := R.sl i _ h
  exact ⟨v, join_some h1, h2⟩
theorem Rel.arg (R : Rel K F G Mu Γ σ H) {i : Nat} {xs : List D} (h : Γ[i]? = some (.a xs)) : ∃ l vs, σ[i]? = some (some (.ref l)) ∧ SqL K F.a l vs ∧ DqAll K G vs xs := by
  obtain ⟨l, vs, h1, h2, h3⟩ := R.sl i _ h
  exact ⟨l, vs, join_some h1, h2, h3⟩
theorem Rel.mono {Mu' : Option Addr} (R : Rel K F G Mu Γ σ H) (f : Same F.f H') (g : Same G G') (gh : Same G' H') (mu : ∀ l, Mu = some l → G' l = none ∧ H' l ≠ none)
    (own : ∀ i l, Owns Γ σ i l → G' l = none ∧ H' l = H l) (lk : ∀ l, F.k l → G' l = none) : Rel K F G' Mu Γ σ H' where
  fh := f
  lk := lk
  gh := gh
  mu := fun l e => ⟨(R.mu l e).1, (mu l e).1, (mu l e).2⟩
  len := R.len
  sl := fun i sv h => by
    have q := R.sl i sv h
    cases sv with
    | u => exact True.intro
    | d x =>
      obtain ⟨v, h1, h2⟩ := q
      exact ⟨v, h1, dp_mono g x v h2⟩
    | a xs =>
      obtain ⟨l, vs, h1, h2, h3⟩ := q
      exact ⟨l, vs, h1, h2, dpAll_mono g _ _ h3⟩
    | own m xs =>
      obtain ⟨l, vs, h1, h2, h3, h4, h5, h6, h7⟩ := q
      obtain ⟨o1, o2⟩ := own i l ⟨_, h, rfl, join_some h1⟩
      exact ⟨l, vs, h1, by rw [o2]; exact h2, dpAll_mono g _ _ h3, h4, o1, h6, h7⟩
    | dk ds =>
      obtain ⟨l, es, h1, h2, h3, h4, h5, h6⟩ := q
      obtain ⟨o1, o2⟩ := own i l ⟨_, h, rfl, join_some h1⟩
      exact ⟨l, es, h1, by rw [o2]; exact h2, dkAll_up g h3, h4, o1, h6⟩
  sep := R.sep
theorem Rel.there (R : Rel K F G Mu Γ σ H) {i : Nat} {l : Addr} (h : Owns Γ σ i l) : F l = none ∧ G l = none ∧ ∃ o, H l = some o := by
  obtain ⟨sv, h1, ho, h2⟩ := h
  cases sv with
  | own m xs =>
    obtain ⟨l', vs, e, h3, _, h4, h5, _⟩ := R.owned h1
    rw [h2] at e
    cases e
    exact ⟨h4, h5, _, h3⟩
  | dk ds =>
    obtain ⟨l', es, e, h3, _, h4, h5, _⟩ := R.dkd h1
    rw [h2] at e
    cases e
    exact ⟨h4, h5, _, h3⟩
  | u => cases ho
  | d x => cases ho
  | a xs => cases ho
theorem same_upd {p : Addr} {o : HO} (n : H p = none) : Same H (upd H p o) := fun b x e => by
  rw [upd_ne (ne_of_none e n)]
  exact e
theorem same_upd2 {p : Addr} {o : HO} (e : Same G H) : Same (upd G p o) (upd H p o) := fun b x h => by
  by_cases hb : b = p
  · subst hb
    rw [upd_same] at h ⊢
    exact h
  · rw [upd_ne hb] at h ⊢
    exact e b x h
theorem same_updR {p : Addr} {o : HO} (e : Same G H) (n : G p = none) : Same G (upd H p o) := fun b x h => by
  rw [upd_ne (ne_of_none h n)]
  exact e b x h
/-- a new object that stays -/
theorem Rel.new (R : Rel K F G Mu Γ σ H) {p : Addr} {o : HO} (n : H p = none) : Rel K F (upd G p o) Mu Γ σ (upd H p o) ∧ Same G (upd G p o) := by
  have nG : G p = none := R.gh.free n
  refine ⟨R.mono (Mu' := Mu) (fun b x h => same_upd n b x (R.fh b x h)) (same_upd nG) (same_upd2 R.gh) (fun l e => ?_) (fun i l h => ?_) (fun l e => ?_), same_upd nG⟩
  · obtain ⟨_, h2, h3⟩ := R.mu l e
    have hne : l ≠ p := fun z => by rw [z] at h3; exact h3 n
    rw [upd_ne hne, upd_ne hne]
    exact ⟨h2, h3⟩
  · obtain ⟨h1, h2, vs, h3⟩ := R.there h
    have hne : l ≠ p := ne_of_none h3 n
    rw [upd_ne hne, upd_ne hne]
    exact ⟨h2, rfl⟩
  · have hne : l ≠ p := fun z => by
      obtain ⟨o, q⟩ := Option.ne_none_iff_exists'.mp (F.kf l e)
      have := R.fh l o q
      rw [z, n] at this
      cases this
    rw [upd_ne hne]
    exact R.lk l e
/-- a new object that is not told of -/
theorem Rel.newX (R : Rel K F G Mu Γ σ H) {p : Addr} {o : HO} (n : H p = none) : Rel K F G Mu Γ σ (upd H p o) := by
  refine R.mono (Mu' := Mu) (fun b x h => same_upd n b x (R.fh b x h)) (Same.refl _) (fun b x h => same_upd n b x (R.gh b x h)) (fun l e => ?_) (fun i l h => ?_) R.lk
  · obtain ⟨_, h2, h3⟩ := R.mu l e
    have hne : l ≠ p := fun z => by rw [z] at h3; exact h3 n
    rw [upd_ne hne]
    exact ⟨h2, h3⟩
  · obtain ⟨h1, h2, vs, h3⟩ := R.there h
    have hne : l ≠ p := ne_of_none h3 n
    rw [upd_ne hne]
    exact ⟨h2, rfl⟩
theorem owns_set {i j : Nat} {sv : SV} {l : Addr} (h : Owns (Γ.set j sv) σ i l) (hn : sv.ow = false) : Owns Γ σ i l ∧ i ≠ j := by
  obtain ⟨m, h1, xs, h2⟩ := h
  by_cases e : i = j
  · subst e
    by_cases hl : i < Γ.length
    · rw [List.getElem?_set_self hl] at h1
      cases h1
      rw [hn] at xs
      cases xs
    · rw [List.getElem?_eq_none (by simpa using hl)] at h1
      cases h1
  · rw [List.getElem?_set_ne (Ne.symm e)] at h1
    exact ⟨⟨m, h1, xs, h2⟩, e⟩
/-- an own list becomes data that stays -/
theorem Rel.freeze (R : Rel K F G Mu Γ σ H) {i : Nat} {xs : List D} (h : Γ[i]? = some (.own false xs)) :
    ∃ (l : Addr) (G' : Hp), σ[i]? = some (some (.ref l)) ∧ Rel K F G' Mu (Γ.set i (.d (.list xs))) σ H ∧ Same G G' ∧ Dq K G' (.ref l) (.list xs) := by
  obtain ⟨l, vs, e, h2, h3, h4, h5, _, h7, ho⟩ := R.owned h
  have hs : Same G (upd G l (.lst vs)) := same_upd h5
  have gh : Same (upd G l (.lst vs)) H := fun b x q => by
    by_cases hb : b = l
    · subst hb
      rw [upd_same] at q
      rw [h2]
      exact q
    · rw [upd_ne hb] at q
      exact R.gh b x q
  have lk' : ∀ l', F.k l' → upd G l (.lst vs) l' = none := fun l' e' => by
    rw [upd_ne (fun z => F.kf l' e' (by rw [z]; exact h4))]
    exact R.lk l' e'
  have dp : Dq K (upd G l (.lst vs)) (.ref l) (.list xs) := .lst (.of upd_same) (dpAll_mono hs _ _ h3)
  have hi : i < Γ.length := by
    have := (List.getElem?_eq_some_iff.mp h).1
    exact this
  refine ⟨l, _, e, ⟨R.fh, lk', gh, fun l' q => ?_, by rw [List.length_set]; exact R.len, fun j sv hj => ?_, fun j k l' a b => ?_⟩, hs, dp⟩
  · obtain ⟨m1, m2, m3⟩ := R.mu l' q
    have hne : l' ≠ l := fun z => h7 rfl (by rw [q, z])
    rw [upd_ne hne]
    exact ⟨m1, m2, m3⟩
  · by_cases hji : j = i
    · subst hji
      rw [List.getElem?_set_self hi] at hj
      cases hj
      exact ⟨_, by rw [e] <;> rfl, dp⟩
    · rw [List.getElem?_set_ne (Ne.symm hji)] at hj
      have q := R.sl j sv hj
      cases sv with
      | u => exact True.intro
      | d x =>
        obtain ⟨v, q1, q2⟩ := q
        exact ⟨v, q1, dp_mono hs x v q2⟩
      | a ys =>
        obtain ⟨l', vs', q1, q2, q3⟩ := q
        exact ⟨l', vs', q1, q2, dpAll_mono hs _ _ q3⟩
      | own m ys =>
        obtain ⟨l', vs', q1, q2, q3, q4, q5, q6, q7⟩ := q
        have hne : l' ≠ l := fun z => by
          subst z
          exact hji (R.sep j i l' ⟨_, hj, rfl, join_some q1⟩ ho)
        exact ⟨l', vs', q1, q2, dpAll_mono hs _ _ q3, q4, by rw [upd_ne hne]; exact q5, q6, q7⟩
      | dk ds =>
        obtain ⟨l', es, q1, q2, q3, q4, q5, q6⟩ := q
        have hne : l' ≠ l := fun z => by
          subst z
          exact hji (R.sep j i l' ⟨_, hj, rfl, join_some q1⟩ ho)
        exact ⟨l', es, q1, q2, dkAll_up hs q3, q4, by rw [upd_ne hne]; exact q5, q6⟩
  · obtain ⟨a1, _⟩ := owns_set a rfl
    obtain ⟨b1, _⟩ := owns_set b rfl
    exact R.sep j k l' a1 b1
/-- an own list's content is another -/
theorem Rel.change (R : Rel K F G Mu Γ σ H) {i : Nat} {m : Bool} {xs ys : List D} {l : Addr} {us : List V} (h : Γ[i]? = some (.own m xs)) (e : σ[i]? = some (some (.ref l))) (d : DqAll K G us ys) :
    Rel K F G Mu (Γ.set i (.own m ys)) σ (upd H l (.lst us)) := by
  obtain ⟨l0, vs, e0, h2, h3, h4, h5, h6, h7, ho⟩ := R.owned h
  rw [e] at e0
  cases e0
  have hi : i < Γ.length := (List.getElem?_eq_some_iff.mp h).1
  have own' : ∀ j l', Owns (Γ.set i (.own m ys)) σ j l' → Owns Γ σ j l' := fun j l' z => by
    obtain ⟨m', z1, zs, z2⟩ := z
    by_cases hji : j = i
    · subst hji
      rw [e] at z2
      cases z2
      exact ho
    · rw [List.getElem?_set_ne (Ne.symm hji)] at z1
      exact ⟨m', z1, zs, z2⟩
  refine ⟨same_updR R.fh h4, R.lk, same_updR R.gh h5, fun l' q => ?_, by rw [List.length_set]; exact R.len, fun j sv hj => ?_, fun j k l' a b => R.sep j k l' (own' _ _ a) (own' _ _ b)⟩
  · obtain ⟨m1, m2, m3⟩ := R.mu l' q
    refine ⟨m1, m2, ?_⟩
    by_cases hl : l' = l
    · rw [hl, upd_same]
      exact fun z => nomatch z
    · rw [upd_ne hl]
      exact m3
  · by_cases hji : j = i
    · subst hji
      rw [List.getElem?_set_self hi] at hj
      cases hj
      exact ⟨l, us, by rw [e] <;> rfl, upd_same, d, h4, h5, h6, h7⟩
    · rw [List.getElem?_set_ne (Ne.symm hji)] at hj
      have q := R.sl j sv hj
      cases sv with
      | u => exact True.intro
      | d x => exact q
      | a ys => exact q
      | own m' zs =>
        obtain ⟨l', vs', q1, q2, q3, q4, q5, q6, q7⟩ := q
        have hne : l' ≠ l := fun z => by
          subst z
          exact hji (R.sep j i l' ⟨_, hj, rfl, join_some q1⟩ ho)
        exact ⟨l', vs', q1, by rw [upd_ne hne]; exact q2, q3, q4, q5, q6, q7⟩
      | dk ds =>
        obtain ⟨l', es, q1, q2, q3, q4, q5, q6⟩ := q
        have hne : l' ≠ l := fun z => by
          subst z
          exact hji (R.sep j i l' ⟨_, hj, rfl, join_some q1⟩ ho)
        exact ⟨l', es, q1, by rw [upd_ne hne]; exact q2, q3, q4, q5, q6⟩
/-- a slot is stored -/
theorem Rel.store (R : Rel K F G Mu Γ σ H) {i : Nat} {sv : SV} {v : V} (q : SlotRel K F G H Mu sv (some v)) (hn : sv.ow = true → ∀ j l, v = .ref l → Owns Γ σ j l → j = i) : Rel K F G Mu (Γ.set i sv) (σ.set i (some v)) H := by
  have own' : ∀ j l', Owns (Γ.set i sv) (σ.set i (some v)) j l' → (j ≠ i ∧ Owns Γ σ j l') ∨ (j = i ∧ sv.ow = true ∧ v = .ref l') := fun j l' z => by
    obtain ⟨m', z1, zs, z2⟩ := z
    by_cases hji : j = i
    · subst hji
      have hi : j < Γ.length := by
        have := (List.getElem?_eq_some_iff.mp z1).1
        simpa using this
      rw [List.getElem?_set_self hi] at z1
      rw [List.getElem?_set_self (by rw [← R.len]; exact hi)] at z2
      cases z1
      cases z2
      exact .inr ⟨rfl, zs, rfl⟩
    · rw [List.getElem?_set_ne (Ne.symm hji)] at z1 z2
      exact .inl ⟨hji, m', z1, zs, z2⟩
  refine ⟨R.fh, R.lk, R.gh, R.mu, by rw [List.length_set, List.length_set]; exact R.len, fun j sv' hj => ?_, fun j k l' a b => ?_⟩
  · by_cases hji : j = i
    · subst hji
      have hi : j < Γ.length := by
        have := (List.getElem?_eq_some_iff.mp hj).1
        simpa using this
      rw [List.getElem?_set_self hi] at hj
      cases hj
      rw [List.getElem?_set_self (by rw [← R.len]; exact hi)]
      exact q
    · rw [List.getElem?_set_ne (Ne.symm hji)] at hj
      rw [List.getElem?_set_ne (Ne.symm hji)]
      exact R.sl j sv' hj
  · rcases own' j l' a with ⟨a1, a2⟩ | ⟨a1, a2, a3⟩
    · rcases own' k l' b with ⟨b1, b2⟩ | ⟨b1, b2, b3⟩
      · exact R.sep j k l' a2 b2
      · exact absurd (hn b2 j l' b3 a2) a1
    · rcases own' k l' b with ⟨b1, b2⟩ | ⟨b1, b2, b3⟩
      · exact absurd (hn a2 k l' a3 b2) b1
      · rw [a1, b1]
/-- a slot is forgotten -/
theorem Rel.forget (R : Rel K F G Mu Γ σ H) (i : Nat) {o : Option V} : Rel K F G Mu (Γ.set i .u) (σ.set i o) H := by
  have own' : ∀ j l', Owns (Γ.set i .u) (σ.set i o) j l' → Owns Γ σ j l' := fun j l' z => by
    obtain ⟨m', z1, zs, z2⟩ := z
    by_cases hji : j = i
    · subst hji
      have hi : j < Γ.length := by
        have := (List.getElem?_eq_some_iff.mp z1).1
        simpa using this
      rw [List.getElem?_set_self hi] at z1
      cases z1
      cases zs
    · rw [List.getElem?_set_ne (Ne.symm hji)] at z1 z2
      exact ⟨m', z1, zs, z2⟩
  refine ⟨R.fh, R.lk, R.gh, R.mu, by rw [List.length_set, List.length_set]; exact R.len, fun j sv' hj => ?_, fun j k l' a b => R.sep j k l' (own' _ _ a) (own' _ _ b)⟩
  by_cases hji : j = i
  · subst hji
    have hi : j < Γ.length := by
      have := (List.getElem?_eq_some_iff.mp hj).1
      simpa using this
    rw [List.getElem?_set_self hi] at hj
    cases hj
    exact True.intro
  · rw [List.getElem?_set_ne (Ne.symm hji)] at hj
    rw [List.getElem?_set_ne (Ne.symm hji)]
    exact R.sl j sv' hj
end
end Z

set_option Elab.async false
set_option linter.all false
set_option maxRecDepth 100000
set_option autoImplicit false
set_option maxHeartbeats 1000000
namespace Z
open PySem PySem.Spec PyProof.Rows L2

structure Ext (G H G' H' : Hp) : Prop where
  g : Same G G'
  gh : Same G' H'
  h : Same H H'
  out : ∀ l, H l ≠ none → G' l = G l
section
variable {K : PySem.W.Frag} {F : Fr} {G H H' G' : Hp} {Mu : Option Addr} {Γ : En} {σ : St}
theorem Ext.refl (e : Same G H) : Ext G H G H := ⟨Same.refl _, e, Same.refl _, fun _ _ => rfl⟩
theorem Ext.new {p : Addr} {o : HO} (e : Same G H) (n : H p = none) : Ext G H (upd G p o) (upd H p o) :=
  ⟨same_upd (e.free n), same_upd2 e, same_upd n, fun l h => by rw [upd_ne (fun z => h (by rw [z]; exact n))]⟩
theorem Ext.trans {G1 H1 : Hp} (a : Ext G H G1 H1) (b : Ext G1 H1 G' H') : Ext G H G' H' :=
  ⟨a.g.trans b.g, b.gh, a.h.trans b.h, fun l h => (b.out l (fun z => h (a.h.free z))).trans (a.out l h)⟩
theorem Rel.ext (R : Rel K F G Mu Γ σ H) (e : Ext G H G' H') : Rel K F G' Mu Γ σ H' := by
  refine R.mono (Mu' := Mu) (R.fh.trans e.h) e.g e.gh (fun l q => ?_) (fun i l h => ?_) (fun l q => ?_)
  · obtain ⟨_, h2, h3⟩ := R.mu l q
    exact ⟨(e.out l h3).trans h2, fun z => h3 (e.h.free z)⟩
  · obtain ⟨h1, h2, vs, h3⟩ := R.there h
    exact ⟨(e.out l (by rw [h3]; exact fun z => nomatch z)).trans h2, by rw [h3]; exact e.h l _ h3⟩
  · obtain ⟨o, w⟩ := Option.ne_none_iff_exists'.mp (F.kf l q)
    exact (e.out l (by rw [R.fh l o w]; exact fun z => nomatch z)).trans (R.lk l q)
end

abbrev Rho (α β : Type) := PySem.W.Frag → Fr → Hp → Option Addr → En → St → Hp → α → β → Prop
def zpost {α β : Type} (X : Cx) (W : WX) (σ : St) (ρ : Rho α β) (F : Fr) (G : Hp) (Mu : Option Addr) (Q : β → Hp → Prop) (o : Ro α) : Prop := match o with
  | .bad => False
  | .ok r Γ' => ∀ v H' G', Same G G' → Rel X.K F G' Mu Γ' σ H' → ρ X.K F G' Mu Γ' σ H' r v → Q v H'
  | .ex c x Γ' => ∀ C a v H' G', X.mg c = some (.ref C) → Same G G' → Rel X.K F G' Mu Γ' σ H' → H' a = some (.xd [("value", v)]) → Dq X.K G' v x → W (.ref C) (some a) σ H'
def zt {α β : Type} (X : Cx) (W : WX) (ρ : Rho α β) (m : M α) : St → Hp → (β → Hp → Prop) → Prop := fun σ H Q =>
  ∃ F G Mu Γ, Rel X.K F G Mu Γ σ H ∧ zpost X W σ ρ F G Mu Q (m Γ)
def rhoD : Rho D V := fun K _ G _ _ _ _ x v => Dq K G v x
def rhoR : Rho Rs V := fun K _ G _ _ σ _ r v => match r with
  | .d x => Dq K G v x
  | .sl i => σ[i]? = some (some v)
def rhoO : Rho (List D) V := fun K F G Mu Γ σ H xs v => ∃ l vs, v = .ref l ∧ H l = some (.lst vs) ∧ DqAll K G vs xs ∧ F l = none ∧ G l = none ∧ Mu ≠ some l ∧ ∀ i, ¬ Owns Γ σ i l
def rhoB : Rho Bool Bool := fun _ _ _ _ _ _ _ x b => x = b
def rhoDs : Rho (List D) (List V) := fun K _ G _ _ _ _ xs vs => DqAll K G vs xs
def RsAll (K : PySem.W.Frag) (G : Hp) (σ : St) : List Rs → List V → Prop
  | [], vs => vs = []
  | r :: rs, vs => ∃ v us, vs = v :: us ∧ (match r with | .d x => Dq K G v x | .sl i => σ[i]? = some (some v)) ∧ RsAll K G σ rs us
def rhoRs : Rho (List Rs) (List V) := fun K _ G _ _ σ _ rs vs => RsAll K G σ rs vs

/-- an expression gives data that stays -/
def DP (X : Cx) (e : Expr) (m : M D) : Prop := ∀ W, Takes X W → PE X e (zt X W rhoD m)
/-- .. data, or a name -/
def DV (X : Cx) (e : Expr) (m : M Rs) : Prop := ∀ W, Takes X W → PE X e (zt X W rhoR m)
/-- .. a new list -/
def DO (X : Cx) (e : Expr) (m : M (List D)) : Prop := ∀ W, Takes X W → PE X e (zt X W rhoO m)
def DT (X : Cx) (e : Expr) (m : M Bool) : Prop := ∀ W, Takes X W → PT X e (zt X W rhoB m)
/-- .. as a part of and, or -/
def DW (X : Cx) (e : Expr) (m : M Bool) : Prop := ∀ W, Takes X W → PW X e (zt X W rhoB m)
def DPs (X : Cx) (es : List Expr) (m : M (List D)) : Prop := ∀ W, Takes X W → PA X es (zt X W rhoDs m)
def DVs (X : Cx) (es : List Expr) (m : M (List Rs)) : Prop := ∀ W, Takes X W → PA X es (zt X W rhoRs m)

theorem pe_imp {X : Cx} {e : Expr} {t t' : TE} (p : PE X e t) (h : ∀ σ H Q, t' σ H Q → t σ H Q) : PE X e t' := ⟨fun pins s σ H Q I q => p.run pins s σ H Q I (h σ H Q q)⟩
theorem pt_imp {X : Cx} {e : Expr} {t t' : TT} (p : PT X e t) (h : ∀ σ H Q, t' σ H Q → t σ H Q) : PT X e t' := ⟨fun pins s σ H Q I q => p.run pins s σ H Q I (h σ H Q q)⟩
theorem pw_imp {X : Cx} {e : Expr} {t t' : TT} (p : PW X e t) (h : ∀ σ H Q, t' σ H Q → t σ H Q) : PW X e t' := ⟨fun wh pins s σ H Q I q => p.run wh pins s σ H Q I (h σ H Q q)⟩
theorem pa_imp {X : Cx} {es : List Expr} {t t' : TA} (p : PA X es t) (h : ∀ σ H Q, t' σ H Q → t σ H Q) : PA X es t' := ⟨fun pos pins s σ H Q I q => p.run pos pins s σ H Q I (h σ H Q q)⟩
theorem ps_imp {X : Cx} {st : Stmt} {t t' : TS} (p : PS X st t) (h : ∀ D σ H, t' D σ H → t D σ H) : PS X st t' := ⟨fun pins s σ H D I q => p.run pins s σ H D I (h D σ H q)⟩
theorem pss_imp {X : Cx} {st : List Stmt} {t t' : TS} (p : PSs X st t) (h : ∀ D σ H, t' D σ H → t D σ H) : PSs X st t' := ⟨fun pins s σ H D I q => p.run pins s σ H D I (h D σ H q)⟩

section
variable {X : Cx} {W : WX} {σ : St} {H : Hp} {α β γ δ ε ζ : Type} {ρ : Rho α β} {ρ' : Rho γ δ} {ρ'' : Rho ε ζ} {F : Fr} {G G' : Hp} {Mu : Option Addr}
theorem zpost.rebase {Q : β → Hp → Prop} {o : Ro α} (e : Same G G') (p : zpost X W σ ρ F G Mu Q o) : zpost X W σ ρ F G' Mu Q o := by
  cases o with
  | bad => exact p
  | ok r Γ' => exact fun v H' G2 h => p v H' G2 (e.trans h)
  | ex c x Γ' => exact fun C a v H' G2 h1 h2 => p C a v H' G2 h1 (e.trans h2)
theorem zpost.imp {Q Q' : β → Hp → Prop} {o : Ro α} (p : zpost X W σ ρ F G Mu Q o) (h : ∀ v H', Q v H' → Q' v H') : zpost X W σ ρ F G Mu Q' o := by
  cases o with
  | bad => exact p
  | ok r Γ' => exact fun v H' G2 h1 h2 h3 => h _ _ (p v H' G2 h1 h2 h3)
  | ex c x Γ' => exact p
theorem zt.imp {m : M α} {Q Q' : β → Hp → Prop} (p : zt X W ρ m σ H Q) (h : ∀ v H', Q v H' → Q' v H') : zt X W ρ m σ H Q' := by
  obtain ⟨F, G, Mu, Γ, R, q⟩ := p
  exact ⟨F, G, Mu, Γ, R, q.imp h⟩
/-- the first part of a run, the rest behind it -/
theorem zt_bnd {m : M α} {f : α → M γ} {Q : δ → Hp → Prop} (p : zt X W ρ' (bnd m f) σ H Q) :
    zt X W ρ m σ H fun v H1 => ∃ r F G Mu Γ, Rel X.K F G Mu Γ σ H1 ∧ ρ X.K F G Mu Γ σ H1 r v ∧ zpost X W σ ρ' F G Mu Q (f r Γ) := by
  obtain ⟨F, G, Mu, Γ, R, q⟩ := p
  refine ⟨F, G, Mu, Γ, R, ?_⟩
  unfold bnd at q
  cases e : m Γ with
  | bad => rw [e] at q; exact q
  | ok r Γ1 =>
    rw [e] at q
    exact fun v H1 G1 h1 R1 h2 => ⟨r, F, G1, Mu, Γ1, R1, h2, q.rebase h1⟩
  | ex c x Γ1 => rw [e] at q; exact q
/-- two parts in a row; what the first gave still stands -/
theorem zt_bnd2 {m : M α} {n : M γ} {f : α → γ → M ε} {Q : ζ → Hp → Prop} (st : ∀ K F G Mu Γ σ H r v F' G' Mu' Γ' H', Same G G' → ρ K F G Mu Γ σ H r v → ρ K F' G' Mu' Γ' σ H' r v)
    (p : zt X W ρ'' (bnd m fun r => bnd n fun s => f r s) σ H Q) :
    zt X W ρ m σ H fun v H1 => zt X W ρ' n σ H1 fun u H2 => ∃ r s F G Mu Γ, Rel X.K F G Mu Γ σ H2 ∧ ρ X.K F G Mu Γ σ H2 r v ∧ ρ' X.K F G Mu Γ σ H2 s u ∧ zpost X W σ ρ'' F G Mu Q (f r s Γ) := by
  obtain ⟨F, G, Mu, Γ, R, q⟩ := p
  refine ⟨F, G, Mu, Γ, R, ?_⟩
  unfold bnd at q
  cases e : m Γ with
  | bad => rw [e] at q; exact q
  | ok r Γ1 =>
    rw [e] at q
    refine fun v H1 G1 h1 R1 h2 => ⟨F, G1, Mu, Γ1, R1, ?_⟩
    dsimp only at q
    cases e2 : n Γ1 with
    | bad => rw [e2] at q; exact q
    | ok s Γ2 =>
      rw [e2] at q
      exact fun u H2 G2 k1 R2 k2 => ⟨r, s, F, G2, Mu, Γ2, R2, st _ _ _ _ _ _ _ _ _ _ _ _ _ _ k1 h2, k2, q.rebase (h1.trans k1)⟩
    | ex c x Γ2 => rw [e2] at q; exact q.rebase h1
  | ex c x Γ1 => rw [e] at q; exact q
end
theorem stD : ∀ K F G Mu Γ σ H r v F' G' Mu' Γ' H', Same G G' → rhoD K F G Mu Γ σ H r v → rhoD K F' G' Mu' Γ' σ H' r v := fun _ _ _ _ _ _ _ _ _ _ _ _ _ _ e h => dp_mono e _ _ h
theorem stR : ∀ K F G Mu Γ σ H r v F' G' Mu' Γ' H', Same G G' → rhoR K F G Mu Γ σ H r v → rhoR K F' G' Mu' Γ' σ H' r v := fun _ _ _ _ _ _ _ r _ _ _ _ _ _ e h => by
  cases r with
  | d x => exact dp_mono e _ _ h
  | sl i => exact h
def vl (g : En) : Rs → Option D
  | .d x => some x
  | .sl i => match g[i]? with
    | some (.d x) => some x
    | some (.a xs) => some (.list xs)
    | some (.own _ xs) => some (.list xs)
    | _ => none
/-- what is read: data, or a list whose items are such -/
def Rdb (K : PySem.W.Frag) (G H : Hp) (v : V) (x : D) : Prop := Dq K G v x ∨ ∃ l vs xs, v = .ref l ∧ x = .list xs ∧ SqL K H l vs ∧ DqAll K G vs xs
section
variable {K : PySem.W.Frag} {F : Fr} {G H H' G' : Hp} {Mu : Option Addr} {Γ : En} {σ : St}
theorem Rdb.dp (e : Same G H) {v : V} {x : D} (h : Rdb K G H v x) : Dq K H v x := by
  rcases h with h | ⟨l, vs, xs, rfl, rfl, h1, h2⟩
  · exact dp_mono e _ _ h
  · exact .lst h1 (dpAll_mono e _ _ h2)
theorem Rdb.list (e : Same G H) {v : V} {xs : List D} (h : Rdb K G H v (.list xs)) : ∃ l vs, v = .ref l ∧ SqL K H l vs ∧ DqAll K G vs xs := by
  rcases h with h | ⟨l, vs, xs, rfl, q, h1, h2⟩
  · cases h with
    | lst h1 h2 => exact ⟨_, _, rfl, e.seq h1, h2⟩
  · cases q
    exact ⟨l, vs, rfl, h1, h2⟩
theorem Rdb.tup (e : Same G H) {v : V} {xs : List D} (h : Rdb K G H v (.tuple xs)) : ∃ l vs, v = .ref l ∧ TupN K H l vs ∧ DqAll K G vs xs := by
  rcases h with h | ⟨l, vs, xs, rfl, q, h1, h2⟩
  · cases h with
    | tup h1 h2 => exact ⟨_, _, rfl, h1.mono e, h2⟩
  · cases q
theorem Rdb.int {v : V} {i : Int} (h : Rdb K G H v (.int i)) : v = .int i := by
  rcases h with h | ⟨l, vs, xs, rfl, q, h1, h2⟩
  · cases h; rfl
  · cases q
theorem Rdb.bool {v : V} {i : Bool} (h : Rdb K G H v (.bool i)) : v = .bl i := by
  rcases h with h | ⟨l, vs, xs, rfl, q, h1, h2⟩
  · cases h; rfl
  · cases q
theorem Rdb.str {v : V} {i : Str} (h : Rdb K G H v (.str i)) : v = .str i := by
  rcases h with h | ⟨l, vs, xs, rfl, q, h1, h2⟩
  · cases h; rfl
  · cases q
theorem Rdb.none {v : V} (h : Rdb K G H v .none) : v = .non := by
  rcases h with h | ⟨l, vs, xs, rfl, q, h1, h2⟩
  · cases h; rfl
  · cases q
theorem Rel.read (R : Rel K F G Mu Γ σ H) {r : Rs} {v : V} {x : D} (h : rhoR K F G Mu Γ σ H r v) (e : vl Γ r = some x) : Rdb K G H v x := by
  cases r with
  | d y =>
    cases e
    exact .inl h
  | sl i =>
    have h' : σ[i]? = some (some v) := h
    unfold vl at e
    dsimp only at e
    split at e
    · rename_i y q
      cases e
      obtain ⟨v', h1, h2⟩ := R.data q
      rw [h'] at h1
      cases h1
      exact .inl h2
    · rename_i ys q
      cases e
      obtain ⟨l, vs, h1, h2, h3⟩ := R.arg q
      rw [h'] at h1
      cases h1
      exact .inr ⟨l, vs, ys, rfl, rfl, (F.af.trans R.fh).seq h2, h3⟩
    · rename_i m ys q
      cases e
      obtain ⟨l, vs, h1, h2, h3, _⟩ := R.owned q
      rw [h'] at h1
      cases h1
      exact .inr ⟨l, vs, ys, rfl, rfl, .of h2, h3⟩
    · cases e
end
def dName (i : Nat) : M Rs := fun g => match g[i]? with
  | some (.d x) => .ok (.d x) g
  | some (.a _) => .ok (.sl i) g
  | some (.own _ _) => .ok (.sl i) g
  | _ => .bad
def dv (m : M D) : M Rs := bnd m fun x => rt (.d x)
/-- to let a name's list go into data: an own one stays as it is from now on -/
def esc (r : Rs) : M D := fun g => match r with
  | .d x => .ok x g
  | .sl i => match g[i]? with
    | some (.d x) => .ok x g
    | some (.own false xs) => .ok (.list xs) (g.set i (.d (.list xs)))
    | _ => .bad
def dEsc (m : M Rs) : M D := bnd m esc
def dFz (m : M (List D)) : M D := bnd m fun xs => rt (.list xs)
section
variable {X : Cx} {e : Expr} {es : List Expr} {pos : Pos}
theorem zpost_ok {α β : Type} {W : WX} {σ : St} {ρ : Rho α β} {F : Fr} {G H : Hp} {Mu : Option Addr} {Γ : En} {Q : β → Hp → Prop} {r : α} {v : β} (R : Rel X.K F G Mu Γ σ H) (h : ρ X.K F G Mu Γ σ H r v) (p : zpost X W σ ρ F G Mu Q (.ok r Γ)) : Q v H := p v H G (Same.refl _) R h
theorem dv_name {i : Nat} {x : Str} (hN : X.N[i]? = some x) (hv : Vis X.env.scope x) (hd : (x == ("__debug__" : Str)) = false := by decide) (hcd : (x == ("__classdict__" : Str)) = false := by decide) : DV X (.Name x pos) (dName i) := fun W _ => by
  refine pe_imp (pe_var hN hv hd hcd) fun σ H Q h => ?_
  obtain ⟨F, G, Mu, Γ, R, p⟩ := h
  unfold dName at p
  split at p
  · rename_i y q
    obtain ⟨v, h1, h2⟩ := R.data q
    exact ⟨v, h1, zpost_ok R (show rhoR _ _ _ _ _ _ _ (.d y) v from h2) p⟩
  · rename_i ys q
    obtain ⟨l, vs, h1, h2, h3⟩ := R.arg q
    exact ⟨_, h1, zpost_ok R (show rhoR _ _ _ _ _ _ _ (.sl i) _ from h1) p⟩
  · rename_i m ys q
    obtain ⟨l, vs, h1, h2, h3, _⟩ := R.owned q
    exact ⟨_, h1, zpost_ok R (show rhoR _ _ _ _ _ _ _ (.sl i) _ from h1) p⟩
  · exact p.elim
theorem dv_of {m : M D} (h : DP X e m) : DV X e (dv m) := fun W tk => by
  refine pe_imp (h W tk) fun σ H Q p => ?_
  refine (zt_bnd (ρ := rhoD) p).imp fun v H1 ⟨r, F, G, Mu, Γ, R, h1, q⟩ => ?_
  exact zpost_ok R (show rhoR _ _ _ _ _ _ _ (.d r) v from h1) q
theorem dp_esc {m : M Rs} (h : DV X e m) : DP X e (dEsc m) := fun W tk => by
  refine pe_imp (h W tk) fun σ H Q p => ?_
  refine (zt_bnd (ρ := rhoR) p).imp fun v H1 ⟨r, F, G, Mu, Γ, R, h1, q⟩ => ?_
  unfold esc at q
  cases r with
  | d x => exact zpost_ok R (show rhoD _ _ _ _ _ _ _ x v from h1) q
  | sl i =>
    have h1' : σ[i]? = some (some v) := h1
    dsimp only at q
    split at q
    · rename_i y g
      obtain ⟨v', k1, k2⟩ := R.data g
      rw [h1'] at k1
      cases k1
      exact zpost_ok R (show rhoD _ _ _ _ _ _ _ y v from k2) q
    · rename_i ys g
      obtain ⟨l, G', k1, R', k2, k3⟩ := R.freeze g
      rw [h1'] at k1
      cases k1
      exact q _ H1 G' k2 R' k3
    · exact q.elim
/-- a new list that stays -/
theorem Rel.keep {K : PySem.W.Frag} {F : Fr} {G H : Hp} {Mu : Option Addr} {Γ : En} {σ : St} {xs : List D} {v : V} (R : Rel K F G Mu Γ σ H) (h : rhoO K F G Mu Γ σ H xs v) : ∃ G', Same G G' ∧ Rel K F G' Mu Γ σ H ∧ Dq K G' v (.list xs) := by
  obtain ⟨l, vs, rfl, h1, h2, h3, h4, h5, h6⟩ := h
  have hs : Same G (upd G l (.lst vs)) := same_upd h4
  have gh : Same (upd G l (.lst vs)) H := fun b x q => by
    by_cases hb : b = l
    · subst hb
      rw [upd_same] at q
      rw [h1]
      exact q
    · rw [upd_ne hb] at q
      exact R.gh b x q
  refine ⟨_, hs, R.mono (Mu' := Mu) R.fh hs gh (fun l' q => ?_) (fun i l' ho => ?_) (fun l' q => ?_), .lst (.of upd_same) (dpAll_mono hs _ _ h2)⟩
  · obtain ⟨_, m2, m3⟩ := R.mu l' q
    have hne : l' ≠ l := fun z => h5 (by rw [q, z])
    rw [upd_ne hne]
    exact ⟨m2, m3⟩
  · have hne : l' ≠ l := fun z => h6 i (by rw [← z]; exact ho)
    rw [upd_ne hne]
    exact ⟨(R.there ho).2.1, rfl⟩
  · rw [upd_ne (fun z => F.kf l' q (by rw [z]; exact h3))]
    exact R.lk l' q
theorem dp_fz {m : M (List D)} (h : DO X e m) : DP X e (dFz m) := fun W tk => by
  refine pe_imp (h W tk) fun σ H Q p => ?_
  refine (zt_bnd (ρ := rhoO) p).imp fun v H1 ⟨r, F, G, Mu, Γ, R, h1, q⟩ => ?_
  obtain ⟨G', k1, R', k2⟩ := R.keep h1
  exact q v H1 G' k1 R' k2

def dC (x : D) : M D := rt x
theorem zt_c {W : WX} {σ : St} {H : Hp} {Q : VK} {x : D} {v : V} (hv : ∀ K G, Dq K G v x) (h : zt X W rhoD (dC x) σ H Q) : Q v H := by
  obtain ⟨F, G, Mu, Γ, R, p⟩ := h
  exact zpost_ok R (show rhoD _ _ _ _ _ _ _ x v from hv _ _) p
theorem dp_int {i : Int} {j} : DP X (.Constant (.int i) j pos) (dC (.int i)) := fun W _ => pe_imp pe_int fun σ H Q h => zt_c (fun _ _ => .int i) h
theorem dp_bool {b : Bool} {j} : DP X (.Constant (.bool b) j pos) (dC (.bool b)) := fun W _ => pe_imp pe_bl fun σ H Q h => zt_c (fun _ _ => .bl b) h
theorem dp_none {j} : DP X (.Constant .none j pos) (dC .none) := fun W _ => pe_imp pe_non fun σ H Q h => zt_c (fun _ _ => .non) h
theorem dp_str {x : Str} {j} : DP X (.Constant (.str x) j pos) (dC (.str x)) := fun W _ => pe_imp pe_str fun σ H Q h => zt_c (fun _ _ => .str x) h

def dNil : M (List D) := rt []
def dCons (m : M D) (n : M (List D)) : M (List D) := bnd m fun x => bnd n fun xs => rt (x :: xs)
theorem dps_nil : DPs X [] dNil := fun W _ => pa_imp pa_nil fun σ H Q ⟨F, G, Mu, Γ, R, p⟩ => zpost_ok R (show rhoDs _ _ _ _ _ _ _ [] [] from .nil) p
theorem dps_cons {m : M D} {n : M (List D)} (h : DP X e m) (k : DPs X es n) (hs : starEach (e :: es) X.env = (false, eval e X.env) :: starEach es X.env := by rfl) : DPs X (e :: es) (dCons m n) := fun W tk => by
  refine pa_imp (pa_cons (h W tk) (k W tk) hs) fun σ H Q p => ?_
  refine (zt_bnd2 (ρ := rhoD) (ρ' := rhoDs) stD p).imp fun v H1 q => q.imp fun vs H2 ⟨x, xs, F, G, Mu, Γ, R, h1, h2, q2⟩ => ?_
  exact zpost_ok R (show rhoDs _ _ _ _ _ _ _ (x :: xs) (v :: vs) from .cons h1 h2) q2
def vNil : M (List Rs) := rt []
def vCons (m : M Rs) (n : M (List Rs)) : M (List Rs) := bnd m fun x => bnd n fun xs => rt (x :: xs)
theorem dvs_nil : DVs X [] vNil := fun W _ => pa_imp pa_nil fun σ H Q ⟨F, G, Mu, Γ, R, p⟩ => zpost_ok R (show rhoRs _ _ _ _ _ _ _ [] [] from rfl) p
theorem dvs_cons {m : M Rs} {n : M (List Rs)} (h : DV X e m) (k : DVs X es n) (hs : starEach (e :: es) X.env = (false, eval e X.env) :: starEach es X.env := by rfl) : DVs X (e :: es) (vCons m n) := fun W tk => by
  refine pa_imp (pa_cons (h W tk) (k W tk) hs) fun σ H Q p => ?_
  refine (zt_bnd2 (ρ := rhoR) (ρ' := rhoRs) stR p).imp fun v H1 q => q.imp fun vs H2 ⟨x, xs, F, G, Mu, Γ, R, h1, h2, q2⟩ => ?_
  exact zpost_ok R (show rhoRs _ _ _ _ _ _ _ (x :: xs) (v :: vs) from ⟨v, vs, rfl, h1, h2⟩) q2
end
def vls (g : En) : List Rs → Option (List D)
  | [] => some []
  | r :: rs => match vl g r with
    | none => none
    | some x => match vls g rs with
      | none => none
      | some xs => some (x :: xs)
def RdbAll (K : PySem.W.Frag) (G H : Hp) : List V → List D → Prop
  | [], xs => xs = []
  | v :: vs, xs => ∃ y ys, xs = y :: ys ∧ Rdb K G H v y ∧ RdbAll K G H vs ys
theorem Rel.reads {K : PySem.W.Frag} {F : Fr} {G H : Hp} {Mu : Option Addr} {Γ : En} {σ : St} (R : Rel K F G Mu Γ σ H) : ∀ {rs : List Rs} {vs : List V} {xs : List D}, RsAll K G σ rs vs → vls Γ rs = some xs → RdbAll K G H vs xs
  | [], vs, xs, h, e => by
    cases (show vs = [] from h)
    cases e
    rfl
  | r :: rs, vs, xs, h, e => by
    obtain ⟨v, us, rfl, h1, h2⟩ := h
    unfold vls at e
    split at e
    · cases e
    · rename_i y q
      split at e
      · cases e
      · rename_i ys q2
        cases e
        exact ⟨y, ys, rfl, R.read (show rhoR K F G Mu Γ σ H r v from h1) q, R.reads h2 q2⟩
theorem RdbAll.one {K : PySem.W.Frag} {G H : Hp} {vs : List V} {x : D} (h : RdbAll K G H vs [x]) : ∃ v, vs = [v] ∧ Rdb K G H v x := by
  cases vs with
  | nil => cases (show [x] = [] from h)
  | cons v us =>
    obtain ⟨y, ys, e, h1, h2⟩ := h
    cases e
    cases us with
    | nil => exact ⟨v, rfl, h1⟩
    | cons _ _ =>
      obtain ⟨_, _, e, _⟩ := h2
      cases e
theorem RdbAll.two {K : PySem.W.Frag} {G H : Hp} {vs : List V} {x y : D} (h : RdbAll K G H vs [x, y]) : ∃ v u, vs = [v, u] ∧ Rdb K G H v x ∧ Rdb K G H u y := by
  cases vs with
  | nil => cases (show [x, y] = [] from h)
  | cons v us =>
    obtain ⟨_, _, e, h1, h2⟩ := h
    cases e
    obtain ⟨u, rfl, h3⟩ := RdbAll.one h2
    exact ⟨v, u, rfl, h1, h3⟩

def op2 (f : D → D → Option D) (m n : M Rs) : M D := bnd m fun r => bnd n fun s => fun g => match vl g r with
  | none => .bad
  | some x => match vl g s with
    | none => .bad
    | some y => match f x y with
      | none => .bad
      | some z => .ok z g
def rD2 (K : PySem.W.Frag) (f : D → D → Option D) : R2 := fun x y H Q => ∃ G dx dy z, Same G H ∧ Rdb K G H x dx ∧ Rdb K G H y dy ∧ f dx dy = some z ∧ ∀ v H' G', Ext G H G' H' → Dq K G' v z → Q v H'
theorem op2_run {X : Cx} {W : WX} {σ : St} {H : Hp} {Q : VK} {f : D → D → Option D} {m n : M Rs} (p : zt X W rhoD (op2 f m n) σ H Q) : tOp (rD2 X.K f) (zt X W rhoR m) (zt X W rhoR n) σ H Q := by
  refine (zt_bnd2 (ρ := rhoR) (ρ' := rhoR) stR p).imp fun v H1 q => q.imp fun u H2 ⟨r, s, F, G, Mu, Γ, R, h1, h2, q2⟩ => ?_
  cases e1 : vl Γ r with
  | none => rw [e1] at q2; exact q2.elim
  | some x =>
    cases e2 : vl Γ s with
    | none => rw [e1, e2] at q2; exact q2.elim
    | some y =>
      cases e3 : f x y with
      | none =>
        rw [e1, e2] at q2
        dsimp only at q2
        rw [e3] at q2
        exact q2.elim
      | some z =>
        rw [e1, e2] at q2
        dsimp only at q2
        rw [e3] at q2
        exact ⟨G, x, y, z, R.gh, R.read h1 e1, R.read h2 e2, e3, fun w H' G' ex d => q2 w H' G' ex.g (R.ext ex) d⟩
def rO2 (K : PySem.W.Frag) (f : D → D → Option (List D)) : R2 := fun x y H Q => ∃ G dx dy zs, Same G H ∧ Rdb K G H x dx ∧ Rdb K G H y dy ∧ f dx dy = some zs ∧ ∀ l vs, H l = none → DqAll K G vs zs → Q (.ref l) (upd H l (.lst vs))
theorem Rel.newO {K : PySem.W.Frag} {F : Fr} {G H : Hp} {Mu : Option Addr} {Γ : En} {σ : St} {l : Addr} {vs : List V} {zs : List D} (R : Rel K F G Mu Γ σ H) (n : H l = none) (d : DqAll K G vs zs) : Rel K F G Mu Γ σ (upd H l (.lst vs)) ∧ rhoO K F G Mu Γ σ (upd H l (.lst vs)) zs (.ref l) :=
  ⟨R.newX n, l, vs, rfl, upd_same, d, R.fh.free n, R.gh.free n, fun z => (R.mu l z).2.2 n, fun i h => by
    obtain ⟨_, _, us, q⟩ := R.there h
    rw [n] at q
    cases q⟩
def op1 (f : D → Option D) (m : M Rs) : M D := bnd m fun r => fun g => match vl g r with
  | none => .bad
  | some x => match f x with
    | none => .bad
    | some z => .ok z g
def rD1 (K : PySem.W.Frag) (f : D → Option D) : V → Hp → VK → Prop := fun x H Q => ∃ G dx z, Same G H ∧ Rdb K G H x dx ∧ f dx = some z ∧ ∀ v H' G', Ext G H G' H' → Dq K G' v z → Q v H'
theorem op1_run {X : Cx} {W : WX} {σ : St} {H : Hp} {Q : VK} {f : D → Option D} {m : M Rs} (p : zt X W rhoD (op1 f m) σ H Q) : tUn (rD1 X.K f) (zt X W rhoR m) σ H Q := by
  refine (zt_bnd (ρ := rhoR) p).imp fun v H1 ⟨r, F, G, Mu, Γ, R, h1, q2⟩ => ?_
  cases e1 : vl Γ r with
  | none => rw [e1] at q2; exact q2.elim
  | some x =>
    cases e3 : f x with
    | none =>
      rw [e1] at q2
      dsimp only at q2
      rw [e3] at q2
      exact q2.elim
    | some z =>
      rw [e1] at q2
      dsimp only at q2
      rw [e3] at q2
      exact ⟨G, x, z, R.gh, R.read h1 e1, e3, fun w H' G' ex d => q2 w H' G' ex.g (R.ext ex) d⟩
/-- a built-in by its arguments -/
def opN (f : List D → Option D) (m : M (List Rs)) : M D := bnd m fun rs => fun g => match vls g rs with
  | none => .bad
  | some xs => match f xs with
    | none => .bad
    | some z => .ok z g
def rDN (K : PySem.W.Frag) (f : List D → Option D) : List V → Hp → VK → Prop := fun vs H Q => ∃ G xs z, Same G H ∧ RdbAll K G H vs xs ∧ f xs = some z ∧ ∀ v H' G', Ext G H G' H' → Dq K G' v z → Q v H'
theorem opN_run {X : Cx} {W : WX} {σ : St} {H : Hp} {Q : VK} {f : List D → Option D} {m : M (List Rs)} (p : zt X W rhoD (opN f m) σ H Q) : tCB (rDN X.K f) (zt X W rhoRs m) σ H Q := by
  refine (zt_bnd (ρ := rhoRs) p).imp fun v H1 ⟨r, F, G, Mu, Γ, R, h1, q2⟩ => ?_
  cases e1 : vls Γ r with
  | none => rw [e1] at q2; exact q2.elim
  | some x =>
    cases e3 : f x with
    | none =>
      rw [e1] at q2
      dsimp only at q2
      rw [e3] at q2
      exact q2.elim
    | some z =>
      rw [e1] at q2
      dsimp only at q2
      rw [e3] at q2
      exact ⟨G, x, z, R.gh, R.reads h1 e1, e3, fun w H' G' ex d => q2 w H' G' ex.g (R.ext ex) d⟩
def opNo (f : List D → Option (List D)) (m : M (List Rs)) : M (List D) := bnd m fun rs => fun g => match vls g rs with
  | none => .bad
  | some xs => match f xs with
    | none => .bad
    | some z => .ok z g
def rON (K : PySem.W.Frag) (f : List D → Option (List D)) : List V → Hp → VK → Prop := fun vs H Q => ∃ G xs zs, Same G H ∧ RdbAll K G H vs xs ∧ f xs = some zs ∧ ∀ l vs, H l = none → DqAll K G vs zs → Q (.ref l) (upd H l (.lst vs))
theorem opNo_run {X : Cx} {W : WX} {σ : St} {H : Hp} {Q : VK} {f : List D → Option (List D)} {m : M (List Rs)} (p : zt X W rhoO (opNo f m) σ H Q) : tCB (rON X.K f) (zt X W rhoRs m) σ H Q := by
  refine (zt_bnd (ρ := rhoRs) p).imp fun v H1 ⟨r, F, G, Mu, Γ, R, h1, q2⟩ => ?_
  cases e1 : vls Γ r with
  | none => rw [e1] at q2; exact q2.elim
  | some x =>
    cases e3 : f x with
    | none =>
      rw [e1] at q2
      dsimp only at q2
      rw [e3] at q2
      exact q2.elim
    | some z =>
      rw [e1] at q2
      dsimp only at q2
      rw [e3] at q2
      refine ⟨G, x, z, R.gh, R.reads h1 e1, e3, fun l vs n d => ?_⟩
      obtain ⟨R', o⟩ := R.newO n d
      exact q2 _ _ G (Same.refl _) R' o
section
variable {X : Cx} {a b e : Expr} {es : List Expr} {pos : Pos}
theorem dp_bin {op : Operator} {f : D → D → Option D} {m n : M Rs} (ho : OpR X (binaryOp op) (rD2 X.K f)) (ha : DV X a m) (hb : DV X b n) : DP X (.BinOp a op b pos) (op2 f m n) := fun W tk => pe_imp (pe_op ho (ha W tk) (hb W tk)) fun _ _ _ p => op2_run p
theorem dp_un {op : UnaryOp} {f : D → Option D} {m : M Rs} (ho : UnR X (unaryOp op) (rD1 X.K f)) (ha : DV X a m) : DP X (.UnaryOp op a pos) (op1 f m) := fun W tk => pe_imp (pe_un ho (ha W tk)) fun _ _ _ p => op1_run p
theorem dp_cmp {op : CmpOp} {f : D → D → Option D} {m n : M Rs} (ho : OpR X (compareOp op) (rD2 X.K f)) (ha : DV X a m) (hb : DV X b n) (hm : behindInMarks op b = false) : DP X (.Compare a [op] [b] pos) (op2 f m n) := fun W tk => pe_imp (pe_cmpR ho (ha W tk) (hb W tk) hm) fun _ _ _ p => op2_run p
theorem dp_ix {f : D → D → Option D} {m n : M Rs} (ho : IxR X (rD2 X.K f)) (ha : DV X a m) (hb : DV X b n) (hs : PlainIx b) : DP X (.Subscript a b pos) (op2 f m n) := fun W tk => pe_imp (pe_ix ho (ha W tk) (hb W tk) hs) fun _ _ _ p => op2_run p
end
end Z

set_option Elab.async false
set_option linter.all false
set_option maxRecDepth 100000
set_option autoImplicit false
set_option maxHeartbeats 1000000
namespace Z
open PySem PySem.Spec PyProof.Rows L2
section
variable {X : Cx} {pins : List (Addr × Obj)} {σ : St} {H : Hp} {s : Shared}
/-- the tuple just pushed is tracked, its object known -/
theorem laidT {its : List Value} {xs : List V} {h : Heap} {tk : Nat} (I : L2.Inv X pins σ H { s with heap := h, toks := tk }) (r : Vals xs its) (hz : xs.length ≤ sizeLine) :
    L2.Inv X pins σ (upd H h.objs.size (.frz { cls := .type "tuple", data := .seq its.toArray } (.tup xs))) { s with heap := h.push { cls := .type "tuple", data := .seq its.toArray }, toks := tk } := by
  have e := Heap.get?_push_size h (o := { cls := .type "tuple", data := .seq its.toArray }) rfl
  exact I.laid (t' := tk) (o := .frz { cls := .type "tuple", data := .seq its.toArray } (.tup xs)) (fun b u q => Heap.get?_push_of_some _ q) (Nat.le_refl _)
    ⟨e, hz, its, r, IsTup.new _ _⟩
theorem tryNew {its : List Value} {xs : List V} {Q : VK} (I : L2.Inv X pins σ H s) (r : Vals xs its) (hz : xs.length ≤ sizeLine)
    (q : ∀ p o, H p = none → o.dict = none → Q (.ref p) (upd H p (.frz o (.tup xs)))) : EP X pins σ Q (.ref s.heap.objs.size) { s with heap := s.heap.push { cls := .type "tuple", data := .seq its.toArray } } :=
  ⟨.ref s.heap.objs.size, _, laidT (tk := s.toks) I r hz, rfl, q _ _ (I.hok.fresh (Nat.le_refl _)) rfl⟩
end
def tTupZ (t : TA) : TE := fun σ H Q => t σ H fun xs H1 => xs.length ≤ sizeLine ∧ ∀ p o, H1 p = none → o.dict = none → Q (.ref p) (upd H1 p (.frz o (.tup xs)))
section
variable {X : Cx} {es : List Expr} {t : TA} {pos : Pos}
theorem pe_tupZ {k} (h : PA X es t) : PE X (.Tuple es k pos) (tTupZ t) := by
  refine ⟨fun pins s σ H Q I hq => wpAny_Tuple_spliced (thn (h.run pos pins s σ H _ I hq) fun us s1 ⟨xs, H1, I1, r, z, q⟩ => ⟨by rw [← r.length]; exact z, ?_⟩)⟩
  exact tryNew I1 r z q
/-- t + u -/
def rCatZ (K : PySem.W.Frag) : R2 := fun x y H Q => ∃ a b xs ys, x = .ref a ∧ y = .ref b ∧ SqT K H a xs ∧ SqT K H b ys ∧ xs.length + ys.length ≤ sizeLine ∧
  (xs = [] → Q (.ref b) H) ∧ (xs ≠ [] → ys = [] → Q (.ref a) H) ∧ (xs ≠ [] → ys ≠ [] → ∀ p o, H p = none → o.dict = none → Q (.ref p) (upd H p (.frz o (.tup (xs ++ ys)))))
theorem op_catZ : OpR X (binaryOp .Add) (rCatZ X.K) := by
  intro pins s σ H x y v u Q I rx ry h
  obtain ⟨a, b, xs, ys, rfl, rfl, ha, hb, hz, q0, q1, q2⟩ := h
  cases rx
  cases ry
  obtain ⟨ia, ra, pa, _⟩ := I.tuple ha
  obtain ⟨ib, rb, pb, _⟩ := I.tuple hb
  by_cases hx : xs = []
  · subst hx
    cases ra
    exact cat_tup0 pa pb ⟨.ref b, H, I, rfl, q0 rfl⟩
  · refine HT.cat_tup pa pb (fun z => hx (ra.nil_iff.mp z)) (fun z => ⟨.ref a, H, I, rfl, q1 hx (rb.nil_iff.mp z)⟩) (fun z => ?_) (by rw [← ra.length, ← rb.length]; exact hz)
    exact tryNew I (ra.append rb) (by rw [List.length_append]; exact hz) (q2 hx fun w => z (rb.nil_iff.mpr w))
/-- t[lo:hi] -/
def rSlZ (K : PySem.W.Frag) : V → Option Int → Option Int → Hp → VK → Prop := fun x lo hi H Q => ∃ a xs, x = .ref a ∧ SqT K H a xs ∧
  (HT.sIx xs.length 0 lo = 0 ∧ HT.sIx xs.length xs.length hi = xs.length → Q (.ref a) H) ∧
  (¬ (HT.sIx xs.length 0 lo = 0 ∧ HT.sIx xs.length xs.length hi = xs.length) → ∀ p o, H p = none → o.dict = none → Q (.ref p) (upd H p (.frz o (.tup (cutV xs lo hi)))))
theorem sl_tupZ : SlR X (rSlZ X.K) := by
  intro pins s σ H x v vl vu lo hi sl Q I rx hs pl pu h
  obtain ⟨a, xs, rfl, hx, q1, q2⟩ := h
  cases rx
  obtain ⟨its, r, ht, hz⟩ := I.tuple hx
  have hn : its.toArray.size = xs.length := by rw [List.size_toArray]; exact r.length.symm
  refine ⟨"tuple", _, PyProof.Rows.slot_tuple_getitem.lookup, ht.typeIs, ?_⟩
  by_cases hw : HT.sIx xs.length 0 lo = 0 ∧ HT.sIx xs.length xs.length hi = xs.length
  · exact getItem_tuple_whole ht hs pl pu (by rw [hn]; exact hw) ⟨.ref a, H, I, rfl, q1 hw⟩
  · refine HT.getItem_tuple_cut ht hs pl pu (by rw [hn]; exact hw) ?_ (by rw [hn]; exact hz)
    rw [hn]
    exact tryNew I ((r.drop (HT.sIx xs.length 0 lo)).take (HT.sIx xs.length xs.length hi - HT.sIx xs.length 0 lo)) (Nat.le_trans (cutV_length xs lo hi) hz) (q2 hw)
/-- tuple(x) -/
theorem call_tupleZ : CallR X (.type "tuple") (fun xs H Q => ∃ p ys, xs = [.ref p] ∧ ((SqL X.K H p ys ∧ ∀ l o, H l = none → o.dict = none → Q (.ref l) (upd H l (.frz o (.tup ys)))) ∨ (SqT X.K H p ys ∧ Q (.ref p) H))) := by
  intro pins s σ H xs us Q I r h
  obtain ⟨p, ys, rfl, h⟩ := h
  obtain ⟨u, rfl, rx⟩ := vals1 r
  cases rx
  rcases h with ⟨hq, q⟩ | ⟨hq, q⟩
  · obtain ⟨its, rv, pl, hz⟩ := I.list hq
    refine call_tuple_list pl.isList (fun h' kp => ?_) (by rw [List.size_toArray, ← rv.length]; exact hz)
    have J : L2.Inv X pins σ H { s with heap := h' } := I.kept (t' := s.toks) kp
    exact tryNew J rv hz q
  · obtain ⟨its, rv, pl, hz⟩ := I.tuple hq
    exact call_tuple_same pl ⟨.ref p, H, I, rfl, q⟩
def tTupRgZ (te : St → Hp → (Int → Int → Hp → Prop) → Prop) : TE := fun σ H Q => te σ H fun a b H1 => RgOk a b ∧ ∀ q o, H1 q = none → o.dict = none → Q (.ref q) (upd H1 q (.frz o (.tup (rgV a b))))
theorem pe_tupRgZ {e : Expr} {te : St → Hp → (Int → Int → Hp → Prop) → Prop} {p pos : Pos} (hc : X.calm = true) (hg : Gl X "tuple") (hm : X.mg "tuple" = none) (he : PRg X e te) (na : starEach [e] X.env = (false, eval e X.env) :: starEach [] X.env := by rfl) :
    PE X (.Call (.Name "tuple" p) [e] [] pos) (tTupRgZ te) := by
  refine ⟨fun pins s σ H Q I h => Call_ (ld_blt I hg hm boot_tuple (PyProof.Rows.callWith_type1 (args_cons (thn (he pins s σ H _ I h) fun x s1 ⟨r, a, b, t, u, v, H1, ex, hr, I1, ok, q⟩ => args_nil ?_) na) na))⟩
  subst ex
  obtain ⟨b1, b2, b3, b4, b5⟩ := ok
  refine call_tuple_range (n := (b - a).toNat) (I1.ok.hd hc) hr (small_one b1 b2 b3 b4) (rangeSize_nat a b) b5 fun h' tk acc hk hi => ?_
  have J : L2.Inv X pins σ H1 { s1 with heap := h', toks := tk } := I1.kept hk
  have K2 := laidT (its := acc.toList) (xs := rgV a b) (h := h') (tk := tk) J (vals_rg hi) (by rw [rgV_length, sizeLine_eq]; omega)
  rw [Array.toArray_toList] at K2
  exact ⟨.ref h'.objs.size, _, K2, rfl, q _ _ (J.hok.fresh (Nat.le_refl _)) rfl⟩
end
end Z

set_option Elab.async false
set_option linter.all false
set_option maxRecDepth 100000
set_option autoImplicit false
set_option maxHeartbeats 1000000
namespace Z
open PySem PySem.Spec PyProof.Rows L2

def fAdd : D → D → Option D
  | .int i, .int j => some (.int (i + j))
  | .str a, .str b => if a.length + b.length ≤ sizeLine then some (.str (a ++ b)) else none
  | .tuple xs, .tuple ys => if xs.length + ys.length ≤ sizeLine then some (.tuple (xs ++ ys)) else none
  | _, _ => none
def fSub : D → D → Option D
  | .int i, .int j => some (.int (i - j))
  | _, _ => none
def okMul (i j : Int) : Bool := decide (i.natAbs < 18446744073709551616) || decide (j.natAbs < 18446744073709551616) || decide (i.natAbs.log2 + j.natAbs.log2 < 1000000)
def fMul : D → D → Option D
  | .int i, .int j => if okMul i j then some (.int (i * j)) else none
  | _, _ => none
def okDiv (j : Int) : Bool := decide (0 < j) && (decide (j < 1073741824) || decide (j.natAbs.log2 < 9000))
def fDiv : D → D → Option D
  | .int i, .int j => if okDiv j then some (.int (i / j)) else none
  | _, _ => none
def fMod : D → D → Option D
  | .int i, .int j => if 0 < j then some (.int (i % j)) else none
  | _, _ => none
def fPow : D → D → Option D
  | .int i, .int j => if 0 ≤ j ∧ j ≤ 1000000 ∧ i.natAbs < 18446744073709551616 then some (.int (i ^ j.toNat)) else none
  | _, _ => none
def fNeg : D → Option D
  | .int i => some (.int (-i))
  | _ => none
/-- comparisons of ints -/
def fCmpI (p : Int → Int → Bool) : D → D → Option D
  | .int i, .int j => some (.bool (p i j))
  | _, _ => none
def fLt := fCmpI fun i j => decide (i < j)
def fLe := fCmpI fun i j => decide (i ≤ j)
def fGt := fCmpI fun i j => decide (j < i)
def fGe := fCmpI fun i j => decide (j ≤ i)
def fEq (x y : D) : Option D := if SeqAt.shaped x && SeqAt.shaped y then some (.bool (PyData.eqv x y)) else none
def fNe (x y : D) : Option D := if SeqAt.shaped x && SeqAt.shaped y then some (.bool (!PyData.eqv x y)) else none
def isNone : D → Bool
  | .none => true
  | _ => false
def fIsN (x y : D) : Option D := if isNone y then some (.bool (isNone x)) else none
def fNotN (x y : D) : Option D := if isNone y then some (.bool (!isNone x)) else none
section
variable {X : Cx}
theorem or_ints {F : Value → Value → Sem Value} {f : D → D → Option D} {c : Int → Int → Prop} {g : Int → Int → Int} (ho : OpR X F (rI c fun i j => .int (g i j)))
    (hf : ∀ x y z, f x y = some z → ∃ i j, x = .int i ∧ y = .int j ∧ c i j ∧ z = .int (g i j)) : OpR X F (rD2 X.K f) := by
  intro pins s σ H x y v u Q I rx ry h
  obtain ⟨G, dx, dy, z, gh, r1, r2, e, q⟩ := h
  obtain ⟨i, j, rfl, rfl, hc, rfl⟩ := hf _ _ _ e
  have e1 := r1.int
  have e2 := r2.int
  subst e1 e2
  exact ho pins s σ H _ _ v u Q I rx ry ⟨i, j, rfl, rfl, hc, q _ _ _ (Ext.refl gh) (.int _)⟩
theorem or_cmpI {F : Value → Value → Sem Value} {g : Int → Int → Bool} (ho : OpR X F (rI0 fun i j => .bl (g i j))) : OpR X F (rD2 X.K (fCmpI g)) := by
  intro pins s σ H x y v u Q I rx ry h
  obtain ⟨G, dx, dy, z, gh, r1, r2, e, q⟩ := h
  unfold fCmpI at e
  split at e
  · cases e
    have e1 := r1.int
    have e2 := r2.int
    subst e1 e2
    exact ho pins s σ H _ _ v u Q I rx ry ⟨_, _, rfl, rfl, q _ _ _ (Ext.refl gh) (.bl _)⟩
  · cases e
theorem or_lt : OpR X (compareOp .Lt) (rD2 X.K fLt) := or_cmpI op_lt
theorem or_gt : OpR X (compareOp .Gt) (rD2 X.K fGt) := or_cmpI op_gt
theorem or_ge : OpR X (compareOp .GtE) (rD2 X.K fGe) := or_cmpI op_ge
theorem or_sub : OpR X (binaryOp .Sub) (rD2 X.K fSub) := by
  refine or_ints (c := fun _ _ => True) (g := fun i j => i - j) ?_ fun x y z e => ?_
  · exact opI fun _ _ _ _ _ _ _ _ q => sub_int q
  · unfold fSub at e
    split at e
    · cases e
      exact ⟨_, _, rfl, rfl, trivial, rfl⟩
    · cases e
theorem okMul_ok {i j : Int} (h : okMul i j = true) : IntMulOk i j := by
  unfold okMul at h
  simp only [Bool.or_eq_true, decide_eq_true_eq] at h
  rcases h with (h | h) | h
  · exact CMul.ok (.inl (by omega))
  · exact CMul.ok (.inr (by omega))
  · exact CMulW.ok h
theorem or_mul : OpR X (binaryOp .Mult) (rD2 X.K fMul) := by
  refine or_ints (c := fun i j => okMul i j = true) (g := fun i j => i * j) ?_ fun x y z e => ?_
  · exact opI fun _ _ _ _ _ _ _ hc q => mul_int q (okMul_ok hc)
  · unfold fMul at e
    split at e
    · split at e
      · cases e
        exact ⟨_, _, rfl, rfl, by assumption, rfl⟩
      · cases e
    · cases e
theorem or_div : OpR X (binaryOp .FloorDiv) (rD2 X.K fDiv) := by
  refine or_ints (c := fun _ j => okDiv j = true) (g := fun i j => i / j) ?_ fun x y z e => ?_
  · refine opI fun i j _ _ _ _ _ hc q => ?_
    unfold okDiv at hc
    simp only [Bool.and_eq_true, Bool.or_eq_true, decide_eq_true_eq] at hc
    obtain ⟨h1, h2⟩ := hc
    refine floordiv_int (by omega) (by rw [Int.fdiv_eq_ediv_of_nonneg i (by omega)]; exact q) ?_
    rcases h2 with h2 | h2
    · exact .inl (PyProof.noPylong_small (by omega))
    · exact .inl (PyProof.noPylong_of_log2 h2)
  · unfold fDiv at e
    split at e
    · split at e
      · cases e
        exact ⟨_, _, rfl, rfl, by assumption, rfl⟩
      · cases e
    · cases e
theorem or_mod : OpR X (binaryOp .Mod) (rD2 X.K fMod) := by
  refine or_ints (c := fun _ j => 0 < j) (g := fun i j => i % j) op_mod fun x y z e => ?_
  unfold fMod at e
  split at e
  · split at e
    · cases e
      exact ⟨_, _, rfl, rfl, by assumption, rfl⟩
    · cases e
  · cases e
theorem or_pow : OpR X (binaryOp .Pow) (rD2 X.K fPow) := by
  refine or_ints (c := fun i j => 0 ≤ j ∧ j ≤ 1000000 ∧ i.natAbs < 18446744073709551616) (g := fun i j => i ^ j.toNat) ?_ fun x y z e => ?_
  · exact opI fun _ _ _ _ _ _ _ hc q => pow_int_small hc.1 hc.2.1 hc.2.2 q
  · unfold fPow at e
    split at e
    · split at e
      · cases e
        exact ⟨_, _, rfl, rfl, by assumption, rfl⟩
      · cases e
    · cases e
theorem or_add : OpR X (binaryOp .Add) (rD2 X.K fAdd) := by
  intro pins s σ H x y v u Q I rx ry h
  obtain ⟨G, dx, dy, z, gh, r1, r2, e, q⟩ := h
  unfold fAdd at e
  split at e
  · cases e
    have e1 := r1.int
    have e2 := r2.int
    subst e1 e2
    exact op_add pins s σ H _ _ v u Q I rx ry ⟨_, _, rfl, rfl, q _ _ _ (Ext.refl gh) (.int _)⟩
  · split at e
    · cases e
      have e1 := r1.str
      have e2 := r2.str
      subst e1 e2
      exact op_add_str pins s σ H _ _ v u Q I rx ry ⟨_, _, rfl, rfl, by assumption, q _ _ _ (Ext.refl gh) (.str _)⟩
    · cases e
  · rename_i xs ys
    split at e
    · rename_i hz
      cases e
      obtain ⟨l1, vs1, rfl, s1, d1⟩ := r1.tup gh
      obtain ⟨l2, vs2, rfl, s2, d2⟩ := r2.tup gh
      have n1 := dpa_length d1
      have n2 := dpa_length d2
      have dt1 : Dq X.K G (.ref l1) (.tuple xs) := by
        rcases r1 with r1 | ⟨_, _, _, _, c, _⟩
        · exact r1
        · cases c
      have dt2 : Dq X.K G (.ref l2) (.tuple ys) := by
        rcases r2 with r2 | ⟨_, _, _, _, c, _⟩
        · exact r2
        · cases c
      refine op_catZ pins s σ H _ _ v u Q I rx ry ⟨l1, l2, vs1, vs2, rfl, rfl, s1.sq, s2.sq, by omega, fun z => ?_, fun _ z => ?_, fun _ _ p o n ho => ?_⟩
      · subst z
        have : xs = [] := by
          cases xs with
          | nil => rfl
          | cons _ _ => simp at n1
        subst this
        exact q _ _ _ (Ext.refl gh) dt2
      · subst z
        have : ys = [] := by
          cases ys with
          | nil => rfl
          | cons _ _ => simp at n2
        subst this
        rw [List.append_nil] at q
        exact q _ _ _ (Ext.refl gh) dt1
      · have E := Ext.new (o := .frz o (.tup (vs1 ++ vs2))) gh n
        exact q _ _ _ E (.tup (.new ho) (dpAll_mono E.g _ _ (dpa_append d1 d2)))
    · cases e
  · cases e
theorem un_negD : UnR X (unaryOp .USub) (rD1 X.K fNeg) := by
  intro pins s σ H x v Q I rx h
  obtain ⟨G, dx, z, gh, r1, e, q⟩ := h
  unfold fNeg at e
  split at e
  · cases e
    have e1 := r1.int
    subst e1
    exact un_neg pins s σ H _ v Q I rx ⟨_, rfl, q _ _ _ (Ext.refl gh) (.int _)⟩
  · cases e
theorem shaped_plain {d : D} (h : SeqAt.shaped d = true) : d.plain = true := by
  unfold SeqAt.shaped at h
  rw [Bool.and_eq_true] at h
  exact PyData.plain_of_canLay0 d h.1
theorem or_eq (hu : X.A.units + 64 < cLine) : OpR X (compareOp .Eq) (rD2 X.K fEq) := by
  intro pins s σ H x y v u Q I rx ry h
  obtain ⟨G, dx, dy, z, gh, r1, r2, e, q⟩ := h
  unfold fEq at e
  split at e
  · rename_i hs
    cases e
    rw [Bool.and_eq_true] at hs
    exact op_eqD hu pins s σ H _ _ v u Q I rx ry ⟨dx, dy, (r1.dp gh).dp _ _ (shaped_plain hs.1), (r2.dp gh).dp _ _ (shaped_plain hs.2), hs.1, hs.2, q _ _ _ (Ext.refl gh) (.bl _)⟩
  · cases e
theorem or_ne (hu : X.A.units + 64 < cLine) : OpR X (compareOp .NotEq) (rD2 X.K fNe) := by
  intro pins s σ H x y v u Q I rx ry h
  obtain ⟨G, dx, dy, z, gh, r1, r2, e, q⟩ := h
  unfold fNe at e
  split at e
  · rename_i hs
    cases e
    rw [Bool.and_eq_true] at hs
    exact op_neD hu pins s σ H _ _ v u Q I rx ry ⟨dx, dy, (r1.dp gh).dp _ _ (shaped_plain hs.1), (r2.dp gh).dp _ _ (shaped_plain hs.2), hs.1, hs.2, q _ _ _ (Ext.refl gh) (.bl _)⟩
  · cases e
theorem none_dec {K : PySem.W.Frag} {G H : Hp} {v : V} {x : D} (r : Rdb K G H v x) : decide (v = .non) = isNone x := by
  rcases r with r | ⟨l, vs, xs, rfl, rfl, _, _⟩
  · cases r <;> rfl
  · rfl
theorem or_isN : OpR X (compareOp .Is) (rD2 X.K fIsN) := by
  intro pins s σ H x y v u Q I rx ry h
  obtain ⟨G, dx, dy, z, gh, r1, r2, e, q⟩ := h
  unfold fIsN at e
  split at e
  · rename_i hn
    cases e
    cases dy with
    | none =>
      have e2 := r2.none
      subst e2
      exact op_isN pins s σ H _ _ v u Q I rx ry ⟨rfl, by rw [none_dec r1]; exact q _ _ _ (Ext.refl gh) (.bl _)⟩
    | _ => cases hn
  · cases e
end

/-- a key among data -/
def dkey : D → Option Key
  | .int i => some (.inl i)
  | .str x => some (.inr x)
  | _ => none
theorem dkey_keyD : ∀ k : Key, dkey (keyD k) = some k
  | .inl _ => rfl
  | .inr _ => rfl
theorem keyD_dkey {d : D} {k : Key} (h : dkey d = some k) : d = keyD k := by
  unfold dkey at h
  split at h
  · cases h; rfl
  · cases h; rfl
  · cases h
/-- what a dict holds at a key -/
def dfind : List (D × D) → Key → Option D
  | [], _ => none
  | p :: ds, k => if dkey p.1 = some k then some p.2 else dfind ds k
def dput (ds : List (D × D)) (k : Key) (d : D) : List (D × D) :=
  if (ds.any fun p => decide (dkey p.1 = some k)) = true then ds.map (fun p => if dkey p.1 = some k then (p.1, d) else p) else ds ++ [(keyD k, d)]
theorem kv_find {K : PySem.W.Frag} {G : Hp} {k : Key} {d : D} : ∀ {kvs : List (Key × V)} {ds : List (D × D)}, KvAll K G kvs ds → dfind ds k = some d → ∃ v, valV kvs k = some v ∧ Dq K G v d
  | _, _, .nil, h => nomatch h
  | _, _, .cons (k := k') (kvs := kvs) (ds := ds) a b, h => by
    unfold dfind at h
    rw [dkey_keyD] at h
    by_cases e : k' = k
    · subst e
      rw [if_pos rfl] at h
      cases h
      exact ⟨_, valV_pos rfl, a⟩
    · rw [if_neg (fun z => e (Option.some.inj z))] at h
      obtain ⟨v, h1, h2⟩ := kv_find b h
      exact ⟨v, by rw [valV_neg e]; exact h1, h2⟩
theorem kv_len {K : PySem.W.Frag} {G : Hp} : ∀ {kvs : List (Key × V)} {ds : List (D × D)}, KvAll K G kvs ds → kvs.length = ds.length
  | _, _, .nil => rfl
  | _, _, .cons _ b => by rw [List.length_cons, List.length_cons, kv_len b]
theorem key_rel {K : PySem.W.Frag} {G H : Hp} {y : V} {d : D} {k : Key} (r : Rdb K G H y d) (h : dkey d = some k) : y = kV k := by
  have e := keyD_dkey h
  subst e
  cases k with
  | inl i => exact r.int
  | inr x => exact r.str
theorem ix_dk {X : Cx} (hu : X.A.units + 64 < cLine) : IxR X (fun x y H Q => ∃ a v, x = .ref a ∧ DGet H a y (some v) ∧ Q v H) := by
  intro value slice pins s σ H x y v u Q I rx ry h hs
  obtain ⟨a, v', e, g, q⟩ := h
  subst e
  obtain rfl : v = Value.ref a := rx
  exact tail_any (dict_typeIs I g) PySem.F.slot_dict_getitem.lookup (d_getItem (by omega) I g ry fun w' s3 I3 rw' => ⟨v', H, I3, rw', q⟩) hs
def fIx : D → D → Option D
  | .list xs, .int i => atI xs i
  | .tuple xs, .int i => atI xs i
  | .dict ds, k => match dkey k with
    | some k => dfind ds k
    | none => none
  | _, _ => none
theorem dpa_at {K : PySem.W.Frag} {G : Hp} {vs : List V} {xs : List D} {i : Int} {d : D} (h : DqAll K G vs xs) (e : atI xs i = some d) : ∃ v, atI vs i = some v ∧ Dq K G v d := by
  unfold atI at e ⊢
  rw [dpa_length h]
  cases q : ixN xs.length i with
  | none => rw [q] at e; cases e
  | some j =>
    rw [q] at e
    exact dpa_get h e
theorem ixr {X : Cx} (hu : X.A.units + 64 < cLine) : IxR X (rD2 X.K fIx) := by
  intro value slice pins s σ H x y v u Q I rx ry h hs
  obtain ⟨G, dx, dy, z, gh, r1, r2, e, q⟩ := h
  unfold fIx at e
  split at e
  · obtain ⟨l, vs, rfl, s1, d1⟩ := r1.list gh
    have e2 := r2.int
    subst e2
    obtain ⟨w, k1, k2⟩ := dpa_at d1 e
    exact ix_list value slice pins s σ H _ _ v u Q I rx ry ⟨l, vs, _, w, rfl, rfl, s1, k1, q _ _ _ (Ext.refl gh) k2⟩ hs
  · obtain ⟨l, vs, rfl, s1, d1⟩ := r1.tup gh
    have e2 := r2.int
    subst e2
    obtain ⟨w, k1, k2⟩ := dpa_at d1 e
    exact ix_tup value slice pins s σ H _ _ v u Q I rx ry ⟨l, vs, _, w, rfl, rfl, s1.sq, k1, q _ _ _ (Ext.refl gh) k2⟩ hs
  · split at e
    · rename_i k hk
      have e2 := key_rel r2 hk
      subst e2
      rcases r1 with r1 | ⟨_, _, _, _, c, _⟩
      · cases r1 with
        | dic h1 h2 =>
          obtain ⟨w, k1, k2⟩ := kv_find h2 e
          exact ix_dk hu value slice pins s σ H _ _ v u Q I rx ry ⟨_, w, rfl, .inl ⟨_, _, .inl (gh _ _ h1), rfl, k1.symm⟩, q _ _ _ (Ext.refl gh) k2⟩ hs
      · cases c
    · cases e
  · cases e
/-- the items from lo to hi -/
def cutD {α : Type} (xs : List α) (lo hi : Option Int) : List α := (xs.drop (HT.sIx xs.length 0 lo)).take (HT.sIx xs.length xs.length hi - HT.sIx xs.length 0 lo)
theorem dpa_cut {K : PySem.W.Frag} {G : Hp} {vs : List V} {xs : List D} (lo hi : Option Int) (h : DqAll K G vs xs) : DqAll K G (cutV vs lo hi) (cutD xs lo hi) := by
  unfold cutV cutD
  rw [dpa_length h]
  exact dpa_take _ (dpa_drop _ h)
def fCutT (x : D) (lo hi : Option Int) : Option D := match x with
  | .tuple xs => some (.tuple (cutD xs lo hi))
  | _ => none
def fCutL (x : D) (lo hi : Option Int) : Option (List D) := match x with
  | .list xs => some (cutD xs lo hi)
  | _ => none
/-- a slice's bound -/
def DPo (X : Cx) (e : Option Expr) (m : M (Option Int)) : Prop := ∀ W, Takes X W → PO X e (zt X W (fun _ _ _ _ _ _ _ x y => x = y) m)
def oNone : M (Option Int) := rt none
def oSome (m : M D) : M (Option Int) := bnd m fun x => match x with
  | .int i => rt (some i)
  | _ => fun _ => .bad
theorem po_imp {X : Cx} {e : Option Expr} {t t' : TO} (p : PO X e t) (h : ∀ σ H Q, t' σ H Q → t σ H Q) : PO X e t' := ⟨fun pins s σ H Q I q => p.run pins s σ H Q I (h σ H Q q)⟩
section
variable {X : Cx} {e : Expr} {pos p2 : Pos} {lo hi : Option Expr}
theorem dpo_none : DPo X none oNone := fun W _ => po_imp po_none fun σ H Q ⟨F, G, Mu, Γ, R, p⟩ => p none H G (Same.refl _) R rfl
theorem dpo_some {m : M D} (h : DP X e m) : DPo X (some e) (oSome m) := fun W tk => by
  refine po_imp (po_some (h W tk)) fun σ H Q p => ?_
  refine (zt_bnd (ρ := rhoD) p).imp fun v H1 ⟨r, F, G, Mu, Γ, R, h1, q⟩ => ?_
  cases r with
  | int i =>
    cases h1
    exact ⟨i, rfl, q _ _ G (Same.refl _) R rfl⟩
  | _ => exact q.elim
theorem zt_bnd3 {W : WX} {σ : St} {H : Hp} {α ζ : Type} {ρ'' : Rho α ζ} {m : M Rs} {a b : M (Option Int)} {f : Rs → Option Int → Option Int → M α} {Q : ζ → Hp → Prop} (p : zt X W ρ'' (bnd m fun r => bnd a fun lo => bnd b fun hi => f r lo hi) σ H Q) :
    zt X W rhoR m σ H fun v H1 => zt X W (fun _ _ _ _ _ _ _ x y => x = y) a σ H1 fun l H2 => zt X W (fun _ _ _ _ _ _ _ x y => x = y) b σ H2 fun u H3 =>
      ∃ r F G Mu Γ, Rel X.K F G Mu Γ σ H3 ∧ rhoR X.K F G Mu Γ σ H3 r v ∧ zpost X W σ ρ'' F G Mu Q (f r l u Γ) := by
  obtain ⟨F, G, Mu, Γ, R, q⟩ := p
  refine ⟨F, G, Mu, Γ, R, ?_⟩
  unfold bnd at q
  cases e : m Γ with
  | bad => rw [e] at q; exact q
  | ex c x Γ1 => rw [e] at q; exact q
  | ok r Γ1 =>
    rw [e] at q
    refine fun v H1 G1 h1 R1 h2 => ⟨F, G1, Mu, Γ1, R1, ?_⟩
    dsimp only at q
    cases e2 : a Γ1 with
    | bad => rw [e2] at q; exact q
    | ex c x Γ2 => rw [e2] at q; exact q.rebase h1
    | ok l Γ2 =>
      rw [e2] at q
      refine fun l' H2 G2 k1 R2 k2 => ⟨F, G2, Mu, Γ2, R2, ?_⟩
      subst k2
      dsimp only at q
      cases e3 : b Γ2 with
      | bad => rw [e3] at q; exact q
      | ex c x Γ3 => rw [e3] at q; exact q.rebase (h1.trans k1)
      | ok u Γ3 =>
        rw [e3] at q
        refine fun u' H3 G3 j1 R3 j2 => ?_
        subst j2
        exact ⟨r, F, G3, Mu, Γ3, R3, stR _ _ _ _ _ _ _ _ _ _ _ _ _ _ (k1.trans j1) h2, q.rebase ((h1.trans k1).trans j1)⟩
end
end Z

set_option Elab.async false
set_option linter.all false
set_option maxRecDepth 100000
set_option autoImplicit false
set_option maxHeartbeats 1000000
namespace Z
open PySem PySem.Spec PyProof.Rows L2
section
variable {X : Cx}
/-- the numbers behind the items -/
theorem vals_num {ns : List Int} {us : List Value} (r : Vals (ns.map V.int) us) (i : Nat) (v : Value) (h : us.toArray[i]? = some v) : ∃ t, v = .int (ns.getD i 0) t := by
  have hl : i < us.length := by
    rw [List.getElem?_toArray] at h
    exact (List.getElem?_eq_some_iff.mp h).1
  have hn : i < ns.length := by
    have := r.length
    rw [List.length_map] at this
    omega
  obtain ⟨u, hu, ru⟩ := r.get (i := i) (x := V.int (ns.getD i 0)) (by rw [List.getElem?_map, List.getD_eq_getElem?_getD, List.getElem?_eq_getElem hn]; rfl)
  rw [List.getElem?_toArray, hu] at h
  cases h
  exact ru
theorem getD_in {ns : List Int} {i : Nat} (h : i < ns.length) : ns.getD i 0 ∈ ns := by
  rw [List.getD_eq_getElem?_getD, List.getElem?_eq_getElem h]
  exact List.getElem_mem h
theorem in_getD {ns : List Int} {y : Int} (h : y ∈ ns) : ∃ i, i < ns.length ∧ ns.getD i 0 = y := by
  obtain ⟨i, hi, e⟩ := List.getElem_of_mem h
  exact ⟨i, hi, by rw [List.getD_eq_getElem?_getD, List.getElem?_eq_getElem hi]; exact e⟩
def rMaxT (K : PySem.W.Frag) : List V → Hp → VK → Prop := fun vs H Q => ∃ (a : Addr) (ns : List Int), vs = [.ref a] ∧ SqT K H a (ns.map .int) ∧ ns ≠ [] ∧ ∀ m, m ∈ ns → (∀ y, y ∈ ns → y ≤ m) → Q (.int m) H
def rMinT (K : PySem.W.Frag) : List V → Hp → VK → Prop := fun vs H Q => ∃ (a : Addr) (ns : List Int), vs = [.ref a] ∧ SqT K H a (ns.map .int) ∧ ns ≠ [] ∧ ∀ m, m ∈ ns → (∀ y, y ∈ ns → m ≤ y) → Q (.int m) H
theorem cr_maxT (hc : X.calm = true) : CallR X (.builtin "max") (rMaxT X.K) := by
  intro pins s σ H vs us Q I r h
  obtain ⟨a, ns, e, hs, hne, q⟩ := h
  subst e
  obtain ⟨its, rv, p, hz⟩ := I.tuple hs
  rw [Vals.ref1 r]
  have pt : s.heap.IsTuple a its.toArray := p
  have la : a < s.heap.objs.size := by
    obtain ⟨o, k, _⟩ := id pt
    exact Heap.lt_size k
  have n1 : its.length = ns.length := by rw [← rv.length, List.length_map]
  have n0 : 0 < ns.length := List.length_pos_iff.mpr hne
  refine call_max_walk (wpAny_pyIter_tuple pt ?_)
  refine ⟨_, _, _, _, _, _, _, rfl, Walks.tuple (A := X.A.in1) (I.ok.hd hc) s.heap.objs.size a (Nat.ne_of_lt la) its.toArray, ⟨⟨_, Heap.get?_push_size _ rfl, rfl, rfl⟩, pt.push _⟩, fun b hb => ?_, ?_, CmpOf.ints_gt (fun i => ns.getD i 0) (vals_num rv), fun v h' tk hv hk => ?_⟩
  · show b < (s.heap.push _).objs.size
    rw [Heap.size_push]
    simp only [List.mem_cons, List.not_mem_nil, or_false] at hb
    rcases hb with rfl | rfl
    · exact Nat.lt_succ_self _
    · exact Nat.lt_succ_of_lt la
  · rw [List.size_toArray]
    omega
  · obtain ⟨t, rfl⟩ := vals_num rv _ _ hv
    obtain ⟨b1, b2⟩ := argBest_gt (fun i => ns.getD i 0) (its.toArray.size - 1)
    rw [List.size_toArray] at b1 b2 ⊢
    refine ⟨.int _, H, I.kept fun b u hb => hk b u (fun hm => ?_) (Heap.get?_push_of_some _ hb), ⟨_, rfl⟩, q _ (getD_in (by omega)) fun y hy => ?_⟩
    · rw [List.mem_singleton.mp hm] at hb
      exact absurd (Heap.lt_size hb) (Nat.lt_irrefl _)
    · obtain ⟨j, hj, rfl⟩ := in_getD hy
      exact b2 j (by omega)
theorem cr_minT (hc : X.calm = true) : CallR X (.builtin "min") (rMinT X.K) := by
  intro pins s σ H vs us Q I r h
  obtain ⟨a, ns, e, hs, hne, q⟩ := h
  subst e
  obtain ⟨its, rv, p, hz⟩ := I.tuple hs
  rw [Vals.ref1 r]
  have pt : s.heap.IsTuple a its.toArray := p
  have la : a < s.heap.objs.size := by
    obtain ⟨o, k, _⟩ := id pt
    exact Heap.lt_size k
  have n1 : its.length = ns.length := by rw [← rv.length, List.length_map]
  have n0 : 0 < ns.length := List.length_pos_iff.mpr hne
  refine call_min_walk (wpAny_pyIter_tuple pt ?_)
  refine ⟨_, _, _, _, _, _, _, rfl, Walks.tuple (A := X.A.in1) (I.ok.hd hc) s.heap.objs.size a (Nat.ne_of_lt la) its.toArray, ⟨⟨_, Heap.get?_push_size _ rfl, rfl, rfl⟩, pt.push _⟩, fun b hb => ?_, ?_, CmpOf.ints_lt (fun i => ns.getD i 0) (vals_num rv), fun v h' tk hv hk => ?_⟩
  · show b < (s.heap.push _).objs.size
    rw [Heap.size_push]
    simp only [List.mem_cons, List.not_mem_nil, or_false] at hb
    rcases hb with rfl | rfl
    · exact Nat.lt_succ_self _
    · exact Nat.lt_succ_of_lt la
  · rw [List.size_toArray]
    omega
  · obtain ⟨t, rfl⟩ := vals_num rv _ _ hv
    obtain ⟨b1, b2⟩ := argBest_lt (fun i => ns.getD i 0) (its.toArray.size - 1)
    rw [List.size_toArray] at b1 b2 ⊢
    refine ⟨.int _, H, I.kept fun b u hb => hk b u (fun hm => ?_) (Heap.get?_push_of_some _ hb), ⟨_, rfl⟩, q _ (getD_in (by omega)) fun y hy => ?_⟩
    · rw [List.mem_singleton.mp hm] at hb
      exact absurd (Heap.lt_size hb) (Nat.lt_irrefl _)
    · obtain ⟨j, hj, rfl⟩ := in_getD hy
      exact b2 j (by omega)
end
end Z

set_option Elab.async false
set_option linter.all false
set_option maxRecDepth 100000
set_option autoImplicit false
set_option maxHeartbeats 1000000
namespace Z
open PySem PySem.Spec PyProof.Rows L2

def dTup (m : M (List D)) : M D := bnd m fun xs => if xs.length ≤ sizeLine then rt (.tuple xs) else fun _ => .bad
def dLst (m : M (List D)) : M (List D) := bnd m fun xs => if xs.length ≤ sizeLine then rt xs else fun _ => .bad
section
variable {X : Cx} {a b c e : Expr} {es : List Expr} {pos : Pos}
theorem dp_tup {k} {m : M (List D)} (h : DPs X es m) : DP X (.Tuple es k pos) (dTup m) := fun W tk => by
  refine pe_imp (pe_tupZ (h W tk)) fun σ H Q p => ?_
  refine (zt_bnd (ρ := rhoDs) p).imp fun vs H1 ⟨xs, F, G, Mu, Γ, R, h1, q⟩ => ?_
  have n1 := dpa_length h1
  split at q
  · rename_i hz
    refine ⟨by omega, fun p o n ho => ?_⟩
    have E := Ext.new (o := .frz o (.tup vs)) R.gh n
    exact q _ _ _ E.g (R.ext E) (show rhoD _ _ _ _ _ _ _ (.tuple xs) _ from .tup (.new ho) (dpAll_mono E.g _ _ h1))
  · exact q.elim
theorem do_lst {m : M (List D)} (h : DPs X es m) : DO X (.List es pos) (dLst m) := fun W tk => by
  refine pe_imp (pe_lst (h W tk)) fun σ H Q p => ?_
  refine (zt_bnd (ρ := rhoDs) p).imp fun vs H1 ⟨xs, F, G, Mu, Γ, R, h1, q⟩ => ?_
  have n1 := dpa_length h1
  split at q
  · rename_i hz
    refine ⟨by omega, fun p n => ?_⟩
    obtain ⟨R', o⟩ := R.newO n h1
    exact q _ _ G (Same.refl _) R' o
  · exact q.elim

theorem dp_callB {id : String} {f : List D → Option D} {x : Str} {p : Pos} {m : M (List Rs)} (hc : CallR X (.builtin id) (rDN X.K f)) (hg : Gl X x) (hm : X.mg x = none) (hv : bootBuiltins x = some (.builtin id)) (ha : DVs X (e :: es) m)
    (hn : x ≠ "__name__" := by decide) (hdb : (x == ("__debug__" : Str)) = false := by decide) (he : starEach (e :: es) X.env = (false, eval e X.env) :: starEach es X.env := by rfl) (hpl : (backTo pos (starEach es X.env)).any (·.1) = false := by rfl) :
    DP X (.Call (.Name x p) (e :: es) [] pos) (opN f m) := fun W tk => pe_imp (pe_callB hc hg hm hv (ha W tk) hn hdb he hpl) fun _ _ _ p => opN_run p
theorem dp_callTy {T : String} {f : List D → Option D} {x : Str} {p : Pos} {m : M (List Rs)} (hc : CallR X (.type T) (rDN X.K f)) (hg : Gl X x) (hm : X.mg x = none) (hv : bootBuiltins x = some (.type T)) (ha : DVs X (e :: es) m)
    (hn : x ≠ "__name__" := by decide) (hdb : (x == ("__debug__" : Str)) = false := by decide) (he : starEach (e :: es) X.env = (false, eval e X.env) :: starEach es X.env := by rfl) (hpl : (backTo pos (starEach es X.env)).any (·.1) = false := by rfl) :
    DP X (.Call (.Name x p) (e :: es) [] pos) (opN f m) := fun W tk => pe_imp (pe_callTy hc hg hm hv (ha W tk) hn hdb he hpl) fun _ _ _ p => opN_run p
theorem do_callB {id : String} {f : List D → Option (List D)} {x : Str} {p : Pos} {m : M (List Rs)} (hc : CallR X (.builtin id) (rON X.K f)) (hg : Gl X x) (hm : X.mg x = none) (hv : bootBuiltins x = some (.builtin id)) (ha : DVs X (e :: es) m)
    (hn : x ≠ "__name__" := by decide) (hdb : (x == ("__debug__" : Str)) = false := by decide) (he : starEach (e :: es) X.env = (false, eval e X.env) :: starEach es X.env := by rfl) (hpl : (backTo pos (starEach es X.env)).any (·.1) = false := by rfl) :
    DO X (.Call (.Name x p) (e :: es) [] pos) (opNo f m) := fun W tk => pe_imp (pe_callB hc hg hm hv (ha W tk) hn hdb he hpl) fun _ _ _ p => opNo_run p
theorem do_callTy {T : String} {f : List D → Option (List D)} {x : Str} {p : Pos} {m : M (List Rs)} (hc : CallR X (.type T) (rON X.K f)) (hg : Gl X x) (hm : X.mg x = none) (hv : bootBuiltins x = some (.type T)) (ha : DVs X (e :: es) m)
    (hn : x ≠ "__name__" := by decide) (hdb : (x == ("__debug__" : Str)) = false := by decide) (he : starEach (e :: es) X.env = (false, eval e X.env) :: starEach es X.env := by rfl) (hpl : (backTo pos (starEach es X.env)).any (·.1) = false := by rfl) :
    DO X (.Call (.Name x p) (e :: es) [] pos) (opNo f m) := fun W tk => pe_imp (pe_callTy hc hg hm hv (ha W tk) hn hdb he hpl) fun _ _ _ p => opNo_run p
end
def toInts : List D → Option (List Int)
  | [] => some []
  | .int i :: r => (toInts r).map (i :: ·)
  | _ :: _ => none
def toBools : List D → Option (List Bool)
  | [] => some []
  | .bool i :: r => (toBools r).map (i :: ·)
  | _ :: _ => none
theorem toInts_ok : ∀ {xs : List D} {ns : List Int}, toInts xs = some ns → xs = ns.map PyData.int
  | [], _, h => by cases h; rfl
  | x :: r, ns, h => by
    unfold toInts at h
    split at h
    · cases ‹_ = []›
    · rename_i i r' e
      cases e
      obtain ⟨ms, h1, h2⟩ := Option.map_eq_some_iff.mp h
      subst h2
      rw [toInts_ok h1]
      rfl
    · cases h
theorem toInts_map (ns : List Int) : toInts (ns.map PyData.int) = some ns := by
  induction ns with
  | nil => rfl
  | cons n r ih =>
    show (toInts (r.map PyData.int)).map (n :: ·) = _
    rw [ih]
    rfl
theorem toBools_ok : ∀ {xs : List D} {ns : List Bool}, toBools xs = some ns → xs = ns.map PyData.bool
  | [], _, h => by cases h; rfl
  | x :: r, ns, h => by
    unfold toBools at h
    split at h
    · cases ‹_ = []›
    · rename_i i r' e
      cases e
      obtain ⟨ms, h1, h2⟩ := Option.map_eq_some_iff.mp h
      subst h2
      rw [toBools_ok h1]
      rfl
    · cases h
theorem toBools_map (ns : List Bool) : toBools (ns.map PyData.bool) = some ns := by
  induction ns with
  | nil => rfl
  | cons n r ih =>
    show (toBools (r.map PyData.bool)).map (n :: ·) = _
    rw [ih]
    rfl
theorem dpa_bools' {K : PySem.W.Frag} {G : Hp} : ∀ {ns : List Bool} {vs : List V}, DqAll K G vs (ns.map PyData.bool) → vs = ns.map V.bl
  | [], _, h => by cases h; rfl
  | n :: ns, _, h => by
    cases h with
    | cons a b =>
      cases a
      rw [dpa_bools' b]
      rfl
def fLen : List D → Option D
  | [.list xs] => some (.int xs.length)
  | [.tuple xs] => some (.int xs.length)
  | [.str z] => if z.length ≤ sizeLine then some (.int z.length) else none
  | [.dict ds] => some (.int ds.length)
  | _ => none
def fInt : List D → Option D
  | [.int i] => some (.int i)
  | [.bool b] => some (.int (if b then 1 else 0))
  | _ => none
def lmax : Int → List Int → Int
  | m, [] => m
  | m, x :: r => lmax (if x > m then x else m) r
def lmin : Int → List Int → Int
  | m, [] => m
  | m, x :: r => lmin (if x < m then x else m) r
theorem lmax_spec : ∀ (r : List Int) (m : Int), (lmax m r = m ∨ lmax m r ∈ r) ∧ m ≤ lmax m r ∧ ∀ y ∈ r, y ≤ lmax m r
  | [], m => ⟨.inl rfl, Int.le_refl _, fun _ h => nomatch h⟩
  | x :: r, m => by
    obtain ⟨h1, h2, h3⟩ := lmax_spec r (if x > m then x else m)
    show (lmax (if x > m then x else m) r = m ∨ lmax (if x > m then x else m) r ∈ x :: r) ∧ m ≤ lmax (if x > m then x else m) r ∧ ∀ y ∈ x :: r, y ≤ lmax (if x > m then x else m) r
    refine ⟨?_, ?_, fun y hy => ?_⟩
    · rcases h1 with h1 | h1
      · by_cases hx : x > m
        · rw [if_pos hx] at h1 ⊢
          rw [h1]
          exact .inr List.mem_cons_self
        · rw [if_neg hx] at h1 ⊢
          exact .inl h1
      · exact .inr (List.mem_cons_of_mem _ h1)
    · refine Int.le_trans ?_ h2
      split <;> omega
    · rcases List.mem_cons.mp hy with e | hy
      · subst e
        refine Int.le_trans ?_ h2
        split <;> omega
      · exact h3 y hy
theorem lmin_spec : ∀ (r : List Int) (m : Int), (lmin m r = m ∨ lmin m r ∈ r) ∧ lmin m r ≤ m ∧ ∀ y ∈ r, lmin m r ≤ y
  | [], m => ⟨.inl rfl, Int.le_refl _, fun _ h => nomatch h⟩
  | x :: r, m => by
    obtain ⟨h1, h2, h3⟩ := lmin_spec r (if x < m then x else m)
    show (lmin (if x < m then x else m) r = m ∨ lmin (if x < m then x else m) r ∈ x :: r) ∧ lmin (if x < m then x else m) r ≤ m ∧ ∀ y ∈ x :: r, lmin (if x < m then x else m) r ≤ y
    refine ⟨?_, ?_, fun y hy => ?_⟩
    · rcases h1 with h1 | h1
      · by_cases hx : x < m
        · rw [if_pos hx] at h1 ⊢
          rw [h1]
          exact .inr List.mem_cons_self
        · rw [if_neg hx] at h1 ⊢
          exact .inl h1
      · exact .inr (List.mem_cons_of_mem _ h1)
    · refine Int.le_trans h2 ?_
      split <;> omega
    · rcases List.mem_cons.mp hy with e | hy
      · subst e
        refine Int.le_trans h2 ?_
        split <;> omega
      · exact h3 y hy
theorem the_max {ns : List Int} {a b : Int} (ha : a ∈ ns) (hb : b ∈ ns) (h1 : ∀ y ∈ ns, y ≤ a) (h2 : ∀ y ∈ ns, y ≤ b) : a = b := Int.le_antisymm (h2 a ha) (h1 b hb)
theorem the_min {ns : List Int} {a b : Int} (ha : a ∈ ns) (hb : b ∈ ns) (h1 : ∀ y ∈ ns, a ≤ y) (h2 : ∀ y ∈ ns, b ≤ y) : a = b := Int.le_antisymm (h1 b hb) (h2 a ha)
def fMax : List D → Option D
  | [.int i, .int j] => some (.int (if j > i then j else i))
  | [.list xs] => match toInts xs with
    | some (n :: ns) => some (.int (lmax n ns))
    | _ => none
  | [.tuple xs] => match toInts xs with
    | some (n :: ns) => some (.int (lmax n ns))
    | _ => none
  | _ => none
def fMin : List D → Option D
  | [.int i, .int j] => some (.int (if j < i then j else i))
  | [.list xs] => match toInts xs with
    | some (n :: ns) => some (.int (lmin n ns))
    | _ => none
  | [.tuple xs] => match toInts xs with
    | some (n :: ns) => some (.int (lmin n ns))
    | _ => none
  | _ => none
def fSum : List D → Option D
  | [.list xs] => (toInts xs).map fun ns => .int ns.sum
  | _ => none
def fAll : List D → Option D
  | [.list xs] => (toBools xs).map fun bs => .bool (bs.all id)
  | _ => none
def fAny : List D → Option D
  | [.list xs] => (toBools xs).map fun bs => .bool (bs.any id)
  | _ => none
def fList : List D → Option (List D)
  | [.list xs] => some xs
  | [.tuple xs] => some xs
  | _ => none
def fTuple : List D → Option D
  | [.list xs] => some (.tuple xs)
  | [.tuple xs] => some (.tuple xs)
  | _ => none
section
variable {X : Cx}
theorem cd_len : CallR X (.builtin "len") (rDN X.K fLen) := by
  intro pins s σ H vs us Q I r h
  obtain ⟨G, xs, z, gh, rd, e, q⟩ := h
  unfold fLen at e
  split at e
  · cases e
    obtain ⟨v, rfl, rv⟩ := rd.one
    obtain ⟨l, ws, rfl, s1, d1⟩ := rv.list gh
    rw [← dpa_length d1] at q
    exact call_len_seq pins s σ H _ us Q I r ⟨l, ws, rfl, .inl s1, q _ _ _ (Ext.refl gh) (.int _)⟩
  · cases e
    obtain ⟨v, rfl, rv⟩ := rd.one
    obtain ⟨l, ws, rfl, s1, d1⟩ := rv.tup gh
    rw [← dpa_length d1] at q
    exact call_len_seq pins s σ H _ us Q I r ⟨l, ws, rfl, .inr s1.sq, q _ _ _ (Ext.refl gh) (.int _)⟩
  · split at e
    · cases e
      obtain ⟨v, rfl, rv⟩ := rd.one
      have e1 := rv.str
      subst e1
      exact call_len_str pins s σ H _ us Q I r ⟨_, rfl, by assumption, q _ _ _ (Ext.refl gh) (.int _)⟩
    · cases e
  · cases e
    obtain ⟨v, rfl, rv⟩ := rd.one
    rcases rv with rv | ⟨_, _, _, _, c, _⟩
    · cases rv with
      | dic h1 h2 =>
        rw [← kv_len h2] at q
        exact call_lenD pins s σ H _ us Q I r ⟨_, _, rfl, gh _ _ h1, q _ _ _ (Ext.refl gh) (.int _)⟩
    · cases c
  · cases e
theorem cd_int : CallR X (.type "int") (rDN X.K fInt) := by
  intro pins s σ H vs us Q I r h
  obtain ⟨G, xs, z, gh, rd, e, q⟩ := h
  unfold fInt at e
  split at e
  · cases e
    obtain ⟨v, rfl, rv⟩ := rd.one
    have e1 := rv.int
    subst e1
    exact call_int1 pins s σ H _ us Q I r (.inl ⟨_, rfl, q _ _ _ (Ext.refl gh) (.int _)⟩)
  · cases e
    obtain ⟨v, rfl, rv⟩ := rd.one
    have e1 := rv.bool
    subst e1
    exact call_int1 pins s σ H _ us Q I r (.inr ⟨_, rfl, q _ _ _ (Ext.refl gh) (.int _)⟩)
  · cases e
theorem cd_max (hc : X.calm = true) : CallR X (.builtin "max") (rDN X.K fMax) := by
  intro pins s σ H vs us Q I r h
  obtain ⟨G, xs, z, gh, rd, e, q⟩ := h
  unfold fMax at e
  split at e
  · cases e
    obtain ⟨v, u, rfl, r1, r2⟩ := rd.two
    have e1 := r1.int
    have e2 := r2.int
    subst e1 e2
    exact call_max2 hc pins s σ H _ us Q I r ⟨_, _, rfl, q _ _ _ (Ext.refl gh) (.int _)⟩
  · rename_i xs'
    split at e
    · rename_i n ns hi
      cases e
      obtain ⟨v, rfl, rv⟩ := rd.one
      obtain ⟨l, ws, rfl, s1, d1⟩ := rv.list gh
      rw [toInts_ok hi] at d1
      have e1 := dpa_ints' d1
      subst e1
      refine cr_max hc pins s σ H _ us Q I r ⟨l, n :: ns, rfl, s1, by simp, fun m hm hy => ?_⟩
      obtain ⟨k1, k2, k3⟩ := lmax_spec ns n
      have e2 : m = lmax n ns := the_max hm (by rcases k1 with k | k <;> simp [k]) hy fun y hy => by
        rcases List.mem_cons.mp hy with e | hy
        · subst e
          exact k2
        · exact k3 y hy
      rw [e2]
      exact q _ _ _ (Ext.refl gh) (.int _)
    · cases e
  · rename_i xs'
    split at e
    · rename_i n ns hi
      cases e
      obtain ⟨v, rfl, rv⟩ := rd.one
      obtain ⟨l, ws, rfl, s1, d1⟩ := rv.tup gh
      rw [toInts_ok hi] at d1
      have e1 := dpa_ints' d1
      subst e1
      refine cr_maxT hc pins s σ H _ us Q I r ⟨l, n :: ns, rfl, s1.sq, by simp, fun m hm hy => ?_⟩
      obtain ⟨k1, k2, k3⟩ := lmax_spec ns n
      have e2 : m = lmax n ns := the_max hm (by rcases k1 with k | k <;> simp [k]) hy fun y hy => by
        rcases List.mem_cons.mp hy with e | hy
        · subst e
          exact k2
        · exact k3 y hy
      rw [e2]
      exact q _ _ _ (Ext.refl gh) (.int _)
    · cases e
  · cases e
theorem cd_min (hc : X.calm = true) : CallR X (.builtin "min") (rDN X.K fMin) := by
  intro pins s σ H vs us Q I r h
  obtain ⟨G, xs, z, gh, rd, e, q⟩ := h
  unfold fMin at e
  split at e
  · cases e
    obtain ⟨v, u, rfl, r1, r2⟩ := rd.two
    have e1 := r1.int
    have e2 := r2.int
    subst e1 e2
    exact call_min2 hc pins s σ H _ us Q I r ⟨_, _, rfl, q _ _ _ (Ext.refl gh) (.int _)⟩
  · rename_i xs'
    split at e
    · rename_i n ns hi
      cases e
      obtain ⟨v, rfl, rv⟩ := rd.one
      obtain ⟨l, ws, rfl, s1, d1⟩ := rv.list gh
      rw [toInts_ok hi] at d1
      have e1 := dpa_ints' d1
      subst e1
      refine cr_min hc pins s σ H _ us Q I r ⟨l, n :: ns, rfl, s1, by simp, fun m hm hy => ?_⟩
      obtain ⟨k1, k2, k3⟩ := lmin_spec ns n
      have e2 : m = lmin n ns := the_min hm (by rcases k1 with k | k <;> simp [k]) hy fun y hy => by
        rcases List.mem_cons.mp hy with e | hy
        · subst e
          exact k2
        · exact k3 y hy
      rw [e2]
      exact q _ _ _ (Ext.refl gh) (.int _)
    · cases e
  · rename_i xs'
    split at e
    · rename_i n ns hi
      cases e
      obtain ⟨v, rfl, rv⟩ := rd.one
      obtain ⟨l, ws, rfl, s1, d1⟩ := rv.tup gh
      rw [toInts_ok hi] at d1
      have e1 := dpa_ints' d1
      subst e1
      refine cr_minT hc pins s σ H _ us Q I r ⟨l, n :: ns, rfl, s1.sq, by simp, fun m hm hy => ?_⟩
      obtain ⟨k1, k2, k3⟩ := lmin_spec ns n
      have e2 : m = lmin n ns := the_min hm (by rcases k1 with k | k <;> simp [k]) hy fun y hy => by
        rcases List.mem_cons.mp hy with e | hy
        · subst e
          exact k2
        · exact k3 y hy
      rw [e2]
      exact q _ _ _ (Ext.refl gh) (.int _)
    · cases e
  · cases e
theorem cd_all (hc : X.calm = true) : CallR X (.builtin "all") (rDN X.K fAll) := by
  intro pins s σ H vs us Q I r h
  obtain ⟨G, xs, z, gh, rd, e, q⟩ := h
  unfold fAll at e
  split at e
  · obtain ⟨ns, hi, e⟩ := Option.map_eq_some_iff.mp e
    cases e
    obtain ⟨v, rfl, rv⟩ := rd.one
    obtain ⟨l, ws, rfl, s1, d1⟩ := rv.list gh
    rw [toBools_ok hi] at d1
    have e1 := dpa_bools' d1
    subst e1
    exact cr_all hc pins s σ H _ us Q I r ⟨l, ns, rfl, s1, q _ _ _ (Ext.refl gh) (.bl _)⟩
  · cases e
theorem cd_list : CallR X (.type "list") (rON X.K fList) := by
  intro pins s σ H vs us Q I r h
  obtain ⟨G, xs, zs, gh, rd, e, q⟩ := h
  unfold fList at e
  split at e
  · cases e
    obtain ⟨v, rfl, rv⟩ := rd.one
    obtain ⟨l, ws, rfl, s1, d1⟩ := rv.list gh
    exact call_list_of pins s σ H _ us Q I r ⟨l, ws, rfl, .inl s1, fun p n => q p ws n d1⟩
  · cases e
    obtain ⟨v, rfl, rv⟩ := rd.one
    obtain ⟨l, ws, rfl, s1, d1⟩ := rv.tup gh
    exact call_list_of pins s σ H _ us Q I r ⟨l, ws, rfl, .inr s1.sq, fun p n => q p ws n d1⟩
  · cases e
theorem cd_tuple : CallR X (.type "tuple") (rDN X.K fTuple) := by
  intro pins s σ H vs us Q I r h
  obtain ⟨G, xs, zs, gh, rd, e, q⟩ := h
  unfold fTuple at e
  split at e
  · cases e
    obtain ⟨v, rfl, rv⟩ := rd.one
    obtain ⟨l, ws, rfl, s1, d1⟩ := rv.list gh
    refine call_tupleZ pins s σ H _ us Q I r ⟨l, ws, rfl, .inl ⟨s1, fun p o n ho => ?_⟩⟩
    have E := Ext.new (o := .frz o (.tup ws)) gh n
    exact q _ _ _ E (.tup (.new ho) (dpAll_mono E.g _ _ d1))
  · cases e
    obtain ⟨v, rfl, rv⟩ := rd.one
    obtain ⟨l, ws, rfl, s1, d1⟩ := rv.tup gh
    refine call_tupleZ pins s σ H _ us Q I r ⟨l, ws, rfl, .inr ⟨s1.sq, ?_⟩⟩
    rcases rv with rv | ⟨_, _, _, _, c, _⟩
    · exact q _ _ _ (Ext.refl gh) rv
    · cases c
  · cases e
end
end Z

set_option Elab.async false
set_option linter.all false
set_option maxRecDepth 100000
set_option autoImplicit false
set_option maxHeartbeats 1000000
namespace Z
open PySem PySem.Spec PyProof.Rows L2

def dB (m : M D) : M Bool := bnd m fun x => match x with
  | .bool b => rt b
  | _ => fun _ => .bad
def dNot (m : M Bool) : M Bool := bnd m fun b => rt (!b)
def dAnd (m n : M Bool) : M Bool := bnd m fun b => if b = true then n else rt false
def dOr (m n : M Bool) : M Bool := bnd m fun b => if b = true then rt true else n
def dIfE (t : M Bool) (m n : M D) : M D := bnd t fun b => if b = true then m else n
def dAndV (m n : M D) : M D := bnd m fun x => match x with
  | .bool b => if b = true then n else rt (.bool false)
  | _ => fun _ => .bad
def dOrV (m n : M D) : M D := bnd m fun x => match x with
  | .bool b => if b = true then rt (.bool true) else n
  | _ => fun _ => .bad
def dNotV (m : M D) : M D := bnd m fun x => match x with
  | .bool b => rt (.bool (!b))
  | _ => fun _ => .bad
section
variable {X : Cx} {a b c e : Expr} {rest : List Expr} {pos : Pos}
theorem b_run {W : WX} {σ : St} {H : Hp} {m : M D} {Q : Bool → Hp → Prop} (p : zt X W rhoB (dB m) σ H Q) : zt X W rhoD m σ H fun v H1 => ∃ k, v = .bl k ∧ Q k H1 := by
  refine (zt_bnd (ρ := rhoD) p).imp fun v H1 ⟨r, F, G, Mu, Γ, R, h1, q⟩ => ?_
  cases r with
  | bool k =>
    cases h1
    exact ⟨k, rfl, zpost_ok R (show rhoB _ _ _ _ _ _ _ k k from rfl) q⟩
  | _ => exact q.elim
theorem dt_val {m : M D} (h : DP X e m) (he : ∀ whole, isTrue e X.env whole = (do let v ← whole; standAt e.pos; holding [v] (truthy v)) := by intro _; rfl) : DT X e (dB m) := fun W tk =>
  pt_imp (pt_val (h W tk) he) fun σ H Q p => b_run p
theorem dt_cmp {op : CmpOp} {f : D → D → Option D} {m n : M Rs} (ho : OpR X (compareOp op) (rD2 X.K f)) (ha : DV X a m) (hb : DV X b n) (hm : behindInMarks op b = false) : DT X (.Compare a [op] [b] pos) (dB (op2 f m n)) := fun W tk =>
  pt_imp (pt_cmpR ho (ha W tk) (hb W tk) hm) fun σ H Q p => op2_run (b_run p)
theorem dt_not {m : M Bool} (h : DT X a m) : DT X (.UnaryOp .Not a pos) (dNot m) := fun W tk => pt_imp (pt_not (h W tk)) fun σ H Q p => by
  refine (zt_bnd (ρ := rhoB) p).imp fun v H1 ⟨r, F, G, Mu, Γ, R, h1, q⟩ => ?_
  have e0 : r = v := h1
  subst e0
  exact zpost_ok R (show rhoB _ _ _ _ _ _ _ (!r) (!r) from rfl) q
theorem dw_and1 {m : M Bool} (h : DT X a m) : DW X (.BoolOp .And [a] pos) m := fun W tk => pw_and1 (h W tk)
theorem dw_or1 {m : M Bool} (h : DT X a m) : DW X (.BoolOp .Or [a] pos) m := fun W tk => pw_or1 (h W tk)
theorem dw_and {m n : M Bool} (h : DT X a m) (k : DW X (.BoolOp .And (b :: rest) pos) n) : DW X (.BoolOp .And (a :: b :: rest) pos) (dAnd m n) := fun W tk => pw_imp (pw_and (h W tk) (k W tk)) fun σ H Q p => by
  refine (zt_bnd (ρ := rhoB) p).imp fun v H1 ⟨r, F, G, Mu, Γ, R, h1, q⟩ => ?_
  have e0 : r = v := h1
  subst e0
  cases r with
  | true => exact ⟨F, G, Mu, Γ, R, q⟩
  | false => exact zpost_ok R (show rhoB _ _ _ _ _ _ _ false false from rfl) q
theorem dw_or {m n : M Bool} (h : DT X a m) (k : DW X (.BoolOp .Or (b :: rest) pos) n) : DW X (.BoolOp .Or (a :: b :: rest) pos) (dOr m n) := fun W tk => pw_imp (pw_or (h W tk) (k W tk)) fun σ H Q p => by
  refine (zt_bnd (ρ := rhoB) p).imp fun v H1 ⟨r, F, G, Mu, Γ, R, h1, q⟩ => ?_
  have e0 : r = v := h1
  subst e0
  cases r with
  | false => exact ⟨F, G, Mu, Γ, R, q⟩
  | true => exact zpost_ok R (show rhoB _ _ _ _ _ _ _ true true from rfl) q
theorem dt_w {m : M Bool} (h : DW X e m) : DT X e m := fun W tk => (h W tk).pt
theorem dp_ifE {t : M Bool} {m n : M D} (ht : DT X c t) (ha : DP X a m) (hb : DP X b n) : DP X (.IfExp c a b pos) (dIfE t m n) := fun W tk => pe_imp (pe_ifExp (ht W tk) (ha W tk) (hb W tk)) fun σ H Q p => by
  refine (zt_bnd (ρ := rhoB) p).imp fun v H1 ⟨r, F, G, Mu, Γ, R, h1, q⟩ => ?_
  have e0 : r = v := h1
  subst e0
  cases r with
  | true => exact ⟨F, G, Mu, Γ, R, q⟩
  | false => exact ⟨F, G, Mu, Γ, R, q⟩
theorem dp_one {op} {m : M D} (h : DP X a m) : DP X (.BoolOp op [a] pos) m := fun W tk => pe_one (h W tk)
theorem dp_and {m n : M D} (h : DP X a m) (k : DP X (.BoolOp .And (b :: rest) pos) n) : DP X (.BoolOp .And (a :: b :: rest) pos) (dAndV m n) := fun W tk => pe_imp (pe_and (h W tk) (k W tk)) fun σ H Q p => by
  refine (zt_bnd (ρ := rhoD) p).imp fun v H1 ⟨r, F, G, Mu, Γ, R, h1, q⟩ => ?_
  cases r with
  | bool k =>
    cases h1
    refine ⟨k, rfl, ?_⟩
    cases k with
    | true => exact ⟨F, G, Mu, Γ, R, q⟩
    | false => exact zpost_ok R (show rhoD _ _ _ _ _ _ _ (.bool false) (.bl false) from .bl _) q
  | _ => exact q.elim
theorem dp_or {m n : M D} (h : DP X a m) (k : DP X (.BoolOp .Or (b :: rest) pos) n) : DP X (.BoolOp .Or (a :: b :: rest) pos) (dOrV m n) := fun W tk => pe_imp (pe_or (h W tk) (k W tk)) fun σ H Q p => by
  refine (zt_bnd (ρ := rhoD) p).imp fun v H1 ⟨r, F, G, Mu, Γ, R, h1, q⟩ => ?_
  cases r with
  | bool k =>
    cases h1
    refine ⟨k, rfl, ?_⟩
    cases k with
    | false => exact ⟨F, G, Mu, Γ, R, q⟩
    | true => exact zpost_ok R (show rhoD _ _ _ _ _ _ _ (.bool true) (.bl true) from .bl _) q
  | _ => exact q.elim
theorem dp_not {m : M D} (h : DP X a m) : DP X (.UnaryOp .Not a pos) (dNotV m) := fun W tk => pe_imp (pe_not (h W tk)) fun σ H Q p => by
  refine (zt_bnd (ρ := rhoD) p).imp fun v H1 ⟨r, F, G, Mu, Γ, R, h1, q⟩ => ?_
  cases r with
  | bool k =>
    cases h1
    exact ⟨k, rfl, zpost_ok R (show rhoD _ _ _ _ _ _ _ (.bool (!k)) (.bl (!k)) from .bl _) q⟩
  | _ => exact q.elim
end

def dChain (f g : D → D → Option D) (m n o : M Rs) : M D := bnd m fun r => bnd n fun s => fun Γ => match vl Γ r, vl Γ s with
  | some x, some y => match f x y with
    | some (.bool k) => if k = true then bnd o (fun t => fun Γ' => match vl Γ' s, vl Γ' t with
      | some y', some z => match g y' z with
        | some w => .ok w Γ'
        | none => .bad
      | _, _ => .bad) Γ else .ok (.bool false) Γ
    | _ => .bad
  | _, _ => .bad
section
variable {X : Cx} {a b c : Expr} {pos : Pos} {f g : D → D → Option D}
end

inductive Ty where
  | int | bool | str | list | tuple
def Ty.name : Ty → String
  | .int => "int"
  | .bool => "bool"
  | .str => "str"
  | .list => "list"
  | .tuple => "tuple"
def tyD : D → String
  | .none => "NoneType"
  | .bool _ => "bool"
  | .int _ => "int"
  | .str _ => "str"
  | .list _ => "list"
  | .tuple _ => "tuple"
  | .dict _ => "dict"
def isTy : D → Ty → Bool
  | .bool _, .int => true
  | .bool _, .bool => true
  | .int _, .int => true
  | .str _, .str => true
  | .list _, .list => true
  | .tuple _, .tuple => true
  | _, _ => false
def isTys (x : D) (ts : List Ty) : Bool := ts.any (isTy x)
def fIs (ts : List Ty) (x : D) : Option D := match x with
  | .dict _ => none
  | x => some (.bool (isTys x ts))
theorem fIs_nd {ts : List Ty} {x z : D} (h : fIs ts x = some z) : (∀ kvs, x ≠ .dict kvs) ∧ z = .bool (isTys x ts) := by
  unfold fIs at h
  split at h
  · cases h
  · rename_i hx
    cases h
    exact ⟨fun kvs e => hx kvs e, rfl⟩
section
variable {X : Cx} {pos p p2 : Pos} {a : Expr}
theorem rdb_ty {K : PySem.W.Frag} {G H : Hp} {v : V} {x : D} (gh : Same G H) (r : Rdb K G H v x) (hx : ∀ kvs, x ≠ .dict kvs) : TyX K H v (.type (tyD x)) := by
  have d := r.dp gh
  cases d with
  | dic _ _ => exact absurd rfl (hx _)
  | non => exact .base .non
  | bl b => exact .base (.bl b)
  | int i => exact .base (.int i)
  | str z => exact .base (.str z)
  | lst h1 h2 =>
    rcases h1 with (h1 | ⟨o, h1⟩) | ⟨o, _, _, h1, h3, _⟩
    · exact .base (.lst h1)
    · exact .base (.frz h1)
    · exact .kList h1 h3
  | tup h1 h2 =>
    rcases h1 with ⟨o, h1, _⟩ | ⟨o, _, _, h1, h3, _⟩
    · exact .fTuple h1
    · exact .kTuple h1 h3
theorem kit_D (K : PySem.W.Frag) (x : D) (h : ∀ kvs, x ≠ .dict kvs) : ∀ t : Ty, PySem.W.kitOne K (.type (tyD x)) (.type t.name) = some (isTy x t) := by
  intro t
  cases x with
  | dict kvs => exact absurd rfl (h kvs)
  | none => cases t <;> exact kit_ty (by decide +kernel)
  | bool b =>
    cases t
    · exact kit_ty (show kitB "bool" "int" = some (isTy (.bool true) .int) by decide +kernel)
    · exact kit_ty (show kitB "bool" "bool" = some (isTy (.bool true) .bool) by decide +kernel)
    · exact kit_ty (show kitB "bool" "str" = some (isTy (.bool true) .str) by decide +kernel)
    · exact kit_ty (show kitB "bool" "list" = some (isTy (.bool true) .list) by decide +kernel)
    · exact kit_ty (show kitB "bool" "tuple" = some (isTy (.bool true) .tuple) by decide +kernel)
  | int b =>
    cases t
    · exact kit_ty (show kitB "int" "int" = some (isTy (.int 0) .int) by decide +kernel)
    · exact kit_ty (show kitB "int" "bool" = some (isTy (.int 0) .bool) by decide +kernel)
    · exact kit_ty (show kitB "int" "str" = some (isTy (.int 0) .str) by decide +kernel)
    · exact kit_ty (show kitB "int" "list" = some (isTy (.int 0) .list) by decide +kernel)
    · exact kit_ty (show kitB "int" "tuple" = some (isTy (.int 0) .tuple) by decide +kernel)
  | str b =>
    cases t
    · exact kit_ty (show kitB "str" "int" = some (isTy (.str "") .int) by decide +kernel)
    · exact kit_ty (show kitB "str" "bool" = some (isTy (.str "") .bool) by decide +kernel)
    · exact kit_ty (show kitB "str" "str" = some (isTy (.str "") .str) by decide +kernel)
    · exact kit_ty (show kitB "str" "list" = some (isTy (.str "") .list) by decide +kernel)
    · exact kit_ty (show kitB "str" "tuple" = some (isTy (.str "") .tuple) by decide +kernel)
  | list b =>
    cases t
    · exact kit_ty (show kitB "list" "int" = some (isTy (.list []) .int) by decide +kernel)
    · exact kit_ty (show kitB "list" "bool" = some (isTy (.list []) .bool) by decide +kernel)
    · exact kit_ty (show kitB "list" "str" = some (isTy (.list []) .str) by decide +kernel)
    · exact kit_ty (show kitB "list" "list" = some (isTy (.list []) .list) by decide +kernel)
    · exact kit_ty (show kitB "list" "tuple" = some (isTy (.list []) .tuple) by decide +kernel)
  | tuple b =>
    cases t
    · exact kit_ty (show kitB "tuple" "int" = some (isTy (.tuple []) .int) by decide +kernel)
    · exact kit_ty (show kitB "tuple" "bool" = some (isTy (.tuple []) .bool) by decide +kernel)
    · exact kit_ty (show kitB "tuple" "str" = some (isTy (.tuple []) .str) by decide +kernel)
    · exact kit_ty (show kitB "tuple" "list" = some (isTy (.tuple []) .list) by decide +kernel)
    · exact kit_ty (show kitB "tuple" "tuple" = some (isTy (.tuple []) .tuple) by decide +kernel)
theorem dp_isi {T : Str} {t : Ty} {m : M Rs} (hg : Gl X "isinstance") (hm : X.mg "isinstance" = none) (ha : DV X a m) (hgT : Gl X T) (hmT : X.mg T = none) (hv : bootBuiltins T = some (.type t.name))
    (hnT : T ≠ "__name__" := by decide) (hdT : (T == ("__debug__" : Str)) = false := by decide) (hs : starEach [a, .Name T p2] X.env = (false, eval a X.env) :: starEach [.Name T p2] X.env := by rfl) (hs2 : starEach [.Name T p2] X.env = (false, eval (.Name T p2) X.env) :: starEach [] X.env := by rfl)
    (hpl : (backTo pos (starEach [.Name T p2] X.env)).any (·.1) = false := by rfl) :
    DP X (.Call (.Name "isinstance" p) [a, .Name T p2] [] pos) (op1 (fIs [t]) m) := fun W tk => by
  refine pe_imp (pe_callB call_isi hg hm (by decide +kernel) (pa_cons (ha W tk) (pa_cons (pe_bltn (v := .ty t.name) hgT hmT hv rfl hnT hdT) pa_nil hs2) hs) (he := hs) (hpl := hpl)) fun σ H Q p => ?_
  refine (op1_run p).imp fun v H1 ⟨G, dx, z, gh, r1, e, q⟩ => ?_
  obtain ⟨hx, e⟩ := fIs_nd e
  subst e
  refine ⟨v, .ty t.name, .type (tyD dx), .type t.name, isTy dx t, rfl, .ty _, rdb_ty gh r1 hx, kit_D _ _ hx t, ?_⟩
  have q' := q (.bl (isTys dx [t])) H1 G (Ext.refl gh) (.bl _)
  have e2 : isTys dx [t] = isTy dx t := Bool.or_false _
  rw [e2] at q'
  exact q'
end
end Z

set_option Elab.async false
set_option linter.all false
set_option maxRecDepth 100000
set_option autoImplicit false
set_option maxHeartbeats 1000000
namespace Z
open PySem PySem.Spec PyProof.Rows L2

section
variable {K : PySem.W.Frag} {G H H' : Hp}
theorem Rdb.mono (e : Same H H') {v : V} {x : D} (h : Rdb K G H v x) : Rdb K G H' v x := by
  rcases h with h | ⟨l, vs, xs, rfl, rfl, h1, h2⟩
  · exact .inl h
  · exact .inr ⟨l, vs, xs, rfl, rfl, e.seq h1, h2⟩
end
section
variable {X : Cx} {pos p p2 : Pos} {a : Expr} {es : List Expr} {k : Nat}
end

def fCat : D → D → Option (List D)
  | .list xs, .list ys => if xs.length + ys.length ≤ sizeLine then some (xs ++ ys) else none
  | _, _ => none
section
variable {X : Cx}
theorem or_cat : OpR X (binaryOp .Add) (rO2 X.K fCat) := by
  intro pins s σ H x y v u Q I rx ry h
  obtain ⟨G, dx, dy, zs, gh, r1, r2, e, q⟩ := h
  unfold fCat at e
  split at e
  · split at e
    · rename_i hz
      cases e
      obtain ⟨l1, vs1, rfl, s1, d1⟩ := r1.list gh
      obtain ⟨l2, vs2, rfl, s2, d2⟩ := r2.list gh
      have n1 := dpa_length d1
      have n2 := dpa_length d2
      cases rx
      cases ry
      obtain ⟨its, ra, ⟨o1, k1, e1, c1, dn1, t1⟩, _⟩ := I.list s1
      obtain ⟨its2, rb, ⟨o2, k2, e2, c2, dn2, t2⟩, _⟩ := I.list s2
      have m1 := ra.length
      have m2 := rb.length
      obtain ⟨cls1, dd1, dt1, sl1⟩ := o1
      obtain ⟨cls2, dd2, dt2, sl2⟩ := o2
      simp only at c1 dn1 t1 c2 dn2 t2
      subst c1 dn1 t1 c2 dn2 t2
      have ea : its.toArray ++ its2.toArray = (its ++ its2).toArray := by simp
      refine concat_meets ⟨_, e1, rfl⟩ ⟨_, e2, rfl⟩ noFill_list_add seq_list_add PySem.F.slot_list_add PySem.F.entry_list_add (PySem.F.args_list_add_2 _ _)
        (list_addW l1 l2 its.toArray its2.toArray k1 k2 none none sl1 sl2 (by rw [List.size_toArray, List.size_toArray]; omega)) ⟨e1, e2, ?_⟩
      rw [ea]
      exact ⟨.ref _, _, I.lnew (t' := s.toks) (ra.append rb) (by rw [List.length_append]; omega), rfl, q _ _ I.fresh (dpa_append d1 d2)⟩
    · cases e
  · cases e
end
/-- a new list that stays, told at its place -/
def rhoF : Rho (List D) V := fun K _ G _ _ _ _ xs v => ∃ l vs, v = .ref l ∧ G l = some (.lst vs) ∧ DqAll K G vs xs
def DF (X : Cx) (e : Expr) (m : M (List D)) : Prop := ∀ W, Takes X W → PE X e (zt X W rhoF m)
def fRep (xs : List D) (y : D) : Option (List D) := match y with
  | .int k => if -(2 ^ 63) ≤ k ∧ k < 2 ^ 63 ∧ xs.length * k.toNat ≤ sizeLine then some (List.replicate k.toNat xs).flatten else none
  | _ => none
def dRep (m : M (List D)) (n : M Rs) : M (List D) := bnd m fun xs => bnd n fun s => fun g => match vl g s with
  | none => .bad
  | some y => match fRep xs y with
    | none => .bad
    | some z => .ok z g
section
variable {X : Cx} {a b e : Expr} {pos : Pos}
theorem df_of {m : M (List D)} (h : DO X e m) : DF X e m := fun W tk => by
  refine pe_imp (h W tk) fun σ H Q ⟨F, G, Mu, Γ, R, p⟩ => ⟨F, G, Mu, Γ, R, ?_⟩
  cases e1 : m Γ with
  | bad => rw [e1] at p; exact p
  | ex c x Γ' => rw [e1] at p; exact p
  | ok xs Γ' =>
    rw [e1] at p
    intro v H' G' hs R' hr
    obtain ⟨l, vs, rfl, h1, h2, h3, h4, h5, h6⟩ := hr
    have hs2 : Same G' (upd G' l (.lst vs)) := same_upd h4
    have gh : Same (upd G' l (.lst vs)) H' := fun b x q => by
      by_cases hb : b = l
      · subst hb
        rw [upd_same] at q
        rw [h1]
        exact q
      · rw [upd_ne hb] at q
        exact R'.gh b x q
    refine p _ H' _ (hs.trans hs2) (R'.mono (Mu' := Mu) R'.fh hs2 gh (fun l' q => ?_) (fun i l' ho => ?_) (fun l' q => ?_)) ⟨l, vs, rfl, upd_same, dpAll_mono hs2 _ _ h2⟩
    · obtain ⟨_, m2, m3⟩ := R'.mu l' q
      have hne : l' ≠ l := fun z => h5 (by rw [q, z])
      rw [upd_ne hne]
      exact ⟨m2, m3⟩
    · have hne : l' ≠ l := fun z => h6 i (by rw [← z]; exact ho)
      rw [upd_ne hne]
      exact ⟨(R'.there ho).2.1, rfl⟩
    · rw [upd_ne (fun z => F.kf l' q (by rw [z]; exact h3))]
      exact R'.lk l' q
end

def rgD (a b : Int) : List D := (List.range (b - a).toNat).map fun i => .int (a + (i : Nat))
theorem dpa_rg {K : PySem.W.Frag} {G : Hp} (a b : Int) : DqAll K G (rgV a b) (rgD a b) := by
  refine dpa_of_get (by unfold rgD rgV; rw [List.length_map, List.length_map]) fun i v d h1 h2 => ?_
  unfold rgV at h1
  unfold rgD at h2
  rw [List.getElem?_map] at h1 h2
  cases e : (List.range (b - a).toNat)[i]? with
  | none => rw [e] at h1; cases h1
  | some j =>
    rw [e] at h1 h2
    cases h1
    cases h2
    exact .int _
def okRg (a b : Int) : Bool := decide (-(2 ^ 62) ≤ a) && decide (a < 2 ^ 62) && decide (-(2 ^ 62) ≤ b) && decide (b < 2 ^ 62) && decide ((b - a).toNat ≤ 16777216)
theorem okRg_ok {a b : Int} (h : okRg a b = true) : RgOk a b := by
  unfold okRg at h
  simp only [Bool.and_eq_true, decide_eq_true_eq] at h
  exact ⟨h.1.1.1.1, h.1.1.1.2, h.1.1.2, h.1.2, h.2⟩
/-- the bounds of a range, as values -/
def rg1 (m : M Rs) : M (Int × Int) := bnd m fun r => fun g => match vl g r with
  | some (.int n) => .ok (0, n) g
  | _ => .bad
def rg2 (m n : M Rs) : M (Int × Int) := bnd m fun r => bnd n fun s => fun g => match vl g r, vl g s with
  | some (.int i), some (.int j) => .ok (i, j) g
  | _, _ => .bad
def rhoI : Rho (Int × Int) (Int × Int) := fun _ _ _ _ _ _ _ x y => x = y
def DRg (X : Cx) (e : Expr) (m : M (Int × Int)) : Prop := ∀ W, Takes X W → PRg X e (fun σ H Q => zt X W rhoI m σ H fun ij H1 => Q ij.1 ij.2 H1)
section
variable {X : Cx} {a b e : Expr} {p pos : Pos}
theorem rg1_run {W : WX} {σ : St} {H : Hp} {m : M Rs} {Q : Int × Int → Hp → Prop} (q : zt X W rhoI (rg1 m) σ H Q) : zt X W rhoR m σ H fun x H1 => ∃ n, x = .int n ∧ Q (0, n) H1 := by
  refine (zt_bnd (ρ := rhoR) q).imp fun v H1 ⟨r, F, G, Mu, Γ, R, h1, q2⟩ => ?_
  split at q2
  · rename_i n e1
    exact ⟨n, (R.read h1 e1).int, q2 _ H1 G (Same.refl _) R rfl⟩
  · exact q2.elim
theorem rg2_run {W : WX} {σ : St} {H : Hp} {m n : M Rs} {Q : Int × Int → Hp → Prop} (q : zt X W rhoI (rg2 m n) σ H Q) : zt X W rhoR m σ H fun x H1 => zt X W rhoR n σ H1 fun y H2 => ∃ i j, x = .int i ∧ y = .int j ∧ Q (i, j) H2 := by
  refine (zt_bnd2 (ρ := rhoR) (ρ' := rhoR) stR q).imp fun v H1 q1 => q1.imp fun u H2 ⟨r, s, F, G, Mu, Γ, R, h1, h2, q2⟩ => ?_
  split at q2
  · rename_i i j e1 e2
    exact ⟨i, j, (R.read h1 e1).int, (R.read h2 e2).int, q2 _ H2 G (Same.refl _) R rfl⟩
  · exact q2.elim
theorem prg_imp {e : Expr} {t t' : St → Hp → (Int → Int → Hp → Prop) → Prop} (k : PRg X e t) (h : ∀ σ H Q, t' σ H Q → t σ H Q) : PRg X e t' := fun pins s σ H Q I q => k pins s σ H Q I (h σ H Q q)
theorem drg1 {m : M Rs} (hg : Gl X "range") (hm : X.mg "range" = none) (ha : DV X a m) (na : starEach [a] X.env = (false, eval a X.env) :: starEach [] X.env := by rfl) : DRg X (.Call (.Name "range" p) [a] [] pos) (rg1 m) := fun W tk =>
  prg_imp (prg_1 hg hm (ha W tk) na) fun _ _ _ q => rg1_run q
theorem drg2 {m n : M Rs} (hg : Gl X "range") (hm : X.mg "range" = none) (ha : DV X a m) (hb : DV X b n) (na : starEach [a, b] X.env = (false, eval a X.env) :: starEach [b] X.env := by rfl)
    (nb : starEach [b] X.env = (false, eval b X.env) :: starEach [] X.env := by rfl) (hp : (backTo pos (starEach [b] X.env)).any (·.1) = false := by rfl) : DRg X (.Call (.Name "range" p) [a, b] [] pos) (rg2 m n) := fun W tk =>
  prg_imp (prg_2 hg hm (ha W tk) (hb W tk) na nb hp) fun _ _ _ q => rg2_run q
def dLstRg (m : M (Int × Int)) : M (List D) := bnd m fun ij => if okRg ij.1 ij.2 then rt (rgD ij.1 ij.2) else fun _ => .bad
def dTupRg (m : M (Int × Int)) : M D := bnd m fun ij => if okRg ij.1 ij.2 then rt (.tuple (rgD ij.1 ij.2)) else fun _ => .bad
theorem do_lstRg {m : M (Int × Int)} (hc : X.calm = true) (hg : Gl X "list") (hm : X.mg "list" = none) (he : DRg X e m) (na : starEach [e] X.env = (false, eval e X.env) :: starEach [] X.env := by rfl) : DO X (.Call (.Name "list" p) [e] [] pos) (dLstRg m) := fun W tk => by
  refine pe_imp (pe_listRg hc hg hm (he W tk) na) fun σ H Q q => ?_
  refine (zt_bnd (ρ := rhoI) q).imp fun v H1 ⟨r, F, G, Mu, Γ, R, h1, q2⟩ => ?_
  have e0 : r = v := h1
  subst e0
  split at q2
  · rename_i hk
    refine ⟨okRg_ok hk, fun l n => ?_⟩
    obtain ⟨R', o⟩ := R.newO n (dpa_rg r.1 r.2)
    exact q2 _ _ G (Same.refl _) R' o
  · exact q2.elim
theorem dp_tupRg {m : M (Int × Int)} (hc : X.calm = true) (hg : Gl X "tuple") (hm : X.mg "tuple" = none) (he : DRg X e m) (na : starEach [e] X.env = (false, eval e X.env) :: starEach [] X.env := by rfl) : DP X (.Call (.Name "tuple" p) [e] [] pos) (dTupRg m) := fun W tk => by
  refine pe_imp (pe_tupRgZ hc hg hm (he W tk) na) fun σ H Q q => ?_
  refine (zt_bnd (ρ := rhoI) q).imp fun v H1 ⟨r, F, G, Mu, Γ, R, h1, q2⟩ => ?_
  have e0 : r = v := h1
  subst e0
  split at q2
  · rename_i hk
    refine ⟨okRg_ok hk, fun l o n ho => ?_⟩
    have E := Ext.new (o := .frz o (.tup (rgV r.1 r.2))) R.gh n
    exact q2 _ _ _ E.g (R.ext E) (show rhoD _ _ _ _ _ _ _ (.tuple (rgD r.1 r.2)) _ from .tup (.new ho) (dpa_rg _ _))
  · exact q2.elim
end

def ixOf (k : Int) : List Int → Option Nat
  | [] => none
  | n :: r => if n = k then some 0 else (ixOf k r).map (· + 1)
section
variable {X : Cx}
end
end Z

set_option Elab.async false
set_option linter.all false
set_option maxRecDepth 100000
set_option autoImplicit false
set_option maxHeartbeats 1000000
namespace Z
open PySem PySem.Spec PyProof.Rows L2

section
variable {prog : Program} {w : World} {A : Around} {E : Value → Shared → Prop} {s : Shared}
theorem back_places (n : Nat) : Builtin.Slice.slicePlaces ((n : Int) - 1) (-1) (-1) = n := by
  unfold Builtin.Slice.slicePlaces
  have h1 : ¬ ((-1 : Int) > 0) := by decide
  simp only [h1, if_false]
  split
  · rw [show (- -1 : Int) = 1 by decide, Int.ediv_one]
    omega
  · omega
theorem fm_congr {α β : Type} {f g : α → Option β} : ∀ (l : List α), (∀ x ∈ l, f x = g x) → l.filterMap f = l.filterMap g
  | [], _ => rfl
  | x :: l, h => by
    rw [List.filterMap_cons, List.filterMap_cons, h x List.mem_cons_self, fm_congr l fun y hy => h y (List.mem_cons_of_mem _ hy)]
theorem back_adjust (n : Nat) : Builtin.Slice.sliceAdjust none none (-1) (n : Int) = ((n : Int) - 1, -1) := by
  first
  | rfl
  | (unfold Builtin.Slice.sliceAdjust; simp)
theorem back_applied {sl : Addr} {t : Tok} {n : Nat} {Q : Int × Int × Nat → Shared → Prop} (hs : s.heap.IsSliceOf sl .none .none (.int (-1) t))
    (h : Q ((n : Int) - 1, -1, n) s) : wpAny (model prog w) A (Builtin.Slice.sliceApplied (.ref sl) (pure (n : Int))) Q E s := by
  obtain ⟨ob, hob, _, hfd⟩ := id hs
  unfold Builtin.Slice.sliceApplied Builtin.Slice.sliceFields
  refine wpAny_bind (wpAny_bind (wpAny_field hob hfd (x := .none) rfl (wpAny_bind (wpAny_field hob hfd (x := .none) rfl (wpAny_bind (wpAny_field hob hfd (x := .int (-1) t) rfl (wpAny_pure ?_)))))))
  refine wpAny_bind (HT.slicePart_ (.int (-1) t) ?_)
  show wpAny _ _ (if ((-1 : Int) == 0) = true then _ else _) _ _ s
  rw [if_neg (by decide)]
  refine wpAny_bind (HT.slicePart_ .none (wpAny_bind (HT.slicePart_ .none (wpAny_bind (wpAny_pure ?_)))))
  show wpAny _ _ (match Builtin.Slice.sliceAdjust none none (-1) (n : Int) with | (lo, hi) => pure (lo, (-1 : Int), Builtin.Slice.slicePlaces lo hi (-1))) _ _ s
  rw [back_adjust n]
  show wpAny _ _ (pure ((n : Int) - 1, (-1 : Int), Builtin.Slice.slicePlaces ((n : Int) - 1) (-1) (-1))) _ _ s
  rw [back_places]
  exact wpAny_pure h
theorem back_pick (xs : Array Value) : ((List.range xs.size).filterMap fun (m : Nat) => xs[(((xs.size : Int) - 1) + (m : Int) * (-1)).toNat]?).toArray = xs.toList.reverse.toArray := by
  have h : ((List.range xs.size).filterMap fun (m : Nat) => xs[(((xs.size : Int) - 1) + (m : Int) * (-1)).toNat]?) = xs.toList.reverse := by
    rw [← PySem.W.krv_all xs, ← List.filterMap_reverse, ← PySem.W.krv_range, List.filterMap_map]
    refine fm_congr _ fun m hm => ?_
    have := List.mem_range.mp hm
    show xs[(((xs.size : Int) - 1) + (m : Int) * (-1)).toNat]? = xs[xs.size - 1 - m]?
    rw [show (((xs.size : Int) - 1) + (m : Int) * (-1)).toNat = xs.size - 1 - m by omega]
  rw [h]
theorem back_tuple {t sl : Addr} {items : Array Value} {tk : Tok} {Q : Value → Shared → Prop} (ht : IsTup s.heap t items) (hs : s.heap.IsSliceOf sl .none .none (.int (-1) tk))
    (h : Q (.ref s.heap.objs.size) { s with heap := s.heap.push { cls := .type "tuple", data := .seq items.toList.reverse.toArray } }) (hsz : items.size ≤ sizeLine) : wpAny (model prog w) A (getItem (.ref t) (.ref sl)) Q E s := by
  have hfit : sizeOk (.seq items.toList.reverse.toArray) := by
    show items.toList.reverse.toArray.size ≤ sizeLine
    rw [List.size_toArray, List.length_reverse, Array.length_toList]
    exact hsz
  obtain ⟨ob, hob, hcb, _⟩ := id hs
  have hTs : s.TypeIs (.ref sl) "slice" := ⟨ob, hob, hcb⟩
  unfold getItem
  try with_reducible refine wpAny_holding ?_
  first | refine wpAny_bind (wpAny_pure ?_) | skip
  refine wpAny_bind (wpAny_sequenceKey ht.typeIs (by decide) (wpAny_bind (wpAny_callSpecial?_slot (name := Str.ofString "__getitem__") ht.typeIs PyProof.Rows.slot_tuple_getitem
    (wpAny_call_entry PyProof.Rows.slot_tuple_getitem ht.typeIs entry_tuple_getitem ?_ (args_tuple_getitem _ _)))))
  show wpAny _ _ (Builtin.Tuple.tupleItemsOf (.ref t) >>= _) _ _ s
  refine wpAny_bind (tupleItemsOf_ ht (wpAny_bind (wpAny_typeOf hTs ?_)))
  rw [if_pos (by decide)]
  refine wpAny_bind (back_applied hs ?_)
  have hno : ¬ ((((items.size : Int) - 1) == 0 && (-1 : Int) == 1 && items.size == items.size) = true) := by simp
  show wpAny _ _ (if (((items.size : Int) - 1) == 0 && (-1 : Int) == 1 && items.size == items.size) = true then _ else _) _ _ s
  rw [if_neg hno, back_pick]
  first
    | exact wpAny_bind (m := Builtin.Tuple.tupleExact _) (wpAny_newObj_type (wpAny_pure ⟨_, rfl, wpAny_pure h⟩) hfit)
    | exact wpAny_bind (m := Builtin.Tuple.tupleExact _) (wpAny_newObj_type (wpAny_bind (wpAny_pure (wpAny_pure ⟨_, rfl, wpAny_pure h⟩))) hfit)
    | exact wpAny_bind (wpAny_bind (m := Builtin.Tuple.tupleExact _) (wpAny_newObj_type (wpAny_pure (wpAny_pure ⟨_, rfl, wpAny_pure h⟩)) hfit))
    | exact wpAny_bind (wpAny_bind (m := Builtin.Tuple.tupleExact _) (wpAny_newObj_type (wpAny_pure ⟨_, rfl, wpAny_pure h⟩) hfit))
end
def fBack : D → Option D
  | .tuple xs => some (.tuple xs.reverse)
  | _ => none
def fBackL : D → Option (List D)
  | .list xs => some xs.reverse
  | _ => none
def op1o (f : D → Option (List D)) (m : M Rs) : M (List D) := bnd m fun r => fun g => match vl g r with
  | none => .bad
  | some x => match f x with
    | none => .bad
    | some z => .ok z g
section
variable {X : Cx} {e : Expr} {k : Nat} {p1 p2 p3 pos : Pos}
theorem dp_back {m : M Rs} (h : DV X e m) : DP X (.Subscript e (.Slice none none (some (.UnaryOp .USub (.Constant (.int 1) k p1) p2)) p3) pos) (op1 fBack m) := fun W tk => by
  refine ⟨fun pins s σ H Q I hq => Subscript_ (thn ((h W tk).run pins s σ H _ I (op1_run hq)) fun v s1 ⟨x, H1, I1, r1, G, dx, z, gh, rd, e, q⟩ => ?_)⟩
  have hst : PO X (some (.UnaryOp .USub (.Constant (.int 1) k p1) p2)) (tPart (tUn (rU fun i => .int (-i)) (tC (.int 1)))) := po_some (pe_un un_neg pe_int)
  refine wpAny_Slice (thn (po_none.run pins s1 σ H1 (fun o H2 => o = none ∧ H2 = H1) I1 ⟨rfl, rfl⟩) fun vl s2 ⟨l, H2, I2, pl, el, e2⟩ => ?_)
  subst el e2
  refine thn (po_none.run pins s2 σ H2 (fun o H3 => o = none ∧ H3 = H2) I2 ⟨rfl, rfl⟩) fun vu s3 ⟨u, H3, I3, pu, eu, e3⟩ => ?_
  subst eu e3
  refine thn (hst.run pins s3 σ H3 (fun o H4 => o = some (-1) ∧ H4 = H3) I3 ⟨1, rfl, -1, rfl, rfl, rfl⟩) fun vs s4 ⟨o, H4, I4, ps, eo, e4⟩ => ?_
  subst eo e4
  cases pl
  cases pu
  cases ps with
  | int i t =>
    have I5 : L2.Inv X pins σ H4 { s4 with heap := s4.heap.push { cls := .type "slice", data := .fields #[.none, .none, .int (-1) t] } } := I4.kept (t' := s4.toks) fun b ob q => Heap.get?_push_of_some _ q
    cases dx with
    | tuple xs =>
      cases e
      obtain ⟨a, ws, rfl, s1', d1⟩ := rd.tup gh
      cases r1
      obtain ⟨its, r, ht, hz⟩ := I5.tuple s1'.sq
      show wpAny (model X.prog X.w) X.A (subscriptTail e (.Slice none none (some (.UnaryOp .USub (.Constant (.int 1) k p1) p2)) p3) (.ref a) (.ref s4.heap.objs.size)) (EP X pins σ Q) X.xe { s4 with heap := s4.heap.push { cls := .type "slice", data := .fields #[.none, .none, .int (-1) t] } }
      refine tail_any (ops := [.ref a, .ref s4.heap.objs.size]) ht.typeIs PyProof.Rows.slot_tuple_getitem.lookup ?_ (by with_unfolding_all rfl)
      refine back_tuple ht (Heap.IsSliceOf.new ..) ?_ (by rw [List.size_toArray, ← r.length]; exact hz)
      have er : (its.toArray.toList.reverse.toArray) = its.reverse.toArray := by simp
      rw [er]
      refine tryNew I5 r.reverse (by rw [List.length_reverse]; exact hz) fun p o n ho => ?_
      have E := Ext.new (o := .frz o (.tup ws.reverse)) gh n
      exact q _ _ _ E (.tup (.new ho) (dpAll_mono E.g _ _ (dpa_reverse d1)))
    | _ => cases e
theorem do_backL {m : M Rs} (h : DV X e m) : DO X (.Subscript e (.Slice none none (some (.UnaryOp .USub (.Constant (.int 1) k p1) p2)) p3) pos) (op1o fBackL m) := fun W tk => by
  refine pe_imp (pe_revL (h W tk)) fun σ H Q q => ?_
  refine (zt_bnd (ρ := rhoR) q).imp fun v H1 ⟨r, F, G, Mu, Γ, R, h1, q2⟩ => ?_
  cases e1 : vl Γ r with
  | none => rw [e1] at q2; exact q2.elim
  | some x =>
    rw [e1] at q2
    cases x with
    | list xs =>
      obtain ⟨a, ws, rfl, s1', d1⟩ := (R.read h1 e1).list R.gh
      refine ⟨a, ws, rfl, s1', fun l n => ?_⟩
      obtain ⟨R', o⟩ := R.newO n (dpa_reverse d1)
      exact q2 _ _ G (Same.refl _) R' o
    | _ => exact q2.elim
end

section
variable {X : Cx} {o e : Expr} {apos cpos : Pos} {to : TE} {t : TA} {es : List Expr} {name : Str} {id : String} {r : V → List V → Hp → VK → Prop}
def fIxT : D → D → Option D
  | .tuple xs, .int k => match toInts xs with
    | some ns => (ixOf k ns).map fun j => .int (j : Nat)
    | none => none
  | _, _ => none
/-- the receiver is looked at ahead of the argument -/
def dIndexT (m n : M Rs) : M D := bnd m fun r => fun g => match vl g r with
  | some (.tuple _) => op2 fIxT (rt r) n g
  | _ => .bad
end
end Z

set_option Elab.async false
set_option linter.all false
set_option maxRecDepth 100000
set_option autoImplicit false
set_option maxHeartbeats 1000000
namespace Z
open PySem PySem.Spec PyProof.Rows L2

def dMut (i : Nat) (f : List D → List D → Option (List D × D)) (m : M (List D)) : M D := fun g => match g[i]? with
  | some (.own _ _) => bnd m (fun args => fun g' => match g'[i]? with
    | some (.own b xs) => match f xs args with
      | some (ys, r) => .ok r (g'.set i (.own b ys))
      | none => .bad
    | _ => .bad) g
  | _ => .bad
def rMut (K : PySem.W.Frag) (f : List D → List D → Option (List D × D)) : V → List V → Hp → VK → Prop := fun x vs H Q => ∃ l us xs args ys r G, x = .ref l ∧ H l = some (.lst us) ∧ DqAll K G us xs ∧ DqAll K G vs args ∧ f xs args = some (ys, r) ∧ Same G H ∧
  ∀ us' v, DqAll K G us' ys → Dq K G v r → Q v (upd H l (.lst us'))
def mAppend (xs : List D) (as : List D) : Option (List D × D) := match as with
  | [y] => if xs.length < sizeLine then some (xs ++ [y], .none) else none
  | _ => none
def mInsert (xs : List D) (as : List D) : Option (List D × D) := match as with
  | [.int i, y] => if xs.length < sizeLine ∧ 0 ≤ i ∧ i < 2 ^ 63 then some (xs.take i.toNat ++ [y] ++ xs.drop i.toNat, .none) else none
  | _ => none
def mPop (xs : List D) (as : List D) : Option (List D × D) := match as with
  | [] => match xs[xs.length - 1]? with
    | some y => some (xs.dropLast, y)
    | none => none
  | _ => none
theorem dpa_dropLast {K : PySem.W.Frag} {G : Hp} {vs : List V} {xs : List D} (h : DqAll K G vs xs) : DqAll K G vs.dropLast xs.dropLast := by
  rw [List.dropLast_eq_take, List.dropLast_eq_take, dpa_length h]
  exact dpa_take _ h
theorem dpa_two {K : PySem.W.Frag} {G : Hp} {vs : List V} {x y : D} (h : DqAll K G vs [x, y]) : ∃ v u, vs = [v, u] ∧ Dq K G v x ∧ Dq K G u y := by
  cases h with
  | cons a b =>
    cases b with
    | cons c d =>
      cases d
      exact ⟨_, _, rfl, a, c⟩
theorem dpa_one {K : PySem.W.Frag} {G : Hp} {vs : List V} {x : D} (h : DqAll K G vs [x]) : ∃ v, vs = [v] ∧ Dq K G v x := by
  cases h with
  | cons a b =>
    cases b
    exact ⟨_, rfl, a⟩
section
variable {X : Cx}
theorem mr_append : MtR X "list.append" (rMut X.K mAppend) := by
  intro pins s σ H x vs v us Q I rx rv h
  obtain ⟨l, ws, xs, args, ys, r, G, rfl, hl, d1, d2, e, gh, q⟩ := h
  unfold mAppend at e
  split at e
  · split at e
    · rename_i hz
      cases e
      obtain ⟨w, rfl, d3⟩ := dpa_one d2
      refine mt_append pins s σ H _ _ v us Q I rx rv ⟨l, ws, w, rfl, rfl, hl, by rw [dpa_length d1]; exact hz, ?_⟩
      exact q _ _ (dpa_append d1 (.cons d3 .nil)) .non
    · cases e
  · cases e
theorem mr_insert : MtR X "list.insert" (rMut X.K mInsert) := by
  intro pins s σ H x vs v us Q I rx rv h
  obtain ⟨l, ws, xs, args, ys, r, G, rfl, hl, d1, d2, e, gh, q⟩ := h
  unfold mInsert at e
  split at e
  · split at e
    · rename_i hz
      cases e
      obtain ⟨w1, w2, rfl, d3, d4⟩ := dpa_two d2
      cases d3
      refine mt_insert pins s σ H _ _ v us Q I rx rv ⟨l, ws, _, w2, rfl, rfl, hl, by rw [dpa_length d1]; exact hz.1, hz.2.1, hz.2.2, ?_⟩
      exact q _ _ (dpa_append (dpa_append (dpa_take _ d1) (.cons d4 .nil)) (dpa_drop _ d1)) .non
    · cases e
  · cases e
theorem mr_pop : MtR X "list.pop" (rMut X.K mPop) := by
  intro pins s σ H x vs v us Q I rx rv h
  obtain ⟨l, ws, xs, args, ys, r, G, rfl, hl, d1, d2, e, gh, q⟩ := h
  unfold mPop at e
  split at e
  · split at e
    · rename_i y hy
      cases e
      cases d2
      obtain ⟨w, hw, d3⟩ := dpa_get d1 hy
      exact mt_pop pins s σ H _ _ v us Q I rx rv ⟨l, ws, w, rfl, rfl, hl, by rw [dpa_length d1]; exact hw, q _ _ (dpa_dropLast d1) d3⟩
    · cases e
  · cases e
end
section
variable {X : Cx} {e : Expr} {es : List Expr} {apos cpos p : Pos} {x name : Str} {id : String} {i : Nat} {f : List D → List D → Option (List D × D)}
theorem mut_end {W : WX} {σ : St} {F : Fr} {G H : Hp} {Mu : Option Addr} {Γ : En} {Q : VK} {args : List D} {vs : List V} {l : Addr} (R : Rel X.K F G Mu Γ σ H) (hv : DqAll X.K G vs args) (hl : σ[i]? = some (some (.ref l)))
    (q : zpost X W σ rhoD F G Mu Q (match Γ[i]? with
      | some (.own b xs) => match f xs args with
        | some (ys, r) => .ok r (Γ.set i (.own b ys))
        | none => .bad
      | _ => .bad)) : rMut X.K f (.ref l) vs H Q := by
  split at q
  · rename_i b xs hg
    split at q
    · rename_i ys r hf
      obtain ⟨l', us, h1, h2, h3, h4, h5, h6, h7, ho⟩ := R.owned hg
      rw [hl] at h1
      cases h1
      exact ⟨l, us, xs, args, ys, r, G, rfl, h2, h3, hv, hf, R.gh, fun us' v k1 k2 => q v _ G (Same.refl _) (R.change hg hl k1) k2⟩
    · exact q.elim
  · exact q.elim
theorem dp_mut {m : M (List D)} (hN : X.N[i]? = some x) (hv : Vis X.env.scope x) (slot : Slot "list" name id) (hty : typeOf (.builtin id) = pure (.type "method_descriptor")) (hm : MtR X id (rMut X.K f)) (ha : DPs X (e :: es) m)
    (hd : (x == ("__debug__" : Str)) = false := by decide) (hcd : (x == ("__classdict__" : Str)) = false := by decide)
    (hbase : attributeBase (.Name x p) name X.env (eval (.Name x p) X.env) = eval (.Name x p) X.env := by rfl)
    (hfew : ((backTo cpos (starEach (e :: es) X.env)).all (fun x => !x.1) && (backToKw cpos (keywordEach [] X.env)).all (fun x => x.1.isSome)
      && decide ((e :: es).length + ([] : List Keyword).length + (if ([] : List Keyword).isEmpty then 0 else 1) < 30)) = true := by rfl)
    (hline : (apos.endLine == cpos.line) = true := by rfl) (hs : starEach (e :: es) X.env = (false, eval e X.env) :: starEach es X.env := by rfl) (hplain : (backTo cpos (starEach es X.env)).any (·.1) = false := by rfl) :
    DP X (.Call (.Attribute (.Name x p) name apos) (e :: es) [] cpos) (dMut i f m) := fun W tk => by
  refine pe_imp (pe_bm PySem.F.plainAttrs_list slot hty hm (pe_var hN hv hd hcd) (ha W tk) hbase hfew hline hs hplain) fun σ H Q ⟨F, G, Mu, Γ, R, q⟩ => ?_
  unfold dMut at q
  split at q
  · rename_i b xs hg
    obtain ⟨l, us, h1, h2, h3, h4, h5, h6, h7, ho⟩ := R.owned hg
    refine ⟨_, h1, .inl ⟨rfl, us, .of h2⟩, F, G, Mu, Γ, R, ?_⟩
    unfold bnd at q
    dsimp only at q
    cases e1 : m Γ with
    | bad => rw [e1] at q; exact q
    | ex c y Γ1 => rw [e1] at q; exact q
    | ok args Γ1 =>
      rw [e1] at q
      intro vs H1 G1 k1 R1 k2
      exact mut_end (W := W) R1 k2 h1 (q.rebase k1)
  · exact q.elim
theorem dp_mut0 (hN : X.N[i]? = some x) (hv : Vis X.env.scope x) (slot : Slot "list" name id) (hty : typeOf (.builtin id) = pure (.type "method_descriptor")) (hm : MtR X id (rMut X.K f))
    (hd : (x == ("__debug__" : Str)) = false := by decide) (hcd : (x == ("__classdict__" : Str)) = false := by decide)
    (hbase : attributeBase (.Name x p) name X.env (eval (.Name x p) X.env) = eval (.Name x p) X.env := by rfl) (hline : (apos.endLine == cpos.line) = true := by rfl) :
    DP X (.Call (.Attribute (.Name x p) name apos) [] [] cpos) (dMut i f (rt [])) := fun W tk => by
  refine pe_imp (pe_bm0 PySem.F.plainAttrs_list slot hty hm (pe_var hN hv hd hcd) hbase hline) fun σ H Q ⟨F, G, Mu, Γ, R, q⟩ => ?_
  unfold dMut at q
  split at q
  · rename_i b xs hg
    obtain ⟨l, us, h1, h2, h3, h4, h5, h6, h7, ho⟩ := R.owned hg
    exact ⟨_, h1, .inl ⟨rfl, us, .of h2⟩, mut_end (W := W) R .nil h1 q⟩
  · exact q.elim
/-- xs.extend(a new list) -/
def mExtend (xs zs : List D) : Option (List D × D) := if xs.length + zs.length ≤ sizeLine then some (xs ++ zs, .none) else none
theorem dp_extend {m : M (List D)} (hN : X.N[i]? = some x) (hv : Vis X.env.scope x) (ha : DF X e m)
    (hd : (x == ("__debug__" : Str)) = false := by decide) (hcd : (x == ("__classdict__" : Str)) = false := by decide)
    (hbase : attributeBase (.Name x p) "extend" X.env (eval (.Name x p) X.env) = eval (.Name x p) X.env := by rfl)
    (hfew : ((backTo cpos (starEach [e] X.env)).all (fun x => !x.1) && (backToKw cpos (keywordEach [] X.env)).all (fun x => x.1.isSome)
      && decide (([e] : List Expr).length + ([] : List Keyword).length + (if ([] : List Keyword).isEmpty then 0 else 1) < 30)) = true := by rfl)
    (hline : (apos.endLine == cpos.line) = true := by rfl) (hs : starEach [e] X.env = (false, eval e X.env) :: starEach [] X.env := by rfl) :
    DP X (.Call (.Attribute (.Name x p) "extend" apos) [e] [] cpos) (dMut i mExtend m) := fun W tk => by
  refine pe_imp (pe_bm PySem.F.plainAttrs_list PySem.F.slot_list_extend PySem.F.type_list_extend mt_extend (pe_var hN hv hd hcd) (pa_cons (ha W tk) pa_nil hs) hbase hfew hline hs) fun σ H Q ⟨F, G, Mu, Γ, R, q⟩ => ?_
  unfold dMut at q
  split at q
  · rename_i b xs hg
    obtain ⟨l, us, h1, h2, h3, h4, h5, h6, h7, ho⟩ := R.owned hg
    refine ⟨_, h1, .inl ⟨rfl, us, .of h2⟩, F, G, Mu, Γ, R, ?_⟩
    unfold bnd at q
    dsimp only at q
    cases e1 : m Γ with
    | bad => rw [e1] at q; exact q
    | ex c y Γ1 => rw [e1] at q; exact q
    | ok zs Γ1 =>
      rw [e1] at q
      intro v H1 G1 k1 R1 ⟨b1, ws, ev, k2, k3⟩
      subst ev
      dsimp only at q
      split at q
      · rename_i b' xs' hg'
        split at q
        · rename_i ys r hf
          obtain ⟨l', us', j1, j2, j3, j4, j5, j6, j7, jo⟩ := R1.owned hg'
          rw [h1] at j1
          cases j1
          unfold mExtend at hf
          split at hf
          · rename_i hz
            cases hf
            refine ⟨l, b1, us', ws, rfl, rfl, j2, R1.gh _ _ k2, by rw [dpa_length j3, dpa_length k3]; exact hz, ?_⟩
            exact q _ _ G1 k1 (R1.change hg' h1 (dpa_append j3 k3)) (show rhoD _ _ _ _ _ _ _ .none .non from .non)
          · cases hf
        · exact q.elim
      · exact q.elim
  · exact q.elim
end
end Z

set_option Elab.async false
set_option linter.all false
set_option maxRecDepth 100000
set_option autoImplicit false
set_option maxHeartbeats 1000000
namespace Z
open PySem PySem.Spec PyProof.Rows L2

inductive Rt where
  | d (x : D)
  | own (xs : List D)
inductive Fl where
  | nx
  | rt (r : Rt)
  | bk
  | ct
def rhoT : Rho Rt V := fun K F G Mu Γ σ H r v => match r with
  | .d x => Dq K G v x
  | .own xs => rhoO K F G Mu Γ σ H xs v
def spost (X : Cx) (W : WX) (F : Fr) (G : Hp) (Mu : Option Addr) (D : Ends) (o : Ro Fl) : Prop := match o with
  | .bad => False
  | .ok .nx Γ' => ∀ σ' H' G', Same G G' → Rel X.K F G' Mu Γ' σ' H' → D.nx σ' H'
  | .ok (.rt r) Γ' => ∀ v σ' H' G', Same G G' → Rel X.K F G' Mu Γ' σ' H' → rhoT X.K F G' Mu Γ' σ' H' r v → D.rt v H'
  | .ok .bk Γ' => ∀ σ' H' G', Same G G' → Rel X.K F G' Mu Γ' σ' H' → D.bk σ' H'
  | .ok .ct Γ' => ∀ σ' H' G', Same G G' → Rel X.K F G' Mu Γ' σ' H' → D.ct σ' H'
  | .ex c x Γ' => ∀ C a v σ' H' G', X.mg c = some (.ref C) → Same G G' → Rel X.K F G' Mu Γ' σ' H' → H' a = some (.xd [("value", v)]) → Dq X.K G' v x → W (.ref C) (some a) σ' H'
def st (X : Cx) (W : WX) (m : M Fl) : TS := fun D σ H => ∃ F G Mu Γ, Rel X.K F G Mu Γ σ H ∧ spost X W F G Mu D (m Γ)
def DS (X : Cx) (s : Stmt) (m : M Fl) : Prop := ∀ W, Takes X W → PS X s (st X W m)
def DSs (X : Cx) (ss : List Stmt) (m : M Fl) : Prop := ∀ W, Takes X W → PSs X ss (st X W m)
def dSeq (a b : M Fl) : M Fl := fun g => match a g with
  | .ok .nx g' => b g'
  | o => o
def sNx : M Fl := fun g => .ok .nx g
def sBk : M Fl := fun g => .ok .bk g
def sCt : M Fl := fun g => .ok .ct g
section
variable {X : Cx} {W : WX} {F : Fr} {G G' : Hp} {Mu : Option Addr} {D D' : Ends}
theorem spost.rebase {o : Ro Fl} (e : Same G G') (p : spost X W F G Mu D o) : spost X W F G' Mu D o := by
  cases o with
  | bad => exact p
  | ok r Γ' =>
    cases r with
    | nx => exact fun σ' H' G2 h => p σ' H' G2 (e.trans h)
    | rt r => exact fun v σ' H' G2 h => p v σ' H' G2 (e.trans h)
    | bk => exact fun σ' H' G2 h => p σ' H' G2 (e.trans h)
    | ct => exact fun σ' H' G2 h => p σ' H' G2 (e.trans h)
  | ex c x Γ' => exact fun C a v σ' H' G2 h1 h2 => p C a v σ' H' G2 h1 (e.trans h2)
end
section
variable {X : Cx} {s : Stmt} {ss : List Stmt} {e c : Expr} {pos : Pos}
theorem dss_nil : DSs X [] sNx := fun W _ => pss_imp pss_nil fun D σ H ⟨F, G, Mu, Γ, R, p⟩ => p σ H G (Same.refl _) R
theorem dss_cons {m n : M Fl} (h : DS X s m) (k : DSs X ss n) : DSs X (s :: ss) (dSeq m n) := fun W tk => pss_imp (pss_cons (h W tk) (k W tk)) fun D σ H ⟨F, G, Mu, Γ, R, p⟩ => by
  refine ⟨F, G, Mu, Γ, R, ?_⟩
  unfold dSeq at p
  cases e1 : m Γ with
  | bad => rw [e1] at p; exact p
  | ex c x Γ' => rw [e1] at p; exact p
  | ok r Γ' =>
    rw [e1] at p
    cases r with
    | nx => exact fun σ' H' G' h R' => ⟨F, G', Mu, Γ', R', p.rebase h⟩
    | rt r => exact p
    | bk => exact p
    | ct => exact p
theorem dss_one {m : M Fl} (h : DS X s m) : DSs X [s] m := fun W tk => pss_one (h W tk)
theorem st_bnd {α β : Type} {ρ : Rho α β} {W : WX} {σ : St} {H : Hp} {D : Ends} {m : M α} {f : α → M Fl} (p : st X W (bnd m f) D σ H) : zt X W ρ m σ H fun v H1 => ∃ r F G Mu Γ, Rel X.K F G Mu Γ σ H1 ∧ ρ X.K F G Mu Γ σ H1 r v ∧ spost X W F G Mu D (f r Γ) := by
  obtain ⟨F, G, Mu, Γ, R, q⟩ := p
  refine ⟨F, G, Mu, Γ, R, ?_⟩
  unfold bnd at q
  cases e : m Γ with
  | bad => rw [e] at q; exact q
  | ok r Γ1 =>
    rw [e] at q
    exact fun v H1 G1 h1 R1 h2 => ⟨r, F, G1, Mu, Γ1, R1, h2, q.rebase h1⟩
  | ex c x Γ1 =>
    rw [e] at q
    exact fun C a v H' G' => q C a v σ H' G'
def sExpr (m : M D) : M Fl := bnd m fun _ => sNx
def sRet (m : M D) : M Fl := bnd m fun x => fun g => .ok (.rt (.d x)) g
def sRetO (m : M (List D)) : M Fl := bnd m fun x => fun g => .ok (.rt (.own x)) g
def sRetN : M Fl := fun g => .ok (.rt (.d .none)) g
def sSet (i : Nat) (m : M D) : M Fl := bnd m fun x => fun g => .ok .nx (g.set i (.d x))
def sSetO (i : Nat) (m : M (List D)) : M Fl := bnd m fun x => fun g => .ok .nx (g.set i (.own false x))
def sIf (t : M Bool) (a b : M Fl) : M Fl := bnd t fun k => if k = true then a else b
theorem ds_expr {m : M D} (h : DP X e m) (hs : swapsWith e none pos.line X.env = pure false := by rfl) : DS X (.Expr e pos) (sExpr m) := fun W tk => ps_imp (ps_expr (h W tk) hs) fun D σ H p =>
  (st_bnd (ρ := rhoD) p).imp fun v H1 ⟨r, F, G, Mu, Γ, R, _, q⟩ => q σ H1 G (Same.refl _) R
theorem ds_ret {m : M D} (h : DP X e m) : DS X (.Return (some e) pos) (sRet m) := fun W tk => ps_imp (ps_ret (h W tk)) fun D σ H p =>
  (st_bnd (ρ := rhoD) p).imp fun v H1 ⟨r, F, G, Mu, Γ, R, h1, q⟩ => q v σ H1 G (Same.refl _) R h1
theorem ds_retO {m : M (List D)} (h : DO X e m) : DS X (.Return (some e) pos) (sRetO m) := fun W tk => ps_imp (ps_ret (h W tk)) fun D σ H p =>
  (st_bnd (ρ := rhoO) p).imp fun v H1 ⟨r, F, G, Mu, Γ, R, h1, q⟩ => q v σ H1 G (Same.refl _) R h1
/-- return of a name that holds a list of one's own: it is the caller's -/
def sRetV (i : Nat) : M Fl := fun g => match g[i]? with
  | some (.own false xs) => .ok (.rt (.own xs)) (g.set i .u)
  | some (.d x) => .ok (.rt (.d x)) g
  | _ => .bad
theorem ds_retV {i : Nat} {x : Str} {p : Pos} (hN : X.N[i]? = some x) (hv : Vis X.env.scope x) (hd : (x == ("__debug__" : Str)) = false := by decide) (hcd : (x == ("__classdict__" : Str)) = false := by decide) : DS X (.Return (some (.Name x p)) pos) (sRetV i) := fun W _ =>
  ps_imp (ps_ret (pe_var hN hv hd hcd)) fun D σ H ⟨F, G, Mu, Γ, R, q⟩ => by
    unfold sRetV at q
    split at q
    · rename_i xs hg
      obtain ⟨l, us, h1, h2, h3, h4, h5, h6, h7, ho⟩ := R.owned hg
      have e : σ.set i (σ[i]?.join) = σ := by
        rw [h1]
        exact List.ext_getElem? fun j => by
          by_cases hj : i = j
          · subst hj
            have hi := (List.getElem?_eq_some_iff.mp h1).1
            rw [List.getElem?_set_self hi, h1]
            rfl
          · rw [List.getElem?_set_ne hj]
      have R' := R.forget i (o := σ[i]?.join)
      rw [e] at R'
      refine ⟨_, h1, q _ σ H G (Same.refl _) R' ⟨l, us, rfl, h2, h3, h4, h5, h7 rfl, fun j hj => ?_⟩⟩
      obtain ⟨k1, k2⟩ := owns_set hj rfl
      exact k2 (R.sep j i l k1 ho)
    · rename_i y hg
      obtain ⟨v, h1, h2⟩ := R.data hg
      exact ⟨v, h1, q v σ H G (Same.refl _) R h2⟩
    · exact q.elim
theorem ds_if {t : M Bool} {m n : M Fl} {a b : List Stmt} (hc : DT X c t) (ha : DSs X a m) (hb : DSs X b n) : DS X (.If c a b pos) (sIf t m n) := fun W tk => ps_imp (ps_if (hc W tk) (ha W tk) (hb W tk)) fun D σ H p =>
  (st_bnd (ρ := rhoB) p).imp fun v H1 ⟨r, F, G, Mu, Γ, R, h1, q⟩ => by
    have e0 : r = v := h1
    subst e0
    cases r with
    | true => exact ⟨F, G, Mu, Γ, R, q⟩
    | false => exact ⟨F, G, Mu, Γ, R, q⟩
variable {i : Nat} {x : Str} {pos' : Pos}
theorem ds_set {m : M D} (hN : X.N.Nodup) (hi : X.N[i]? = some x) (hx : Loc X.env.scope x) (h : DP X e m) (hs : swapsWith e (some (.Name x pos')) pos.line X.env = pure false := by rfl)
    (hf : X.fn x = true ∨ X.env.scope.names.lookup x = some .local := by first | exact .inl rfl | exact .inr rfl | assumption) : DS X (.Assign [.Name x pos'] e pos) (sSet i m) := fun W tk =>
  ps_imp (ps_set hN hi hx (h W tk) hs hf) fun D σ H p => (st_bnd (ρ := rhoD) p).imp fun v H1 ⟨r, F, G, Mu, Γ, R, h1, q⟩ =>
    q _ H1 G (Same.refl _) (R.store (sv := .d r) ⟨v, rfl, h1⟩ fun z => nomatch z)
theorem Rel.storeO {K : PySem.W.Frag} {F : Fr} {G H : Hp} {Mu : Option Addr} {Γ : En} {σ : St} {xs : List Z.D} {v : V} (R : Rel K F G Mu Γ σ H) (h : rhoO K F G Mu Γ σ H xs v) (i : Nat) : Rel K F G Mu (Γ.set i (.own false xs)) (σ.set i (some v)) H := by
  obtain ⟨l, vs, rfl, h1, h2, h3, h4, h5, h6⟩ := h
  exact R.store (sv := .own false xs) ⟨l, vs, rfl, h1, h2, h3, h4, (fun z => nomatch z), fun _ => h5⟩ fun _ j l' e ho => by
    cases e
    exact absurd ho (h6 j)
theorem ds_setO {m : M (List Z.D)} (hN : X.N.Nodup) (hi : X.N[i]? = some x) (hx : Loc X.env.scope x) (h : DO X e m) (hs : swapsWith e (some (.Name x pos')) pos.line X.env = pure false := by rfl)
    (hf : X.fn x = true ∨ X.env.scope.names.lookup x = some .local := by first | exact .inl rfl | exact .inr rfl | assumption) : DS X (.Assign [.Name x pos'] e pos) (sSetO i m) := fun W tk =>
  ps_imp (ps_set hN hi hx (h W tk) hs hf) fun D σ H p => (st_bnd (ρ := rhoO) p).imp fun v H1 ⟨r, F, G, Mu, Γ, R, h1, q⟩ => q _ H1 G (Same.refl _) (R.storeO h1 i)
/-- x op= e -/
def sAug (i : Nat) (f : Z.D → Z.D → Option Z.D) (m : M Rs) : M Fl := fun g => match g[i]? with
  | some (.d x) => bnd m (fun s => fun g' => match vl g' s with
    | some y => match f x y with
      | some z => .ok .nx (g'.set i (.d z))
      | none => .bad
    | none => .bad) g
  | _ => .bad
theorem ds_aug {op : Operator} {f : Z.D → Z.D → Option Z.D} {m : M Rs} (hN : X.N.Nodup) (hi : X.N[i]? = some x) (hx : Loc X.env.scope x) (he : DV X e m) (ho : OpR X (inplaceOp op) (rD2 X.K f))
    (hf : X.fn x = true ∨ X.env.scope.names.lookup x = some .local := by first | exact .inl rfl | exact .inr rfl | assumption) : DS X (.AugAssign (.Name x pos') op e pos) (sAug i f m) := fun W tk =>
  ps_imp (ps_aug hN hi hx (he W tk) ho hf) fun D σ H ⟨F, G, Mu, Γ, R, q⟩ => by
    unfold sAug at q
    split at q
    · rename_i y hg
      obtain ⟨v, h1, h2⟩ := R.data hg
      refine ⟨v, h1, F, G, Mu, Γ, R, ?_⟩
      unfold bnd at q
      dsimp only at q
      cases e1 : m Γ with
      | bad => rw [e1] at q; exact q
      | ex c z Γ1 =>
        rw [e1] at q
        exact fun C a v H' G' => q C a v σ H' G'
      | ok s Γ1 =>
        rw [e1] at q
        intro u H1 G1 k1 R1 k2
        dsimp only at q
        split at q
        · rename_i y2 e2
          split at q
          · rename_i z e3
            exact ⟨G1, y, y2, z, R1.gh, .inl (dp_mono k1 _ _ h2), R1.read k2 e2, e3, fun w H' G' ex d => q _ H' G' (k1.trans ex.g) ((R1.ext ex).store (sv := .d z) ⟨w, rfl, d⟩ fun z => nomatch z)⟩
          · exact q.elim
        · exact q.elim
    · exact q.elim
/-- xs[k] = v, xs a name's own list -/
def sSub (i : Nat) (m : M Z.D) (k : M Rs) : M Fl := bnd m fun y => fun g => match g[i]? with
  | some (.own _ _) => bnd k (fun s => fun g' => match g'[i]?, vl g' s with
    | some (.own b xs), some (.int n) => match ixN xs.length n with
      | some j => .ok .nx (g'.set i (.own b (xs.set j y)))
      | none => .bad
    | _, _ => .bad) g
  | _ => .bad
theorem ds_sub {m : M Z.D} {k : M Rs} {ix : Expr} {pn ps : Pos} (hi : X.N[i]? = some x) (hv : Vis X.env.scope x) (he : DP X e m) (hk : DV X ix k) (hd : (x == ("__debug__" : Str)) = false := by decide) (hcd : (x == ("__classdict__" : Str)) = false := by decide)
    (ha : ∀ v, assign (.Subscript (.Name x pn) ix ps) X.env v = (do
      let ov ← holding [v] (eval (.Name x pn) X.env)
      let iv ← holding [v, ov] (eval ix X.env)
      standAt ps
      holding [v, ov, iv] (setItem ov iv v)
      release [v, ov, iv] []) := by intro _; rfl) (hs : swapsWithSole [.Subscript (.Name x pn) ix ps] e pos.line X.env = pure false := by rfl) (hw : swappedStores [.Subscript (.Name x pn) ix ps] e X.env = pure none := by rfl)
    (h1 : (assignEach [.Subscript (.Name x pn) ix ps] X.env).map (·.2) = [assign (.Subscript (.Name x pn) ix ps) X.env] := by rfl) : DS X (.Assign [.Subscript (.Name x pn) ix ps] e pos) (sSub i m k) := fun W tk =>
  ps_imp (ps_asg (he W tk) (pg_sub (pe_var hi hv hd hcd) (hk W tk) set_list ha) hs hw h1) fun D σ H p => (st_bnd (ρ := rhoD) p).imp fun v H1 ⟨y, F, G, Mu, Γ, R, d1, q⟩ => by
    split at q
    · rename_i b xs hg
      obtain ⟨l, us, j1, j2, j3, j4, j5, j6, j7, jo⟩ := R.owned hg
      refine ⟨_, j1, F, G, Mu, Γ, R, ?_⟩
      unfold bnd at q
      cases e1 : k Γ with
      | bad => rw [e1] at q; exact q
      | ex c z Γ1 =>
        rw [e1] at q
        exact fun C a v H' G' => q C a v σ H' G'
      | ok s Γ1 =>
        rw [e1] at q
        intro u H2 G2 k1 R2 k2
        dsimp only at q
        split at q
        · rename_i b' xs' n hg' e2
          split at q
          · rename_i j hj
            obtain ⟨l', us', i1, i2, i3, i4, i5, i6, i7, io⟩ := R2.owned hg'
            rw [j1] at i1
            cases i1
            have e3 := (R2.read k2 e2).int
            subst e3
            refine ⟨l, us', n, j, rfl, rfl, i2, by rw [dpa_length i3]; exact hj, ?_⟩
            exact q σ _ G2 k1 (R2.change hg' j1 (dpa_set (dp_mono k1 _ _ d1) j i3))
          · exact q.elim
        · exact q.elim
    · exact q.elim
end
end Z

set_option Elab.async false
set_option linter.all false
set_option maxRecDepth 100000
set_option autoImplicit false
set_option maxHeartbeats 1000000
namespace Z
open PySem PySem.Spec PyProof.Rows L2

def Fr.lock (F : Fr) (l : Addr) (o : HO) (n : F l = none) : Fr where
  f := upd F.f l o
  a := F.a
  k := fun b => F.k b ∨ b = l
  af := F.af.trans (same_upd n)
  kf := fun b h => by
    rcases h with h | h
    · rw [upd_ne (fun z => F.kf b h (by rw [z]; exact n))]
      exact F.kf b h
    · rw [h, upd_same]
      exact fun z => nomatch z
section
variable {K : PySem.W.Frag} {F : Fr} {G H H' G' : Hp} {Mu : Option Addr} {Γ : En} {σ : St} {l : Addr} {o : HO}
theorem Rel.lock (R : Rel K F G Mu Γ σ H) (n : F l = none) (h : H l = some o) (g : G l = none) (m : Mu ≠ some l) (ow : ∀ i, ¬ Owns Γ σ i l) : Rel K (F.lock l o n) G Mu Γ σ H where
  fh := fun b x q => by
    by_cases hb : b = l
    · subst hb
      rw [show (F.lock b o n).f b = some o from upd_same] at q
      rw [h]
      exact q
    · rw [show (F.lock l o n).f b = F.f b from upd_ne hb] at q
      exact R.fh b x q
  lk := fun b q => by
    rcases q with q | q
    · exact R.lk b q
    · rw [q]
      exact g
  gh := R.gh
  mu := fun b q => by
    obtain ⟨h1, h2, h3⟩ := R.mu b q
    have hne : b ≠ l := fun z => m (by rw [q, z])
    exact ⟨(upd_ne hne).trans h1, h2, h3⟩
  len := R.len
  sl := fun i sv q => by
    have p := R.sl i sv q
    cases sv with
    | u => exact p
    | d x => exact p
    | a xs => exact p
    | own b xs =>
      obtain ⟨l', vs, p1, p2, p3, p4, p5, p6, p7⟩ := p
      have hne : l' ≠ l := fun z => ow i (by rw [← z]; exact ⟨_, q, rfl, join_some p1⟩)
      exact ⟨l', vs, p1, p2, p3, (upd_ne hne).trans p4, p5, p6, p7⟩
    | dk ds =>
      obtain ⟨l', es, p1, p2, p3, p4, p5, p6⟩ := p
      have hne : l' ≠ l := fun z => ow i (by rw [← z]; exact ⟨_, q, rfl, join_some p1⟩)
      exact ⟨l', es, p1, p2, p3, (upd_ne hne).trans p4, p5, p6⟩
  sep := R.sep
theorem Rel.unlock {n : F l = none} (R : Rel K (F.lock l o n) G Mu Γ σ H) : Rel K F G Mu Γ σ H ∧ H l = some o ∧ G l = none ∧ Mu ≠ some l ∧ ∀ i, ¬ Owns Γ σ i l := by
  have back : ∀ b, (F.lock l o n) b = none → F b = none := fun b q => by
    by_cases hb : b = l
    · rw [hb]
      exact n
    · rw [show (F.lock l o n) b = F.f b from upd_ne hb] at q
      exact q
  have at_l : (F.lock l o n) l = some o := upd_same
  refine ⟨⟨fun b x q => R.fh b x (same_upd n b x q), fun b q => R.lk b (.inl q), R.gh, fun b q => ⟨back b (R.mu b q).1, (R.mu b q).2⟩, R.len, fun i sv q => ?_, R.sep⟩, R.fh _ _ at_l, R.lk l (.inr rfl), fun q => ?_, fun i q => ?_⟩
  · have p := R.sl i sv q
    cases sv with
    | u => exact p
    | d x => exact p
    | a xs => exact p
    | own b xs =>
      obtain ⟨l', vs, p1, p2, p3, p4, p5, p6, p7⟩ := p
      exact ⟨l', vs, p1, p2, p3, back l' p4, p5, p6, p7⟩
    | dk ds =>
      obtain ⟨l', es, p1, p2, p3, p4, p5, p6⟩ := p
      exact ⟨l', es, p1, p2, p3, back l' p4, p5, p6⟩
  · have := (R.mu l q).1
    rw [at_l] at this
    cases this
  · have := (R.there q).1
    rw [at_l] at this
    cases this
end

def Apart (l : V) : List Rt → List V → Prop
  | [], _ => True
  | .d _ :: rs, vs => Apart l rs vs.tail
  | .own _ :: rs, vs => vs.head? ≠ some l ∧ Apart l rs vs.tail
def RtAll (K : PySem.W.Frag) (F : Fr) (G : Hp) (Mu : Option Addr) (Γ : En) (σ : St) (H : Hp) : List Rt → List V → Prop
  | [], vs => vs = []
  | .d x :: rs, vs => ∃ v us, vs = v :: us ∧ Dq K G v x ∧ RtAll K F G Mu Γ σ H rs us
  | .own xs :: rs, vs => ∃ v us, vs = v :: us ∧ rhoO K F G Mu Γ σ H xs v ∧ Apart v rs us ∧ RtAll K F G Mu Γ σ H rs us
def rhoMs : Rho (List Rt) (List V) := fun K F G Mu Γ σ H rs vs => RtAll K F G Mu Γ σ H rs vs
def DMs (X : Cx) (es : List Expr) (m : M (List Rt)) : Prop := ∀ W, Takes X W → PA X es (zt X W rhoMs m)
def msNil : M (List Rt) := rt []
def msD (m : M D) (n : M (List Rt)) : M (List Rt) := bnd m fun x => bnd n fun xs => rt (.d x :: xs)
def msO (m : M (List D)) (n : M (List Rt)) : M (List Rt) := bnd m fun x => bnd n fun xs => rt (.own x :: xs)
section
variable {K : PySem.W.Frag} {F : Fr} {G H H' G' : Hp} {Mu : Option Addr} {Γ : En} {σ : St} {l : Addr} {o : HO} {n : F l = none}
theorem rtAll_unlock : ∀ {rs : List Rt} {vs : List V}, RtAll K (F.lock l o n) G Mu Γ σ H rs vs → RtAll K F G Mu Γ σ H rs vs ∧ Apart (.ref l) rs vs
  | [], _, h => ⟨h, trivial⟩
  | .d x :: rs, _, h => by
    obtain ⟨v, us, rfl, h1, h2⟩ := h
    obtain ⟨k1, k2⟩ := rtAll_unlock h2
    exact ⟨⟨v, us, rfl, h1, k1⟩, k2⟩
  | .own x :: rs, _, h => by
    obtain ⟨v, us, rfl, h1, h2, h3⟩ := h
    obtain ⟨k1, k2⟩ := rtAll_unlock h3
    obtain ⟨l', ws, rfl, p1, p2, p3, p4, p5, p6⟩ := h1
    have hne : l' ≠ l := fun z => by
      rw [show (F.lock l o n) l' = upd F.f l o l' from rfl, z, upd_same] at p3
      cases p3
    exact ⟨⟨_, us, rfl, ⟨l', ws, rfl, p1, p2, by rw [show (F.lock l o n) l' = F.f l' from upd_ne hne] at p3; exact p3, p4, p5, p6⟩, h2, k1⟩, fun z => hne (by injection z with z; injection z), k2⟩
end
section
variable {X : Cx} {e : Expr} {es : List Expr} {pos : Pos}
theorem dms_nil : DMs X [] msNil := fun W _ => pa_imp pa_nil fun σ H Q ⟨F, G, Mu, Γ, R, p⟩ => zpost_ok R (show rhoMs _ _ _ _ _ _ _ [] [] from rfl) p
theorem dms_d {m : M D} {n : M (List Rt)} (h : DP X e m) (k : DMs X es n) (hs : starEach (e :: es) X.env = (false, eval e X.env) :: starEach es X.env := by rfl) : DMs X (e :: es) (msD m n) := fun W tk => by
  refine pa_imp (pa_cons (h W tk) (k W tk) hs) fun σ H Q p => ?_
  refine (zt_bnd2 (ρ := rhoD) (ρ' := rhoMs) stD p).imp fun v H1 q => q.imp fun vs H2 ⟨x, xs, F, G, Mu, Γ, R, h1, h2, q2⟩ => ?_
  exact zpost_ok R (show rhoMs _ _ _ _ _ _ _ (.d x :: xs) (v :: vs) from ⟨v, vs, rfl, h1, h2⟩) q2
theorem dms_o {m : M (List D)} {n : M (List Rt)} (h : DO X e m) (k : DMs X es n) (hs : starEach (e :: es) X.env = (false, eval e X.env) :: starEach es X.env := by rfl) : DMs X (e :: es) (msO m n) := fun W tk => by
  refine pa_imp (pa_cons (h W tk) (k W tk) hs) fun σ H Q p => ?_
  refine (zt_bnd (ρ := rhoO) p).imp fun v H1 ⟨xs, F, G, Mu, Γ, R, ⟨l, us, ev, o1, o2, o3, o4, o5, o6⟩, q⟩ => ?_
  subst ev
  refine ⟨F.lock l _ o3, G, Mu, Γ, R.lock o3 o1 o4 o5 o6, ?_⟩
  unfold bnd at q
  cases e1 : n Γ with
  | bad => rw [e1] at q; exact q
  | ex c x Γ1 =>
    rw [e1] at q
    exact fun C a v H' G' w1 w2 w3 => q C a v H' G' w1 w2 w3.unlock.1
  | ok rs Γ1 =>
    rw [e1] at q
    intro vs H2 G2 k1 R2 k2
    obtain ⟨R3, j1, j2, j3, j4⟩ := R2.unlock
    obtain ⟨a1, a2⟩ := rtAll_unlock k2
    exact q (.ref l :: vs) H2 G2 k1 R3 ⟨.ref l, vs, rfl, ⟨l, us, rfl, j1, dpAll_mono k1 _ _ o2, o3, j2, j3, j4⟩, a2, a1⟩
end

def setRs : List Nat → List Rt → En → Option En
  | [], [], g => some g
  | i :: is, .d x :: rs, g => setRs is rs (g.set i (.d x))
  | i :: is, .own xs :: rs, g => setRs is rs (g.set i (.own false xs))
  | _, _, _ => none
def stV : List Nat → List V → St → St
  | i :: is, v :: vs, σ => stV is vs (σ.set i (some v))
  | _, _, σ => σ
section
variable {K : PySem.W.Frag} {F : Fr} {G H : Hp} {Mu : Option Addr}
theorem rhoO_set {Γ : En} {σ : St} {xs : List D} {v w : V} {i : Nat} {sv : SV} (h : rhoO K F G Mu Γ σ H xs w) (hn : sv.ow = false ∨ v ≠ w) : rhoO K F G Mu (Γ.set i sv) (σ.set i (some v)) H xs w := by
  obtain ⟨l, us, rfl, h1, h2, h3, h4, h5, h6⟩ := h
  refine ⟨l, us, rfl, h1, h2, h3, h4, h5, fun j hj => ?_⟩
  obtain ⟨m, k1, ys, k2⟩ := hj
  by_cases e : j = i
  · subst e
    have hj1 : j < Γ.length := by
      have := (List.getElem?_eq_some_iff.mp k1).1
      simpa using this
    have hj2 : j < σ.length := by
      have := (List.getElem?_eq_some_iff.mp k2).1
      simpa using this
    rw [List.getElem?_set_self hj1] at k1
    rw [List.getElem?_set_self hj2] at k2
    cases k1
    cases k2
    rcases hn with hn | hn
    · rw [hn] at ys
      cases ys
    · exact hn rfl
  · rw [List.getElem?_set_ne (Ne.symm e)] at k1 k2
    exact h6 j ⟨m, k1, ys, k2⟩
theorem rtAll_set {Γ : En} {σ : St} {v : V} {i : Nat} {sv : SV} : ∀ {rs : List Rt} {vs : List V}, RtAll K F G Mu Γ σ H rs vs → (sv.ow = false ∨ Apart v rs vs) → RtAll K F G Mu (Γ.set i sv) (σ.set i (some v)) H rs vs
  | [], _, h, _ => h
  | .d x :: rs, _, h, hn => by
    obtain ⟨w, us, rfl, h1, h2⟩ := h
    exact ⟨w, us, rfl, h1, rtAll_set h2 hn⟩
  | .own x :: rs, _, h, hn => by
    obtain ⟨w, us, rfl, h1, h2, h3⟩ := h
    refine ⟨w, us, rfl, rhoO_set h1 (hn.imp id fun z e => z.1 (by rw [e]; rfl)), h2, rtAll_set h3 (hn.imp id fun z => z.2)⟩
theorem Rel.setRs : ∀ {is : List Nat} {rs : List Rt} {vs : List V} {Γ Γ' : En} {σ : St}, Rel K F G Mu Γ σ H → RtAll K F G Mu Γ σ H rs vs → Z.setRs is rs Γ = some Γ' → Rel K F G Mu Γ' (stV is vs σ) H ∧ vs.length = is.length
  | [], [], vs, _, _, _, R, h, e => by
    cases (show vs = [] from h)
    cases e
    exact ⟨R, rfl⟩
  | i :: is, .d x :: rs, _, _, _, _, R, h, e => by
    obtain ⟨w, us, rfl, h1, h2⟩ := h
    have := Rel.setRs (is := is) (R.store (i := i) (sv := .d x) ⟨w, rfl, h1⟩ fun z => nomatch z) (rtAll_set h2 (.inl rfl)) e
    exact ⟨this.1, by rw [List.length_cons, List.length_cons, this.2]⟩
  | i :: is, .own x :: rs, _, _, _, _, R, h, e => by
    obtain ⟨w, us, rfl, h1, h2, h3⟩ := h
    have := Rel.setRs (is := is) (R.storeO h1 i) (rtAll_set h3 (.inr h2)) e
    exact ⟨this.1, by rw [List.length_cons, List.length_cons, this.2]⟩
  | [], _ :: _, _, _, _, _, _, _, e => by cases e
  | _ :: _, [], _, _, _, _, _, _, e => by cases e
end
def sPar (is : List Nat) (m : M (List Rt)) : M Fl := bnd m fun rs => fun g => match setRs is rs g with
  | some g' => .ok .nx g'
  | none => .bad
section
variable {X : Cx} {pos : Pos}
theorem par_end {W : WX} {D : Ends} {σ : St} {H : Hp} {is : List Nat} {m : M (List Rt)} (p : st X W (sPar is m) D σ H) : zt X W rhoMs m σ H fun vs H1 => vs.length = is.length ∧ D.nx (stV is vs σ) H1 :=
  (st_bnd (ρ := rhoMs) p).imp fun v H1 ⟨r, F, G, Mu, Γ, R, h1, q⟩ => by
    split at q
    · rename_i g' e
      obtain ⟨R', hl⟩ := R.setRs h1 e
      exact ⟨hl, q _ H1 G (Same.refl _) R'⟩
    · exact q.elim
theorem ds_par {i j : Nat} {x y : Str} {a b : Expr} {px py pt : Pos} {kt k2 pt2} {m : M (List Rt)} (hc : X.calm = true) (hN : X.N.Nodup) (hi : X.N[i]? = some x) (hj : X.N[j]? = some y) (hij : i ≠ j)
    (hx : X.env.scope.names.lookup x = some .local) (hy : X.env.scope.names.lookup y = some .local) (ha : DMs X [a, b] m)
    (hw : swappedStores [.Tuple [.Name x px, .Name y py] kt pt] (.Tuple [a, b] k2 pt2) X.env = pure (some [x, y]) := by rfl)
    (hs : swapsWithSole [.Tuple [.Name x px, .Name y py] kt pt] (.Tuple [a, b] k2 pt2) pos.line X.env = pure false := by rfl) :
    DS X (.Assign [.Tuple [.Name x px, .Name y py] kt pt] (.Tuple [a, b] k2 pt2) pos) (sPar [i, j] m) := fun W tk =>
  ps_imp (ps_par hc hN hi hj hij hx hy (ha W tk) hw hs) fun D σ H p => (par_end p).imp fun vs H1 ⟨hl, q⟩ => by
    match vs, hl, q with
    | [v, w], _, q => exact ⟨v, w, rfl, q⟩
theorem ds_par3 {i j l : Nat} {x y z : Str} {a b c : Expr} {px py pz pt : Pos} {kt k2 pt2} {m : M (List Rt)} (hc : X.calm = true) (hN : X.N.Nodup) (hi : X.N[i]? = some x) (hj : X.N[j]? = some y) (hl : X.N[l]? = some z) (hij : i ≠ j) (hil : i ≠ l) (hjl : j ≠ l)
    (hx : X.env.scope.names.lookup x = some .local) (hy : X.env.scope.names.lookup y = some .local) (hz : X.env.scope.names.lookup z = some .local) (ha : DMs X [a, b, c] m)
    (hw : swappedStores [.Tuple [.Name x px, .Name y py, .Name z pz] kt pt] (.Tuple [a, b, c] k2 pt2) X.env = pure (some [x, y, z]) := by rfl)
    (hs : swapsWithSole [.Tuple [.Name x px, .Name y py, .Name z pz] kt pt] (.Tuple [a, b, c] k2 pt2) pos.line X.env = pure false := by rfl) :
    DS X (.Assign [.Tuple [.Name x px, .Name y py, .Name z pz] kt pt] (.Tuple [a, b, c] k2 pt2) pos) (sPar [i, j, l] m) := fun W tk =>
  ps_imp (ps_par3 hc hN hi hj hl hij hil hjl hx hy hz (ha W tk) hw hs) fun D σ H p => (par_end p).imp fun vs H1 ⟨hl, q⟩ => by
    match vs, hl, q with
    | [u, v, w], _, q => exact ⟨u, v, w, rfl, q⟩
end

inductive Tg where
  | nm (i : Nat)
  | tup (ts : List Tg)
mutual
def setT : Tg → D → En → Option En
  | .nm i, x, g => some (g.set i (.d x))
  | .tup ts, .tuple xs, g => setTs ts xs g
  | .tup _, _, _ => none
def setTs : List Tg → List D → En → Option En
  | [], [], g => some g
  | t :: ts, x :: xs, g => match setT t x g with
    | some g' => setTs ts xs g'
    | none => none
  | _, _, _ => none
end
mutual
def tgS : Tg → List Nat
  | .nm i => [i]
  | .tup ts => tgsS ts
def tgsS : List Tg → List Nat
  | [] => []
  | t :: ts => tgS t ++ tgsS ts
end
theorem setTs_len : ∀ {ts : List Tg} {xs : List D} {g g' : En}, setTs ts xs g = some g' → xs.length = ts.length
  | [], [], _, _, _ => rfl
  | [], _ :: _, _, _, e => by
    unfold setTs at e
    cases e
  | _ :: _, [], _, _, e => by
    unfold setTs at e
    cases e
  | t :: ts, x :: xs, _, _, e => by
    unfold setTs at e
    split at e
    · rw [List.length_cons, List.length_cons, setTs_len e]
    · cases e
/-- two states that are the same outside of some slots -/
def Off (is : List Nat) (σ σ' : St) : Prop := σ'.length = σ.length ∧ ∀ j, j ∉ is → σ'[j]? = σ[j]?
theorem Off.refl {is : List Nat} {σ : St} : Off is σ σ := ⟨rfl, fun _ _ => rfl⟩
theorem Off.trans {is js : List Nat} {σ σ' σ'' : St} (a : Off is σ σ') (b : Off js σ' σ'') : Off (is ++ js) σ σ'' := ⟨b.1.trans a.1, fun j hj => by
  rw [b.2 j (fun z => hj (List.mem_append_right _ z)), a.2 j (fun z => hj (List.mem_append_left _ z))]⟩
def zG (X : Cx) (t : Tg) : TG := fun v σ H Q => ∃ F G Mu Γ Γ' x, Rel X.K F G Mu Γ σ H ∧ Dq X.K G v x ∧ setT t x Γ = some Γ' ∧ ∀ σ', Rel X.K F G Mu Γ' σ' H → Off (tgS t) σ σ' → Q σ' H
def zGs (X : Cx) (ts : List Tg) : TGs := fun vs σ H Q => ∃ F G Mu Γ Γ' xs, Rel X.K F G Mu Γ σ H ∧ DqAll X.K G vs xs ∧ setTs ts xs Γ = some Γ' ∧ ∀ σ', Rel X.K F G Mu Γ' σ' H → Off (tgsS ts) σ σ' → Q σ' H
def DG (X : Cx) (e : Expr) (t : Tg) : Prop := PG X e (zG X t)
def DGs (X : Cx) (es : List Expr) (ts : List Tg) : Prop := PGs X es (zGs X ts)
theorem pg_imp {X : Cx} {e : Expr} {t t' : TG} (p : PG X e t) (h : ∀ v σ H Q, t' v σ H Q → t v σ H Q) : PG X e t' := ⟨fun pins s σ H v u Q I r q => p.run pins s σ H v u Q I r (h v σ H Q q)⟩
theorem pgs_imp {X : Cx} {es : List Expr} {t t' : TGs} (p : PGs X es t) (h : ∀ v σ H Q, t' v σ H Q → t v σ H Q) : PGs X es t' := ⟨fun pins s σ H v u Q I r q => p.run pins s σ H v u Q I r (h v σ H Q q)⟩
section
variable {X : Cx} {pos : Pos} {x : Str} {i : Nat} {e : Expr} {es : List Expr}
theorem dg_name (hN : X.N.Nodup) (hi : X.N[i]? = some x) (hx : Loc X.env.scope x) (hf : X.fn x = true ∨ X.env.scope.names.lookup x = some .local := by first | exact .inl rfl | exact .inr rfl | assumption) : DG X (.Name x pos) (.nm i) :=
  pg_imp (pg_name hN hi hx hf) fun v σ H Q ⟨F, G, Mu, Γ, Γ', y, R, h1, h2, q⟩ => by
    unfold setT at h2
    cases h2
    refine q _ (R.store (sv := .d y) ⟨v, rfl, h1⟩ fun z => nomatch z) ⟨by rw [List.length_set], fun j hj => ?_⟩
    unfold tgS at hj
    rw [List.getElem?_set_ne (fun z => hj (by rw [z]; exact List.mem_singleton_self _))]
theorem dgs_nil : DGs X [] [] := pgs_imp pgs_nil fun vs σ H Q ⟨F, G, Mu, Γ, Γ', ys, R, h1, h2, q⟩ => by
  cases ys with
  | nil =>
    unfold setTs at h2
    cases h2
    cases h1
    exact ⟨rfl, q _ R .refl⟩
  | cons y ys =>
    unfold setTs at h2
    cases h2
theorem dgs_cons {t : Tg} {ts : List Tg} (h : DG X e t) (k : DGs X es ts) (hs : (assignEach (e :: es) X.env).map (·.2) = assign e X.env :: (assignEach es X.env).map (·.2) := by rfl) : DGs X (e :: es) (t :: ts) :=
  pgs_imp (pgs_cons h k hs) fun vs σ H Q ⟨F, G, Mu, Γ, Γ', ys, R, h1, h2, q⟩ => by
    cases ys with
    | nil => cases h2
    | cons y ys =>
      cases h1 with
      | cons d1 d2 =>
        unfold setTs at h2
        split at h2
        · rename_i g' e1
          exact ⟨_, _, rfl, F, G, Mu, Γ, g', y, R, d1, e1, fun σ1 R1 o1 => ⟨F, G, Mu, g', Γ', ys, R1, d2, h2, fun σ2 R2 o2 => q σ2 R2 (by unfold tgsS; exact o1.trans o2)⟩⟩
        · cases h2
theorem dg_tup {k : Nat} {ts : List Tg} {n : Nat} (hc : X.calm = true) (h : DGs X es ts) (hn : (assignEach es X.env).length = n := by rfl) (hst : (assignEach es X.env).findIdx? (·.1) = none := by rfl) (hl : ts.length = n := by rfl) : DG X (.Tuple es k pos) (.tup ts) :=
  pg_imp (pg_tup hc h hn hst) fun v σ H Q ⟨F, G, Mu, Γ, Γ', y, R, h1, h2, q⟩ => by
    cases y with
    | tuple ys =>
      unfold setT at h2
      cases h1 with
      | tup a b =>
        refine ⟨_, _, rfl, (a.mono R.gh).sq, ?_, F, G, Mu, Γ, Γ', ys, R, b, h2, fun σ' R' o => q σ' R' (by unfold tgS; exact o)⟩
        rw [dpa_length b, ← hl]
        exact setTs_len h2
    | _ => cases h2
end
end Z

set_option Elab.async false
set_option linter.all false
set_option maxRecDepth 100000
set_option autoImplicit false
set_option maxHeartbeats 1000000
namespace Z
open PySem PySem.Spec PyProof.Rows L2

def YV (b : Bool) (K : PySem.W.Frag) (G H : Hp) (v : V) (x : D) (H' : Hp) : Prop := match b with
  | false => H' = H ∧ Dq K G v x
  | true => ∃ T us ds, v = .ref T ∧ x = .tuple ds ∧ H T = none ∧ H' = upd H T (.tup us) ∧ DqAll K G us ds
def Src (b : Bool) (K : PySem.W.Frag) (F : Fr) (G : Hp) (J : It) (xs : List D) : Prop := Walk J xs.length (fun H => Same F.a H ∧ Same G H) (fun i H v H' => ∃ x, xs[i]? = some x ∧ YV b K G H v x H')
def rhoW (b : Bool) : Rho (List D) It := fun K F G _ _ _ _ xs J => Src b K F G J xs
def DI (b : Bool) (X : Cx) (tg e : Expr) (m : M (List D)) : Prop := ∀ W, Takes X W → PI X tg e (zt X W (rhoW b) m)
theorem pi_imp {X : Cx} {tg e : Expr} {t t' : TI} (p : PI X tg e t) (h : ∀ σ H Q, t' σ H Q → t σ H Q) : PI X tg e t' := ⟨fun pins s σ H Q I q => p.run pins s σ H Q I (h σ H Q q)⟩
theorem src_list {K : PySem.W.Frag} {F : Fr} {G : Hp} {l : Addr} {vs : List V} {xs : List D} (q : ∀ H, Same F.a H → Same G H → SqL K H l vs) (h : DqAll K G vs xs) : Src false K F G (Itl K l) xs := by
  have w := (walk_list (K := K) (a := l) (xs := vs)).mono (G' := fun H => Same F.a H ∧ Same G H) (Y' := fun i H v H' => ∃ x, xs[i]? = some x ∧ YV false K G H v x H') (fun H e => q H e.1 e.2) fun i H v H' hi _ y => by
    obtain ⟨x, h1, h2⟩ := dpa_get' h y.2
    exact ⟨x, h1, y.1, h2⟩
  rw [dpa_length h] at w
  exact w
theorem src_tup {K : PySem.W.Frag} {F : Fr} {G : Hp} {l : Addr} {vs : List V} {xs : List D} (q : ∀ H, Same F.a H → Same G H → SqT K H l vs) (h : DqAll K G vs xs) : Src false K F G (Itt K l) xs := by
  have w := (walk_tup (K := K) (a := l) (xs := vs)).mono (G' := fun H => Same F.a H ∧ Same G H) (Y' := fun i H v H' => ∃ x, xs[i]? = some x ∧ YV false K G H v x H') (fun H e => q H e.1 e.2) fun i H v H' hi _ y => by
    obtain ⟨x, h1, h2⟩ := dpa_get' h y.2
    exact ⟨x, h1, y.1, h2⟩
  rw [dpa_length h] at w
  exact w
/-- lo, lo + c, .. -/
def rngD (lo c : Int) (n : Nat) : List D := (List.range n).map fun (i : Nat) => .int (lo + (i : Int) * c)
theorem rngD_len {lo c : Int} {n : Nat} : (rngD lo c n).length = n := by simp [rngD]
theorem rngD_get {lo c : Int} {n i : Nat} (h : i < n) : (rngD lo c n)[i]? = some (.int (lo + (i : Int) * c)) := by simp [rngD, h]
theorem src_range {K : PySem.W.Frag} {F : Fr} {G : Hp} {lo : Int} {n : Nat} : Src false K F G (Itr lo n) (rngD lo 1 n) := by
  have w := (walk_range (lo := lo) (n := n)).mono (G' := fun H => Same F.a H ∧ Same G H) (Y' := fun i H v H' => ∃ x, (rngD lo 1 n)[i]? = some x ∧ YV false K G H v x H') (fun _ _ => trivial) fun i H v H' hi _ y =>
    ⟨_, rngD_get hi, y.1, by rw [y.2, Int.mul_one]; exact .int _⟩
  unfold Src
  rw [rngD_len]
  exact w
def iSq (K : PySem.W.Frag) (te : TE) : TI := fun σ H R => te σ H fun x H1 => ∃ a, x = .ref a ∧ ((∃ vs, SqL K H1 a vs ∧ R (Itl K a) H1) ∨ ∃ vs, SqT K H1 a vs ∧ R (Itt K a) H1)
theorem pi_sq {X : Cx} {tg e : Expr} {te : TE} (he : PE X e te) : PI X tg e (iSq X.K te) := by
  refine ⟨fun pins s σ H R I h => thn (he.run pins s σ H _ I h) fun v s1 ⟨x, H1, I1, r1, q1⟩ => ?_⟩
  obtain ⟨a, rfl, q⟩ := q1
  cases r1
  rcases q with ⟨vs, hq, q⟩ | ⟨vs, hq, q⟩
  · obtain ⟨its, _, p, _⟩ := I1.list hq
    exact wpAny_pyIter_list p.isList (pi_one (tk := s1.toks) I1 _ (turn_list a _) ⟨_, Heap.get?_push_size _ rfl, rfl, rfl⟩ q)
  · obtain ⟨its, _, p, _⟩ := I1.tuple hq
    exact wpAny_pyIter_tuple (show s1.heap.IsTuple a its.toArray from p) (pi_one (tk := s1.toks) I1 _ (turn_tuple a _) ⟨_, Heap.get?_push_size _ rfl, rfl, rfl⟩ q)
def seqD : D → Option (List D)
  | .list xs => some xs
  | .tuple xs => some xs
  | _ => none
def itR (r : Rs) : M (List D) := fun g => match r with
  | .d x => match seqD x with
    | some xs => .ok xs g
    | none => .bad
  | .sl i => match g[i]? with
    | some (.d x) => match seqD x with
      | some xs => .ok xs g
      | none => .bad
    | some (.a xs) => .ok xs g
    | some (.own false xs) => .ok xs (g.set i (.d (.list xs)))
    | _ => .bad
def iV (m : M Rs) : M (List D) := bnd m itR
theorem it_data {X : Cx} {W : WX} {σ : St} {F : Fr} {G H : Hp} {Mu : Option Addr} {Γ : En} {R : It → Hp → Prop} {v : V} {x : D} (Rl : Rel X.K F G Mu Γ σ H) (h : Dq X.K G v x) (q : zpost X W σ (rhoW false) F G Mu R (match seqD x with
      | some xs => .ok xs Γ
      | none => .bad)) : ∃ a, v = .ref a ∧ ((∃ vs, SqL X.K H a vs ∧ R (Itl X.K a) H) ∨ ∃ vs, SqT X.K H a vs ∧ R (Itt X.K a) H) := by
  cases h with
  | lst a b =>
    rename_i l vs xs
    exact ⟨l, rfl, .inl ⟨vs, Rl.gh.seq a, zpost_ok Rl (src_list (fun H' _ e => e.seq a) b) q⟩⟩
  | tup a b =>
    rename_i l vs xs
    exact ⟨l, rfl, .inr ⟨vs, (a.mono Rl.gh).sq, zpost_ok Rl (src_tup (fun H' _ e => (a.mono e).sq) b) q⟩⟩
  | _ => exact q.elim
theorem di_val {X : Cx} {tg e : Expr} {m : M Rs} (he : DV X e m) : DI false X tg e (iV m) := fun W tk =>
  pi_imp (pi_sq (he W tk)) fun σ H R p => (zt_bnd (ρ := rhoR) p).imp fun v H1 ⟨r, F, G, Mu, Γ, Rl, h1, q⟩ => by
    unfold itR at q
    cases r with
    | d x => exact it_data Rl h1 q
    | sl i =>
      have h1' : σ[i]? = some (some v) := h1
      dsimp only at q
      split at q
      · rename_i x g
        obtain ⟨u, k1, k2⟩ := Rl.data g
        rw [h1'] at k1
        cases k1
        exact it_data Rl k2 q
      · rename_i xs g
        obtain ⟨l, vs, k1, k2, k3⟩ := Rl.arg g
        rw [h1'] at k1
        cases k1
        exact ⟨l, rfl, .inl ⟨vs, (F.af.trans Rl.fh).seq k2, zpost_ok Rl (src_list (fun H' e _ => e.seq k2) k3) q⟩⟩
      · rename_i xs g
        obtain ⟨l, G', k1, R', k2, k3⟩ := Rl.freeze g
        rw [h1'] at k1
        cases k1
        cases k3 with
        | lst a b => exact ⟨l, rfl, .inl ⟨_, R'.gh.seq a, q _ H1 G' k2 R' (src_list (fun H' _ e => e.seq a) b)⟩⟩
      · exact q.elim
/-- a new list -/
def iO (m : M (List D)) : M (List D) := m
theorem di_own {X : Cx} {tg e : Expr} {m : M (List D)} (he : DO X e m) : DI false X tg e (iO m) := fun W tk =>
  pi_imp (pi_sq (he W tk)) fun σ H R ⟨F, G, Mu, Γ, Rl, p⟩ => by
    refine ⟨F, G, Mu, Γ, Rl, ?_⟩
    unfold iO at p
    cases e1 : m Γ with
    | bad => rw [e1] at p; exact p
    | ex c x Γ1 => rw [e1] at p; exact p
    | ok xs Γ1 =>
      rw [e1] at p
      intro v H1 G1 k1 R1 k2
      obtain ⟨G2, j1, R2, j2⟩ := R1.keep k2
      cases j2 with
      | lst a b => exact ⟨_, rfl, .inl ⟨_, R2.gh.seq a, p _ H1 G2 (k1.trans j1) R2 (src_list (fun H' _ e => e.seq a) b)⟩⟩

def rgLim (i : Int) : Prop := -(2 ^ 62) ≤ i ∧ i < 2 ^ 62
instance {i : Int} : Decidable (rgLim i) := by unfold rgLim; infer_instance
def iR1 (m : M (List Rs)) : M (List D) := bnd m fun rs => fun g => match vls g rs with
  | some [.int j] => if rgLim j then .ok (rngD 0 1 j.toNat) g else .bad
  | _ => .bad
def iR2 (m : M (List Rs)) : M (List D) := bnd m fun rs => fun g => match vls g rs with
  | some [.int i, .int j] => if rgLim i ∧ rgLim j then .ok (rngD i 1 (j - i).toNat) g else .bad
  | _ => .bad
def iR3 (m : M (List Rs)) : M (List D) := bnd m fun rs => fun g => match vls g rs with
  | some [.int i, .int j, .int c] => if rgLim i ∧ rgLim j ∧ c = -1 then .ok (rngD i (-1) (i - j).toNat) g else .bad
  | _ => .bad
section
variable {X : Cx} {tg a b c : Expr} {m : M (List Rs)} {p pos : Pos}
theorem di_range1 (hg : Gl X "range") (hm : X.mg "range" = none) (ha : DVs X [a] m) (hs : starEach [a] X.env = [(false, eval a X.env)] := by rfl) : DI false X tg (.Call (.Name "range" p) [a] [] pos) (iR1 m) := fun W tk =>
  pi_imp (pi_range1 hg hm (ha W tk) hs) fun σ H R q => (zt_bnd (ρ := rhoRs) q).imp fun vs H1 ⟨r, F, G, Mu, Γ, Rl, h1, q⟩ => by
    split at q
    · rename_i j e
      split at q
      · rename_i hj
        obtain ⟨v, rfl, h2⟩ := (Rl.reads h1 e).one
        cases h2.int
        exact ⟨j, rfl, hj.1, hj.2, zpost_ok Rl src_range q⟩
      · exact q.elim
    · exact q.elim
theorem di_range2 (hg : Gl X "range") (hm : X.mg "range" = none) (ha : DVs X [a, b] m) (hs : starEach [a, b] X.env = [(false, eval a X.env), (false, eval b X.env)] := by rfl) (hs2 : starEach [b] X.env = [(false, eval b X.env)] := by rfl) :
    DI false X tg (.Call (.Name "range" p) [a, b] [] pos) (iR2 m) := fun W tk =>
  pi_imp (pi_range2 hg hm (ha W tk) hs hs2) fun σ H R q => (zt_bnd (ρ := rhoRs) q).imp fun vs H1 ⟨r, F, G, Mu, Γ, Rl, h1, q⟩ => by
    split at q
    · rename_i i j e
      split at q
      · rename_i hj
        obtain ⟨v, u, rfl, h2, h3⟩ := (Rl.reads h1 e).two
        cases h2.int
        cases h3.int
        exact ⟨i, j, rfl, ⟨hj.1.1, hj.1.2, hj.2.1, hj.2.2⟩, zpost_ok Rl src_range q⟩
      · exact q.elim
    · exact q.elim
theorem RdbAll.three {K : PySem.W.Frag} {G H : Hp} {vs : List V} {x y z : D} (h : RdbAll K G H vs [x, y, z]) : ∃ v u w, vs = [v, u, w] ∧ Rdb K G H v x ∧ Rdb K G H u y ∧ Rdb K G H w z := by
  cases vs with
  | nil => cases (show [x, y, z] = [] from h)
  | cons v us =>
    obtain ⟨_, _, e, h1, h2⟩ := h
    cases e
    obtain ⟨u, w, rfl, h3, h4⟩ := RdbAll.two h2
    exact ⟨v, u, w, rfl, h1, h3, h4⟩
end

def zGb (b : Bool) (X : Cx) (t : Tg) : TG := fun v σ H Q => ∃ F G Mu Γ Γ' x H0, Rel X.K F G Mu Γ σ H0 ∧ YV b X.K G H0 v x H ∧ setT t x Γ = some Γ' ∧ ∀ σ', Rel X.K F G Mu Γ' σ' H → Off (tgS t) σ σ' → Q σ' H
def DGb (b : Bool) (X : Cx) (e : Expr) (t : Tg) : Prop := PG X e (zGb b X t)
section
variable {X : Cx} {pos : Pos} {e : Expr} {es : List Expr}
theorem dgb_any {t : Tg} (h : DG X e t) : DGb false X e t := pg_imp h fun v σ H Q ⟨F, G, Mu, Γ, Γ', x, H0, R, ⟨e1, d⟩, s, q⟩ => by
  subst e1
  exact ⟨F, G, Mu, Γ, Γ', x, R, d, s, q⟩
end

def fgt : List Nat → En → En
  | [], g => g
  | i :: is, g => fgt is (g.set i .u)
theorem Rel.forget' {K : PySem.W.Frag} {F : Fr} {G H : Hp} {Mu : Option Addr} {Γ : En} {σ : St} (R : Rel K F G Mu Γ σ H) (i : Nat) : Rel K F G Mu (Γ.set i .u) σ H := by
  cases h : σ[i]? with
  | none =>
    have hl : Γ.length ≤ i := by rw [R.len]; exact List.getElem?_eq_none_iff.mp h
    rw [List.set_eq_of_length_le hl]
    exact R
  | some o =>
    have e : σ.set i o = σ := List.ext_getElem? fun j => by
      by_cases hj : i = j
      · subst hj
        have hi := (List.getElem?_eq_some_iff.mp h).1
        rw [List.getElem?_set_self hi, h]
      · rw [List.getElem?_set_ne hj]
    have R' := R.forget i (o := o)
    rw [e] at R'
    exact R'
theorem Rel.fgt {K : PySem.W.Frag} {F : Fr} {G H : Hp} {Mu : Option Addr} {σ : St} : ∀ {is : List Nat} {Γ : En}, Rel K F G Mu Γ σ H → Rel K F G Mu (Z.fgt is Γ) σ H
  | [], _, R => R
  | i :: is, _, R => Rel.fgt (is := is) (R.forget' i)
/-- a for over xs; ms: the slots that are of no more use behind a turn -/
def forG (t : Tg) (ms : List Nat) (b : M Fl) : List D → M Fl
  | [], g => .ok .nx (fgt ms g)
  | x :: xs, g => match setT t x g with
    | none => .bad
    | some g1 => match b g1 with
      | .ok .nx g2 => forG t ms b xs (fgt ms g2)
      | .ok .ct g2 => forG t ms b xs (fgt ms g2)
      | .ok .bk g2 => .ok .nx (fgt ms g2)
      | o => o
def sFor (t : Tg) (ms : List Nat) (mi : M (List D)) (b : M Fl) : M Fl := bnd mi fun xs => forG t ms b xs
theorem ds_for {X : Cx} {b : Bool} {tg iter : Expr} {body : List Stmt} {pos : Pos} {t : Tg} {mi : M (List D)} {mb : M Fl} (ms : List Nat) (hp : PassesOwn (model X.prog X.w) X.A X.env X.xe) (hc : X.calm = true) (hi : DI b X tg iter mi) (hg : DGb b X tg t) (hb : DSs X body mb)
    (hs : ∀ x, foldedSetIterable iter X.env x = pure x := by intro _; rfl) : DS X (.For tg iter body [] pos) (sFor t ms mi mb) := fun W tk =>
  ps_imp (ps_for hp hc (hi W tk) hg (hb W tk) hs) fun D σ H p => (st_bnd (ρ := rhoW b) p).imp fun J H1 ⟨xs, F, G, Mu, Γ, R, h1, q⟩ => by
    refine for_it h1 (fun i σ' H' => ∃ G' Γ', Same G G' ∧ Rel X.K F G' Mu Γ' σ' H' ∧ spost X W F G' Mu D (forG t ms mb (xs.drop i) Γ')) ⟨G, Γ, Same.refl _, R, q⟩
      (fun i σ' H' _ ⟨G', Γ', g, R', _⟩ => ⟨F.af.trans R'.fh, g.trans R'.gh⟩) (fun i v σ' H' H2 hi ⟨G', Γ', g, R', p'⟩ ⟨x, hx, y⟩ => ?_) fun σ' H' ⟨G', Γ', g, R', p'⟩ => ?_
    · have hd : xs.drop i = x :: xs.drop (i + 1) := by
        obtain ⟨hl, e⟩ := List.getElem?_eq_some_iff.mp hx
        rw [← e]
        exact List.drop_eq_getElem_cons hl
      rw [hd] at p'
      unfold forG at p'
      cases e1 : setT t x Γ' with
      | none => rw [e1] at p'; exact p'.elim
      | some g1 =>
        rw [e1] at p'
        dsimp only at p'
        have y' : YV b X.K G' H' v x H2 := by
          cases b with
          | false => exact ⟨y.1, dp_mono g _ _ y.2⟩
          | true =>
            obtain ⟨T, us, ds, a1, a2, a3, a4, a5⟩ := y
            exact ⟨T, us, ds, a1, a2, a3, a4, dpAll_mono g _ _ a5⟩
        refine ⟨F, G', Mu, Γ', g1, x, H', R', y', e1, fun σ2 R2 _ => ⟨F, G', Mu, g1, R2, ?_⟩⟩
        cases e2 : mb g1 with
        | bad => rw [e2] at p'; exact p'
        | ex c z Γ2 => rw [e2] at p'; exact p'
        | ok f Γ2 =>
          rw [e2] at p'
          cases f with
          | nx => exact fun σ3 H3 G3 k R3 => ⟨G3, _, g.trans k, R3.fgt, p'.rebase k⟩
          | ct => exact fun σ3 H3 G3 k R3 => ⟨G3, _, g.trans k, R3.fgt, p'.rebase k⟩
          | rt r => exact p'
          | bk => exact fun σ3 H3 G3 k R3 => p' σ3 H3 G3 k R3.fgt
    · rw [List.drop_length] at p'
      exact p' σ' H' G' (Same.refl _) R'.fgt
end Z

set_option Elab.async false
set_option linter.all false
set_option maxRecDepth 100000
set_option autoImplicit false
set_option maxHeartbeats 1000000
namespace Z
open PySem PySem.Spec PyProof.Rows L2

def wipG (g : En) : List Nat → En
  | [] => g
  | v :: vs => (wipG g vs).set v .u
def rstG (g g' : En) : List Nat → En
  | [] => g'
  | v :: vs => match g[v]? with
    | some sv => (rstG g g' vs).set v sv
    | none => rstG g g' vs
def noOwn (g : En) (vs : List Nat) : Bool := vs.all fun v => match g[v]? with
  | some (.own _ _) => false
  | some (.dk _) => false
  | _ => true
theorem noOwn_at {g : En} {vs : List Nat} {j : Nat} {sv : SV} (no : noOwn g vs = true) (hj : j ∈ vs) (e : g[j]? = some sv) : sv.ow = false := by
  have := List.all_eq_true.mp no j hj
  rw [e] at this
  cases sv with
  | own m xs => cases this
  | dk ds => cases this
  | u => rfl
  | d x => rfl
  | a xs => rfl
theorem wipG_len {g : En} : ∀ {vs : List Nat}, (wipG g vs).length = g.length
  | [] => rfl
  | v :: vs => by
    unfold wipG
    rw [List.length_set, wipG_len]
theorem rstG_len {g g' : En} : ∀ {vs : List Nat}, (rstG g g' vs).length = g'.length
  | [] => rfl
  | v :: vs => by
    unfold rstG
    split
    · rw [List.length_set, rstG_len]
    · exact rstG_len
theorem rstG_in {g g' : En} (hl : g'.length = g.length) {i : Nat} : ∀ {vs : List Nat}, i ∈ vs → (rstG g g' vs)[i]? = g[i]?
  | [], h => nomatch h
  | v :: vs, h => by
    unfold rstG
    by_cases e : v = i
    · subst e
      split
      · rename_i sv hv
        rw [List.getElem?_set_self (by rw [rstG_len, hl]; exact (List.getElem?_eq_some_iff.mp hv).1), hv]
      · rename_i hv
        rw [hv, List.getElem?_eq_none_iff, rstG_len, hl]
        exact List.getElem?_eq_none_iff.mp hv
    · have h2 : i ∈ vs := by
        rcases List.mem_cons.mp h with z | z
        · exact absurd z.symm e
        · exact z
      split
      · rw [List.getElem?_set_ne e]
        exact rstG_in hl h2
      · exact rstG_in hl h2
theorem rstG_out {g g' : En} {i : Nat} : ∀ {vs : List Nat}, i ∉ vs → (rstG g g' vs)[i]? = g'[i]?
  | [], _ => rfl
  | v :: vs, h => by
    have h1 : v ≠ i := fun e => h (by rw [e]; exact List.mem_cons_self)
    have h2 : i ∉ vs := fun m => h (List.mem_cons_of_mem _ m)
    unfold rstG
    split
    · rw [List.getElem?_set_ne h1]
      exact rstG_out h2
    · exact rstG_out h2
theorem wipe_in {σ : St} {i : Nat} : ∀ {vs : List Nat}, i ∈ vs → (wipe σ vs)[i]? = (σ[i]?).map fun _ => none
  | [], h => nomatch h
  | v :: vs, h => by
    unfold wipe
    by_cases e : v = i
    · subst e
      cases hv : σ[v]? with
      | none =>
        rw [Option.map_none, List.getElem?_eq_none_iff, List.length_set, wipe_length]
        exact List.getElem?_eq_none_iff.mp hv
      | some o =>
        rw [List.getElem?_set_self (by rw [wipe_length]; exact (List.getElem?_eq_some_iff.mp hv).1)]
        rfl
    · have h2 : i ∈ vs := by
        rcases List.mem_cons.mp h with z | z
        · exact absurd z.symm e
        · exact z
      rw [List.getElem?_set_ne e]
      exact wipe_in h2
theorem wipe_off {σ σ' : St} {is vs : List Nat} (h : Off is (wipe σ vs) σ') (hs : ∀ i ∈ is, i ∈ vs) : wipe σ' vs = wipe σ vs := List.ext_getElem? fun j => by
  by_cases hj : j ∈ vs
  · rw [wipe_in hj, wipe_in hj]
    have hl : σ'.length = σ.length := h.1.trans (wipe_length σ vs)
    cases e : σ[j]? with
    | none =>
      have : σ'[j]? = none := by
        rw [List.getElem?_eq_none_iff, hl]
        exact List.getElem?_eq_none_iff.mp e
      rw [this]
    | some o =>
      have hj2 : j < σ'.length := by
        rw [hl]
        exact (List.getElem?_eq_some_iff.mp e).1
      rw [List.getElem?_eq_getElem hj2]
      rfl
  · rw [wipe_out hj, wipe_out hj, h.2 j (fun z => hj (hs j z)), wipe_out hj]
section
variable {K : PySem.W.Frag} {F : Fr} {G H G' H' : Hp} {Mu : Option Addr} {Γ Γ' : En} {σ : St}
theorem Rel.wipe (R : Rel K F G Mu Γ σ H) : ∀ vs : List Nat, Rel K F G Mu (wipG Γ vs) (L2.wipe σ vs) H
  | [] => R
  | v :: vs => (Rel.wipe R vs).forget v
/-- back out of a block -/
theorem Rel.back {vs : List Nat} (R : Rel K F G Mu Γ σ H) (R' : Rel K F G' Mu Γ' (L2.wipe σ vs) H') (g : Same G G') (no : noOwn Γ vs = true) : Rel K F G' Mu (rstG Γ Γ' vs) σ H' := by
  have hl : Γ'.length = Γ.length := by rw [R'.len, R.len, wipe_length]
  have nin : ∀ {j : Nat} {sv : SV}, (rstG Γ Γ' vs)[j]? = some sv → sv.ow = true → j ∉ vs := fun {j sv} e ho hj => by
    rw [rstG_in hl hj] at e
    rw [noOwn_at no hj e] at ho
    cases ho
  have own' : ∀ {j : Nat} {l : Addr}, Owns (rstG Γ Γ' vs) σ j l → Owns Γ' (L2.wipe σ vs) j l := fun {j l} ⟨m, h1, xs, h2⟩ => by
    have hj := nin h1 xs
    exact ⟨m, by rw [← rstG_out hj]; exact h1, xs, by rw [wipe_out hj]; exact h2⟩
  refine ⟨R'.fh, R'.lk, R'.gh, R'.mu, by rw [rstG_len, hl, R.len], fun j sv e => ?_, fun i j l a b => R'.sep i j l (own' a) (own' b)⟩
  by_cases hj : j ∈ vs
  · rw [rstG_in hl hj] at e
    have q := R.sl j sv e
    cases sv with
    | u => exact True.intro
    | d x =>
      obtain ⟨v, h1, h2⟩ := q
      exact ⟨v, h1, dp_mono g _ _ h2⟩
    | a xs =>
      obtain ⟨l, us, h1, h2, h3⟩ := q
      exact ⟨l, us, h1, h2, dpAll_mono g _ _ h3⟩
    | own m xs => exact absurd hj (nin (by rw [rstG_in hl hj]; exact e) rfl)
    | dk ds => exact absurd hj (nin (by rw [rstG_in hl hj]; exact e) rfl)
  · rw [rstG_out hj] at e
    have q := R'.sl j sv e
    rw [wipe_out hj] at q
    exact q
theorem Rel.poke (R : Rel K F G Mu Γ σ H) {l : Addr} {o : HO} (n : F l = none) (g : G l = none) (m : Mu ≠ some l) (ow : ∀ i, ¬ Owns Γ σ i l) : Rel K F G Mu Γ σ (upd H l o) := by
  refine R.mono (Mu' := Mu) (same_updR R.fh n) (Same.refl _) (same_updR R.gh g) (fun b q => ?_) (fun i b h => ?_) R.lk
  · obtain ⟨_, h2, h3⟩ := R.mu b q
    rw [upd_ne (fun z => m (by rw [q, z]))]
    exact ⟨h2, h3⟩
  · rw [upd_ne (fun z => ow i (by rw [← z]; exact h))]
    exact ⟨(R.there h).2.1, rfl⟩
end

def compG (vs : List Nat) (t : Tg) (mt : M Bool) (me : M D) : List D → List D → M (List D)
  | [], ys, g => .ok ys g
  | x :: xs, ys, g => match setT t x g with
    | none => .bad
    | some g1 => match mt g1 with
      | .ok true g2 => match me g2 with
        | .ok y g3 => compG vs t mt me xs (ys ++ [y]) (wipG g3 vs)
        | _ => .bad
      | .ok false g2 => compG vs t mt me xs ys (wipG g2 vs)
      | _ => .bad
def compB (vs : List Nat) (t : Tg) (mt : M Bool) (me : M D) (xs : List D) : M (List D) := fun g => if xs.length ≤ sizeLine ∧ noOwn g vs = true then match compG vs t mt me xs [] (wipG g vs) with
    | .ok ys g' => .ok ys (rstG g g' vs)
    | _ => .bad
  else .bad
def compL (vs : List Nat) (t : Tg) (mi : M (List D)) (mt : M Bool) (me : M D) : M (List D) := bnd mi (compB vs t mt me)
def DTs (X : Cx) (ifs : List Expr) (m : M Bool) : Prop := ∀ W, Takes X W → PTs X ifs (zt X W rhoB m)
theorem pts_imp {X : Cx} {es : List Expr} {t t' : TT} (p : PTs X es t) (h : ∀ σ H Q, t' σ H Q → t σ H Q) : PTs X es t' := ⟨fun pins s σ H Q I q => p.run pins s σ H Q I (h σ H Q q)⟩
theorem dts_nil {X : Cx} : DTs X [] (rt true) := fun W _ => pts_imp pts_nil fun σ H Q ⟨F, G, Mu, Γ, R, p⟩ => zpost_ok R (show rhoB _ _ _ _ _ _ _ true true from rfl) p
theorem dts_one {X : Cx} {c : Expr} {m : M Bool} (h : DT X c m) : DTs X [c] m := fun W tk => pts_one (h W tk)
abbrev W0 : WX := fun _ _ _ _ => False
theorem comp_run {X : Cx} {b : Bool} {W : WX} {σ : St} {H : Hp} {Q : VK} {vs : List Nat} {t : Tg} {mi : M (List D)} {mt : M Bool} {me : M D} (hv : ∀ i ∈ tgS t, i ∈ vs) (p : zt X W rhoO (compL vs t mi mt me) σ H Q) :
    tLc (zt X W (rhoW b) mi) (zGb b X t) (zt X W0 rhoB mt) (zt X W0 rhoD me) vs σ H Q :=
  (zt_bnd (ρ := rhoW b) p).imp fun J H1 ⟨xs, F, G, Mu, Γ, R, h1, q⟩ l nl => by
    unfold compB at q
    split at q
    · rename_i hz
      obtain ⟨hz, no⟩ := hz
      have nF : F l = none := R.fh.free nl
      have nG : G l = none := R.gh.free nl
      have nM : Mu ≠ some l := fun z => (R.mu l z).2.2 nl
      have nO : ∀ i, ¬ Owns (wipG Γ vs) (wipe σ vs) i l := fun i h => by
        obtain ⟨_, _, us, z⟩ := (R.wipe vs).there h
        rw [nl] at z
        cases z
      cases e1 : compG vs t mt me xs [] (wipG Γ vs) with
      | bad => rw [e1] at q; exact q.elim
      | ex c y Γ1 => rw [e1] at q; exact q.elim
      | ok zs Γz =>
        rw [e1] at q
        refine lc_it h1 (fun i H' => ∃ G' Γ' acc ys, Same G G' ∧ Rel X.K (F.lock l (.lst acc) nF) G' Mu Γ' (wipe σ vs) H' ∧ DqAll X.K G' acc ys ∧ ys.length ≤ i ∧ compG vs t mt me (xs.drop i) ys Γ' = .ok zs Γz) ?_
          (fun i H' _ ⟨G', Γ', acc, ys, g, R', _⟩ => ⟨fun a o z => R'.unlock.1.fh a o (F.af a o z), g.trans R'.gh⟩) (fun i v H' H2 hi ⟨G', Γ', acc, ys, g, R', hd, hy, hc⟩ ⟨x, hx, y⟩ => ?_) fun H' ⟨G', Γ', acc, ys, g, R', hd, hy, hc⟩ => ?_
        · exact ⟨G, wipG Γ vs, [], [], Same.refl _, ((R.wipe vs).newX nl).lock nF upd_same nG nM (fun i h => nO i h), .nil, Nat.le_refl _, e1⟩
        · have hdr : xs.drop i = x :: xs.drop (i + 1) := by
            obtain ⟨hl, e⟩ := List.getElem?_eq_some_iff.mp hx
            rw [← e]
            exact List.drop_eq_getElem_cons hl
          rw [hdr] at hc
          unfold compG at hc
          split at hc
          · cases hc
          · rename_i g1 e2
            have y' : YV b X.K G' H' v x H2 := by
              cases b with
              | false => exact ⟨y.1, dp_mono g _ _ y.2⟩
              | true =>
                obtain ⟨T, us, ds, a1, a2, a3, a4, a5⟩ := y
                exact ⟨T, us, ds, a1, a2, a3, a4, dpAll_mono g _ _ a5⟩
            refine ⟨_, G', Mu, Γ', g1, x, H', R', y', e2, fun σ2 R2 off => ⟨wipe_off off hv, ?_⟩⟩
            have ew := wipe_off off hv
            split at hc
            · rename_i g2 e3
              split at hc
              · rename_i z g3 e4
                refine ⟨_, G', Mu, g1, R2, ?_⟩
                rw [e3]
                intro bb H3 G3 k3 R3 hb
                cases (show true = bb from hb)
                rw [if_pos rfl]
                refine ⟨_, G3, Mu, g2, R3, ?_⟩
                rw [e4]
                intro u H4 G4 k4 R4 hu
                obtain ⟨R5, j1, j2, j3, j4⟩ := R4.unlock
                refine ⟨acc, j1, ?_, G4, wipG g3 vs, acc ++ [u], ys ++ [z], (g.trans k3).trans k4, ?_, dpa_append (dpAll_mono k4 _ _ (dpAll_mono k3 _ _ hd)) (.cons hu .nil), by rw [List.length_append]; exact Nat.add_le_add_right hy 1, hc⟩
                · rw [dpa_length hd]
                  omega
                · have R6 := R5.wipe vs
                  rw [ew] at R6
                  have o6 : ∀ i, ¬ Owns (wipG g3 vs) (wipe σ vs) i l := fun i h => by
                    obtain ⟨w1, w2, w3⟩ := R6.there h
                    have R7 := R4.wipe vs
                    rw [ew] at R7
                    have := (R7.there h).1
                    rw [show (F.lock l (HO.lst acc) nF) l = some (.lst acc) from upd_same] at this
                    cases this
                  exact (R6.poke (o := .lst (acc ++ [u])) nF j2 j3 o6).lock nF upd_same j2 j3 o6
              · cases hc
            · rename_i g2 e3
              refine ⟨_, G', Mu, g1, R2, ?_⟩
              rw [e3]
              intro bb H3 G3 k3 R3 hb
              cases (show false = bb from hb)
              rw [if_neg Bool.false_ne_true]
              have R6 := R3.wipe vs
              rw [ew] at R6
              exact ⟨G3, wipG g2 vs, acc, ys, g.trans k3, R6, dpAll_mono k3 _ _ hd, by omega, hc⟩
            · cases hc
        · rw [List.drop_length] at hc
          unfold compG at hc
          cases hc
          obtain ⟨R5, j1, j2, j3, j4⟩ := R'.unlock
          have R6 := R.back R5 g no
          refine q _ H' G' g R6 ⟨l, acc, rfl, j1, hd, nF, j2, j3, fun i h => ?_⟩
          obtain ⟨m, w1, ws, w2⟩ := h
          have hni : i ∉ vs := fun hin => by
            rw [rstG_in (by rw [R5.len, R.len, wipe_length]) hin] at w1
            rw [noOwn_at no hin w1] at ws
            cases ws
          exact j4 i ⟨m, by rw [← rstG_out hni]; exact w1, ws, by rw [wipe_out hni]; exact w2⟩
    · exact q.elim
section
variable {X : Cx} {b : Bool} {elt tg iter : Expr} {ifs : List Expr} {scope : Scope} {pos : Pos} {t : Tg} {mi : M (List D)} {mt : M Bool} {me : M D}
theorem do_comp (own : List (Str × Nat)) (hc : X.calm = true) (hN : X.N.Nodup) (hi : DI b X tg iter mi) (ok : BlkOk X.N X.env.scope scope own)
    (hg : ∀ (s : Shared) (H : Hp) (C : Addr) (cl : List (Str × Addr)) (fp : List Addr), DGb b (X.blk s H scope (compEnvC scope cl C X.env) fp) tg t) (ht : ∀ (s : Shared) (H : Hp) (C : Addr) (cl : List (Str × Addr)) (fp : List Addr), DTs (X.blk s H scope (compEnvC scope cl C X.env) fp) ifs mt)
    (he : ∀ (s : Shared) (H : Hp) (C : Addr) (cl : List (Str × Addr)) (fp : List Addr), DP (X.blk s H scope (compEnvC scope cl C X.env) fp) elt me) (hv : ∀ i ∈ tgS t, i ∈ own.map (·.2)) (hs : ∀ x, foldedSetIterable iter X.env x = pure x := by intro _; rfl) :
    DO X (.ListComp elt [⟨tg, iter, ifs, 0⟩] scope pos) (compL (own.map (·.2)) t mi mt me) := fun W tk =>
  pe_imp (pe_lc (g := zGb b X t) (tt := zt X W0 rhoB mt) (te := zt X W0 rhoD me) hc hN (hi W tk) ok (fun s H C cl fp => hg s H C cl fp) (fun s H C cl fp => ht s H C cl fp W0 takes0) (fun s H C cl fp => he s H C cl fp W0 takes0) hs) fun σ H Q p => comp_run hv p
end
end Z

set_option Elab.async false
set_option linter.all false
set_option maxRecDepth 100000
set_option autoImplicit false
set_option maxHeartbeats 1000000
namespace Z
open PySem PySem.Spec PyProof.Rows L2

/-- how a parameter is taken: read alone; kept; a list that is changed -/
inductive Pk where
  | v
  | p
  | m
inductive Out where
  | bad
  | ret (r : Rt) (ms : List D)
  | ex (c : Str) (x : D) (ms : List D)
def del (H : Hp) (Mu : Option Addr) : Hp := fun b => if Mu = some b then none else H b
theorem del_sub {H : Hp} {Mu : Option Addr} : Same (del H Mu) H := fun b o h => by
  unfold del at h
  split at h
  · cases h
  · exact h
theorem del_at {H : Hp} {Mu : Option Addr} {l : Addr} (h : Mu = some l) : del H Mu l = none := if_pos h
theorem del_ne {H : Hp} {Mu : Option Addr} {l : Addr} (h : Mu ≠ some l) : del H Mu l = H l := if_neg h
def ArgV (K : PySem.W.Frag) (G H : Hp) (Mu : Option Addr) (v : V) (x : D) : Prop := Dq K G v x ∨ ∃ l us ys, v = .ref l ∧ x = .list ys ∧ SqL K (del H Mu) l us ∧ DqAll K G us ys
def ArgM (K : PySem.W.Frag) (G H : Hp) (Mu : Option Addr) (v : V) (x : D) : Prop := ∃ l us ys, x = .list ys ∧ v = .ref l ∧ Mu = some l ∧ H l = some (.lst us) ∧ DqAll K G us ys ∧ G l = none
def ArgK (K : PySem.W.Frag) (G H : Hp) (Mu : Option Addr) : Pk → V → D → Prop
  | .v => ArgV K G H Mu
  | .p => Dq K G
  | .m => ArgM K G H Mu
def ArgsR (K : PySem.W.Frag) (G H : Hp) (Mu : Option Addr) : List Pk → List V → List D → Prop
  | [], vs, xs => vs = [] ∧ xs = []
  | k :: ks, vs, xs => ∃ v us x ys, vs = v :: us ∧ xs = x :: ys ∧ ArgK K G H Mu k v x ∧ ArgsR K G H Mu ks us ys
structure Post (K : PySem.W.Frag) (G H : Hp) (Mu : Option Addr) (G' H' : Hp) (ms : List D) : Prop where
  g : Same G G'
  gh : Same G' H'
  fr : Same (del H Mu) H'
  keep : ∀ b, H b ≠ none → G b = none → G' b = none
  mu : ∀ l, Mu = some l → ∃ us, H' l = some (.lst us) ∧ DqAll K G' us ms
def RetR (K : PySem.W.Frag) (H G' H' : Hp) (r : Rt) (v : V) : Prop := match r with
  | .d x => Dq K G' v x
  | .own xs => ∃ l us, v = .ref l ∧ H' l = some (.lst us) ∧ DqAll K G' us xs ∧ H l = none ∧ G' l = none
def outP (K : PySem.W.Frag) (mg : Str → Option Value) (G H : Hp) (Mu : Option Addr) (Q : VK) (E : XK) : Out → Prop
  | .bad => False
  | .ret r ms => ∀ v H' G', Post K G H Mu G' H' ms → RetR K H G' H' r v → Q v H'
  | .ex c x ms => ∀ C a v H' G', mg c = some (.ref C) → Post K G H Mu G' H' ms → H' a = some (.xd [("value", v)]) → Dq K G' v x → E (.ref C) (some a) H'
def hasM : List Pk → Bool
  | [] => false
  | .m :: _ => true
  | _ :: ks => hasM ks
def spF (K : PySem.W.Frag) (mg : Str → Option Value) (ks : List Pk) (φ : List D → Out) : Sp := fun vs H Q E => ∃ G Mu xs, Same G H ∧ (∀ l, Mu = some l → G l = none ∧ H l ≠ none) ∧ (hasM ks = false → Mu = none) ∧ ArgsR K G H Mu ks vs xs ∧ outP K mg G H Mu Q E (φ xs)

def svK : Pk → D → SV
  | .m, .list ys => .own true ys
  | .m, _ => .u
  | .p, x => .d x
  | .v, x => svA x
def svs : List Pk → List D → List SV
  | k :: ks, x :: xs => svK k x :: svs ks xs
  | _, _ => []
def start0 (n : Nat) (ks : List Pk) (xs : List D) : En := svs ks xs ++ List.replicate (n - ks.length) .u
def muOf : List Pk → En → Option (List D)
  | [], _ => some []
  | .m :: _, .own true ms :: _ => some ms
  | .v :: ks, _ :: g => muOf ks g
  | .p :: ks, _ :: g => muOf ks g
  | _, _ => none
def oneM : List Pk → Bool
  | [] => true
  | .m :: ks => !hasM ks
  | _ :: ks => oneM ks
def outM (ks : List Pk) (r : Rt) (g : En) : Out := match muOf ks g with
  | some ms => .ret r ms
  | none => .bad
/-- a def's answer -/
def runF (n : Nat) (ks : List Pk) (b : M Fl) (xs : List D) : Out := match b (start0 n ks xs) with
  | .ok .nx g => outM ks (.d .none) g
  | .ok (.rt r) g => outM ks r g
  | .ex c x g => match muOf ks g with
    | some ms => .ex c x ms
    | none => .bad
  | _ => .bad
section
variable {K : PySem.W.Frag} {G H : Hp} {Mu : Option Addr}
theorem args_len : ∀ {ks : List Pk} {vs : List V} {xs : List D}, ArgsR K G H Mu ks vs xs → vs.length = ks.length ∧ xs.length = ks.length ∧ (svs ks xs).length = ks.length
  | [], _, _, h => by
    obtain ⟨rfl, rfl⟩ := h
    exact ⟨rfl, rfl, rfl⟩
  | k :: ks, _, _, h => by
    obtain ⟨v, us, x, ys, rfl, rfl, _, h⟩ := h
    obtain ⟨a, b, c⟩ := args_len h
    refine ⟨by rw [List.length_cons, List.length_cons, a], by rw [List.length_cons, List.length_cons, b], ?_⟩
    show (svs ks ys).length + 1 = _
    rw [c, List.length_cons]
theorem args_get : ∀ {ks : List Pk} {vs : List V} {xs : List D} {i : Nat} {sv : SV}, ArgsR K G H Mu ks vs xs → (svs ks xs)[i]? = some sv → ∃ k v x, ks[i]? = some k ∧ vs[i]? = some v ∧ sv = svK k x ∧ ArgK K G H Mu k v x
  | [], _, _, _, _, h, e => by
    obtain ⟨rfl, rfl⟩ := h
    cases e
  | k :: ks, _, _, 0, sv, h, e => by
    obtain ⟨v, us, x, ys, rfl, rfl, h1, h⟩ := h
    have e' : some (svK k x) = some sv := e
    cases e'
    exact ⟨k, v, x, rfl, rfl, rfl, h1⟩
  | k :: ks, _, _, i + 1, sv, h, e => by
    obtain ⟨v, us, x, ys, rfl, rfl, h1, h⟩ := h
    obtain ⟨k', v', x', a, b, c, d⟩ := args_get (i := i) h (show (svs ks ys)[i]? = some sv from e)
    exact ⟨k', v', x', by simpa using a, by simpa using b, c, d⟩
theorem hasM_get : ∀ {ks : List Pk} {i : Nat}, ks[i]? = some .m → hasM ks = true
  | [], _, h => by simp at h
  | .m :: ks, _, _ => rfl
  | .v :: ks, 0, h => by simp at h
  | .p :: ks, 0, h => by simp at h
  | .v :: ks, i + 1, h => hasM_get (ks := ks) (i := i) (by simpa using h)
  | .p :: ks, i + 1, h => hasM_get (ks := ks) (i := i) (by simpa using h)
theorem oneM_eq : ∀ {ks : List Pk} {i j : Nat}, oneM ks = true → ks[i]? = some .m → ks[j]? = some .m → i = j
  | [], _, _, _, h, _ => by simp at h
  | _ :: _, 0, 0, _, _, _ => rfl
  | .m :: ks, 0, j + 1, h, _, e => by
    have := hasM_get (ks := ks) (i := j) (by simpa using e)
    simp [oneM, this] at h
  | .m :: ks, i + 1, 0, h, e, _ => by
    have := hasM_get (ks := ks) (i := i) (by simpa using e)
    simp [oneM, this] at h
  | .v :: ks, 0, j + 1, h, e, _ => by simp at e
  | .p :: ks, 0, j + 1, h, e, _ => by simp at e
  | .v :: ks, i + 1, 0, h, _, e => by simp at e
  | .p :: ks, i + 1, 0, h, _, e => by simp at e
  | .m :: ks, i + 1, j + 1, h, e, e2 => by
    have := hasM_get (ks := ks) (i := i) (by simpa using e)
    simp [oneM, this] at h
  | .v :: ks, i + 1, j + 1, h, e, e2 => by rw [oneM_eq (ks := ks) (i := i) (j := j) h (by simpa using e) (by simpa using e2)]
  | .p :: ks, i + 1, j + 1, h, e, e2 => by rw [oneM_eq (ks := ks) (i := i) (j := j) h (by simpa using e) (by simpa using e2)]
/-- the frame of a def that is called -/
def frD (G H : Hp) (Mu : Option Addr) : Fr where
  f := del H Mu
  a := del H Mu
  k := fun b => del H Mu b ≠ none ∧ G b = none
  af := Same.refl _
  kf := fun _ h => h.1
theorem start_at {N : List Str} {vs : List V} {i : Nat} {v : V} (h : vs[i]? = some v) : (L2.start N vs)[i]? = some (some v) := by
  unfold L2.start
  rw [List.getElem?_append_left (by rw [List.length_map]; exact (List.getElem?_eq_some_iff.mp h).1), List.getElem?_map, h]
  rfl
theorem svK_ow {k : Pk} {x : D} (h : (svK k x).ow = true) : k = .m := by
  cases k with
  | m => rfl
  | p => cases h
  | v =>
    cases x with
    | _ => cases h
theorem rel_start {N : List Str} {ks : List Pk} {vs : List V} {xs : List D} (gh : Same G H) (mu : ∀ l, Mu = some l → G l = none ∧ H l ≠ none) (a : ArgsR K G H Mu ks vs xs) (one : oneM ks = true) (hn : ks.length ≤ N.length) :
    Rel K (frD G H Mu) G Mu (start0 N.length ks xs) (L2.start N vs) H := by
  obtain ⟨l1, l2, l3⟩ := args_len a
  have get : ∀ {i : Nat} {sv : SV}, (start0 N.length ks xs)[i]? = some sv → (∃ k v x, ks[i]? = some k ∧ (L2.start N vs)[i]? = some (some v) ∧ sv = svK k x ∧ ArgK K G H Mu k v x) ∨ sv = .u := fun {i sv} e => by
    unfold start0 at e
    by_cases hi : i < (svs ks xs).length
    · rw [List.getElem?_append_left hi] at e
      obtain ⟨k, v, x, h1, h2, h3, h4⟩ := args_get a e
      exact .inl ⟨k, v, x, h1, start_at h2, h3, h4⟩
    · rw [List.getElem?_append_right (by omega), List.getElem?_replicate] at e
      split at e
      · cases e
        exact .inr rfl
      · cases e
  refine ⟨del_sub, fun l h => h.2, gh, fun l h => ⟨del_at h, mu l h⟩, ?_, fun i sv e => ?_, fun i j l ⟨m, a1, ys, a2⟩ ⟨m', b1, ys', b2⟩ => ?_⟩
  · unfold start0 L2.start
    rw [List.length_append, List.length_append, List.length_map, List.length_replicate, List.length_replicate, l3, l1]
  · rcases get e with ⟨k, v, x, h1, h2, rfl, h4⟩ | rfl
    · rw [h2]
      cases k with
      | p => exact ⟨v, rfl, h4⟩
      | m =>
        obtain ⟨l, us, ys, rfl, rfl, q1, q2, q3, q4⟩ := h4
        exact ⟨l, us, rfl, q2, q3, del_at q1, q4, fun _ => q1, fun z => nomatch z⟩
      | v =>
        rcases h4 with h4 | ⟨l, us, ys, rfl, rfl, q1, q2⟩
        · have hd := h4
          cases h4 with
          | lst q1 q2 =>
            rename_i l us ys
            refine ⟨l, us, rfl, ?_, q2⟩
            rcases q1 with (q1 | ⟨o, q1⟩) | q1
            · exact .inl (.inl ((del_ne fun z => by rw [(mu l z).1] at q1; cases q1).trans (gh _ _ q1)))
            · exact .inl (.inr ⟨o, (del_ne fun z => by rw [(mu l z).1] at q1; cases q1).trans (gh _ _ q1)⟩)
            · exact .inr q1
          | _ => exact ⟨_, rfl, hd⟩
        · exact ⟨l, us, rfl, q1, q2⟩
    · exact True.intro
  · rcases get a1 with ⟨k, v, x, h1, h2, h3, h4⟩ | z
    · rcases get b1 with ⟨k', v', x', i1, i2, i3, i4⟩ | z
      · subst h3
        subst i3
        obtain rfl := svK_ow ys
        obtain rfl := svK_ow ys'
        exact oneM_eq one h1 i1
      · subst z
        cases ys'
    · subst z
      cases ys
theorem mu_end {F : Fr} {G' H' : Hp} {l : Addr} (hM : Mu = some l) : ∀ {ks : List Pk} {Γ' : En} {σ' : St} {ms : List D}, hasM ks = true → Rel K F G' Mu Γ' σ' H' → muOf ks Γ' = some ms → ∃ us, H' l = some (.lst us) ∧ DqAll K G' us ms := by
  have key : ∀ {ks : List Pk} {g : En} {ms : List D}, hasM ks = true → muOf ks g = some ms → ∃ i : Nat, g[i]? = some (SV.own true ms) := by
    intro ks
    induction ks with
    | nil => intro g ms h; cases h
    | cons k ks ih =>
      intro g ms h e
      cases g with
      | nil => cases k <;> cases e
      | cons sv g =>
        cases k with
        | m =>
          cases sv with
          | own b ys =>
            cases b with
            | true =>
              cases e
              exact ⟨0, rfl⟩
            | false => cases e
          | _ => cases e
        | v =>
          obtain ⟨i, hi⟩ := ih h (show muOf ks g = some ms from e)
          exact ⟨i + 1, by simpa using hi⟩
        | p =>
          obtain ⟨i, hi⟩ := ih h (show muOf ks g = some ms from e)
          exact ⟨i + 1, by simpa using hi⟩
  intro ks Γ' σ' ms h R e
  obtain ⟨i, hi⟩ := key h e
  obtain ⟨l', us, _, h2, h3, _, _, h6, _⟩ := R.owned hi
  have := h6 rfl
  rw [hM] at this
  cases this
  exact ⟨us, h2, h3⟩
theorem post_of {G' H' : Hp} {ks : List Pk} {Γ' : En} {σ' : St} {ms : List D} (hm : hasM ks = false → Mu = none) (g : Same G G') (R : Rel K (frD G H Mu) G' Mu Γ' σ' H') (e : muOf ks Γ' = some ms) : Post K G H Mu G' H' ms where
  g := g
  gh := R.gh
  fr := R.fh
  keep := fun b h1 h2 => by
    by_cases hb : Mu = some b
    · exact (R.mu b hb).2.1
    · exact R.lk b ⟨by rw [del_ne hb]; exact h1, h2⟩
  mu := fun l h => by
    cases hh : hasM ks with
    | false =>
      rw [hm hh] at h
      cases h
    | true => exact mu_end h hh R e
end
section
variable {P : Program} {w : World} {K : PySem.W.Frag} {mg : Str → Option Value} {base : Heap}
/-- a def by its body -/
theorem fn_ok {x qual : Str} {stm : Stmt} {f : Addr} {fd : FuncData} {N ps : List Str} {k : Nat} {ks : List Pk} {m : M Fl} (Fn : Fun K x qual stm f fd) (S : FnScope N ps (defScope stm)) (hl : ks.length = ps.length) (one : oneM ks = true)
    (body : ∀ (cdv : Value) (A : Around) (outer : List Env) (s : Shared) (H : Hp) (E : XK), Room k (A.deeper (envOfC qual (defScope stm) s.heap.objs.size f cdv)) → DSs (cxOf (L2.CX P w) P w K mg base N qual (defScope stm) f cdv A outer s H E) (defBody stm) m) :
    FnOk P w K mg base (L2.CX P w) (k + 1) f fd ps (spF K mg ks (runF N.length ks m)) := by
  have hpl : ps.length ≤ N.length := by
    have := congrArg List.length S.pre
    rw [List.length_take] at this
    omega
  refine Fn.okX S (fun vs H Q E ⟨G, Mu, xs, _, _, _, a, _⟩ => by rw [(args_len a).1, hl]) fun cdv A outer s H vs Q E hr ⟨G, Mu, xs, gh, mu, hm, a, q⟩ => ?_
  refine ⟨_, body cdv A outer s H E hr (fun cls d _ H => E cls d H) (takes_of rfl rfl rfl rfl), frD G H Mu, G, Mu, start0 N.length ks xs, rel_start gh mu a one (by omega), ?_⟩
  unfold runF at q
  have ret : ∀ {r : Rt} {Γ' : En}, outP K mg G H Mu Q E (outM ks r Γ') → ∀ v σ' H' G', Same G G' → Rel K (frD G H Mu) G' Mu Γ' σ' H' → rhoT K (frD G H Mu) G' Mu Γ' σ' H' r v → Q v H' := fun {r Γ'} q v σ' H' G' g R h => by
    unfold outM at q
    cases e : muOf ks Γ' with
    | none => rw [e] at q; exact q.elim
    | some ms =>
      rw [e] at q
      refine q v H' G' (post_of hm g R e) ?_
      cases r with
      | d x => exact h
      | own ys =>
        obtain ⟨l, us, rfl, h1, h2, h3, h4, h5, _⟩ := h
        exact ⟨l, us, rfl, h1, h2, by rw [show (frD G H Mu) l = del H Mu l from rfl, del_ne h5] at h3; exact h3, h4⟩
  cases e : m (start0 N.length ks xs) with
  | bad => rw [e] at q; exact q.elim
  | ok fl Γ' =>
    rw [e] at q
    cases fl with
    | nx => exact fun σ' H' G' g R => ret q .non σ' H' G' g R .non
    | rt r => exact fun v σ' H' G' g R h => ret q v σ' H' G' g R h
    | bk => exact q.elim
    | ct => exact q.elim
  | ex c z Γ' =>
    rw [e] at q
    intro C ad v σ' H' G' h1 g R h2 h3
    dsimp only at q
    cases e2 : muOf ks Γ' with
    | none => rw [e2] at q; exact q.elim
    | some ms =>
      rw [e2] at q
      exact q C ad v H' G' h1 (post_of hm g R e2) h2 h3
end

def mIx : List Pk → List Rs → Option Nat
  | .m :: _, .sl i :: _ => some i
  | _ :: ks, _ :: rs => mIx ks rs
  | _, _ => none
def argD (g : En) (mi : Option Nat) : List Pk → List Rs → Option (List D)
  | [], [] => some []
  | k :: ks, r :: rs => match argD g mi ks rs with
    | none => none
    | some xs => match k, r with
      | .m, .sl i => match g[i]? with
        | some (.own _ ys) => if mi = some i then some (.list ys :: xs) else none
        | _ => none
      | .v, .d x => some (x :: xs)
      | .v, .sl i => if mi = some i then none else match vl g (.sl i) with
        | some x => some (x :: xs)
        | none => none
      | .p, .d x => some (x :: xs)
      | _, _ => none
  | _, _ => none
def putM (mi : Option Nat) (ms : List D) (g : En) : En := match mi with
  | none => g
  | some i => match g[i]? with
    | some (.own b _) => g.set i (.own b ms)
    | _ => g
def callM (ks : List Pk) (φ : List D → Out) (rs : List Rs) : M Rt := fun g => match argD g (mIx ks rs) ks rs with
  | none => .bad
  | some xs => match φ xs with
    | .bad => .bad
    | .ret r ms => .ok r (putM (mIx ks rs) ms g)
    | .ex c x ms => .ex c x (putM (mIx ks rs) ms g)
section
variable {K : PySem.W.Frag} {F : Fr} {G H : Hp} {Mu : Option Addr} {Γ : En} {σ : St}
def muA (σ : St) (mi : Option Nat) : Option Addr := match mi with
  | none => none
  | some i => match σ[i]? with
    | some (some (.ref l)) => some l
    | _ => none
theorem muA_own {mi : Option Nat} (hmi : ∀ i, mi = some i → ∃ b ys, Γ[i]? = some (.own b ys)) {l : Addr} (h : muA σ mi = some l) : ∃ j, mi = some j ∧ Owns Γ σ j l := by
  unfold muA at h
  split at h
  · cases h
  · rename_i j
    split at h
    · rename_i l' hl
      cases h
      obtain ⟨b, ys, e⟩ := hmi j rfl
      exact ⟨j, rfl, _, e, rfl, hl⟩
    · cases h
theorem argsM (R : Rel K F G Mu Γ σ H) {mi : Option Nat} (hmi : ∀ i, mi = some i → ∃ b ys, Γ[i]? = some (.own b ys)) : ∀ {ks : List Pk} {rs : List Rs} {vs : List V} {xs : List D}, RsAll K G σ rs vs → argD Γ mi ks rs = some xs → ArgsR K G H (muA σ mi) ks vs xs
  | [], [], _, _, h, e => by
    cases e
    exact ⟨h, rfl⟩
  | [], _ :: _, _, _, _, e => by cases e
  | _ :: _, [], _, _, _, e => by cases e
  | k :: ks, r :: rs, _, _, h, e => by
    obtain ⟨v, us, rfl, h1, h2⟩ := h
    unfold argD at e
    split at e
    · cases e
    · rename_i ys e1
      have ih := argsM R hmi h2 e1
      split at e
      · rename_i i
        split at e
        · rename_i b zs hg
          split at e
          · rename_i hm
            cases e
            obtain ⟨l, ws, k1, k2, k3, k4, k5, _⟩ := R.owned hg
            have h1' : σ[i]? = some (some v) := h1
            rw [h1'] at k1
            cases k1
            refine ⟨_, us, _, ys, rfl, rfl, ⟨l, ws, zs, rfl, rfl, ?_, k2, k3, k5⟩, ih⟩
            rw [hm]
            unfold muA
            dsimp only
            rw [h1']
          · cases e
        · cases e
      · rename_i x
        cases e
        exact ⟨v, us, x, ys, rfl, rfl, .inl h1, ih⟩
      · rename_i i
        split at e
        · cases e
        · rename_i hm
          have h1' : σ[i]? = some (some v) := h1
          split at e
          · rename_i x hx
            cases e
            refine ⟨v, us, x, ys, rfl, rfl, ?_, ih⟩
            unfold vl at hx
            dsimp only at hx
            split at hx
            · rename_i y hg
              cases hx
              obtain ⟨v', w1, w2⟩ := R.data hg
              rw [h1'] at w1
              cases w1
              exact .inl w2
            · rename_i zs hg
              cases hx
              obtain ⟨l, ws, w1, w2, w3⟩ := R.arg hg
              rw [h1'] at w1
              cases w1
              refine .inr ⟨l, ws, zs, rfl, rfl, ?_, w3⟩
              have hne : ∀ o, F.a l = some o → muA σ mi ≠ some l := fun o w z => by
                obtain ⟨j, _, oj⟩ := muA_own hmi z
                have := F.af _ _ w
                rw [(R.there oj).1] at this
                cases this
              rcases w2 with (w2 | ⟨o, w2⟩) | w2
              · exact .inl (.inl ((del_ne (hne _ w2)).trans (R.fh _ _ (F.af _ _ w2))))
              · exact .inl (.inr ⟨o, (del_ne (hne _ w2)).trans (R.fh _ _ (F.af _ _ w2))⟩)
              · exact .inr w2
            · rename_i b zs hg
              cases hx
              obtain ⟨l, ws, w1, w2, w3, _, _, _, _, ow⟩ := R.owned hg
              rw [h1'] at w1
              cases w1
              refine .inr ⟨l, ws, zs, rfl, rfl, .inl (.inl ((del_ne fun z => ?_).trans w2)), w3⟩
              obtain ⟨j, hj, oj⟩ := muA_own hmi z
              exact hm (by rw [hj, R.sep i j l ow oj])
            · cases hx
          · cases e
      · rename_i x
        cases e
        exact ⟨v, us, x, ys, rfl, rfl, h1, ih⟩
      · cases e
theorem mIx_no : ∀ {ks : List Pk} {rs : List Rs}, hasM ks = false → mIx ks rs = none
  | [], _, _ => by unfold mIx; rfl
  | .m :: _, _, h => by cases h
  | .v :: ks, [], _ => rfl
  | .p :: ks, [], _ => rfl
  | .v :: ks, r :: rs, h => mIx_no (ks := ks) (rs := rs) h
  | .p :: ks, r :: rs, h => mIx_no (ks := ks) (rs := rs) h
theorem mIx_own {g : En} {mi : Option Nat} : ∀ {ks : List Pk} {rs : List Rs} {xs : List D}, argD g mi ks rs = some xs → ∀ i, mIx ks rs = some i → ∃ b ys, g[i]? = some (.own b ys)
  | [], _, _, _, _, h => by
    unfold mIx at h
    cases h
  | k :: ks, [], _, e, _, h => by
    cases e
  | k :: ks, r :: rs, xs, e, i, h => by
    unfold argD at e
    split at e
    · cases e
    · rename_i ys e1
      split at e
      · rename_i j
        cases h
        split at e
        · rename_i b zs hg
          exact ⟨b, zs, hg⟩
        · cases e
      · exact mIx_own e1 i h
      · exact mIx_own e1 i h
      · exact mIx_own e1 i h
      · cases e
theorem putM_len {mi : Option Nat} {ms : List D} : (putM mi ms Γ).length = Γ.length := by
  unfold putM
  split
  · rfl
  · split
    · rw [List.length_set]
    · rfl
/-- behind a call -/
theorem Rel.called {G' H' : Hp} {ms : List D} {mi : Option Nat} (R : Rel K F G Mu Γ σ H) (hmi : ∀ i, mi = some i → ∃ b ys, Γ[i]? = some (.own b ys)) (p : Post K G H (muA σ mi) G' H' ms) : Rel K F G' Mu (putM mi ms Γ) σ H' := by
  have same : ∀ {l : Addr} {o : HO}, H l = some o → muA σ mi ≠ some l → H' l = some o := fun {l o} h n => p.fr _ _ ((del_ne n).trans h)
  have at_own : ∀ {i : Nat} {l : Addr}, Owns Γ σ i l → mi ≠ some i → muA σ mi ≠ some l := fun {i l} h n z => by
    obtain ⟨j, hj, oj⟩ := muA_own hmi z
    exact n (by rw [hj, R.sep i j l h oj])
  have own' : ∀ {i : Nat} {l : Addr}, Owns (putM mi ms Γ) σ i l → Owns Γ σ i l := fun {i l} ⟨m, h1, xs, h2⟩ => by
    unfold putM at h1
    split at h1
    · exact ⟨m, h1, xs, h2⟩
    · rename_i j _
      split at h1
      · rename_i b ys hg
        by_cases e : j = i
        · subst e
          exact ⟨_, hg, rfl, h2⟩
        · rw [List.getElem?_set_ne e] at h1
          exact ⟨m, h1, xs, h2⟩
      · exact ⟨m, h1, xs, h2⟩
  refine ⟨fun b o h => same (R.fh b o h) fun z => ?_, fun b h => ?_, p.gh, fun l h => ?_, by rw [putM_len, R.len], fun i sv e => ?_, fun i j l a b => R.sep i j l (own' a) (own' b)⟩
  · obtain ⟨j, _, oj⟩ := muA_own hmi z
    rw [(R.there oj).1] at h
    cases h
  · refine p.keep b (fun z => ?_) (R.lk b h)
    obtain ⟨o, w⟩ := Option.ne_none_iff_exists'.mp (F.kf b h)
    rw [R.fh b o w] at z
    cases z
  · obtain ⟨m1, m2, m3⟩ := R.mu l h
    refine ⟨m1, p.keep l m3 m2, ?_⟩
    by_cases hl : muA σ mi = some l
    · obtain ⟨us, h1, _⟩ := p.mu l hl
      rw [h1]
      exact fun z => nomatch z
    · obtain ⟨o, w⟩ := Option.ne_none_iff_exists'.mp m3
      rw [same w hl]
      exact fun z => nomatch z
  · have old : Γ[i]? = some sv → mi ≠ some i → SlotRel K F G' H' Mu sv (σ[i]?.join) := fun e hn => by
      have q := R.sl i sv e
      cases sv with
      | u => exact True.intro
      | d x =>
        obtain ⟨v, h1, h2⟩ := q
        exact ⟨v, h1, dp_mono p.g _ _ h2⟩
      | a xs =>
        obtain ⟨l, us, h1, h2, h3⟩ := q
        exact ⟨l, us, h1, h2, dpAll_mono p.g _ _ h3⟩
      | own m xs =>
        obtain ⟨l, us, h1, h2, h3, h4, h5, h6, h7⟩ := q
        have ow : Owns Γ σ i l := ⟨_, e, rfl, join_some h1⟩
        exact ⟨l, us, h1, same h2 (at_own ow hn), dpAll_mono p.g _ _ h3, h4, p.keep l (by rw [h2]; exact fun z => nomatch z) h5, h6, h7⟩
      | dk ds =>
        obtain ⟨l, es, h1, h2, h3, h4, h5, h6⟩ := q
        have ow : Owns Γ σ i l := ⟨_, e, rfl, join_some h1⟩
        exact ⟨l, es, h1, same h2 (at_own ow hn), dkAll_up p.g h3, h4, p.keep l (by rw [h2]; exact fun z => nomatch z) h5, h6⟩
    unfold putM at e
    split at e
    · exact old e (fun z => nomatch z)
    · rename_i j
      obtain ⟨b, ys, hg⟩ := hmi j rfl
      rw [hg] at e
      dsimp only at e
      by_cases hji : j = i
      · subst hji
        rw [List.getElem?_set_self (List.getElem?_eq_some_iff.mp hg).1] at e
        cases e
        obtain ⟨l, us, h1, h2, h3, h4, h5, h6, h7, ow⟩ := R.owned hg
        have hl : muA σ (some j) = some l := by
          unfold muA
          dsimp only
          rw [h1]
        obtain ⟨ws, w1, w2⟩ := p.mu l hl
        exact ⟨l, ws, by rw [h1]; rfl, w1, w2, h4, p.keep l (by rw [h2]; exact fun z => nomatch z) h5, h6, h7⟩
      · rw [List.getElem?_set_ne hji] at e
        exact old e (fun z => hji (by cases z; rfl))
end
def DR (X : Cx) (e : Expr) (m : M Rt) : Prop := ∀ W, Takes X W → PE X e (zt X W rhoT m)
section
variable {X : Cx} {W : WX} {σ : St} {F : Fr} {G H : Hp} {Mu : Option Addr} {Γ : En} {Q : VK}
theorem call_end {ks : List Pk} {φ : List D → Out} {rs : List Rs} {vs : List V} (R : Rel X.K F G Mu Γ σ H) (h : RsAll X.K G σ rs vs) (q : zpost X W σ rhoT F G Mu Q (callM ks φ rs Γ)) : spF X.K X.mg ks φ vs H Q (WE W σ) := by
  unfold callM at q
  split at q
  · exact q.elim
  · rename_i xs e
    have hmi := mIx_own e
    have ar := argsM R hmi h e
    refine ⟨G, muA σ (mIx ks rs), xs, R.gh, fun l hl => ?_, fun hm => by rw [mIx_no hm]; rfl, ar, ?_⟩
    · obtain ⟨j, _, oj⟩ := muA_own hmi hl
      obtain ⟨_, h2, us, h3⟩ := R.there oj
      exact ⟨h2, by rw [h3]; exact fun z => nomatch z⟩
    · split at q
      · exact q.elim
      · rename_i r ms e2
        rw [e2]
        intro v H' G' p hr
        refine q v H' G' p.g (R.called hmi p) ?_
        cases r with
        | d x => exact hr
        | own ys =>
          obtain ⟨l, us, rfl, h1, h2, h3, h4⟩ := hr
          have R' := R.called hmi p
          refine ⟨l, us, rfl, h1, h2, R.fh.free h3, h4, fun z => (R.mu l z).2.2 h3, fun i hi => ?_⟩
          obtain ⟨m, w1, ws, w2⟩ := hi
          have : ∃ sv : SV, Γ[i]? = some sv ∧ sv.ow = true := by
            unfold putM at w1
            split at w1
            · exact ⟨m, w1, ws⟩
            · rename_i j _
              split at w1
              · rename_i b zs hg
                by_cases hji : j = i
                · subst hji
                  exact ⟨_, hg, rfl⟩
                · rw [List.getElem?_set_ne hji] at w1
                  exact ⟨m, w1, ws⟩
              · exact ⟨m, w1, ws⟩
          obtain ⟨m', w3, ws'⟩ := this
          obtain ⟨_, _, us', w4⟩ := R.there (i := i) (l := l) ⟨m', w3, ws', w2⟩
          rw [h3] at w4
          cases w4
      · rename_i c x ms e2
        rw [e2]
        exact fun C a v H' G' h1 p h2 h3 => q C a v H' G' h1 p.g (R.called hmi p) h2 h3
end
end Z

set_option Elab.async false
set_option linter.all false
set_option maxRecDepth 100000
set_option autoImplicit false
set_option maxHeartbeats 1000000
namespace Z
open PySem PySem.Spec PyProof.Rows L2

structure FnP (P : Program) (w : World) (K : PySem.W.Frag) (mg : Str → Option Value) (base : Heap) (x : Str) (st : Stmt) (k : Nat) (ps : List Str) (ks : List Pk) (φ : List D → Out) : Prop where
  ex : ∃ f fd qual, Fun K x qual st f fd ∧ mg x = some (.ref f) ∧ FnOk P w K mg base (L2.CX P w) k f fd ps (spF K mg ks φ) ∧ Binds K fd ps []
theorem FnP.mono {P : Program} {w : World} {K : PySem.W.Frag} {mg : Str → Option Value} {base : Heap} {x : Str} {st : Stmt} {j k : Nat} {ps : List Str} {ks : List Pk} {φ : List D → Out} (F : FnP P w K mg base x st j ps ks φ) (h : j ≤ k) : FnP P w K mg base x st k ps ks φ := by
  obtain ⟨f, fd, qual, a, b, c, d⟩ := F.ex
  exact ⟨f, fd, qual, a, b, c.mono h, d⟩
/-- keywords, and positions ahead of them: how the values come to the parameters' order -/
def pick {α : Type} (pm : List Nat) (xs : List α) : List α := pm.filterMap (xs[·]?)
theorem vals_get : ∀ {vs : List V} {us : List Value} {i : Nat}, Vals vs us → (∃ v u, vs[i]? = some v ∧ us[i]? = some u ∧ RelV v u) ∨ (vs[i]? = none ∧ us[i]? = none)
  | _, _, _, .nil => .inr ⟨rfl, rfl⟩
  | _, _, 0, .cons a _ => .inl ⟨_, _, rfl, rfl, a⟩
  | _, _, i + 1, .cons _ b => by
    rcases vals_get (i := i) b with ⟨v, u, h1, h2, h3⟩ | ⟨h1, h2⟩
    · exact .inl ⟨v, u, by simpa using h1, by simpa using h2, h3⟩
    · exact .inr ⟨by simpa using h1, by simpa using h2⟩
theorem vals_pick {vs : List V} {us : List Value} (h : Vals vs us) : ∀ pm : List Nat, Vals (pick pm vs) (pick pm us)
  | [] => .nil
  | i :: pm => by
    unfold pick
    rcases vals_get (i := i) h with ⟨v, u, h1, h2, h3⟩ | ⟨h1, h2⟩
    · rw [List.filterMap_cons_some h1, List.filterMap_cons_some h2]
      exact .cons h3 (vals_pick h pm)
    · rw [List.filterMap_cons_none h1, List.filterMap_cons_none h2]
      exact vals_pick h pm
theorem rsAll_len {K : PySem.W.Frag} {G : Hp} {σ : St} : ∀ {rs : List Rs} {vs : List V}, RsAll K G σ rs vs → rs.length = vs.length
  | [], _, h => by rw [show _ = [] from h]; rfl
  | r :: rs, _, h => by
    obtain ⟨v, us, rfl, _, h2⟩ := h
    rw [List.length_cons, List.length_cons, rsAll_len h2]
theorem rsAll_get {K : PySem.W.Frag} {G : Hp} {σ : St} : ∀ {rs : List Rs} {vs : List V} {i : Nat}, RsAll K G σ rs vs → (∃ r v, rs[i]? = some r ∧ vs[i]? = some v ∧ (match r with | .d x => Dq K G v x | .sl i => σ[i]? = some (some v))) ∨ (rs[i]? = none ∧ vs[i]? = none)
  | [], _, _, h => by
    rw [show _ = [] from h]
    exact .inr ⟨rfl, rfl⟩
  | r :: rs, _, 0, h => by
    obtain ⟨v, us, rfl, h1, _⟩ := h
    exact .inl ⟨r, v, rfl, rfl, h1⟩
  | r :: rs, _, i + 1, h => by
    obtain ⟨v, us, rfl, _, h2⟩ := h
    rcases rsAll_get (i := i) h2 with ⟨r', v', a, b, c⟩ | ⟨a, b⟩
    · exact .inl ⟨r', v', by simpa using a, by simpa using b, c⟩
    · exact .inr ⟨by simpa using a, by simpa using b⟩
theorem rsAll_pick {K : PySem.W.Frag} {G : Hp} {σ : St} {rs : List Rs} {vs : List V} (h : RsAll K G σ rs vs) : ∀ pm : List Nat, RsAll K G σ (pick pm rs) (pick pm vs)
  | [] => rfl
  | i :: pm => by
    unfold pick
    rcases rsAll_get (i := i) h with ⟨r, v, h1, h2, h3⟩ | ⟨h1, h2⟩
    · rw [List.filterMap_cons_some h1, List.filterMap_cons_some h2]
      exact ⟨v, _, rfl, h3, rsAll_pick h pm⟩
    · rw [List.filterMap_cons_none h1, List.filterMap_cons_none h2]
      exact rsAll_pick h pm
theorem rsAll_append {K : PySem.W.Frag} {G : Hp} {σ : St} : ∀ {rs : List Rs} {vs : List V} {rs' : List Rs} {vs' : List V}, RsAll K G σ rs vs → RsAll K G σ rs' vs' → RsAll K G σ (rs ++ rs') (vs ++ vs')
  | [], _, _, _, h, k => by
    rw [show _ = [] from h]
    exact k
  | r :: rs, _, _, _, h, k => by
    obtain ⟨v, us, rfl, h1, h2⟩ := h
    exact ⟨v, us ++ _, rfl, h1, rsAll_append h2 k⟩
def callP (ks : List Pk) (φ : List D → Out) (m : M (List Rs)) : M Rt := bnd m (callM ks φ)
def callK (ks : List Pk) (φ : List D → Out) (pm : List Nat) (m n : M (List Rs)) : M Rt := bnd m fun rs => bnd n fun rs' => callM ks φ (pick pm (rs ++ rs'))
/-- the values of keywords -/
def DKs (X : Cx) (kws : List Keyword) (m : M (List Rs)) : Prop := ∀ W, Takes X W → PK X kws (zt X W rhoRs m)
theorem pk_imp {X : Cx} {kws : List Keyword} {t t' : TA} (p : PK X kws t) (h : ∀ σ H Q, t' σ H Q → t σ H Q) : PK X kws t' := ⟨fun pos pins s σ H Q I q => p.run pos pins s σ H Q I (h σ H Q q)⟩
section
variable {X : Cx} {kws : List Keyword} {nm : Option Str} {e : Expr} {es : List Expr} {kpos p pos : Pos} {x : Str} {st : Stmt} {k : Nat} {ps : List Str} {ks : List Pk} {φ : List D → Out}
theorem dks_nil : DKs X [] vNil := fun W _ => pk_imp pk_nil fun σ H Q ⟨F, G, Mu, Γ, R, p⟩ => zpost_ok R (show rhoRs _ _ _ _ _ _ _ [] [] from rfl) p
theorem dks_cons {m : M Rs} {n : M (List Rs)} (h : DV X e m) (k : DKs X kws n) : DKs X (⟨nm, e, kpos⟩ :: kws) (vCons m n) := fun W tk => by
  refine pk_imp (pk_cons (h W tk) (k W tk)) fun σ H Q p => ?_
  refine (zt_bnd2 (ρ := rhoR) (ρ' := rhoRs) stR p).imp fun v H1 q => q.imp fun vs H2 ⟨x, xs, F, G, Mu, Γ, R, h1, h2, q2⟩ => ?_
  exact zpost_ok R (show rhoRs _ _ _ _ _ _ _ (x :: xs) (v :: vs) from ⟨v, vs, rfl, h1, h2⟩) q2
theorem dr_fn (F : FnP X.prog X.w X.K X.mg X.base x st k ps ks φ) (hr : Room k X.A) (hg : Gl X x) {m : M (List Rs)} (ha : DVs X (e :: es) m)
    (hdb : (x == ("__debug__" : Str)) = false := by decide) (he : starEach (e :: es) X.env = (false, eval e X.env) :: starEach es X.env := by rfl) (hpl : (backTo pos (starEach es X.env)).any (·.1) = false := by rfl) :
    DR X (.Call (.Name x p) (e :: es) [] pos) (callP ks φ m) := fun W tk => by
  obtain ⟨f, fd, qual, f1, f2, f3, f4⟩ := F.ex
  refine pe_imp (pe_callS f3 hr hg f2 f1.kp f4 (passAt tk) (ha W tk) hdb he hpl) fun σ H Q p => ?_
  exact (zt_bnd (ρ := rhoRs) p).imp fun vs H1 ⟨rs, F, G, Mu, Γ, R, h1, q⟩ => call_end R h1 q
theorem dr_fn0 (F : FnP X.prog X.w X.K X.mg X.base x st k ps ks φ) (hr : Room k X.A) (hg : Gl X x) (hdb : (x == ("__debug__" : Str)) = false := by decide) :
    DR X (.Call (.Name x p) [] [] pos) (callP ks φ vNil) := fun W tk => by
  obtain ⟨f, fd, qual, f1, f2, f3, f4⟩ := F.ex
  refine ⟨fun pins s σ H Q I ⟨F, G, Mu, Γ, R, q⟩ => ?_⟩
  refine wpAny_Call_Name_kw (ld_glob I hg f2 ?_ hdb)
  exact PySem.W.callWith_K0 I.kIn f1.kp (run_fnS (us := []) f3 hr f4 (passAt tk σ) I .nil (call_end R (rs := []) (vs := []) rfl q))
theorem run_kw {W : WX} {pins : List (Addr × Obj)} {σ : St} {H : Hp} {s : Shared} {Q : VK} {f : Addr} {fd : FuncData} {us ws : List Value} {vs zs : List V} {kn : List Str} {pm : List Nat} {sp : Sp} (F : FnOk X.prog X.w X.K X.mg X.base (L2.CX X.prog X.w) k f fd ps sp) (hr : Room k X.A) (tk : Takes X W)
    (hb : BindsTo s fd ⟨us, kn.zip ws⟩ (ps.zip (pick pm (us ++ ws)))) (I : Inv X pins σ H s) (r : Vals vs us) (rz : Vals zs ws) (h : sp (pick pm (vs ++ zs)) H Q (WE W σ)) : wpAny (model X.prog X.w) X.A (call (.ref f) us (kn.zip ws)) (EP X pins σ Q) X.xe s := by
  refine wpAny_call (codeAny_mono (F.run X.A X.stack s H ⟨us, kn.zip ws⟩ _ _ Q (WE W σ) hr I.env0 hb (vals_pick (r.append rz) pm) h) fun r s' hq => ?_)
  cases r with
  | error e => exact passAt tk σ pins H s e s' I hq
  | ok fl =>
    cases fl with
    | ret u => exact I.after hq
    | next => exact False.elim hq
    | brk => exact False.elim hq
    | cont => exact False.elim hq
theorem dr_fnK0 (F : FnP X.prog X.w X.K X.mg X.base x st k ps ks φ) (hr : Room k X.A) (hg : Gl X x) (kn : List Str) (pm : List Nat) {n : M (List Rs)} (hkw : DKs X kws n)
    (hb : ∀ (qual : Str) (kV doc pm' : Value) (an : Option Addr) (cdv ct : Value) (ws : List Value), ws.length = kn.length → bindArgs (PySem.W.fnOf x qual (defArgs st) (defBody st) (defScope st) .none kV doc pm' an cdv ct) ⟨[], kn.zip ws⟩ = pure (ps.zip (pick pm ([] ++ ws))))
    (hall : (backToKw pos (keywordEach kws X.env)).all (·.1.isSome) = true := by rfl) (hks : (backToKw pos (keywordEach kws X.env)).filterMap (·.1) = kn := by rfl)
    (hln : ∀ W σ H Q, Takes X W → zt X W rhoRs n σ H Q → zt X W rhoRs n σ H fun vs H' => vs.length = kn.length ∧ Q vs H')
    (hdb : (x == ("__debug__" : Str)) = false := by decide)
    (hpl : ((backTo pos (starEach [] X.env)).any (·.1) || (backToKw pos (keywordEach kws X.env)).any (·.1.isNone)) = false := by rfl) :
    DR X (.Call (.Name x p) [] kws pos) (callK ks φ pm vNil n) := fun W tk => by
  obtain ⟨f, fd, qual, f1, f2, f3, f4⟩ := F.ex
  obtain ⟨oc, od, kV, doc, pm', an, cdv, ct, osl, efd, lk, hcd⟩ := f1.ex
  refine ⟨fun pins s σ H Q I q => ?_⟩
  refine wpAny_Call_Name_kw (ld_glob I hg f2 ?_ hdb)
  have q1 : zt X W rhoRs n σ H fun zs H2 => spF X.K X.mg ks φ (pick pm ([] ++ zs)) H2 Q (WE W σ) :=
    (zt_bnd (ρ := rhoRs) (m := n) (f := fun rs' => callM ks φ (pick pm ([] ++ rs'))) q).imp fun zs H2 ⟨rs', F, G, Mu, Γ, R, h2, q2⟩ => call_end R (rsAll_pick (rsAll_append (rs := []) (vs := []) rfl h2) pm) q2
  refine PySem.W.callWith_KW0 (h₀ := X.base) I.ok.mod.kin f1.kp hall ?_ hpl
  refine thn ((hkw W tk).run pos pins s σ H _ I (hln W σ H _ tk q1)) fun ws s2 ⟨zs, H2, I2, rz, l2, q2⟩ => ⟨I2.kIn, ?_⟩
  rw [hks]
  exact run_kw (us := []) (vs := []) f3 hr tk (.of_eq (by rw [efd]; exact hb qual kV doc pm' an cdv ct ws (by rw [← rz.length, l2]))) I2 .nil rz q2
end
/-- how many values a list of arguments gives -/
def Len (n : Nat) (m : M (List Rs)) : Prop := ∀ g rs g', m g = .ok rs g' → rs.length = n
theorem len_nil : Len 0 vNil := fun g rs g' e => by
  cases e
  rfl
theorem len_cons {m : M Rs} {k : M (List Rs)} {n : Nat} (h : Len n k) : Len (n + 1) (vCons m k) := fun g rs g' e => by
  unfold vCons bnd at e
  cases e1 : m g with
  | bad => rw [e1] at e; cases e
  | ex c x g1 => rw [e1] at e; cases e
  | ok x g1 =>
    rw [e1] at e
    dsimp only at e
    cases e2 : k g1 with
    | bad => rw [e2] at e; cases e
    | ex c x g1 => rw [e2] at e; cases e
    | ok xs g2 =>
      rw [e2] at e
      cases e
      rw [List.length_cons, h _ _ _ e2]
theorem len_zt {X : Cx} {W : WX} {σ : St} {H : Hp} {m : M (List Rs)} {n : Nat} {Q : List V → Hp → Prop} (h : Len n m) (p : zt X W rhoRs m σ H Q) : zt X W rhoRs m σ H fun vs H' => vs.length = n ∧ Q vs H' := by
  obtain ⟨F, G, Mu, Γ, R, q⟩ := p
  refine ⟨F, G, Mu, Γ, R, ?_⟩
  cases e : m Γ with
  | bad => rw [e] at q; exact q
  | ex c x Γ1 => rw [e] at q; exact q
  | ok rs Γ1 =>
    rw [e] at q
    exact fun vs H1 G1 k1 R1 k2 => ⟨by rw [← rsAll_len k2, h Γ rs Γ1 e], q vs H1 G1 k1 R1 k2⟩

def rtD : Rt → M D
  | .d x => rt x
  | .own xs => rt (.list xs)
def rtO : Rt → M (List D)
  | .own xs => rt xs
  | _ => fun _ => .bad
def rD (m : M Rt) : M D := bnd m rtD
def rO (m : M Rt) : M (List D) := bnd m rtO
def msR (m : M Rt) (n : M (List Rt)) : M (List Rt) := bnd m fun r => bnd n fun rs => rt (r :: rs)
def sExprR (m : M Rt) : M Fl := bnd m fun _ => sNx
def sRetR (m : M Rt) : M Fl := bnd m fun r => fun g => .ok (.rt r) g
def sSetR (i : Nat) (m : M Rt) : M Fl := bnd m fun r => fun g => match r with
  | .d x => .ok .nx (g.set i (.d x))
  | .own xs => .ok .nx (g.set i (.own false xs))
section
variable {X : Cx} {e : Expr} {es : List Expr} {pos pos' : Pos} {x : Str} {i : Nat}
theorem dp_ofR {m : M Rt} (h : DR X e m) : DP X e (rD m) := fun W tk => pe_imp (h W tk) fun σ H Q p => (zt_bnd (ρ := rhoT) p).imp fun v H1 ⟨r, F, G, Mu, Γ, R, h1, q⟩ => by
  cases r with
  | d x => exact zpost_ok R (show rhoD _ _ _ _ _ _ _ x v from h1) q
  | own xs =>
    obtain ⟨G', k1, R', k2⟩ := R.keep (show rhoO _ _ _ _ _ _ _ xs v from h1)
    exact q v H1 G' k1 R' k2
theorem do_ofR {m : M Rt} (h : DR X e m) : DO X e (rO m) := fun W tk => pe_imp (h W tk) fun σ H Q p => (zt_bnd (ρ := rhoT) p).imp fun v H1 ⟨r, F, G, Mu, Γ, R, h1, q⟩ => by
  cases r with
  | d x => exact q.elim
  | own xs => exact zpost_ok R (show rhoO _ _ _ _ _ _ _ xs v from h1) q
theorem dms_r {m : M Rt} {n : M (List Rt)} (h : DR X e m) (k : DMs X es n) (hs : starEach (e :: es) X.env = (false, eval e X.env) :: starEach es X.env := by rfl) : DMs X (e :: es) (msR m n) := fun W tk => by
  refine pa_imp (pa_cons (h W tk) (k W tk) hs) fun σ H Q p => ?_
  refine (zt_bnd (ρ := rhoT) p).imp fun v H1 ⟨r, F, G, Mu, Γ, R, h1, q⟩ => ?_
  cases r with
  | d x =>
    refine ⟨F, G, Mu, Γ, R, ?_⟩
    unfold bnd at q
    cases e1 : n Γ with
    | bad => rw [e1] at q; exact q
    | ex c y Γ1 => rw [e1] at q; exact q
    | ok rs Γ1 =>
      rw [e1] at q
      exact fun vs H2 G2 k1 R2 k2 => q (v :: vs) H2 G2 k1 R2 ⟨v, vs, rfl, dp_mono k1 _ _ h1, k2⟩
  | own xs =>
    obtain ⟨l, us, ev, o1, o2, o3, o4, o5, o6⟩ := (show rhoO _ _ _ _ _ _ _ xs v from h1)
    subst ev
    refine ⟨F.lock l _ o3, G, Mu, Γ, R.lock o3 o1 o4 o5 o6, ?_⟩
    unfold bnd at q
    cases e1 : n Γ with
    | bad => rw [e1] at q; exact q
    | ex c x Γ1 =>
      rw [e1] at q
      exact fun C a v H' G' w1 w2 w3 => q C a v H' G' w1 w2 w3.unlock.1
    | ok rs Γ1 =>
      rw [e1] at q
      intro vs H2 G2 k1 R2 k2
      obtain ⟨R3, j1, j2, j3, j4⟩ := R2.unlock
      obtain ⟨a1, a2⟩ := rtAll_unlock k2
      exact q (.ref l :: vs) H2 G2 k1 R3 ⟨.ref l, vs, rfl, ⟨l, us, rfl, j1, dpAll_mono k1 _ _ o2, o3, j2, j3, j4⟩, a2, a1⟩
theorem ds_exprR {m : M Rt} (h : DR X e m) (hs : swapsWith e none pos.line X.env = pure false := by rfl) : DS X (.Expr e pos) (sExprR m) := fun W tk => ps_imp (ps_expr (h W tk) hs) fun D σ H p =>
  (st_bnd (ρ := rhoT) p).imp fun v H1 ⟨r, F, G, Mu, Γ, R, _, q⟩ => q σ H1 G (Same.refl _) R
theorem ds_retR {m : M Rt} (h : DR X e m) : DS X (.Return (some e) pos) (sRetR m) := fun W tk => ps_imp (ps_ret (h W tk)) fun D σ H p =>
  (st_bnd (ρ := rhoT) p).imp fun v H1 ⟨r, F, G, Mu, Γ, R, h1, q⟩ => q v σ H1 G (Same.refl _) R h1
theorem ds_setR {m : M Rt} (hN : X.N.Nodup) (hi : X.N[i]? = some x) (hx : Loc X.env.scope x) (h : DR X e m) (hs : swapsWith e (some (.Name x pos')) pos.line X.env = pure false := by rfl)
    (hf : X.fn x = true ∨ X.env.scope.names.lookup x = some .local := by first | exact .inl rfl | exact .inr rfl | assumption) : DS X (.Assign [.Name x pos'] e pos) (sSetR i m) := fun W tk =>
  ps_imp (ps_set hN hi hx (h W tk) hs hf) fun D σ H p => (st_bnd (ρ := rhoT) p).imp fun v H1 ⟨r, F, G, Mu, Γ, R, h1, q⟩ => by
    cases r with
    | d y => exact q _ H1 G (Same.refl _) (R.store (sv := .d y) ⟨v, rfl, h1⟩ fun z => nomatch z)
    | own xs => exact q _ H1 G (Same.refl _) (R.storeO h1 i)
end
end Z

set_option Elab.async false
set_option linter.all false
set_option maxRecDepth 100000
set_option autoImplicit false
set_option maxHeartbeats 1000000
namespace Z
open PySem PySem.Spec PyProof.Rows L2

def isTup1 : D → Bool
  | .tuple (_ :: _) => true
  | _ => false
def plainS : D → Bool
  | .none => false
  | .tuple _ => false
  | _ => true
def okSort (xs : List D) : Bool := (xs.all fun d => xs.all (PySem.W.alike d)) && (xs.all isTup1 || xs.all plainS) && decide (xs.length ≤ sizeLine) && xs.all fun d => decide (d.depth ≤ 30)
def sortD (xs : List D) : List D := xs.mergeSort (PySem.W.dataLe false id)
def fSorted : List D → Option (List D)
  | [.list xs] => if okSort xs then some (sortD xs) else none
  | [.tuple xs] => if okSort xs then some (sortD xs) else none
  | _ => none
theorem okSort_ok {xs : List D} (h : okSort xs = true) : PySem.W.AllAlike xs ∧ PySem.W.Sortable xs ∧ xs.length ≤ sizeLine ∧ ∀ d, d ∈ xs → d.depth ≤ 30 := by
  unfold okSort at h
  simp only [Bool.and_eq_true, decide_eq_true_eq, List.all_eq_true, Bool.or_eq_true] at h
  obtain ⟨⟨⟨h1, h2⟩, h3⟩, h4⟩ := h
  refine ⟨fun d hd d' hd' => h1 d hd d' hd', ?_, h3, h4⟩
  rcases h2 with h2 | h2
  · refine .inl fun d hd => ?_
    have := h2 d hd
    unfold isTup1 at this
    split at this
    · exact ⟨_, _, rfl⟩
    · cases this
  · refine .inr fun d hd => ?_
    have := h2 d hd
    refine ⟨fun e => ?_, fun ys e => ?_⟩
    · rw [e] at this
      cases this
    · rw [e] at this
      cases this
section
variable {prog : Program} {w : World} {A : Around} {E : Value → Shared → Prop} {s : Shared}
open PySem.W PySem.Calls in
theorem sorted_any {it : Addr} {T : String} {o : Obj} {n : Nat} {vs : List Value} {xs : List D} {R : Value → D → Prop} {Q : Value → Shared → Prop} (hT : T = "list" ∨ T = "tuple") (ho : s.heap.get? it = some o) (hc : o.cls = .type T) (hd : o.data = .seq vs.toArray n)
    (e : EachIs R vs xs) (er : EachIs (fun v b => ∃ as, Reads s.heap v b as) vs xs) (hok : okSort xs = true) (hu : A.units + 2 + 30 < cLine)
    (h : ∀ (h1 h' : Heap) (out : List Value) (c : Nat), (∀ b ob, s.heap.get? b = some ob → h1.get? b = some ob) → (∀ b ob, h1.get? b = some ob → h'.get? b = some ob) → h'.get? h1.objs.size = some (seqObj "list" out.toArray c) → EachIs R out (sortD xs) → Q (.ref h1.objs.size) { s with heap := h' }) :
    wpAny (model prog w) A (call (.builtin "sorted") [.ref it]) Q E s := by
  obtain ⟨hal, hk, hL, hdp⟩ := okSort_ok hok
  have hlen : vs.length ≤ sizeLine := by rw [e.length]; exact hL
  refine call_function_entry_kw kind_sorted plain_sorted entry_sorted (args_sorted1 _) ?_
  unfold Builtin.«sorted»
  refine wpAny_bind (m := checkCount "sorted" 1 1 _) (wpAny_pure ?_)
  refine wpAny_bind (wpAny_collect_seq (hsz := by rw [List.size_toArray]; exact hlen) it hT ho hc hd fun h1 k1 => ?_)
  refine wpAny_bind (wpAny_newList ?_ hlen)
  show wpAny (model prog w) _ _ _ _ { s with heap := h1.push (seqObj "list" vs.toArray 0) }
  have ho2 : (h1.push (seqObj "list" vs.toArray 0)).get? h1.objs.size = some (seqObj "list" vs.toArray 0) := Heap.get?_push_size _ rfl
  have k2 : ∀ b ob, s.heap.get? b = some ob → (sortingHeap (h1.push (seqObj "list" vs.toArray 0)) h1.objs.size vs).get? b = some ob := fun b ob q => sortingHeap_old (Nat.ne_of_lt (Heap.lt_size (k1 b ob q))) (Heap.get?_push_of_some _ (k1 b ob q))
  have er' : EachIs (fun v d => ∃ as, Reads (sortingHeap (h1.push (seqObj "list" vs.toArray 0)) h1.objs.size vs) v d as) vs xs := er.mono fun _ _ ⟨as, r⟩ => ⟨as, PyProof.Rows.Reads.keeps k2 r⟩
  refine wpAny_bind (wpAny_holding (wpAny_call_entry_kw slot_list_sort ⟨_, ho2, rfl⟩ entry_list_sort ?body (args_list_sort _)))
  case body =>
    have S := SortsAt.data (prog := prog) (w := w) (A := A.in1.in1) (s := { s with heap := sortingHeap (h1.push (seqObj "list" vs.toArray 0)) h1.objs.size vs }) er' hal hk fun d hd => by
      have := hdp d hd
      show A.units + 2 + d.depth < cLine
      omega
    refine list_sort_vals (s := { s with heap := h1.push (seqObj "list" vs.toArray 0) }) ho2 S hlen ?_
    refine ⟨_, rfl, wpAny_pure ?_⟩
    obtain ⟨c, hc'⟩ := sortedHeap_at (h := h1.push (seqObj "list" vs.toArray 0)) (a := h1.objs.size) (vs := vs) (n := 0) (out := (sortVals (dataKind (sortingHeap (h1.push (seqObj "list" vs.toArray 0)) h1.objs.size vs) xs) false vs vs).toArray) ho2
    refine ⟨_, rfl, h h1 _ _ c k1 (fun b ob q => ?_) hc' ?_⟩
    · rw [sortedHeap_old (Nat.ne_of_lt (Heap.lt_size q)) (Heap.lt_size (Heap.get?_push_of_some _ q))]
      exact Heap.get?_push_of_some _ q
    · have q := sortVals_data (R := R) (enc := id) (bs := xs) (vs := vs) false e (by exact er') (by rw [List.map_id]; exact hal)
      rw [List.map_id] at q
      exact q
end
end Z

set_option Elab.async false
set_option linter.all false
set_option maxRecDepth 100000
set_option autoImplicit false
set_option maxHeartbeats 1000000
namespace Z
open PySem PySem.Spec PyProof.Rows L2

def enumD : Nat → List D → List D
  | _, [] => []
  | i, x :: xs => .tuple [.int (i : Nat), x] :: enumD (i + 1) xs
theorem enumD_len : ∀ {xs : List D} {i : Nat}, (enumD i xs).length = xs.length
  | [], _ => rfl
  | x :: xs, i => by
    unfold enumD
    rw [List.length_cons, List.length_cons, enumD_len]
def iEnV (m : M Rs) : M (List D) := bnd m fun r => bnd (itR r) fun xs => rt (enumD 0 xs)
/-- .. of a new list -/
def iEnO (m : M (List D)) : M (List D) := bnd m fun xs => rt (enumD 0 xs)
end Z

set_option Elab.async false
set_option linter.all false
set_option maxRecDepth 100000
set_option autoImplicit false
set_option maxHeartbeats 1000000
namespace Z
open PySem PySem.Spec PyProof.Rows L2

section
variable {X : Cx}
theorem each_dq {K : PySem.W.Frag} {G : Hp} : ∀ {xs : List D} {vs : List V} {us : List Value}, DqAll K G vs xs → Vals vs us → PySem.W.EachIs (fun u d => ∃ v, RelV v u ∧ Dq K G v d) us xs
  | [], _, _, h, r => by
    cases h
    cases r
    exact .nil
  | d :: xs, _, _, h, r => by
    cases h with
    | cons a b =>
      cases r with
      | cons c e => exact .cons ⟨_, c, a⟩ (each_dq b e)
theorem each_dqP {K : PySem.W.Frag} {G : Hp} : ∀ {xs : List D} {vs : List V} {us : List Value}, (∀ d ∈ xs, d.plain = true) → DqAll K G vs xs → Vals vs us → PySem.W.EachIs (fun u d => ∃ v, RelV v u ∧ Dq K G v d ∧ d.plain = true) us xs
  | [], _, _, _, h, r => by
    cases h
    cases r
    exact .nil
  | d :: xs, _, _, p, h, r => by
    cases h with
    | cons a b =>
      cases r with
      | cons c e => exact .cons ⟨_, c, a, p d List.mem_cons_self⟩ (each_dqP (fun y hy => p y (List.mem_cons_of_mem _ hy)) b e)
mutual
theorem alike_plain : ∀ d : D, PySem.W.alike d d = true → d.plain = true
  | .none, _ => by rw [PyData.plain]
  | .bool _, _ => by rw [PyData.plain]
  | .int _, _ => by rw [PyData.plain]
  | .str _, _ => by rw [PyData.plain]
  | .list xs, h => by
    rw [PyData.plain]
    exact alike_plainA xs (by rw [PySem.W.alike] at h; exact h)
  | .tuple xs, h => by
    rw [PyData.plain]
    exact alike_plainA xs (by rw [PySem.W.alike] at h; exact h)
  | .dict _, h => by
    simp [PySem.W.alike] at h
theorem alike_plainA : ∀ xs : List D, PySem.W.alikeAll xs xs = true → PyData.plainAll xs = true
  | [], _ => by rw [PyData.plainAll]
  | x :: xs, h => by
    rw [PySem.W.alikeAll, Bool.and_eq_true] at h
    rw [PyData.plainAll, Bool.and_eq_true]
    exact ⟨alike_plain x h.1, alike_plainA xs h.2⟩
end
theorem alike_plains {xs : List D} (h : PySem.W.AllAlike xs) : ∀ d ∈ xs, d.plain = true := fun d hd => alike_plain d (h d hd d hd)
theorem dq_each {K : PySem.W.Frag} {G : Hp} : ∀ {xs : List D} {us : List Value}, PySem.W.EachIs (fun u d => ∃ v, RelV v u ∧ Dq K G v d) us xs → ∃ vs, Vals vs us ∧ DqAll K G vs xs
  | [], _, h => by
    cases h
    exact ⟨[], .nil, .nil⟩
  | d :: xs, _, h => by
    cases h with
    | cons a b =>
      obtain ⟨v, h1, h2⟩ := a
      obtain ⟨vs, h3, h4⟩ := dq_each b
      exact ⟨v :: vs, .cons h1 h3, .cons h2 h4⟩
theorem cd_sorted (hu : X.A.units + 64 < cLine) : CallR X (.builtin "sorted") (rON X.K fSorted) := by
  intro pins s σ H vs us Q I r h
  obtain ⟨G, xs, zs, gh, rd, e, q⟩ := h
  have main : ∀ {a : Addr} {T : String} {o : Obj} {n : Nat} {its : List Value} {ws : List V} {ys : List D}, (T = "list" ∨ T = "tuple") → s.heap.get? a = some o → o.cls = .type T → o.data = .seq its.toArray n → Vals ws its → DqAll X.K G ws ys → okSort ys = true → zs = sortD ys →
      wpAny (model X.prog X.w) X.A (call (.builtin "sorted") [.ref a]) (EP X pins σ Q) X.xe s := fun {a T o n its ws ys} hT ho hc hd rv dv ok ez => by
    have er : PySem.W.EachIs (fun u d => ∃ as, Reads s.heap u d as) its ys := (each_dqP (alike_plains (okSort_ok ok).1) dv rv).mono fun u d ⟨v, h1, h2, h3⟩ => Dp.reads I d v u ((dp_mono gh d v h2).dp _ _ h3) h1
    refine sorted_any hT ho hc hd (each_dq dv rv) er ok (by omega) fun h1 h' out c k1 k2 hD he => ?_
    obtain ⟨vs', r1, d1⟩ := dq_each he
    have I1 : L2.Inv X pins σ H { s with heap := h1 } := I.kept (t' := s.toks) k1
    have hz : vs'.length ≤ sizeLine := by
      rw [dpa_length d1]
      obtain ⟨_, _, h3, _⟩ := okSort_ok ok
      unfold sortD
      rw [List.length_mergeSort]
      exact h3
    have I2 : L2.Inv X pins σ (upd H h1.objs.size (.lst vs')) { s with heap := h' } := I1.laid (t' := s.toks) k2 (Nat.le_refl _) (show ObjOk X.prog X.w _ _ _ (.lst vs') from ⟨hz, out, c, r1, hD⟩)
    exact ⟨.ref h1.objs.size, _, I2, rfl, q _ vs' (I1.hok.fresh (Nat.le_refl _)) (by rw [ez]; exact d1)⟩
  unfold fSorted at e
  split at e
  · rename_i ys
    split at e
    · rename_i ok
      cases e
      obtain ⟨v, rfl, rv⟩ := rd.one
      obtain ⟨l, ws, rfl, s1, d1⟩ := rv.list gh
      obtain ⟨u, rfl, rx⟩ := vals1 r
      cases rx
      obtain ⟨its, r', pl, _⟩ := I.list s1
      obtain ⟨o, ho, hc, n, hd⟩ := pl.isList
      exact main (.inl rfl) ho hc hd r' d1 ok rfl
    · cases e
  · rename_i ys
    split at e
    · rename_i ok
      cases e
      obtain ⟨v, rfl, rv⟩ := rd.one
      obtain ⟨l, ws, rfl, s1, d1⟩ := rv.tup gh
      obtain ⟨u, rfl, rx⟩ := vals1 r
      cases rx
      obtain ⟨its, r', pl, _⟩ := I.tuple s1.sq
      obtain ⟨o, ho, hc, n, hd⟩ := pl
      exact main (.inr rfl) ho hc hd r' d1 ok rfl
    · cases e
  · cases e
end

def op2r (f : D → D → Option D) (h : D → D → Option (List D)) (m n : M Rs) : M Rt := bnd m fun r => bnd n fun s => fun g => match vl g r with
  | none => .bad
  | some x => match vl g s with
    | none => .bad
    | some y => match f x y with
      | some z => .ok (.d z) g
      | none => match h x y with
        | some zs => .ok (.own zs) g
        | none => .bad
def cutR (m : M Rs) (a b : M (Option Int)) : M Rt := bnd m fun r => bnd a fun lo => bnd b fun hi => fun g => match vl g r with
  | none => .bad
  | some x => match fCutT x lo hi with
    | some z => .ok (.d z) g
    | none => match fCutL x lo hi with
      | some zs => .ok (.own zs) g
      | none => .bad
section
variable {X : Cx} {a b e : Expr} {pos p2 : Pos} {lo hi : Option Expr}
theorem OpR.both {F : Value → Value → Sem Value} {r r' : R2} (h : OpR X F r) (k : OpR X F r') : OpR X F (fun x y H Q => r x y H Q ∨ r' x y H Q) := by
  intro pins s σ H x y v u Q I rx ry q
  rcases q with q | q
  · exact h pins s σ H x y v u Q I rx ry q
  · exact k pins s σ H x y v u Q I rx ry q
theorem dr_bin {op : Operator} {f : D → D → Option D} {h : D → D → Option (List D)} {m n : M Rs} (ho : OpR X (binaryOp op) (rD2 X.K f)) (ho' : OpR X (binaryOp op) (rO2 X.K h)) (ha : DV X a m) (hb : DV X b n) : DR X (.BinOp a op b pos) (op2r f h m n) := fun W tk =>
  pe_imp (pe_op (OpR.both ho ho') (ha W tk) (hb W tk)) fun σ H Q p => (zt_bnd2 (ρ := rhoR) (ρ' := rhoR) stR p).imp fun v H1 q => q.imp fun u H2 ⟨r, s, F, G, Mu, Γ, R, h1, h2, q2⟩ => by
    cases e1 : vl Γ r with
    | none => rw [e1] at q2; exact q2.elim
    | some x =>
      cases e2 : vl Γ s with
      | none => rw [e1, e2] at q2; exact q2.elim
      | some y =>
        rw [e1, e2] at q2
        dsimp only at q2
        cases e3 : f x y with
        | some z =>
          rw [e3] at q2
          exact .inl ⟨G, x, y, z, R.gh, R.read h1 e1, R.read h2 e2, e3, fun w H' G' ex d => q2 w H' G' ex.g (R.ext ex) d⟩
        | none =>
          rw [e3] at q2
          dsimp only at q2
          cases e4 : h x y with
          | none => rw [e4] at q2; exact q2.elim
          | some zs =>
            rw [e4] at q2
            refine .inr ⟨G, x, y, zs, R.gh, R.read h1 e1, R.read h2 e2, e4, fun l vs n d => ?_⟩
            obtain ⟨R', o⟩ := R.newO n d
            exact q2 _ _ G (Same.refl _) R' o
theorem dr_cut {m : M Rs} {ma mb : M (Option Int)} (h : DV X e m) (ha : DPo X lo ma) (hb : DPo X hi mb) : DR X (.Subscript e (.Slice lo hi none p2) pos) (cutR m ma mb) := fun W tk => by
  refine pe_imp (pe_slice (SlR.or sl_tupZ sl_list) (h W tk) (ha W tk) (hb W tk)) fun σ H Q p => ?_
  refine (zt_bnd3 p).imp fun v H1 q1 => q1.imp fun l H2 q2 => q2.imp fun u H3 ⟨r, F, G, Mu, Γ, R, h1, q⟩ => ?_
  cases e1 : vl Γ r with
  | none => rw [e1] at q; exact q.elim
  | some x =>
    rw [e1] at q
    have rd := R.read h1 e1
    cases x with
    | tuple xs =>
      obtain ⟨a, vs, rfl, s1, d1⟩ := rd.tup R.gh
      have dt : Dq X.K G (.ref a) (.tuple xs) := by
        rcases rd with rd | ⟨_, _, _, _, c, _⟩
        · exact rd
        · cases c
      have n1 := dpa_length d1
      have q' : zpost X W σ rhoT F G Mu Q (.ok (.d (.tuple (cutD xs l u))) Γ) := q
      refine .inl ⟨a, vs, rfl, s1.sq, fun w => ?_, fun _ p o n ho => ?_⟩
      · have : cutD xs l u = xs := by
          unfold cutD
          rw [← n1, w.1, w.2, List.drop_zero, Nat.sub_zero, n1, List.take_length]
        rw [this] at q'
        exact q' _ _ G (Same.refl _) R dt
      · have E := Ext.new (o := .frz o (.tup (cutV vs l u))) R.gh n
        exact q' _ _ _ E.g (R.ext E) (show rhoT _ _ _ _ _ _ _ (.d (.tuple (cutD xs l u))) _ from .tup (.new ho) (dpAll_mono E.g _ _ (dpa_cut l u d1)))
    | list xs =>
      have q' : zpost X W σ rhoT F G Mu Q (.ok (.own (cutD xs l u)) Γ) := q
      obtain ⟨a, vs, rfl, s1, d1⟩ := rd.list R.gh
      refine .inr ⟨a, vs, rfl, s1, fun p n => ?_⟩
      obtain ⟨R', o⟩ := R.newO n (dpa_cut l u d1)
      exact q' _ _ G (Same.refl _) R' o
    | _ => exact q.elim
end
end Z

set_option Elab.async false
set_option linter.all false
set_option maxRecDepth 100000
set_option autoImplicit false
set_option maxHeartbeats 1000000
namespace Z
open PySem PySem.Spec PyProof.Rows L2

def mixR (m : M D) (n : M (List D)) : M Rt := fun g => match m g with
  | .ok x g' => .ok (.d x) g'
  | .ex c x g' => .ex c x g'
  | .bad => match n g with
    | .ok xs g' => .ok (.own xs) g'
    | .ex c x g' => .ex c x g'
    | .bad => .bad
section
variable {X : Cx} {e : Expr} {pos : Pos}
theorem dr_or {m : M D} {n : M (List D)} (h : DP X e m) (k : DO X e n) : DR X e (mixR m n) := fun W tk => ⟨fun pins s σ H Q I ⟨F, G, Mu, Γ, R, q⟩ => by
  unfold mixR at q
  cases e1 : m Γ with
  | ok x g' =>
    rw [e1] at q
    exact (h W tk).run pins s σ H Q I ⟨F, G, Mu, Γ, R, by rw [e1]; exact q⟩
  | ex c x g' =>
    rw [e1] at q
    exact (h W tk).run pins s σ H Q I ⟨F, G, Mu, Γ, R, by rw [e1]; exact q⟩
  | bad =>
    rw [e1] at q
    dsimp only at q
    cases e2 : n Γ with
    | ok x g' =>
      rw [e2] at q
      exact (k W tk).run pins s σ H Q I ⟨F, G, Mu, Γ, R, by rw [e2]; exact q⟩
    | ex c x g' =>
      rw [e2] at q
      exact (k W tk).run pins s σ H Q I ⟨F, G, Mu, Γ, R, by rw [e2]; exact q⟩
    | bad =>
      rw [e2] at q
      exact q.elim⟩
/-- what a proof never comes to -/
def sBad : M Fl := fun _ => .bad
theorem ds_bad {s : Stmt} : DS X s sBad := fun W _ => ps_imp ps_never fun D σ H ⟨F, G, Mu, Γ, R, p⟩ => p
end
theorem passX {P : Program} {w : World} {K : PySem.W.Frag} {mg : Str → Option Value} {base : Heap} {N : List Str} {qual : Str} {scope : Scope} {f : Addr} {cd : Value} {A : Around} {outer : List Env} {s : Shared} {H : Hp} {E : XK} :
    PassesOwn (model (cxOf (L2.CX P w) P w K mg base N qual scope f cd A outer s H E).prog (cxOf (L2.CX P w) P w K mg base N qual scope f cd A outer s H E).w) (cxOf (L2.CX P w) P w K mg base N qual scope f cd A outer s H E).A (cxOf (L2.CX P w) P w K mg base N qual scope f cd A outer s H E).env (cxOf (L2.CX P w) P w K mg base N qual scope f cd A outer s H E).xe := PassesOwn.leaving

inductive Nms (X : Cx) : List Expr → List Nat → Prop where
  | nil : Nms X [] []
  | cons {x : Str} {pos : Pos} {i : Nat} {es : List Expr} {is : List Nat} (hi : X.N[i]? = some x) (hx : Loc X.env.scope x) (hf : X.fn x = true ∨ X.env.scope.names.lookup x = some .local) (hs : (assignEach (.Name x pos :: es) X.env).map (·.2) = assign (.Name x pos) X.env :: (assignEach es X.env).map (·.2)) (h : Nms X es is) : Nms X (.Name x pos :: es) (i :: is)
def dTupRg3 (m : M (List Rs)) : M D := bnd m fun rs => fun g => match vls g rs with
  | some [.int i, .int j, .int c] => if rgLim i ∧ rgLim j ∧ c = -1 ∧ (i - j).toNat ≤ 16777216 then .ok (.tuple (rngD i (-1) (i - j).toNat)) g else .bad
  | _ => .bad
end Z

set_option Elab.async false
set_option linter.all false
set_option maxRecDepth 100000
set_option autoImplicit false
set_option maxHeartbeats 1000000
namespace Z
open PySem PySem.Spec PyProof.Rows L2
section
variable {X : Cx}
theorem zv (i : Nat) {x : Str} {pos : Pos} (hN : X.N[i]? = some x := by rfl) (hv : Vis X.env.scope x := by first | exact Or.inl rfl | exact Or.inr (Or.inl rfl) | exact Or.inr (Or.inr rfl)) (hd : (x == ("__debug__" : Str)) = false := by decide)
    (hcd : (x == ("__classdict__" : Str)) = false := by decide) : DV X (.Name x pos) (dName i) := dv_name hN hv hd hcd
end
section
variable {P : Program} {w : World} {K : PySem.W.Frag} {mg : Str → Option Value} {base : Heap}
theorem fnP_bad {x : Str} {st : Stmt} {k : Nat} {ps : List Str} {ks : List Pk} {f : Addr} {fd : FuncData} {qual : Str} (Fn : Fun K x qual st f fd) (hm : mg x = some (.ref f)) (hb : Binds K fd ps []) : FnP P w K mg base x st k ps ks (fun _ => .bad) :=
  ⟨f, fd, qual, Fn, hm, ⟨fun vs H Q E ⟨_, _, _, _, _, _, _, q⟩ => q.elim, fun _ _ _ _ _ _ _ _ _ _ _ _ _ ⟨_, _, _, _, _, _, _, q⟩ => q.elim⟩, hb⟩
theorem fnP_mk {x : Str} {stm : Stmt} {f : Addr} {fd : FuncData} {N ps : List Str} {k : Nat} {ks : List Pk} {m : M Fl} (Fn : Fun K x x stm f fd) (hm : mg x = some (.ref f)) (hb : Binds K fd ps []) (S : FnScope N ps (defScope stm)) (hl : ks.length = ps.length) (one : oneM ks = true)
    (body : ∀ (cdv : Value) (A : Around) (outer : List Env) (s : Shared) (H : Hp) (E : XK), Room k (A.deeper (envOfC x (defScope stm) s.heap.objs.size f cdv)) → DSs (cxOf (L2.CX P w) P w K mg base N x (defScope stm) f cdv A outer s H E) (defBody stm) m) :
    FnP P w K mg base x stm (k + 1) ps ks (runF N.length ks m) := ⟨f, fd, x, Fn, hm, fn_ok Fn S hl one body, hb⟩
end
end Z

set_option Elab.async false
set_option linter.all false
set_option maxRecDepth 100000
set_option autoImplicit false
set_option maxHeartbeats 1000000
namespace Z
open PySem PySem.Spec PyProof.Rows L2

def call1 (φ : List D → Out) (m : M (List D)) : M Rt := bnd m fun xs => fun g => match φ [.list xs] with
  | .bad => .bad
  | .ret r _ => .ok r g
  | .ex c x _ => .ex c x g
section
variable {K : PySem.W.Frag} {F : Fr} {G H G' H' : Hp} {Mu : Option Addr} {Γ : En} {σ : St} {l : Addr} {ms : List D}
end
section
variable {X : Cx} {e : Expr} {p pos : Pos} {x : Str} {st : Stmt} {k : Nat} {ps : List Str} {φ : List D → Out}
end
end Z

set_option Elab.async false
set_option linter.all false
set_option maxRecDepth 100000
set_option autoImplicit false
set_option maxHeartbeats 1000000
namespace Z
open PySem PySem.Spec PyProof.Rows L2
def spLaw (K : PySem.W.Frag) : Sp := fun vs H Q _ => ∃ (a : Addr) (ns : List Int), vs = [.ref a] ∧ SqL K H a (ns.map V.int) ∧ ns.length ≤ 63 ∧ ∀ v H', v = .bl true → Q v H'
theorem law_sp {K : PySem.W.Frag} {mg : Str → Option Value} {φ : List D → Out} (h : ∀ ns : List Int, ns.length ≤ 63 → φ [.list (ns.map PyData.int)] = .ret (.d (.bool true)) []) (vs : List V) (H : Hp) (Q : VK) (E : XK) (q : spLaw K vs H Q E) : spF K mg [.v] φ vs H Q E := by
  obtain ⟨a, ns, rfl, hs, hl, q⟩ := q
  refine ⟨fun _ => none, none, [.list (ns.map PyData.int)], (fun _ _ z => by cases z), (fun _ z => by cases z), fun _ => rfl, ⟨_, _, _, _, rfl, rfl, .inr ⟨a, ns.map V.int, ns.map PyData.int, rfl, rfl, ?_, dpa_ints ns⟩, rfl, rfl⟩, ?_⟩
  · rcases hs with (hs | ⟨o, hs⟩) | hs
    · exact .inl (.inl ((del_ne (fun z => by cases z)).trans hs))
    · exact .inl (.inr ⟨o, (del_ne (fun z => by cases z)).trans hs⟩)
    · exact .inr hs
  · rw [h ns hl]
    intro v H' G' _ hr
    cases (show Dq K G' v (.bool true) from hr)
    exact q _ H' rfl
theorem law_fn {P : Program} {w : World} {K : PySem.W.Frag} {mg : Str → Option Value} {base : Heap} {x : Str} {st : Stmt} {k : Nat} {ps : List Str} {φ : List D → Out} {fa : Addr} {fd : FuncData}
    (F : FnP P w K mg base x st k ps [.v] φ) (hm : mg x = some (.ref fa)) (hl : ∃ (oc : Value) (od : Option Addr) (osl : Array (Option Value)), K.lookup fa = some ⟨oc, od, .func fd, osl⟩)
    (h : ∀ ns : List Int, ns.length ≤ 63 → φ [.list (ns.map PyData.int)] = .ret (.d (.bool true)) []) : FnOk P w K mg base (L2.CX P w) k fa fd ps (spLaw K) := by
  obtain ⟨f, fd', qual, Fn, hm', ok, _⟩ := F.ex
  rw [hm] at hm'
  cases hm'
  obtain ⟨oc, od, osl, e1⟩ := hl
  obtain ⟨oc', od', kV, doc, pm, an, cdv, ct, osl', rfl, e2, _⟩ := Fn.ex
  rw [e1] at e2
  cases e2
  exact ok.imp fun vs H Q E q => law_sp h vs H Q E q
theorem cx_none {P : Program} {w : World} {H : Hp} {s : Shared} {e : Value} {s' : Shared} (h : L2.CX P w [] H s (fun _ _ _ => False) e s') : False := by
  obtain ⟨_, _, _, _, _, _, _, _, _, _, _, _, z⟩ := h
  exact z
end Z

set_option Elab.async false
set_option linter.all false
set_option maxRecDepth 100000
set_option autoImplicit false
set_option maxHeartbeats 1000000
namespace Z
open PySem PySem.Spec PyProof.Rows L2

class Cont (α β : Type) where
  k : α → En → Ro β
def Ro.thn {α β : Type} (r : Ro α) [c : Cont α β] : Ro β := match r with
  | .bad => .bad
  | .ok x g => c.k x g
  | .ex e x g => .ex e x g
theorem thn_ok {α β : Type} (x : α) (g : En) (f : α → En → Ro β) : (Ro.ok x g).thn (c := ⟨f⟩) = f x g := Eq.trans rfl rfl
theorem thn_ex {α β : Type} (c : Str) (x : D) (g : En) (f : Cont α β) : (Ro.ex c x g).thn (c := f) = .ex c x g := Eq.trans rfl rfl
/-- an answer that may lack -/
def oRo {α : Type} (o : Option α) (g : En) : Ro α := match o with
  | some x => .ok x g
  | none => .bad
theorem oRo_some {α : Type} (x : α) (g : En) : oRo (some x) g = .ok x g := Eq.trans rfl rfl
class OCont (α β : Type) where
  k : α → Option β
def oMap {α β : Type} (o : Option α) [c : OCont α β] : Option β := match o with
  | some x => c.k x
  | none => none
theorem oMap_some {α β : Type} (x : α) (f : α → Option β) : oMap (some x) (c := ⟨f⟩) = f x := Eq.trans rfl rfl
/-- a choice -/
def brn {α : Type} (k : Bool) (a b : M α) (g : En) : Ro α := if k = true then a g else b g
theorem brn_t {α : Type} (a b : M α) (g : En) : brn true a b g = a g := Eq.trans rfl rfl
theorem brn_f {α : Type} (a b : M α) (g : En) : brn false a b g = b g := Eq.trans rfl rfl
def bdn {α : Type} (k : Prop) [Decidable k] (a : Ro α) : Ro α := if k then a else .bad
def bdz {α : Type} (n : Nat) (a : Ro α) : Ro α := if n ≤ sizeLine then a else .bad
theorem bdz_ok {α : Type} (n : Nat) (a : Ro α) (h : n ≤ sizeLine) : bdz n a = a := if_pos h
section
variable {α β : Type}
theorem bnd_at (m : M α) (f : α → M β) (g : En) : bnd m f g = (m g).thn (c := ⟨f⟩) := Eq.trans rfl rfl
theorem rt_at (x : α) (g : En) : rt x g = .ok x g := Eq.trans rfl rfl
end
/-- what a slot gives -/
def slR (i : Nat) (o : Option SV) (g : En) : Ro Rs := match o with
  | some (.d x) => .ok (.d x) g
  | some (.a _) => .ok (.sl i) g
  | some (.own _ _) => .ok (.sl i) g
  | _ => .bad
theorem dName_at (i : Nat) (g : En) : dName i g = slR i g[i]? g := Eq.trans rfl rfl
theorem slR_d (i : Nat) (x : D) (g : En) : slR i (some (.d x)) g = .ok (.d x) g := Eq.trans rfl rfl
theorem slR_a (i : Nat) (x : List D) (g : En) : slR i (some (.a x)) g = .ok (.sl i) g := Eq.trans rfl rfl
theorem slR_o (i : Nat) (m : Bool) (x : List D) (g : En) : slR i (some (.own m x)) g = .ok (.sl i) g := Eq.trans rfl rfl
def slV (o : Option SV) : Option D := match o with
  | some (.d x) => some x
  | some (.a xs) => some (.list xs)
  | some (.own _ xs) => some (.list xs)
  | _ => none
theorem vl_d (g : En) (x : D) : vl g (.d x) = some x := Eq.trans rfl rfl
theorem vl_s (g : En) (i : Nat) : vl g (.sl i) = slV g[i]? := Eq.trans rfl rfl
theorem slV_d (x : D) : slV (some (.d x)) = some x := Eq.trans rfl rfl
theorem slV_a (x : List D) : slV (some (.a x)) = some (.list x) := Eq.trans rfl rfl
theorem slV_o (m : Bool) (x : List D) : slV (some (.own m x)) = some (.list x) := Eq.trans rfl rfl
theorem dv_at (m : M D) (g : En) : dv m g = (m g).thn (c := ⟨fun x g' => .ok (.d x) g'⟩) := Eq.trans rfl rfl
def escS (i : Nat) (o : Option SV) (g : En) : Ro D := match o with
  | some (.d x) => .ok x g
  | some (.own false xs) => .ok (.list xs) (g.set i (.d (.list xs)))
  | _ => .bad
theorem dEsc_at (m : M Rs) (g : En) : dEsc m g = (m g).thn (c := ⟨esc⟩) := Eq.trans rfl rfl
theorem esc_d (x : D) (g : En) : esc (.d x) g = .ok x g := Eq.trans rfl rfl
theorem esc_s (i : Nat) (g : En) : esc (.sl i) g = escS i g[i]? g := Eq.trans rfl rfl
theorem escS_d (i : Nat) (x : D) (g : En) : escS i (some (.d x)) g = .ok x g := Eq.trans rfl rfl
theorem escS_o (i : Nat) (xs : List D) (g : En) : escS i (some (.own false xs)) g = .ok (.list xs) (g.set i (.d (.list xs))) := Eq.trans rfl rfl
theorem dFz_at (m : M (List D)) (g : En) : dFz m g = (m g).thn (c := ⟨fun xs g' => .ok (.list xs) g'⟩) := Eq.trans rfl rfl
theorem dC_at (x : D) (g : En) : dC x g = .ok x g := Eq.trans rfl rfl
theorem dNil_at (g : En) : dNil g = .ok [] g := Eq.trans rfl rfl
theorem dCons_at (m : M D) (n : M (List D)) (g : En) : dCons m n g = (m g).thn (c := ⟨fun x g1 => (n g1).thn (c := ⟨fun xs g2 => .ok (x :: xs) g2⟩)⟩) := Eq.trans rfl rfl
theorem vNil_at (g : En) : vNil g = .ok [] g := Eq.trans rfl rfl
theorem vCons_at (m : M Rs) (n : M (List Rs)) (g : En) : vCons m n g = (m g).thn (c := ⟨fun x g1 => (n g1).thn (c := ⟨fun xs g2 => .ok (x :: xs) g2⟩)⟩) := Eq.trans rfl rfl
theorem op2_at (f : D → D → Option D) (m n : M Rs) (g : En) : op2 f m n g = (m g).thn (c := ⟨fun r g1 => (n g1).thn (c := ⟨fun s g2 => oRo (oMap (vl g2 r) (c := ⟨fun x => oMap (vl g2 s) (c := ⟨fun y => f x y⟩)⟩)) g2⟩)⟩) := by
  unfold op2 bnd Ro.thn
  cases m g with
  | ok r g1 =>
    dsimp only
    cases n g1 with
    | ok s g2 =>
      dsimp only
      cases vl g2 r with
      | none => rfl
      | some x =>
        cases vl g2 s with
        | none => rfl
        | some y =>
          dsimp only [oMap]
          cases f x y <;> rfl
    | _ => rfl
  | _ => rfl
theorem op2r_at (f : D → D → Option D) (h : D → D → Option (List D)) (m n : M Rs) (g : En) : op2r f h m n g = (m g).thn (c := ⟨fun r g1 => (n g1).thn (c := ⟨fun s g2 => oRo (oMap (vl g2 r) (c := ⟨fun x => oMap (vl g2 s) (c := ⟨fun y => (match f x y with
    | some z => some (Rt.d z)
    | none => match h x y with
      | some zs => some (Rt.own zs)
      | none => none)⟩)⟩)) g2⟩)⟩) := by
  unfold op2r bnd Ro.thn
  cases m g with
  | ok r g1 =>
    dsimp only
    cases n g1 with
    | ok s g2 =>
      dsimp only
      cases vl g2 r with
      | none => rfl
      | some x =>
        cases vl g2 s with
        | none => rfl
        | some y =>
          dsimp only [oMap]
          cases f x y with
          | some z => rfl
          | none => cases h x y <;> rfl
    | _ => rfl
  | _ => rfl
theorem op1_at (f : D → Option D) (m : M Rs) (g : En) : op1 f m g = (m g).thn (c := ⟨fun r g1 => oRo (oMap (vl g1 r) (c := ⟨f⟩)) g1⟩) := by
  unfold op1 bnd Ro.thn
  cases m g with
  | ok r g1 =>
    dsimp only
    cases vl g1 r with
    | none => rfl
    | some x =>
      dsimp only [oMap]
      cases f x <;> rfl
  | _ => rfl
theorem op1o_at (f : D → Option (List D)) (m : M Rs) (g : En) : op1o f m g = (m g).thn (c := ⟨fun r g1 => oRo (oMap (vl g1 r) (c := ⟨f⟩)) g1⟩) := by
  unfold op1o bnd Ro.thn
  cases m g with
  | ok r g1 =>
    dsimp only
    cases vl g1 r with
    | none => rfl
    | some x =>
      dsimp only [oMap]
      cases f x <;> rfl
  | _ => rfl
theorem opN_at (f : List D → Option D) (m : M (List Rs)) (g : En) : opN f m g = (m g).thn (c := ⟨fun rs g1 => oRo (oMap (vls g1 rs) (c := ⟨f⟩)) g1⟩) := by
  unfold opN bnd Ro.thn
  cases m g with
  | ok r g1 =>
    dsimp only
    cases vls g1 r with
    | none => rfl
    | some x =>
      dsimp only [oMap]
      cases f x <;> rfl
  | _ => rfl
theorem opNo_at (f : List D → Option (List D)) (m : M (List Rs)) (g : En) : opNo f m g = (m g).thn (c := ⟨fun rs g1 => oRo (oMap (vls g1 rs) (c := ⟨f⟩)) g1⟩) := by
  unfold opNo bnd Ro.thn
  cases m g with
  | ok r g1 =>
    dsimp only
    cases vls g1 r with
    | none => rfl
    | some x =>
      dsimp only [oMap]
      cases f x <;> rfl
  | _ => rfl
theorem vls_nil (g : En) : vls g [] = some [] := Eq.trans rfl rfl
theorem vls_cons (g : En) (r : Rs) (rs : List Rs) : vls g (r :: rs) = oMap (vl g r) (c := ⟨fun x => oMap (vls g rs) (c := ⟨fun xs => some (x :: xs)⟩)⟩) := by
  rw [vls]
  unfold oMap
  cases vl g r with
  | none => rfl
  | some x => cases vls g rs <;> rfl
theorem cutR_at (m : M Rs) (a b : M (Option Int)) (g : En) : cutR m a b g = (m g).thn (c := ⟨fun r g1 => (a g1).thn (c := ⟨fun lo g2 => (b g2).thn (c := ⟨fun hi g3 => oRo (oMap (vl g3 r) (c := ⟨fun x => match fCutT x lo hi with
    | some z => some (Rt.d z)
    | none => match fCutL x lo hi with
      | some zs => some (Rt.own zs)
      | none => none⟩)) g3⟩)⟩)⟩) := by
  unfold cutR bnd Ro.thn
  cases m g with
  | ok r g1 =>
    dsimp only
    cases a g1 with
    | ok lo g2 =>
      dsimp only
      cases b g2 with
      | ok hi g3 =>
        dsimp only
        cases vl g3 r with
        | none => rfl
        | some x =>
          dsimp only [oMap]
          cases fCutT x lo hi with
          | some z => rfl
          | none => cases fCutL x lo hi <;> rfl
      | _ => rfl
    | _ => rfl
  | _ => rfl
theorem oNone_at (g : En) : oNone g = .ok none g := Eq.trans rfl rfl
theorem oSome_at (m : M D) (g : En) : oSome m g = (m g).thn (c := ⟨fun x g1 => match x with
    | .int i => .ok (some i) g1
    | _ => .bad⟩) := by
  unfold oSome bnd Ro.thn
  cases m g with
  | ok x g1 => cases x <;> rfl
  | _ => rfl
theorem dTup_at (m : M (List D)) (g : En) : dTup m g = (m g).thn (c := ⟨fun xs g1 => bdz xs.length (.ok (.tuple xs) g1)⟩) := by
  unfold dTup bnd Ro.thn bdz
  cases m g with
  | ok x g1 =>
    dsimp only
    split <;> rfl
  | _ => rfl
theorem dLst_at (m : M (List D)) (g : En) : dLst m g = (m g).thn (c := ⟨fun xs g1 => bdz xs.length (.ok xs g1)⟩) := by
  unfold dLst bnd Ro.thn bdz
  cases m g with
  | ok x g1 =>
    dsimp only
    split <;> rfl
  | _ => rfl
def boolD : D → Option Bool
  | .bool b => some b
  | _ => none
theorem dB_at (m : M D) (g : En) : dB m g = (m g).thn (c := ⟨fun x g1 => oRo (boolD x) g1⟩) := by
  unfold dB bnd Ro.thn
  cases m g with
  | ok x g1 => cases x <;> rfl
  | _ => rfl
theorem boolD_b (b : Bool) : boolD (.bool b) = some b := Eq.trans rfl rfl
theorem dNot_at (m : M Bool) (g : En) : dNot m g = (m g).thn (c := ⟨fun b g1 => .ok (!b) g1⟩) := Eq.trans rfl rfl
theorem dAnd_at (m n : M Bool) (g : En) : dAnd m n g = (m g).thn (c := ⟨fun b g1 => brn b n (rt false) g1⟩) := by
  unfold dAnd bnd Ro.thn brn
  cases m g with
  | ok b g1 => cases b <;> rfl
  | _ => rfl
theorem dOr_at (m n : M Bool) (g : En) : dOr m n g = (m g).thn (c := ⟨fun b g1 => brn b (rt true) n g1⟩) := by
  unfold dOr bnd Ro.thn brn
  cases m g with
  | ok b g1 => cases b <;> rfl
  | _ => rfl
theorem dIfE_at (t : M Bool) (m n : M D) (g : En) : dIfE t m n g = (t g).thn (c := ⟨fun b g1 => brn b m n g1⟩) := by
  unfold dIfE bnd Ro.thn brn
  cases t g with
  | ok b g1 => cases b <;> rfl
  | _ => rfl
theorem dAndV_at (m n : M D) (g : En) : dAndV m n g = (m g).thn (c := ⟨fun x g1 => (oRo (boolD x) g1).thn (c := ⟨fun b g2 => brn b n (rt x) g2⟩)⟩) := by
  unfold dAndV bnd Ro.thn brn
  cases m g with
  | ok x g1 =>
    cases x with
    | bool b => cases b <;> rfl
    | _ => rfl
  | _ => rfl
theorem dOrV_at (m n : M D) (g : En) : dOrV m n g = (m g).thn (c := ⟨fun x g1 => (oRo (boolD x) g1).thn (c := ⟨fun b g2 => brn b (rt x) n g2⟩)⟩) := by
  unfold dOrV bnd Ro.thn brn
  cases m g with
  | ok x g1 =>
    cases x with
    | bool b => cases b <;> rfl
    | _ => rfl
  | _ => rfl
theorem dNotV_at (m : M D) (g : En) : dNotV m g = (m g).thn (c := ⟨fun x g1 => (oRo (boolD x) g1).thn (c := ⟨fun b g2 => .ok (.bool (!b)) g2⟩)⟩) := by
  unfold dNotV bnd Ro.thn
  cases m g with
  | ok x g1 => cases x <;> rfl
  | _ => rfl

def dsq (r : Ro Fl) (b : M Fl) : Ro Fl := match r with
  | .ok .nx g => b g
  | o => o
theorem dSeq_at (a b : M Fl) (g : En) : dSeq a b g = dsq (a g) b := by
  unfold dSeq dsq
  cases a g with
  | ok f g1 => cases f <;> rfl
  | _ => rfl
theorem dsq_nx (g : En) (b : M Fl) : dsq (.ok .nx g) b = b g := Eq.trans rfl rfl
theorem dsq_rt (r : Rt) (g : En) (b : M Fl) : dsq (.ok (.rt r) g) b = .ok (.rt r) g := Eq.trans rfl rfl
theorem dsq_bk (g : En) (b : M Fl) : dsq (.ok .bk g) b = .ok .bk g := Eq.trans rfl rfl
theorem dsq_ct (g : En) (b : M Fl) : dsq (.ok .ct g) b = .ok .ct g := Eq.trans rfl rfl
theorem dsq_ex (c : Str) (x : D) (g : En) (b : M Fl) : dsq (.ex c x g) b = .ex c x g := Eq.trans rfl rfl
theorem sNx_at (g : En) : sNx g = .ok .nx g := Eq.trans rfl rfl
theorem sBk_at (g : En) : sBk g = .ok .bk g := Eq.trans rfl rfl
theorem sCt_at (g : En) : sCt g = .ok .ct g := Eq.trans rfl rfl
theorem sExpr_at (m : M D) (g : En) : sExpr m g = (m g).thn (c := ⟨fun _ g1 => .ok .nx g1⟩) := Eq.trans rfl rfl
theorem sRet_at (m : M D) (g : En) : sRet m g = (m g).thn (c := ⟨fun x g1 => .ok (.rt (.d x)) g1⟩) := Eq.trans rfl rfl
theorem sRetO_at (m : M (List D)) (g : En) : sRetO m g = (m g).thn (c := ⟨fun x g1 => .ok (.rt (.own x)) g1⟩) := Eq.trans rfl rfl
theorem sRetN_at (g : En) : sRetN g = .ok (.rt (.d .none)) g := Eq.trans rfl rfl
def retS (i : Nat) (o : Option SV) (g : En) : Ro Fl := match o with
  | some (.own false xs) => .ok (.rt (.own xs)) (g.set i .u)
  | some (.d x) => .ok (.rt (.d x)) g
  | _ => .bad
theorem sRetV_at (i : Nat) (g : En) : sRetV i g = retS i g[i]? g := Eq.trans rfl rfl
theorem retS_d (i : Nat) (x : D) (g : En) : retS i (some (.d x)) g = .ok (.rt (.d x)) g := Eq.trans rfl rfl
theorem retS_o (i : Nat) (xs : List D) (g : En) : retS i (some (.own false xs)) g = .ok (.rt (.own xs)) (g.set i .u) := Eq.trans rfl rfl
theorem sSet_at (i : Nat) (m : M D) (g : En) : sSet i m g = (m g).thn (c := ⟨fun x g1 => .ok .nx (g1.set i (.d x))⟩) := Eq.trans rfl rfl
theorem sSetO_at (i : Nat) (m : M (List D)) (g : En) : sSetO i m g = (m g).thn (c := ⟨fun x g1 => .ok .nx (g1.set i (.own false x))⟩) := Eq.trans rfl rfl
theorem sIf_at (t : M Bool) (a b : M Fl) (g : En) : sIf t a b g = (t g).thn (c := ⟨fun k g1 => brn k a b g1⟩) := by
  unfold sIf bnd Ro.thn brn
  cases t g with
  | ok b g1 => cases b <;> rfl
  | _ => rfl
def ownV (o : Option SV) : Option (Bool × List D) := match o with
  | some (.own b xs) => some (b, xs)
  | _ => none
theorem ownV_o (b : Bool) (xs : List D) : ownV (some (.own b xs)) = some (b, xs) := Eq.trans rfl rfl
def subS (i : Nat) (y : D) (o : Option (Bool × List D)) (v : Option D) (g : En) : Ro Fl := match o, v with
  | some (b, xs), some (.int n) => match ixN xs.length n with
    | some j => .ok .nx (g.set i (.own b (xs.set j y)))
    | none => .bad
  | _, _ => .bad
theorem subS_at (i : Nat) (y : D) (b : Bool) (xs : List D) (n : Int) (g : En) (j : Nat) (h : ixN xs.length n = some j) : subS i y (some (b, xs)) (some (.int n)) g = .ok .nx (g.set i (.own b (xs.set j y))) := by
  unfold subS
  dsimp only
  rw [h]
/-- the list is there -/
class MCont (α : Type) where
  k : M α
def chk {α : Type} (o : Option (Bool × List D)) [c : MCont α] (g : En) : Ro α := match o with
  | some _ => c.k g
  | none => .bad
theorem chk_some {α : Type} (p : Bool × List D) (f : M α) (g : En) : chk (some p) (c := ⟨f⟩) g = f g := Eq.trans rfl rfl
theorem sSub_at (i : Nat) (m : M D) (k : M Rs) (g : En) : sSub i m k g = (m g).thn (c := ⟨fun y g1 => chk (ownV g1[i]?) (c := ⟨fun g1 => (k g1).thn (c := ⟨fun s g2 => subS i y (ownV g2[i]?) (vl g2 s) g2⟩)⟩) g1⟩) := by
  unfold sSub
  rw [bnd_at]
  unfold Ro.thn
  cases m g with
  | ok y g1 =>
    dsimp only
    unfold chk ownV
    cases g1[i]? with
    | none => rfl
    | some sv =>
      cases sv with
      | own b0 xs0 =>
        dsimp only
        unfold bnd
        cases k g1 with
        | ok s g2 =>
          dsimp only
          unfold subS
          cases g2[i]? with
          | none => rfl
          | some sv =>
            cases sv with
            | own b xs =>
              dsimp only
              cases vl g2 s with
              | none => rfl
              | some x => cases x <;> rfl
            | _ => rfl
        | _ => rfl
      | _ => rfl
  | _ => rfl
def mutS (i : Nat) (b : Bool) (o : Option (List D × D)) (g : En) : Ro D := match o with
  | some (ys, r) => .ok r (g.set i (.own b ys))
  | none => .bad
theorem mutS_some (i : Nat) (b : Bool) (ys : List D) (r : D) (g : En) : mutS i b (some (ys, r)) g = .ok r (g.set i (.own b ys)) := Eq.trans rfl rfl
def mutP (f : List D → Option (List D × D)) (i : Nat) (o : Option (Bool × List D)) (g : En) : Ro D := match o with
  | some (b, xs) => mutS i b (f xs) g
  | none => .bad
theorem mutP_some (f : List D → Option (List D × D)) (i : Nat) (b : Bool) (xs : List D) (g : En) : mutP f i (some (b, xs)) g = mutS i b (f xs) g := Eq.trans rfl rfl
theorem dMut_at (i : Nat) (f : List D → List D → Option (List D × D)) (m : M (List D)) (g : En) : dMut i f m g = chk (ownV g[i]?) (c := ⟨fun g => (m g).thn (c := ⟨fun args g' => mutP (fun xs => f xs args) i (ownV g'[i]?) g'⟩)⟩) g := by
  unfold dMut chk ownV
  cases g[i]? with
  | none => rfl
  | some sv =>
    cases sv with
    | own b0 xs0 =>
      dsimp only
      unfold bnd Ro.thn
      cases m g with
      | ok args g' =>
        dsimp only
        unfold mutP mutS
        cases g'[i]? with
        | none => rfl
        | some sv =>
          cases sv with
          | own b xs =>
            dsimp only
            all_goals (cases f xs args <;> rfl)
          | _ => rfl
      | _ => rfl
    | _ => rfl
theorem augS_at (i : Nat) (f : D → D → Option D) (m : M Rs) (g : En) (x : D) (hg : g[i]? = some (.d x)) : sAug i f m g = (m g).thn (c := ⟨fun s g' => (oRo (oMap (vl g' s) (c := ⟨f x⟩)) g').thn (c := ⟨fun z g2 => .ok .nx (g2.set i (.d z))⟩)⟩) := by
  unfold sAug
  rw [hg]
  dsimp only
  unfold bnd Ro.thn
  cases m g with
  | ok s g' =>
    dsimp only
    cases vl g' s with
    | none => rfl
    | some y =>
      dsimp only [oMap]
      cases f x y <;> rfl
  | _ => rfl
theorem msNil_at (g : En) : msNil g = .ok [] g := Eq.trans rfl rfl
theorem msD_at (m : M D) (n : M (List Rt)) (g : En) : msD m n g = (m g).thn (c := ⟨fun x g1 => (n g1).thn (c := ⟨fun xs g2 => .ok (.d x :: xs) g2⟩)⟩) := Eq.trans rfl rfl
theorem msO_at (m : M (List D)) (n : M (List Rt)) (g : En) : msO m n g = (m g).thn (c := ⟨fun x g1 => (n g1).thn (c := ⟨fun xs g2 => .ok (.own x :: xs) g2⟩)⟩) := Eq.trans rfl rfl
theorem msR_at (m : M Rt) (n : M (List Rt)) (g : En) : msR m n g = (m g).thn (c := ⟨fun x g1 => (n g1).thn (c := ⟨fun xs g2 => .ok (x :: xs) g2⟩)⟩) := Eq.trans rfl rfl
def gRo (o : Option En) : Ro Fl := match o with
  | some g => .ok .nx g
  | none => .bad
theorem gRo_some (g : En) : gRo (some g) = .ok .nx g := Eq.trans rfl rfl
theorem sPar_at (is : List Nat) (m : M (List Rt)) (g : En) : sPar is m g = (m g).thn (c := ⟨fun rs g1 => gRo (setRs is rs g1)⟩) := Eq.trans rfl rfl
theorem setRs_nil (g : En) : setRs [] [] g = some g := Eq.trans rfl rfl
theorem setRs_d (i : Nat) (is : List Nat) (x : D) (rs : List Rt) (g : En) : setRs (i :: is) (.d x :: rs) g = setRs is rs (g.set i (.d x)) := Eq.trans rfl rfl
theorem setRs_o (i : Nat) (is : List Nat) (x : List D) (rs : List Rt) (g : En) : setRs (i :: is) (.own x :: rs) g = setRs is rs (g.set i (.own false x)) := Eq.trans rfl rfl

theorem callP_at (ks : List Pk) (φ : List D → Out) (m : M (List Rs)) (g : En) : callP ks φ m g = (m g).thn (c := ⟨fun rs g1 => callM ks φ rs g1⟩) := Eq.trans rfl rfl
theorem callK_at (ks : List Pk) (φ : List D → Out) (pm : List Nat) (m n : M (List Rs)) (g : En) : callK ks φ pm m n g = (m g).thn (c := ⟨fun rs g1 => (n g1).thn (c := ⟨fun rs' g2 => callM ks φ (pick pm (rs ++ rs')) g2⟩)⟩) := Eq.trans rfl rfl
def outR (mi : Option Nat) (g : En) (o : Out) : Ro Rt := match o with
  | .bad => .bad
  | .ret r ms => .ok r (putM mi ms g)
  | .ex c x ms => .ex c x (putM mi ms g)
def argO (φ : List D → Out) (o : Option (List D)) : Out := match o with
  | some xs => φ xs
  | none => .bad
theorem argO_some (φ : List D → Out) (xs : List D) : argO φ (some xs) = φ xs := Eq.trans rfl rfl
theorem callM_at (ks : List Pk) (φ : List D → Out) (rs : List Rs) (g : En) : callM ks φ rs g = outR (mIx ks rs) g (argO φ (argD g (mIx ks rs) ks rs)) := by
  unfold callM outR argO
  cases argD g (mIx ks rs) ks rs with
  | none => rfl
  | some xs =>
    dsimp only
    all_goals (cases φ xs <;> rfl)
theorem outR_ret (mi : Option Nat) (g : En) (r : Rt) (ms : List D) : outR mi g (.ret r ms) = .ok r (putM mi ms g) := Eq.trans rfl rfl
theorem outR_ex (mi : Option Nat) (g : En) (c : Str) (x : D) (ms : List D) : outR mi g (.ex c x ms) = .ex c x (putM mi ms g) := Eq.trans rfl rfl
theorem argD_nil (g : En) (mi : Option Nat) : argD g mi [] [] = some [] := Eq.trans rfl rfl
theorem argD_v (g : En) (mi : Option Nat) (ks : List Pk) (x : D) (rs : List Rs) : argD g mi (.v :: ks) (.d x :: rs) = oMap (argD g mi ks rs) (c := ⟨fun xs => some (x :: xs)⟩) := by
  rw [argD]
  unfold oMap
  cases argD g mi ks rs <;> rfl
theorem argD_p (g : En) (mi : Option Nat) (ks : List Pk) (x : D) (rs : List Rs) : argD g mi (.p :: ks) (.d x :: rs) = oMap (argD g mi ks rs) (c := ⟨fun xs => some (x :: xs)⟩) := by
  rw [argD]
  unfold oMap
  cases argD g mi ks rs <;> rfl
theorem argD_vs (g : En) (mi : Option Nat) (ks : List Pk) (i : Nat) (rs : List Rs) (h : mi ≠ some i) : argD g mi (.v :: ks) (.sl i :: rs) = oMap (argD g mi ks rs) (c := ⟨fun xs => oMap (slV g[i]?) (c := ⟨fun x => some (x :: xs)⟩)⟩) := by
  rw [argD]
  unfold oMap
  cases argD g mi ks rs with
  | none => rfl
  | some xs =>
    dsimp only
    rw [if_neg h, vl_s]
    cases slV g[i]? <;> rfl
theorem argD_m (g : En) (ks : List Pk) (i : Nat) (rs : List Rs) : argD g (some i) (.m :: ks) (.sl i :: rs) = oMap (argD g (some i) ks rs) (c := ⟨fun xs => oMap (ownV g[i]?) (c := ⟨fun p => some (.list p.2 :: xs)⟩)⟩) := by
  rw [argD]
  unfold oMap ownV
  cases argD g (some i) ks rs with
  | none => rfl
  | some xs =>
    dsimp only
    cases g[i]? with
    | none => rfl
    | some sv =>
      cases sv with
      | own b ys =>
        dsimp only
        rw [if_pos rfl]
      | _ => rfl
theorem mIx_m (ks : List Pk) (i : Nat) (rs : List Rs) : mIx (.m :: ks) (.sl i :: rs) = some i := Eq.trans rfl rfl
theorem mIx_v (ks : List Pk) (r : Rs) (rs : List Rs) : mIx (.v :: ks) (r :: rs) = mIx ks rs := by cases r <;> rfl
theorem mIx_p (ks : List Pk) (r : Rs) (rs : List Rs) : mIx (.p :: ks) (r :: rs) = mIx ks rs := by cases r <;> rfl
theorem mIx_nil (rs : List Rs) : mIx [] rs = none := by
  unfold mIx
  rfl
theorem putM_none (ms : List D) (g : En) : putM none ms g = g := Eq.trans rfl rfl
def putO (i : Nat) (ms : List D) (g : En) (o : Option SV) : En := match o with
  | some (.own b _) => g.set i (.own b ms)
  | _ => g
theorem putM_some (i : Nat) (ms : List D) (g : En) : putM (some i) ms g = putO i ms g g[i]? := Eq.trans rfl rfl
theorem putO_o (i : Nat) (ms : List D) (g : En) (b : Bool) (xs : List D) : putO i ms g (some (.own b xs)) = g.set i (.own b ms) := Eq.trans rfl rfl
theorem call1_at (φ : List D → Out) (m : M (List D)) (g : En) : call1 φ m g = (m g).thn (c := ⟨fun xs g1 => outR none g1 (φ [.list xs])⟩) := by
  unfold call1 bnd Ro.thn outR
  cases m g with
  | ok xs g1 =>
    dsimp only
    cases φ [.list xs] <;> rfl
  | _ => rfl
theorem rD_at (m : M Rt) (g : En) : rD m g = (m g).thn (c := ⟨fun r g1 => rtD r g1⟩) := Eq.trans rfl rfl
theorem rtD_d (x : D) (g : En) : rtD (.d x) g = .ok x g := Eq.trans rfl rfl
theorem rtD_o (x : List D) (g : En) : rtD (.own x) g = .ok (.list x) g := Eq.trans rfl rfl
theorem rO_at (m : M Rt) (g : En) : rO m g = (m g).thn (c := ⟨fun r g1 => rtO r g1⟩) := Eq.trans rfl rfl
theorem rtO_o (x : List D) (g : En) : rtO (.own x) g = .ok x g := Eq.trans rfl rfl
theorem sExprR_at (m : M Rt) (g : En) : sExprR m g = (m g).thn (c := ⟨fun _ g1 => .ok .nx g1⟩) := Eq.trans rfl rfl
theorem sRetR_at (m : M Rt) (g : En) : sRetR m g = (m g).thn (c := ⟨fun r g1 => .ok (.rt r) g1⟩) := Eq.trans rfl rfl
def setS (i : Nat) (g : En) (r : Rt) : Ro Fl := match r with
  | .d x => .ok .nx (g.set i (.d x))
  | .own xs => .ok .nx (g.set i (.own false xs))
theorem sSetR_at (i : Nat) (m : M Rt) (g : En) : sSetR i m g = (m g).thn (c := ⟨fun r g1 => setS i g1 r⟩) := by
  unfold sSetR bnd Ro.thn setS
  cases m g with
  | ok r g1 => cases r <;> rfl
  | _ => rfl
theorem setS_d (i : Nat) (g : En) (x : D) : setS i g (.d x) = .ok .nx (g.set i (.d x)) := Eq.trans rfl rfl
theorem setS_o (i : Nat) (g : En) (x : List D) : setS i g (.own x) = .ok .nx (g.set i (.own false x)) := Eq.trans rfl rfl
def outF (ks : List Pk) (r : Ro Fl) : Out := match r with
  | .ok .nx g => outM ks (.d .none) g
  | .ok (.rt r) g => outM ks r g
  | .ex c x g => match muOf ks g with
    | some ms => .ex c x ms
    | none => .bad
  | _ => .bad
theorem runF_at (n : Nat) (ks : List Pk) (b : M Fl) (xs : List D) : runF n ks b xs = outF ks (b (start0 n ks xs)) := by
  unfold runF outF
  cases b (start0 n ks xs) with
  | ok f g => cases f <;> rfl
  | _ => rfl
def mOut (o : Option (List D)) (r : Rt) : Out := match o with
  | some ms => .ret r ms
  | none => .bad
theorem outF_nx (ks : List Pk) (g : En) : outF ks (.ok .nx g) = mOut (muOf ks g) (.d .none) := Eq.trans rfl rfl
theorem outF_rt (ks : List Pk) (r : Rt) (g : En) : outF ks (.ok (.rt r) g) = mOut (muOf ks g) r := Eq.trans rfl rfl
theorem mOut_some (ms : List D) (r : Rt) : mOut (some ms) r = .ret r ms := Eq.trans rfl rfl
theorem muOf_nil (g : En) : muOf [] g = some [] := by
  unfold muOf
  rfl
theorem muOf_m (ks : List Pk) (ms : List D) (g : En) : muOf (.m :: ks) (.own true ms :: g) = some ms := Eq.trans rfl rfl
theorem muOf_v (ks : List Pk) (sv : SV) (g : En) : muOf (.v :: ks) (sv :: g) = muOf ks g := Eq.trans rfl rfl
theorem muOf_p (ks : List Pk) (sv : SV) (g : En) : muOf (.p :: ks) (sv :: g) = muOf ks g := Eq.trans rfl rfl

theorem mixR_at (m : M D) (n : M (List D)) (g : En) : mixR m n g = match m g with
  | .ok x g' => .ok (.d x) g'
  | .ex c x g' => .ex c x g'
  | .bad => (n g).thn (c := ⟨fun xs g' => .ok (.own xs) g'⟩) := by
  unfold mixR Ro.thn
  cases m g with
  | bad => cases n g <;> rfl
  | _ => rfl
theorem dChain_at (f h : D → D → Option D) (m n o : M Rs) (g : En) : dChain f h m n o g = (m g).thn (c := ⟨fun r g1 => (n g1).thn (c := ⟨fun s g2 => (oRo (oMap (vl g2 r) (c := ⟨fun x => oMap (vl g2 s) (c := ⟨fun y => oMap (f x y) (c := ⟨boolD⟩)⟩)⟩)) g2).thn (c := ⟨fun k g3 => brn k (fun g3 => (o g3).thn (c := ⟨fun t g4 => oRo (oMap (vl g4 s) (c := ⟨fun y' => oMap (vl g4 t) (c := ⟨fun z => h y' z⟩)⟩)) g4⟩)) (rt (.bool false)) g3⟩)⟩)⟩) := by
  unfold dChain bnd Ro.thn
  cases m g with
  | ok r g1 =>
    dsimp only
    cases n g1 with
    | ok s g2 =>
      dsimp only
      cases vl g2 r with
      | none => rfl
      | some x =>
        cases vl g2 s with
        | none => rfl
        | some y =>
          dsimp only [oMap]
          cases f x y with
          | none => rfl
          | some w =>
            cases w with
            | bool k =>
              dsimp only [boolD, oRo]
              cases k with
              | false => rfl
              | true =>
                unfold brn
                rw [if_pos rfl, if_pos rfl]
                dsimp only
                cases o g2 with
                | ok t g4 =>
                  dsimp only
                  cases vl g4 s with
                  | none => rfl
                  | some y' =>
                    cases vl g4 t with
                    | none => rfl
                    | some z =>
                      dsimp only
                      cases h y' z <;> rfl
                | _ => rfl
            | _ => rfl
    | _ => rfl
  | _ => rfl
theorem dRep_at (m : M (List D)) (n : M Rs) (g : En) : dRep m n g = (m g).thn (c := ⟨fun xs g1 => (n g1).thn (c := ⟨fun s g2 => oRo (oMap (vl g2 s) (c := ⟨fun y => fRep xs y⟩)) g2⟩)⟩) := by
  unfold dRep bnd Ro.thn
  cases m g with
  | ok xs g1 =>
    dsimp only
    cases n g1 with
    | ok s g2 =>
      dsimp only
      cases vl g2 s with
      | none => rfl
      | some y =>
        dsimp only [oMap]
        cases fRep xs y <;> rfl
    | _ => rfl
  | _ => rfl
def intD : D → Option Int
  | .int i => some i
  | _ => none
theorem intD_i (i : Int) : intD (.int i) = some i := Eq.trans rfl rfl
theorem rg1_at (m : M Rs) (g : En) : rg1 m g = (m g).thn (c := ⟨fun r g1 => oRo (oMap (vl g1 r) (c := ⟨fun x => oMap (intD x) (c := ⟨fun i => some (0, i)⟩)⟩)) g1⟩) := by
  unfold rg1 bnd Ro.thn
  cases m g with
  | ok r g1 =>
    dsimp only
    cases vl g1 r with
    | none => rfl
    | some x => cases x <;> rfl
  | _ => rfl
theorem rg2_at (m n : M Rs) (g : En) : rg2 m n g = (m g).thn (c := ⟨fun r g1 => (n g1).thn (c := ⟨fun s g2 => oRo (oMap (vl g2 r) (c := ⟨fun x => oMap (vl g2 s) (c := ⟨fun y => oMap (intD x) (c := ⟨fun i => oMap (intD y) (c := ⟨fun j => some (i, j)⟩)⟩)⟩)⟩)) g2⟩)⟩) := by
  unfold rg2 bnd Ro.thn
  cases m g with
  | ok r g1 =>
    dsimp only
    cases n g1 with
    | ok s g2 =>
      dsimp only
      cases vl g2 r with
      | none => rfl
      | some x =>
        cases vl g2 s with
        | none => cases x <;> rfl
        | some y => cases x <;> cases y <;> rfl
    | _ => rfl
  | _ => rfl
theorem dIndexT_at (m n : M Rs) (g : En) : dIndexT m n g = (m g).thn (c := ⟨fun r g1 => match vl g1 r with
  | some (.tuple _) => op2 fIxT (rt r) n g1
  | _ => .bad⟩) := rfl

def seqS (i : Nat) (o : Option SV) (g : En) : Ro (List D) := match o with
  | some (.d x) => oRo (seqD x) g
  | some (.a xs) => .ok xs g
  | some (.own false xs) => .ok xs (g.set i (.d (.list xs)))
  | _ => .bad
theorem seqS_d (i : Nat) (x : D) (g : En) : seqS i (some (.d x)) g = oRo (seqD x) g := Eq.trans rfl rfl
theorem seqS_a (i : Nat) (x : List D) (g : En) : seqS i (some (.a x)) g = .ok x g := Eq.trans rfl rfl
theorem seqS_o (i : Nat) (x : List D) (g : En) : seqS i (some (.own false x)) g = .ok x (g.set i (.d (.list x))) := Eq.trans rfl rfl
theorem seqD_l (xs : List D) : seqD (.list xs) = some xs := Eq.trans rfl rfl
theorem seqD_t (xs : List D) : seqD (.tuple xs) = some xs := Eq.trans rfl rfl
theorem itR_d (x : D) (g : En) : itR (.d x) g = oRo (seqD x) g := by
  unfold itR oRo
  dsimp only
  cases seqD x <;> rfl
theorem itR_s (i : Nat) (g : En) : itR (.sl i) g = seqS i g[i]? g := by
  unfold itR seqS
  dsimp only
  cases g[i]? with
  | none => rfl
  | some sv =>
    cases sv with
    | d x =>
      dsimp only
      cases seqD x <;> rfl
    | own b xs => cases b <;> rfl
    | _ => rfl
theorem iV_at (m : M Rs) (g : En) : iV m g = (m g).thn (c := ⟨fun r g1 => itR r g1⟩) := Eq.trans rfl rfl
theorem iO_at (m : M (List D)) (g : En) : iO m g = m g := Eq.trans rfl rfl
theorem iEnV_at (m : M Rs) (g : En) : iEnV m g = (m g).thn (c := ⟨fun r g1 => (itR r g1).thn (c := ⟨fun xs g2 => .ok (enumD 0 xs) g2⟩)⟩) := Eq.trans rfl rfl
theorem iEnO_at (m : M (List D)) (g : En) : iEnO m g = (m g).thn (c := ⟨fun xs g2 => .ok (enumD 0 xs) g2⟩) := Eq.trans rfl rfl
theorem sFor_at (t : Tg) (ms : List Nat) (mi : M (List D)) (b : M Fl) (g : En) : sFor t ms mi b g = (mi g).thn (c := ⟨fun xs g1 => forG t ms b xs g1⟩) := Eq.trans rfl rfl
theorem compL_at (vs : List Nat) (t : Tg) (mi : M (List D)) (mt : M Bool) (me : M D) (g : En) : compL vs t mi mt me g = (mi g).thn (c := ⟨fun xs g1 => compB vs t mt me xs g1⟩) := Eq.trans rfl rfl

theorem forG_inv {t : Tg} {ms : List Nat} {b : M Fl} : ∀ (xs : List D) (P : List D → En → Prop) (g : En), P xs g → (∀ x r g, P (x :: r) g → (x :: r) <:+ xs → ∃ g1 g2, setT t x g = some g1 ∧ (b g1 = .ok .nx g2 ∨ b g1 = .ok .ct g2) ∧ P r (fgt ms g2)) → ∃ g', forG t ms b xs g = .ok .nx (fgt ms g') ∧ P [] g' := by
  intro xs P
  have key : ∀ (r : List D) (g : En), P r g → r <:+ xs → (∀ x r g, P (x :: r) g → (x :: r) <:+ xs → ∃ g1 g2, setT t x g = some g1 ∧ (b g1 = .ok .nx g2 ∨ b g1 = .ok .ct g2) ∧ P r (fgt ms g2)) → ∃ g', forG t ms b r g = .ok .nx (fgt ms g') ∧ P [] g' := by
    intro r
    induction r with
    | nil => exact fun g h _ _ => ⟨g, rfl, h⟩
    | cons x r ih =>
      intro g h hs step
      obtain ⟨g1, g2, h1, h2, h3⟩ := step x r g h hs
      obtain ⟨g', h4, h5⟩ := ih (fgt ms g2) h3 (List.IsSuffix.trans (List.suffix_cons x r) hs) step
      refine ⟨g', ?_, h5⟩
      rw [forG, h1]
      dsimp only
      rcases h2 with h2 | h2
      · rw [h2]
        exact h4
      · rw [h2]
        exact h4
  exact fun g h step => key xs g h (List.suffix_refl _) step
theorem compG_ok {β : Type} {vs : List Nat} {t : Tg} {mt : M Bool} {me : M D} {enc f : β → D} {p : β → Bool} {g : En} : ∀ (l : List β) (ys : List D),
    (∀ x ∈ l, ∃ g1, setT t (enc x) g = some g1 ∧ mt g1 = .ok (p x) g1 ∧ (p x = true → me g1 = .ok (f x) g1) ∧ wipG g1 vs = g) → compG vs t mt me (l.map enc) ys g = .ok (ys ++ (l.filter p).map f) g
  | [], ys, _ => by
    show Ro.ok ys g = Ro.ok (ys ++ []) g
    rw [List.append_nil]
  | x :: l, ys, h => by
    obtain ⟨g1, h1, h2, h3, h4⟩ := h x List.mem_cons_self
    have ih := compG_ok (vs := vs) (t := t) (mt := mt) (me := me) (enc := enc) (f := f) (p := p) (g := g) l
    rw [List.map_cons, compG, h1]
    dsimp only
    rw [h2]
    cases hp : p x with
    | true =>
      dsimp only
      rw [h3 hp]
      dsimp only
      rw [h4, ih (ys ++ [f x]) (fun y hy => h y (List.mem_cons_of_mem _ hy)), List.filter_cons_of_pos hp, List.map_cons, List.append_assoc]
      rfl
    | false =>
      dsimp only
      rw [h4, ih ys (fun y hy => h y (List.mem_cons_of_mem _ hy)), List.filter_cons_of_neg (by rw [hp]; exact Bool.false_ne_true)]
theorem wipG_out {g : En} {i : Nat} : ∀ {vs : List Nat}, i ∉ vs → (wipG g vs)[i]? = g[i]?
  | [], _ => rfl
  | v :: vs, h => by
    have h1 : v ≠ i := fun e => h (by rw [e]; exact List.mem_cons_self)
    unfold wipG
    rw [List.getElem?_set_ne h1]
    exact wipG_out fun m => h (List.mem_cons_of_mem _ m)
theorem rst_wip {g : En} : ∀ {vs : List Nat}, rstG g (wipG g vs) vs = g := fun {vs} => List.ext_getElem? fun i => by
  by_cases h : i ∈ vs
  · exact rstG_in wipG_len h
  · rw [rstG_out h, wipG_out h]
theorem compB_ok {β : Type} {vs : List Nat} {t : Tg} {mt : M Bool} {me : M D} {enc f : β → D} {p : β → Bool} {g : En} (l : List β) (hz : l.length ≤ sizeLine) (hn : noOwn g vs = true)
    (h : ∀ x ∈ l, ∃ g1, setT t (enc x) (wipG g vs) = some g1 ∧ mt g1 = .ok (p x) g1 ∧ (p x = true → me g1 = .ok (f x) g1) ∧ wipG g1 vs = wipG g vs) : compB vs t mt me (l.map enc) g = .ok ((l.filter p).map f) g := by
  unfold compB
  rw [if_pos ⟨by rw [List.length_map]; exact hz, hn⟩, compG_ok (p := p) (f := f) l [] h]
  show Ro.ok _ (rstG g (wipG g vs) vs) = _
  rw [rst_wip, List.nil_append]
end Z

set_option Elab.async false
set_option linter.all false
set_option maxRecDepth 100000
set_option autoImplicit false
set_option maxHeartbeats 1000000
namespace Z
open PySem PySem.Spec PyProof.Rows L2

theorem fAdd_i (i j : Int) : fAdd (.int i) (.int j) = some (.int (i + j)) := Eq.trans rfl rfl
theorem fSub_i (i j : Int) : fSub (.int i) (.int j) = some (.int (i - j)) := Eq.trans rfl rfl
theorem fLt_i (i j : Int) : fLt (.int i) (.int j) = some (.bool (decide (i < j))) := Eq.trans rfl rfl
theorem fLe_i (i j : Int) : fLe (.int i) (.int j) = some (.bool (decide (i ≤ j))) := Eq.trans rfl rfl
theorem fGt_i (i j : Int) : fGt (.int i) (.int j) = some (.bool (decide (j < i))) := Eq.trans rfl rfl
theorem fGe_i (i j : Int) : fGe (.int i) (.int j) = some (.bool (decide (j ≤ i))) := Eq.trans rfl rfl
theorem fMod_i (i j : Int) (h : 0 < j) : fMod (.int i) (.int j) = some (.int (i % j)) := if_pos h
theorem fDiv_i (i j : Int) (h : 0 < j) (h2 : j < 1073741824) : fDiv (.int i) (.int j) = some (.int (i / j)) := by
  unfold fDiv
  dsimp only
  rw [if_pos (by unfold okDiv; rw [decide_eq_true h, decide_eq_true h2]; rfl)]
theorem fDiv_33 (i : Int) : fDiv (.int i) (.int 8589934592) = some (.int (i / 8589934592)) := Eq.trans rfl rfl
theorem fMul_r (i j : Int) (h : j.natAbs < 18446744073709551616) : fMul (.int i) (.int j) = some (.int (i * j)) := by
  unfold fMul
  dsimp only
  rw [if_pos (by unfold okMul; rw [decide_eq_true h, Bool.or_true, Bool.true_or])]
theorem fMul_l (i j : Int) (h : i.natAbs < 18446744073709551616) : fMul (.int i) (.int j) = some (.int (i * j)) := by
  unfold fMul
  dsimp only
  rw [if_pos (by unfold okMul; rw [decide_eq_true h, Bool.true_or, Bool.true_or])]
theorem fMul_take (i : Int) : fMul (.int i) (.int 6364136223846793005) = some (.int (i * 6364136223846793005)) := fMul_r i _ (by decide)
theorem fMul_7919 (i : Int) : fMul (.int 7919) (.int i) = some (.int (7919 * i)) := fMul_l _ i (by decide)
theorem fMul_31 (i : Int) : fMul (.int 31) (.int i) = some (.int (31 * i)) := fMul_l _ i (by decide)
theorem fPow_64 : fPow (.int 2) (.int 64) = some (.int 18446744073709551616) := Eq.trans rfl rfl
theorem fPow_33 : fPow (.int 2) (.int 33) = some (.int 8589934592) := Eq.trans rfl rfl
theorem fPow_18 : fPow (.int 10) (.int 18) = some (.int 1000000000000000000) := Eq.trans rfl rfl
theorem fNeg_i (i : Int) : fNeg (.int i) = some (.int (-i)) := Eq.trans rfl rfl
theorem fLen_l (xs : List D) : fLen [.list xs] = some (.int xs.length) := Eq.trans rfl rfl
theorem fLen_t (xs : List D) : fLen [.tuple xs] = some (.int xs.length) := Eq.trans rfl rfl
theorem fInt_i (i : Int) : fInt [.int i] = some (.int i) := Eq.trans rfl rfl
theorem fTuple_l (xs : List D) : fTuple [.list xs] = some (.tuple xs) := Eq.trans rfl rfl
theorem fList_l (xs : List D) : fList [.list xs] = some xs := Eq.trans rfl rfl
theorem fMax_2 (i j : Int) : fMax [.int i, .int j] = some (.int (if j > i then j else i)) := Eq.trans rfl rfl
theorem fMin_2 (i j : Int) : fMin [.int i, .int j] = some (.int (if j < i then j else i)) := Eq.trans rfl rfl
theorem ixN_nat {n i : Nat} (h : i < n) : ixN n (i : Int) = some i := by
  unfold ixN
  rw [if_pos (Int.natCast_nonneg i), if_pos (Int.ofNat_lt.mpr h), Int.toNat_natCast]
theorem ixN_int {n : Nat} {i : Int} (h0 : 0 ≤ i) (h : i < n) : ixN n i = some i.toNat := by
  unfold ixN
  rw [if_pos h0, if_pos h]
theorem atI_of {xs : List D} {i : Nat} {x : D} (h : xs[i]? = some x) : atI xs (i : Int) = some x := by
  unfold atI
  rw [ixN_nat (List.getElem?_eq_some_iff.mp h).1]
  exact h
theorem fIx_l {xs : List D} {i : Nat} {x : D} (h : xs[i]? = some x) : fIx (.list xs) (.int (i : Int)) = some x := atI_of h
theorem fIx_t {xs : List D} {i : Nat} {x : D} (h : xs[i]? = some x) : fIx (.tuple xs) (.int (i : Int)) = some x := atI_of h
theorem fIx_l0 (x : D) (xs : List D) : fIx (.list (x :: xs)) (.int 0) = some x := fIx_l (i := 0) rfl
theorem fIx_l1 (x y : D) (xs : List D) : fIx (.list (x :: y :: xs)) (.int 1) = some y := fIx_l (i := 1) rfl
theorem fIx_l2 (x y z : D) (xs : List D) : fIx (.list (x :: y :: z :: xs)) (.int 2) = some z := fIx_l (i := 2) rfl
theorem fIx_last {xs : List D} {x : D} : fIx (.tuple (xs ++ [x])) (.int (-1)) = some x := by
  show atI (xs ++ [x]) (-1) = some x
  unfold atI ixN
  have h1 : ¬ (0 : Int) ≤ -1 := by decide
  have h2 : -((xs ++ [x]).length : Int) ≤ -1 := by
    rw [List.length_append, List.length_singleton]
    omega
  rw [if_neg h1, if_pos h2]
  have h3 : (-1 + ((xs ++ [x]).length : Int)).toNat = xs.length := by
    rw [List.length_append, List.length_singleton]
    omega
  show (xs ++ [x])[(-1 + ((xs ++ [x]).length : Int)).toNat]? = some x
  rw [h3, List.getElem?_append_right (Nat.le_refl _), Nat.sub_self]
  rfl
theorem subS0 (i : Nat) (y : D) (b : Bool) (x : D) (xs : List D) (g : En) : subS i y (some (b, x :: xs)) (some (.int 0)) g = .ok .nx (g.set i (.own b (y :: xs))) := subS_at i y b (x :: xs) 0 g 0 (ixN_nat (i := 0) (Nat.succ_pos _))
theorem subS1 (i : Nat) (y : D) (b : Bool) (x z : D) (xs : List D) (g : En) : subS i y (some (b, x :: z :: xs)) (some (.int 1)) g = .ok .nx (g.set i (.own b (x :: y :: xs))) := subS_at i y b (x :: z :: xs) 1 g 1 (ixN_nat (i := 1) (by simp))

abbrev ti (p : List Int) : D := .tuple (p.map .int)
abbrev li (p : List Int) : D := .list (p.map .int)
/-- data without dicts, of few levels -/
def Gd (n : Nat) (d : D) : Prop := d.canLay0 = true ∧ d.depth ≤ n
theorem gd_int (n : Nat) (i : Int) : Gd n (.int i) := ⟨rfl, Nat.zero_le _⟩
theorem gd_bool (n : Nat) (i : Bool) : Gd n (.bool i) := ⟨rfl, Nat.zero_le _⟩
theorem gd_all : ∀ {n : Nat} {xs : List D}, (∀ x ∈ xs, Gd n x) → PyData.canLayAll0 xs = true ∧ PyData.depthAll xs ≤ n
  | _, [], _ => ⟨rfl, Nat.zero_le _⟩
  | n, x :: xs, h => by
    obtain ⟨a, b⟩ := h x List.mem_cons_self
    obtain ⟨c, d⟩ := gd_all (xs := xs) fun y hy => h y (List.mem_cons_of_mem _ hy)
    exact ⟨by show (x.canLay0 && PyData.canLayAll0 xs) = true; rw [a, c]; rfl, Nat.max_le.mpr ⟨b, d⟩⟩
theorem gd_list {n : Nat} {xs : List D} (h : ∀ x ∈ xs, Gd n x) : Gd (n + 1) (.list xs) := by
  obtain ⟨a, b⟩ := gd_all h
  exact ⟨a, Nat.succ_le_succ b⟩
theorem gd_tuple {n : Nat} {xs : List D} (h : ∀ x ∈ xs, Gd n x) : Gd (n + 1) (.tuple xs) := by
  obtain ⟨a, b⟩ := gd_all h
  exact ⟨a, Nat.succ_le_succ b⟩
theorem Gd.mono {m n : Nat} {d : D} (h : Gd m d) (l : m ≤ n) : Gd n d := ⟨h.1, Nat.le_trans h.2 l⟩
theorem gd_ints (n : Nat) (p : List Int) : ∀ x ∈ p.map PyData.int, Gd n x := fun x hx => by
  obtain ⟨i, _, rfl⟩ := List.mem_map.mp hx
  exact gd_int n i
theorem gd_ti (n : Nat) (p : List Int) : Gd (n + 1) (ti p) := gd_tuple (gd_ints n p)
theorem gd_li (n : Nat) (p : List Int) : Gd (n + 1) (li p) := gd_list (gd_ints n p)
theorem Gd.shaped {n : Nat} {d : D} (h : Gd n d) (hn : n ≤ 64) : SeqAt.shaped d = true := by
  unfold SeqAt.shaped
  rw [h.1, decide_eq_true (Nat.le_trans h.2 hn)]
  rfl
theorem Gd.eqv {n : Nat} {d : D} (h : Gd n d) : PyData.eqv d d = true := PySem.SeqAt.eqv_refl d h.1
theorem eqvAll_ints : ∀ p q : List Int, PyData.eqvAll (p.map .int) (q.map .int) = decide (p = q)
  | [], [] => rfl
  | [], _ :: _ => rfl
  | _ :: _, [] => rfl
  | x :: p, y :: q => by
    show ((x == y) && PyData.eqvAll (p.map .int) (q.map .int)) = decide (x :: p = y :: q)
    rw [eqvAll_ints p q]
    by_cases h : x = y
    · subst h
      by_cases h2 : p = q
      · subst h2
        simp
      · simp [h2]
    · simp [h]
theorem fEq_gd {n m : Nat} {x y : D} (h : Gd n x) (k : Gd m y) (hn : n ≤ 64) (hm : m ≤ 64) : fEq x y = some (.bool (PyData.eqv x y)) := by
  unfold fEq
  rw [h.shaped hn, k.shaped hm]
  rfl
theorem fNe_gd {n m : Nat} {x y : D} (h : Gd n x) (k : Gd m y) (hn : n ≤ 64) (hm : m ≤ 64) : fNe x y = some (.bool (!PyData.eqv x y)) := by
  unfold fNe
  rw [h.shaped hn, k.shaped hm]
  rfl
theorem fEq_i (i j : Int) : fEq (.int i) (.int j) = some (.bool (decide (i = j))) := by
  rw [fEq_gd (gd_int 0 i) (gd_int 0 j) (by decide) (by decide)]
  show some (PyData.bool (i == j)) = _
  by_cases h : i = j <;> simp [h]
theorem fEq_li (p q : List Int) : fEq (li p) (li q) = some (.bool (decide (p = q))) := by
  rw [fEq_gd (gd_li 0 p) (gd_li 0 q) (by decide) (by decide)]
  show some (PyData.bool (PyData.eqvAll _ _)) = _
  rw [eqvAll_ints]
theorem fNe_ti (p q : List Int) : fNe (ti p) (ti q) = some (.bool (!decide (p = q))) := by
  rw [fNe_gd (gd_ti 0 p) (gd_ti 0 q) (by decide) (by decide)]
  show some (PyData.bool (!PyData.eqvAll _ _)) = _
  rw [eqvAll_ints]

theorem dataLe_tot : PySem.W.TotalLe (PySem.W.dataLe (β := D) false id) := PySem.W.sortLe_total _ _ _
theorem sortD_eq {xs ys : List D} (hp : xs.Perm ys) (hs : ys.Pairwise fun a b => PySem.W.dataLe false id a b = true) (anti : ∀ a ∈ ys, ∀ b ∈ ys, PySem.W.dataLe false id a b = true → PySem.W.dataLe false id b a = true → a = b) : sortD xs = ys := by
  unfold sortD
  have p1 := (List.mergeSort_perm xs (PySem.W.dataLe false id)).trans hp
  refine List.Perm.eq_of_pairwise (le := fun a b => PySem.W.dataLe (β := D) false id a b = true) (fun a b ha hb => anti a (p1.mem_iff.mp ha) b hb) (List.pairwise_mergeSort (fun a b c => dataLe_tot.trans a b c) (fun a b => ?_) xs) hs p1
  have := dataLe_tot.total a b
  simpa using this
theorem le_int (i j : Int) : PySem.W.dataLe false id (PyData.int i) (.int j) = decide (i ≤ j) := by
  have := congrFun (congrFun (PySem.W.dataLe_int (β := Int) (fun i => i)) i) j
  exact this
theorem sortD_ints {p q : List Int} (hp : p.Perm q) (hs : q.Pairwise (· ≤ ·)) : sortD (p.map .int) = q.map .int := by
  refine sortD_eq (hp.map _) ?_ ?_
  · rw [List.pairwise_map]
    exact hs.imp fun {a b} h => by rw [le_int]; exact decide_eq_true h
  · intro a ha b hb h1 h2
    obtain ⟨i, _, rfl⟩ := List.mem_map.mp ha
    obtain ⟨j, _, rfl⟩ := List.mem_map.mp hb
    rw [le_int] at h1 h2
    rw [Int.le_antisymm (of_decide_eq_true h1) (of_decide_eq_true h2)]
end Z

set_option Elab.async false
set_option linter.all false
set_option maxRecDepth 100000
set_option autoImplicit false
set_option maxHeartbeats 1000000
namespace Z
open PySem PySem.Spec PyProof.Rows L2

def irange (a : Int) (n : Nat) : List Int := (List.range n).map fun (i : Nat) => a + (i : Int)
theorem irange_len (a : Int) (n : Nat) : (irange a n).length = n := by simp [irange]
theorem irange_zero (a : Int) : irange a 0 = [] := Eq.trans rfl rfl
theorem irange_succ (a : Int) (n : Nat) : irange a (n + 1) = a :: irange (a + 1) n := by
  unfold irange
  rw [List.range_succ_eq_map, List.map_cons, List.map_map]
  congr 1
  · simp
  · apply List.map_congr_left
    intro i _
    simp only [Function.comp, Nat.succ_eq_add_one]
    omega
theorem irange_mem {a : Int} {n : Nat} {x : Int} : x ∈ irange a n ↔ a ≤ x ∧ x < a + n := by
  unfold irange
  rw [List.mem_map]
  constructor
  · rintro ⟨i, hi, rfl⟩
    have := List.mem_range.mp hi
    omega
  · rintro ⟨h1, h2⟩
    exact ⟨(x - a).toNat, List.mem_range.mpr (by omega), by omega⟩
theorem irange_sorted (a : Int) (n : Nat) : (irange a n).Pairwise (· < ·) := by
  unfold irange
  rw [List.pairwise_map]
  exact List.pairwise_lt_range.imp fun {i j} h => by omega
theorem irange_nodup (a : Int) (n : Nat) : (irange a n).Nodup := (irange_sorted a n).imp fun {i j} h => by omega
theorem rngD_irange (a : Int) (n : Nat) : rngD a 1 n = (irange a n).map .int := by
  unfold rngD irange
  rw [List.map_map]
  apply List.map_congr_left
  intro i _
  simp
theorem rgD_irange (a b : Int) : rgD a b = (irange a (b - a).toNat).map .int := by
  unfold rgD irange
  rw [List.map_map]
  rfl

structure IsOrd (p : List Int) : Prop where
  nd : p.Nodup
  lo : ∀ x ∈ p, 1 ≤ x
  hi : ∀ x ∈ p, x ≤ p.length
theorem perm_of_sub {p q : List Int} (hp : p.Nodup) (hq : q.Nodup) (h : ∀ x ∈ p, x ∈ q) (hl : q.length ≤ p.length) : p.Perm q := by
  rw [List.perm_ext_iff_of_nodup hp hq]
  intro a
  refine ⟨h a, fun ha => ?_⟩
  by_cases hn : a ∈ p
  · exact hn
  · have h1 : (a :: p).Nodup := List.nodup_cons.mpr ⟨hn, hp⟩
    have h2 : (a :: p) ⊆ q := fun x hx => by
      rcases List.mem_cons.mp hx with e | e
      · rw [e]; exact ha
      · exact h x e
    have := List.Nodup.length_le_of_subset h1 h2
    rw [List.length_cons] at this
    omega
theorem IsOrd.perm {p : List Int} (h : IsOrd p) : p.Perm (irange 1 p.length) :=
  perm_of_sub h.nd (irange_nodup _ _) (fun x hx => irange_mem.mpr ⟨h.lo x hx, by have := h.hi x hx; omega⟩) (by rw [irange_len]; exact Nat.le_refl _)
theorem IsOrd.of_perm {p : List Int} (h : p.Perm (irange 1 p.length)) : IsOrd p :=
  ⟨h.nodup_iff.mpr (irange_nodup _ _), fun x hx => (irange_mem.mp (h.mem_iff.mp hx)).1, fun x hx => by have := (irange_mem.mp (h.mem_iff.mp hx)).2; omega⟩
theorem IsOrd.mem {p : List Int} (h : IsOrd p) {x : Int} (h1 : 1 ≤ x) (h2 : x ≤ p.length) : x ∈ p := h.perm.mem_iff.mpr (irange_mem.mpr ⟨h1, by omega⟩)
theorem isOrd_nil : IsOrd [] := ⟨List.nodup_nil, fun _ h => (nomatch h), fun _ h => (nomatch h)⟩
theorem isOrd_insert {p : List Int} (h : IsOrd p) (r : Nat) : IsOrd (p.take r ++ [((p.length + 1 : Nat) : Int)] ++ p.drop r) := by
  have hp : (p.take r ++ [((p.length + 1 : Nat) : Int)] ++ p.drop r).Perm (((p.length + 1 : Nat) : Int) :: p) := by
    rw [List.append_assoc, List.singleton_append]
    refine List.perm_middle.trans ?_
    rw [List.take_append_drop]
  have hl : (p.take r ++ [((p.length + 1 : Nat) : Int)] ++ p.drop r).length = p.length + 1 := by rw [hp.length_eq, List.length_cons]
  refine ⟨hp.nodup_iff.mpr (List.nodup_cons.mpr ⟨fun hm => ?_, h.nd⟩), fun x hx => ?_, fun x hx => ?_⟩
  · have := h.hi _ hm
    omega
  · rcases List.mem_cons.mp (hp.mem_iff.mp hx) with e | e
    · omega
    · exact h.lo x e
  · rw [hl]
    rcases List.mem_cons.mp (hp.mem_iff.mp hx) with e | e
    · omega
    · have := h.hi x e
      omega
theorem mAppend_ok (xs : List D) (y : D) (h1 : xs.length < sizeLine) : mAppend xs [y] = some (xs ++ [y], .none) := if_pos h1
theorem setT_nm (i : Nat) (x : D) (g : En) : setT (.nm i) x g = some (g.set i (.d x)) := by
  unfold setT
  rfl
theorem setT_tup (ts : List Tg) (xs : List D) (g : En) : setT (.tup ts) (.tuple xs) g = setTs ts xs g := by rw [setT]
theorem setTs_nil (g : En) : setTs [] [] g = some g := by rw [setTs]
theorem setTs_cons (t : Tg) (ts : List Tg) (x : D) (xs : List D) (g g' : En) (h : setT t x g = some g') : setTs (t :: ts) (x :: xs) g = setTs ts xs g' := by rw [setTs, h]
theorem fgt_nil (g : En) : fgt [] g = g := Eq.trans rfl rfl
theorem fgt_cons (i : Nat) (is : List Nat) (g : En) : fgt (i :: is) g = fgt is (g.set i .u) := Eq.trans rfl rfl
theorem wipG_nil (g : En) : wipG g [] = g := Eq.trans rfl rfl
theorem wipG_cons (g : En) (v : Nat) (vs : List Nat) : wipG g (v :: vs) = (wipG g vs).set v .u := Eq.trans rfl rfl
theorem sizeLine_big : sizeLine = 16777216 := by decide
def rgO1 (o : Option (List D)) (g : En) : Ro (List D) := match o with
  | some [.int j] => if rgLim j then .ok (rngD 0 1 j.toNat) g else .bad
  | _ => .bad
def rgO2 (o : Option (List D)) (g : En) : Ro (List D) := match o with
  | some [.int i, .int j] => if rgLim i ∧ rgLim j then .ok (rngD i 1 (j - i).toNat) g else .bad
  | _ => .bad
def rgO3 (o : Option (List D)) (g : En) : Ro (List D) := match o with
  | some [.int i, .int j, .int c] => if rgLim i ∧ rgLim j ∧ c = -1 then .ok (rngD i (-1) (i - j).toNat) g else .bad
  | _ => .bad
def rgT3 (o : Option (List D)) (g : En) : Ro D := match o with
  | some [.int i, .int j, .int c] => if rgLim i ∧ rgLim j ∧ c = -1 ∧ (i - j).toNat ≤ 16777216 then .ok (.tuple (rngD i (-1) (i - j).toNat)) g else .bad
  | _ => .bad
theorem iR1_go (m : M (List Rs)) (g : En) : iR1 m g = (m g).thn (c := ⟨fun rs g1 => rgO1 (vls g1 rs) g1⟩) := Eq.trans rfl rfl
theorem iR2_go (m : M (List Rs)) (g : En) : iR2 m g = (m g).thn (c := ⟨fun rs g1 => rgO2 (vls g1 rs) g1⟩) := Eq.trans rfl rfl
theorem iR3_go (m : M (List Rs)) (g : En) : iR3 m g = (m g).thn (c := ⟨fun rs g1 => rgO3 (vls g1 rs) g1⟩) := Eq.trans rfl rfl
theorem dTupRg3_go (m : M (List Rs)) (g : En) : dTupRg3 m g = (m g).thn (c := ⟨fun rs g1 => rgT3 (vls g1 rs) g1⟩) := Eq.trans rfl rfl
/-- a bound of a range -/
def Sm (i : Int) : Prop := -1000000 ≤ i ∧ i ≤ 1000000
theorem Sm.rg {i : Int} (h : Sm i) : rgLim i := by
  unfold rgLim
  obtain ⟨h1, h2⟩ := h
  omega
/-- lo, lo - 1, .. -/
def drange (a : Int) (n : Nat) : List Int := (List.range n).map fun (i : Nat) => a - (i : Int)
theorem rngD_drange (a : Int) (n : Nat) : rngD a (-1) n = (drange a n).map .int := by
  unfold rngD drange
  rw [List.map_map]
  apply List.map_congr_left
  intro i _
  simp only [Function.comp]
  congr 1
  omega
theorem rgO1_ok (j : Int) (g : En) (h : Sm j) : rgO1 (some [.int j]) g = .ok ((irange 0 j.toNat).map .int) g := by
  rw [← rngD_irange]
  exact if_pos h.rg
theorem rgO2_ok (i j : Int) (g : En) (h : Sm i) (k : Sm j) : rgO2 (some [.int i, .int j]) g = .ok ((irange i (j - i).toNat).map .int) g := by
  rw [← rngD_irange]
  exact if_pos ⟨h.rg, k.rg⟩
theorem rgO3_ok (i j : Int) (g : En) (h : Sm i) (k : Sm j) : rgO3 (some [.int i, .int j, .int (-1)]) g = .ok ((drange i (i - j).toNat).map .int) g := by
  rw [← rngD_drange]
  exact if_pos ⟨h.rg, k.rg, rfl⟩
theorem rgT3_ok (i j : Int) (g : En) (h : Sm i) (k : Sm j) : rgT3 (some [.int i, .int j, .int (-1)]) g = .ok (.tuple ((drange i (i - j).toNat).map .int)) g := by
  rw [← rngD_drange]
  exact if_pos ⟨h.rg, k.rg, rfl, by obtain ⟨h1, h2⟩ := h; obtain ⟨k1, k2⟩ := k; omega⟩
theorem okRg_sm {i j : Int} (h : Sm i) (k : Sm j) : okRg i j = true := by
  obtain ⟨h1, h2⟩ := h
  obtain ⟨k1, k2⟩ := k
  unfold okRg
  simp only [Bool.and_eq_true, decide_eq_true_eq]
  omega
def rgL (ij : Int × Int) (g : En) : Ro (List D) := if okRg ij.1 ij.2 then .ok (rgD ij.1 ij.2) g else .bad
theorem dLstRg_go (m : M (Int × Int)) (g : En) : dLstRg m g = (m g).thn (c := ⟨fun ij g1 => rgL ij g1⟩) := by
  unfold dLstRg bnd Ro.thn rgL
  cases m g with
  | ok x g1 =>
    dsimp only
    split <;> rfl
  | _ => rfl
theorem rgL_ok (i j : Int) (g : En) (h : Sm i) (k : Sm j) : rgL (i, j) g = .ok ((irange i (j - i).toNat).map .int) g := by
  rw [← rgD_irange]
  exact if_pos (okRg_sm h k)
def rgT (ij : Int × Int) (g : En) : Ro D := if okRg ij.1 ij.2 then .ok (.tuple (rgD ij.1 ij.2)) g else .bad
theorem dTupRg_go (m : M (Int × Int)) (g : En) : dTupRg m g = (m g).thn (c := ⟨fun ij g1 => rgT ij g1⟩) := by
  unfold dTupRg bnd Ro.thn rgT
  cases m g with
  | ok x g1 =>
    dsimp only
    split <;> rfl
  | _ => rfl
theorem rgT_ok (i j : Int) (g : En) (h : Sm i) (k : Sm j) : rgT (i, j) g = .ok (.tuple ((irange i (j - i).toNat).map .int)) g := by
  rw [← rgD_irange]
  exact if_pos (okRg_sm h k)
theorem sm0 : Sm 0 := ⟨by decide, by decide⟩
theorem sm1 : Sm 1 := ⟨by decide, by decide⟩
theorem sm_of {i : Int} (h : 0 ≤ i) (k : i ≤ 1000) : Sm i := ⟨by omega, by omega⟩
theorem sz1 : 1 ≤ sizeLine := by decide
theorem sz2 : 2 ≤ sizeLine := by decide
theorem sz3 : 3 ≤ sizeLine := by decide
theorem sz4 : 4 ≤ sizeLine := by decide
theorem sz5 : 5 ≤ sizeLine := by decide
theorem sz_le {n : Nat} (h : n ≤ 100000) : n ≤ sizeLine := Nat.le_trans h (by decide)
theorem sz_lt {n : Nat} (h : n < 100000) : n < sizeLine := Nat.lt_of_lt_of_le h (by decide)
end Z

set_option Elab.async false
set_option linter.all false
set_option maxRecDepth 100000
set_option autoImplicit false
set_option maxHeartbeats 1000000
namespace Z
open PySem PySem.Spec PyProof.Rows L2
theorem compB_map {β : Type} {vs : List Nat} {t : Tg} {me : M D} {enc f : β → D} {g : En} (l : List β) (hz : l.length ≤ sizeLine) (hn : noOwn g vs = true)
    (h : ∀ x ∈ l, ∃ g1, setT t (enc x) (wipG g vs) = some g1 ∧ me g1 = .ok (f x) g1 ∧ wipG g1 vs = wipG g vs) : compB vs t (rt true) me (l.map enc) g = .ok (l.map f) g := by
  have := compB_ok (vs := vs) (t := t) (mt := rt true) (me := me) (enc := enc) (f := f) (p := fun _ => true) l hz hn fun x hx => by
    obtain ⟨g1, h1, h2, h3⟩ := h x hx
    exact ⟨g1, h1, rfl, fun _ => h2, h3⟩
  rw [this, List.filter_eq_self.mpr (fun _ _ => rfl)]
theorem compB_one {β : Type} {i : Nat} {me : M D} {enc f : β → D} {g : En} (l : List β) (hz : l.length ≤ 100000) (hn : noOwn g [i] = true)
    (h : ∀ x ∈ l, me (g.set i (.d (enc x))) = .ok (f x) (g.set i (.d (enc x)))) : compB [i] (.nm i) (rt true) me (l.map enc) g = .ok (l.map f) g :=
  compB_map l (sz_le hz) hn fun x hx => ⟨g.set i (.d (enc x)), by rw [setT_nm]; show some ((g.set i .u).set i _) = _; rw [List.set_set], h x hx, by show (g.set i _).set i .u = g.set i .u; rw [List.set_set]⟩
theorem compB_fil {β : Type} {i : Nat} {mt : M Bool} {me : M D} {enc f : β → D} {p : β → Bool} {g : En} (l : List β) (hz : l.length ≤ 100000) (hn : noOwn g [i] = true)
    (h : ∀ x ∈ l, mt (g.set i (.d (enc x))) = .ok (p x) (g.set i (.d (enc x))) ∧ (p x = true → me (g.set i (.d (enc x))) = .ok (f x) (g.set i (.d (enc x))))) : compB [i] (.nm i) mt me (l.map enc) g = .ok ((l.filter p).map f) g :=
  compB_ok l (sz_le hz) hn fun x hx => ⟨g.set i (.d (enc x)), by rw [setT_nm]; show some ((g.set i .u).set i _) = _; rw [List.set_set], (h x hx).1, (h x hx).2, by show (g.set i _).set i .u = g.set i .u; rw [List.set_set]⟩
theorem fIs_ii (i : Int) : fIs [.int] (.int i) = some (.bool true) := Eq.trans rfl rfl
theorem fIs_ib (i : Int) : fIs [.bool] (.int i) = some (.bool false) := Eq.trans rfl rfl
theorem fIs_is (i : Int) : fIs [.str] (.int i) = some (.bool false) := Eq.trans rfl rfl
theorem fIs_itl (i : Int) : fIs [.tuple, .list] (.int i) = some (.bool false) := Eq.trans rfl rfl
theorem fIs_tt (xs : List D) : fIs [.tuple] (.tuple xs) = some (.bool true) := Eq.trans rfl rfl
theorem fIs_tl (xs : List D) : fIs [.list] (.tuple xs) = some (.bool false) := Eq.trans rfl rfl
theorem fIs_ttl (xs : List D) : fIs [.tuple, .list] (.tuple xs) = some (.bool true) := Eq.trans rfl rfl
theorem fIs_lt (xs : List D) : fIs [.tuple] (.list xs) = some (.bool false) := Eq.trans rfl rfl
theorem fIs_ll (xs : List D) : fIs [.list] (.list xs) = some (.bool true) := Eq.trans rfl rfl
theorem fIs_ltl (xs : List D) : fIs [.tuple, .list] (.list xs) = some (.bool true) := Eq.trans rfl rfl
theorem fAll_b (bs : List Bool) : fAll [.list (bs.map .bool)] = some (.bool (bs.all id)) := by
  unfold fAll
  dsimp only
  rw [toBools_map]
  rfl
theorem fSum_i (ns : List Int) : fSum [.list (ns.map .int)] = some (.int ns.sum) := by
  unfold fSum
  dsimp only
  rw [toInts_map]
  rfl
theorem okSort_ints (p : List Int) (h : p.length ≤ 100000) : okSort (p.map .int) = true := by
  unfold okSort
  simp only [Bool.and_eq_true, List.all_eq_true, decide_eq_true_eq, Bool.or_eq_true, List.length_map]
  refine ⟨⟨⟨fun x hx y hy => ?_, .inr fun x hx => ?_⟩, sz_le h⟩, fun x hx => ?_⟩
  · obtain ⟨i, _, rfl⟩ := List.mem_map.mp hx
    obtain ⟨j, _, rfl⟩ := List.mem_map.mp hy
    rfl
  · obtain ⟨i, _, rfl⟩ := List.mem_map.mp hx
    rfl
  · obtain ⟨i, _, rfl⟩ := List.mem_map.mp hx
    exact Nat.zero_le _
theorem fSorted_t (xs : List D) (h : okSort xs = true) : fSorted [.tuple xs] = some (sortD xs) := if_pos h
theorem fSorted_l (xs : List D) (h : okSort xs = true) : fSorted [.list xs] = some (sortD xs) := if_pos h
theorem fBack_t (xs : List D) : fBack (.tuple xs) = some (.tuple xs.reverse) := Eq.trans rfl rfl
theorem fBackL_l (xs : List D) : fBackL (.list xs) = some xs.reverse := Eq.trans rfl rfl
theorem all_true (n : Nat) : (List.replicate n true).all id = true := by
  rw [List.all_eq_true]
  intro x hx
  rw [List.eq_of_mem_replicate hx]
  rfl
theorem map_true {α : Type} (l : List α) : l.map (fun _ => PyData.bool true) = (List.replicate l.length true).map PyData.bool := by
  induction l with
  | nil => rfl
  | cons x l ih => rw [List.map_cons, ih]; rfl
end Z

set_option Elab.async false
set_option linter.all false
set_option maxRecDepth 100000
set_option autoImplicit false
set_option maxHeartbeats 1000000
namespace Z
open PySem PySem.Spec PyProof.Rows L2
theorem ixOf_idx : ∀ {p : List Int} {k : Int}, k ∈ p → ixOf k p = some (p.idxOf k)
  | x :: p, k, h => by
    unfold ixOf
    by_cases e : x = k
    · subst e
      rw [if_pos rfl, List.idxOf_cons_self]
    · have hb : (x == k) = false := by simp [e]
      rw [if_neg e, List.idxOf_cons, hb, ixOf_idx (by
        rcases List.mem_cons.mp h with z | z
        · exact absurd z.symm e
        · exact z)]
      rfl
theorem fIxT_ok {p : List Int} {k : Int} (h : k ∈ p) : fIxT (.tuple (p.map .int)) (.int k) = some (.int (p.idxOf k : Nat)) := by
  unfold fIxT
  dsimp only
  rw [toInts_map]
  dsimp only
  rw [ixOf_idx h]
  rfl
def mi (p : List Int) : List Int := p.map fun x => p.length + 1 - x
def inv (p : List Int) : List Int := (irange 1 p.length).map fun k => (p.idxOf k : Int) + 1
end Z

set_option Elab.async false
set_option linter.all false
set_option maxRecDepth 100000
set_option autoImplicit false
set_option maxHeartbeats 1000000
namespace Z
open PySem PySem.Spec PyProof.Rows L2
theorem argD_vn (g : En) (ks : List Pk) (i : Nat) (rs : List Rs) : argD g none (.v :: ks) (.sl i :: rs) = oMap (argD g none ks rs) (c := ⟨fun xs => oMap (slV g[i]?) (c := ⟨fun x => some (x :: xs)⟩)⟩) := argD_vs g none ks i rs (fun z => nomatch z)
def like (c : List Int) : List Int := c.map fun y => 1 + ((c.filter fun x => decide (x < y)).length : Int)
def wsum (w : Nat → Nat) (P : Nat → Bool) : Nat → Nat
  | 0 => 0
  | n + 1 => wsum w P n + if P n = true then w n else 0
theorem irange_snoc (a : Int) (n : Nat) : irange a (n + 1) = irange a n ++ [a + n] := by
  unfold irange
  rw [List.range_succ, List.map_append]
  rfl
def total (R : List (List Int)) (n : Nat) : Nat := wsum (fun j => (R.getD j []).length) (fun _ => true) n
end Z

set_option Elab.async false
set_option linter.all false
set_option maxRecDepth 100000
set_option autoImplicit false
set_option maxHeartbeats 1000000
namespace Z
open PySem PySem.Spec PyProof.Rows L2
def mx : List Int → Int
  | [] => 0
  | n :: ns => lmax n ns
def mn : List Int → Int
  | [] => 0
  | n :: ns => lmin n ns
theorem mx_mem {l : List Int} (h : l ≠ []) : mx l ∈ l := by
  cases l with
  | nil => exact absurd rfl h
  | cons n ns =>
    rcases (lmax_spec ns n).1 with e | e
    · show lmax n ns ∈ n :: ns
      rw [e]
      exact List.mem_cons_self
    · exact List.mem_cons_of_mem _ e
theorem mx_ge {l : List Int} {x : Int} (h : x ∈ l) : x ≤ mx l := by
  cases l with
  | nil => exact nomatch h
  | cons n ns =>
    rcases List.mem_cons.mp h with e | e
    · rw [e]
      exact (lmax_spec ns n).2.1
    · exact (lmax_spec ns n).2.2 x e
theorem mn_mem {l : List Int} (h : l ≠ []) : mn l ∈ l := by
  cases l with
  | nil => exact absurd rfl h
  | cons n ns =>
    rcases (lmin_spec ns n).1 with e | e
    · show lmin n ns ∈ n :: ns
      rw [e]
      exact List.mem_cons_self
    · exact List.mem_cons_of_mem _ e
theorem mn_le {l : List Int} {x : Int} (h : x ∈ l) : mn l ≤ x := by
  cases l with
  | nil => exact nomatch h
  | cons n ns =>
    rcases List.mem_cons.mp h with e | e
    · rw [e]
      exact (lmin_spec ns n).2.1
    · exact (lmin_spec ns n).2.2 x e
theorem fMax_l {l : List Int} (h : l ≠ []) : fMax [.list (l.map .int)] = some (.int (mx l)) := by
  cases l with
  | nil => exact absurd rfl h
  | cons n ns =>
    show (match toInts ((n :: ns).map .int) with
      | some (n :: ns) => some (PyData.int (lmax n ns))
      | _ => none) = _
    rw [toInts_map]
    rfl
theorem fMin_l {l : List Int} (h : l ≠ []) : fMin [.list (l.map .int)] = some (.int (mn l)) := by
  cases l with
  | nil => exact absurd rfl h
  | cons n ns =>
    show (match toInts ((n :: ns).map .int) with
      | some (n :: ns) => some (PyData.int (lmin n ns))
      | _ => none) = _
    rw [toInts_map]
    rfl
theorem fNe_li (p q : List Int) : fNe (li p) (li q) = some (.bool (!decide (p = q))) := by
  rw [fNe_gd (gd_li 0 p) (gd_li 0 q) (by decide) (by decide)]
  show some (PyData.bool (!PyData.eqvAll _ _)) = _
  rw [eqvAll_ints]
theorem fCutT_take (xs : List D) (i : Nat) : fCutT (.tuple xs) none (some (i : Int)) = some (.tuple (xs.take i)) := by
  show some (PyData.tuple (cutD xs none (some (i : Int)))) = _
  unfold cutD
  rw [HT.sIx_none, HT.sIx_nat, List.drop_zero, Nat.sub_zero]
  congr 2
  by_cases h : i ≤ xs.length
  · rw [Nat.min_eq_left h]
  · rw [Nat.min_eq_right (by omega), List.take_length, List.take_of_length_le (by omega)]
def qAt (q : List Int) (a : Nat) : Int := q.getD a 0
def lesser (q : List Int) (a : Nat) : List Int := (q.take a).filter fun x => decide (x < qAt q a)
def greater (q : List Int) (a : Nat) : List Int := (q.take a).filter fun x => decide (qAt q a < x)
def belD (q : List Int) (a : Nat) : D := if lesser q a = [] then .none else .int (q.idxOf (mx (lesser q a)) : Nat)
def abvD (q : List Int) (a : Nat) : D := if greater q a = [] then .none else .int (q.idxOf (mn (greater q a)) : Nat)
def nbD (q : List Int) (a : Nat) : D := .tuple [belD q a, abvD q a]
def nbs (q : List Int) (k : Nat) : List D := (List.range k).map (nbD q)
theorem nbs_len (q : List Int) (k : Nat) : (nbs q k).length = k := by simp [nbs]
theorem nbs_succ (q : List Int) (k : Nat) : nbs q (k + 1) = nbs q k ++ [nbD q k] := by simp [nbs, List.range_succ]
theorem enumD_cons (i : Nat) (x : D) (xs : List D) : enumD i (x :: xs) = .tuple [.int (i : Nat), x] :: enumD (i + 1) xs := rfl
theorem getD_get {q : List Int} {a : Nat} (h : a < q.length) : q[a]? = some (q.getD a 0) := by
  rw [List.getD_eq_getElem?_getD, List.getElem?_eq_getElem h]
  rfl
end Z

set_option Elab.async false
set_option linter.all false
set_option maxRecDepth 100000
set_option autoImplicit false
set_option maxHeartbeats 1000000
namespace Z
open PySem PySem.Spec PyProof.Rows L2
def pAt (p : List Int) (x : Int) : Int := p.getD x.toNat 0
def leastI (p q : List Int) (a : Nat) (t : List Int) : Int := if lesser q a = [] then 0 else pAt p (t.getD (q.idxOf (mx (lesser q a))) 0)
def mostI (p q : List Int) (a : Nat) (t : List Int) : Int := if greater q a = [] then (p.length : Int) + 1 else pAt p (t.getD (q.idxOf (mn (greater q a))) 0)
def startI (t : List Int) : Int := match t.getLast? with
  | some x => x + 1
  | none => 0
def stopI (p q : List Int) (a : Nat) : Int := (p.length : Int) - ((q.length : Int) - a - 1)
def okI (p q : List Int) (a : Nat) (t : List Int) (x : Int) : Bool := decide (leastI p q a t < pAt p x) && decide (pAt p x < mostI p q a t)
def extT (p q : List Int) (a : Nat) (t : List Int) : List (List Int) := ((irange (startI t) (stopI p q a - startI t).toNat).filter (okI p q a t)).map fun x => t ++ [x]
def Ls (p q : List Int) : Nat → List (List Int)
  | 0 => [[]]
  | a + 1 => (Ls p q a).flatMap (extT p q a)
/-- a tuple of places so far -/
structure Pl (p : List Int) (a : Nat) (t : List Int) : Prop where
  len : t.length = a
  lo : ∀ x ∈ t, 0 ≤ x
  hi : ∀ x ∈ t, x < p.length
theorem startI_bd {p : List Int} {a : Nat} {t : List Int} (h : Pl p a t) : 0 ≤ startI t ∧ startI t ≤ p.length := by
  unfold startI
  cases e : t.getLast? with
  | none => exact ⟨Int.le_refl _, by show (0 : Int) ≤ _; omega⟩
  | some x =>
    have hm := List.mem_of_getLast? e
    have h1 := h.lo x hm
    have h2 := h.hi x hm
    dsimp only
    omega
theorem pl_ext {p q : List Int} {a : Nat} {t u : List Int} (h : Pl p a t) (ha : a < q.length) (hu : u ∈ extT p q a t) : Pl p (a + 1) u := by
  unfold extT at hu
  obtain ⟨x, hx, rfl⟩ := List.mem_map.mp hu
  obtain ⟨h1, _⟩ := List.mem_filter.mp hx
  have h2 := irange_mem.mp h1
  have h3 := startI_bd h
  have h4 : x < p.length := by
    have : stopI p q a ≤ p.length := by unfold stopI; omega
    omega
  refine ⟨by rw [List.length_append, h.len]; rfl, fun y hy => ?_, fun y hy => ?_⟩
  · rcases List.mem_append.mp hy with z | z
    · exact h.lo y z
    · rw [List.mem_singleton.mp z]
      omega
  · rcases List.mem_append.mp hy with z | z
    · exact h.hi y z
    · rw [List.mem_singleton.mp z]
      exact h4
theorem pl_Ls {p q : List Int} : ∀ {a : Nat}, a ≤ q.length → ∀ t ∈ Ls p q a, Pl p a t
  | 0, _, t, ht => by
    have e : t = [] := List.mem_singleton.mp ht
    subst e
    exact ⟨rfl, fun _ h => (nomatch h), fun _ h => (nomatch h)⟩
  | a + 1, ha, t, ht => by
    obtain ⟨s, hs, h⟩ := List.mem_flatMap.mp ht
    exact pl_ext (pl_Ls (by omega) s hs) (by omega) h
theorem extT_len {p q : List Int} {a : Nat} {t : List Int} (h : Pl p a t) (ha : a < q.length) : (extT p q a t).length ≤ p.length := by
  unfold extT
  rw [List.length_map]
  refine Nat.le_trans (List.length_filter_le _ _) ?_
  rw [irange_len]
  have := startI_bd h
  have : stopI p q a ≤ p.length := by unfold stopI; omega
  omega
theorem idx_take {q : List Int} {a : Nat} {x : Int} (h : x ∈ q.take a) : q.idxOf x < a := by
  have e : q.idxOf x = (q.take a).idxOf x := by
    conv => lhs; rw [← List.take_append_drop a q]
    rw [List.idxOf_append, if_pos h]
  rw [e]
  have := List.idxOf_lt_length_of_mem h
  rw [List.length_take] at this
  omega
theorem fNotN_n : fNotN .none .none = some (.bool false) := Eq.trans rfl rfl
theorem fNotN_i (i : Int) : fNotN (.int i) .none = some (.bool true) := Eq.trans rfl rfl
theorem fAdd_tt (xs ys : List D) (h : xs.length + ys.length ≤ 100000) : fAdd (.tuple xs) (.tuple ys) = some (.tuple (xs ++ ys)) := if_pos (sz_le h)
theorem mExtend_ok (xs zs : List D) (h : xs.length + zs.length ≤ sizeLine) : mExtend xs zs = some (xs ++ zs, .none) := if_pos h
theorem fIx_p {p : List Int} {x : Int} (h0 : 0 ≤ x) (h1 : x < p.length) : fIx (.tuple (p.map .int)) (.int x) = some (.int (pAt p x)) := by
  have := fIx_t (xs := p.map .int) (i := x.toNat) (x := .int (pAt p x)) (by rw [List.getElem?_map, getD_get (show x.toNat < p.length by omega)]; rfl)
  rw [show ((x.toNat : Nat) : Int) = x by omega] at this
  exact this
theorem fIx_pn {t : List Int} {j : Nat} (h : j < t.length) : fIx (.tuple (t.map .int)) (.int (j : Int)) = some (.int (t.getD j 0)) := fIx_t (by rw [List.getElem?_map, getD_get h]; rfl)
end Z

set_option Elab.async false
set_option linter.all false
set_option maxRecDepth 100000
set_option autoImplicit false
set_option maxHeartbeats 1000000
namespace Z
open PySem PySem.Spec PyProof.Rows L2
abbrev at0 (t : List Int) (i : Nat) : Int := t.getD i 0
theorem at0_mem {t : List Int} {i : Nat} (h : i < t.length) : at0 t i ∈ t := by
  unfold at0
  rw [List.getD_eq_getElem?_getD, List.getElem?_eq_getElem h]
  exact List.getElem_mem h
theorem mem_at0 {t : List Int} {x : Int} (h : x ∈ t) : ∃ i, i < t.length ∧ at0 t i = x := by
  obtain ⟨i, hi, e⟩ := List.mem_iff_getElem.mp h
  refine ⟨i, hi, ?_⟩
  unfold at0
  rw [List.getD_eq_getElem?_getD, List.getElem?_eq_getElem hi, ← e]
  rfl
theorem at0_app1 {t u : List Int} {i : Nat} (h : i < t.length) : at0 (t ++ u) i = at0 t i := by
  unfold at0
  rw [List.getD_eq_getElem?_getD, List.getD_eq_getElem?_getD, List.getElem?_append_left h]
theorem at0_app2 {t : List Int} {x : Int} : at0 (t ++ [x]) t.length = x := by
  unfold at0
  rw [List.getD_eq_getElem?_getD, List.getElem?_append_right (Nat.le_refl _), Nat.sub_self]
  rfl
theorem at0_inj {q : List Int} (h : q.Nodup) {i j : Nat} (hi : i < q.length) (hj : j < q.length) (e : at0 q i = at0 q j) : i = j := by
  unfold at0 at e
  rw [List.getD_eq_getElem?_getD, List.getD_eq_getElem?_getD, List.getElem?_eq_getElem hi, List.getElem?_eq_getElem hj] at e
  exact (List.getElem_inj (h₀ := hi) (h₁ := hj) h).mp e
theorem pAt_bd {p : List Int} (h : IsOrd p) {x : Int} (h0 : 0 ≤ x) (h1 : x < p.length) : 1 ≤ pAt p x ∧ pAt p x ≤ p.length := by
  have hm : pAt p x ∈ p := at0_mem (show x.toNat < p.length by omega)
  exact ⟨h.lo _ hm, h.hi _ hm⟩
/-- the first a things of q are shown at t -/
structure Mt (p q : List Int) (a : Nat) (t : List Int) : Prop where
  pl : Pl p a t
  asc : ∀ i j, i < j → j < a → at0 t i < at0 t j
  ord : ∀ i j, i < a → j < a → (pAt p (at0 t i) < pAt p (at0 t j) ↔ at0 q i < at0 q j)
theorem startI_le {t : List Int} {x : Int} (asc : ∀ i j, i < j → j < t.length → at0 t i < at0 t j) (h0 : 0 ≤ x) : startI t ≤ x ↔ ∀ y ∈ t, y < x := by
  rcases List.eq_nil_or_concat t with rfl | ⟨s, z, rfl⟩
  · exact ⟨fun _ _ h => (nomatch h), fun _ => h0⟩
  · rw [List.concat_eq_append] at *
    have hs : startI (s ++ [z]) = z + 1 := by
      unfold startI
      rw [List.getLast?_concat]
    rw [hs]
    constructor
    · intro h y hy
      rcases List.mem_append.mp hy with hy | hy
      · obtain ⟨i, hi, rfl⟩ := mem_at0 hy
        have := asc i s.length hi (by rw [List.length_append, List.length_singleton]; omega)
        rw [at0_app1 hi, at0_app2] at this
        omega
      · rw [List.mem_singleton.mp hy]
        omega
    · intro h
      have := h z (List.mem_append_right _ (List.mem_singleton.mpr rfl))
      omega
section
variable {p q : List Int} {a : Nat} {t : List Int}
theorem q_take {i : Nat} (hi : i < a) (ha : a < q.length) : at0 q i ∈ q.take a := by
  have : at0 q i = at0 (q.take a) i := by
    unfold at0
    rw [List.getD_eq_getElem?_getD, List.getD_eq_getElem?_getD, List.getElem?_take_of_lt hi]
  rw [this]
  exact at0_mem (by rw [List.length_take]; omega)
theorem take_q {x : Int} (h : x ∈ q.take a) : ∃ i, i < a ∧ i < q.length ∧ at0 q i = x ∧ i = q.idxOf x := by
  have h1 := idx_take h
  have h2 := List.idxOf_lt_length_of_mem (List.mem_of_mem_take h)
  refine ⟨q.idxOf x, h1, h2, ?_, rfl⟩
  unfold at0
  rw [List.getD_eq_getElem?_getD, List.getElem?_eq_getElem h2, List.getElem_idxOf]
  rfl
theorem least_iff (ip : IsOrd p) (iq : q.Nodup) (ha : a < q.length) (m : Mt p q a t) {x : Int} (h0 : 0 ≤ x) (h1 : x < p.length) : leastI p q a t < pAt p x ↔ ∀ i, i < a → at0 q i < at0 q a → pAt p (at0 t i) < pAt p x := by
  unfold leastI
  by_cases z : lesser q a = []
  · rw [if_pos z]
    refine ⟨fun _ i hi hq => ?_, fun _ => by have := (pAt_bd ip h0 h1).1; omega⟩
    have : at0 q i ∈ lesser q a := List.mem_filter.mpr ⟨q_take hi ha, decide_eq_true hq⟩
    rw [z] at this
    cases this
  · rw [if_neg z]
    have hm := mx_mem z
    obtain ⟨b, b1, b2, b3, b4⟩ := take_q (List.mem_filter.mp hm).1
    have b5 : mx (lesser q a) < at0 q a := of_decide_eq_true (List.mem_filter.mp hm).2
    rw [← b4]
    constructor
    · intro h i hi hq
      have hl : at0 q i ≤ mx (lesser q a) := mx_ge (List.mem_filter.mpr ⟨q_take hi ha, decide_eq_true hq⟩)
      by_cases e : i = b
      · rw [e]
        exact h
      · have : at0 q i < at0 q b := by
          have hne : at0 q i ≠ at0 q b := fun w => e (at0_inj iq (by omega) b2 w)
          omega
        have := (m.ord i b hi b1).mpr this
        exact Int.lt_trans this h
    · intro h
      exact h b b1 (by rw [b3]; exact b5)
theorem most_iff (ip : IsOrd p) (iq : q.Nodup) (ha : a < q.length) (m : Mt p q a t) {x : Int} (h0 : 0 ≤ x) (h1 : x < p.length) : pAt p x < mostI p q a t ↔ ∀ i, i < a → at0 q a < at0 q i → pAt p x < pAt p (at0 t i) := by
  unfold mostI
  by_cases z : greater q a = []
  · rw [if_pos z]
    refine ⟨fun _ i hi hq => ?_, fun _ => by have := (pAt_bd ip h0 h1).2; omega⟩
    have : at0 q i ∈ greater q a := List.mem_filter.mpr ⟨q_take hi ha, decide_eq_true hq⟩
    rw [z] at this
    cases this
  · rw [if_neg z]
    have hm := mn_mem z
    obtain ⟨b, b1, b2, b3, b4⟩ := take_q (List.mem_filter.mp hm).1
    have b5 : at0 q a < mn (greater q a) := of_decide_eq_true (List.mem_filter.mp hm).2
    rw [← b4]
    constructor
    · intro h i hi hq
      have hl : mn (greater q a) ≤ at0 q i := mn_le (List.mem_filter.mpr ⟨q_take hi ha, decide_eq_true hq⟩)
      by_cases e : i = b
      · rw [e]
        exact h
      · have : at0 q b < at0 q i := by
          have hne : at0 q i ≠ at0 q b := fun w => e (at0_inj iq (by omega) b2 w)
          omega
        have := (m.ord b i b1 hi).mpr this
        exact Int.lt_trans h this
    · intro h
      exact h b b1 (by rw [b3]; exact b5)
/-- one thing more -/
theorem mt_snoc (ip : IsOrd p) (iq : q.Nodup) (ha : a < q.length) {x : Int} (hl : t.length = a) : Mt p q (a + 1) (t ++ [x]) ↔ Mt p q a t ∧ startI t ≤ x ∧ 0 ≤ x ∧ x < p.length ∧ okI p q a t x = true := by
  subst hl
  constructor
  · intro m
    have hx : x ∈ t ++ [x] := List.mem_append_right _ (List.mem_singleton.mpr rfl)
    have h0 := m.pl.lo x hx
    have h1 := m.pl.hi x hx
    have m0 : Mt p q t.length t := by
      refine ⟨⟨rfl, fun y hy => m.pl.lo y (List.mem_append_left _ hy), fun y hy => m.pl.hi y (List.mem_append_left _ hy)⟩, fun i j hij hj => ?_, fun i j hi hj => ?_⟩
      · have := m.asc i j hij (by omega)
        rw [at0_app1 (by omega), at0_app1 hj] at this
        exact this
      · have := m.ord i j (by omega) (by omega)
        rw [at0_app1 hi, at0_app1 hj] at this
        exact this
    refine ⟨m0, (startI_le m0.asc h0).mpr fun y hy => ?_, h0, h1, ?_⟩
    · obtain ⟨i, hi, rfl⟩ := mem_at0 hy
      have := m.asc i t.length hi (by omega)
      rw [at0_app1 hi, at0_app2] at this
      exact this
    · unfold okI
      rw [Bool.and_eq_true, decide_eq_true_eq, decide_eq_true_eq, least_iff ip iq ha m0 h0 h1, most_iff ip iq ha m0 h0 h1]
      refine ⟨fun i hi hq => ?_, fun i hi hq => ?_⟩
      · have := (m.ord i t.length (by omega) (by omega)).mpr hq
        rw [at0_app1 hi, at0_app2] at this
        exact this
      · have := (m.ord t.length i (by omega) (by omega)).mpr hq
        rw [at0_app1 hi, at0_app2] at this
        exact this
  · rintro ⟨m, h2, h0, h1, h3⟩
    unfold okI at h3
    rw [Bool.and_eq_true, decide_eq_true_eq, decide_eq_true_eq, least_iff ip iq ha m h0 h1, most_iff ip iq ha m h0 h1] at h3
    have hy := (startI_le m.asc h0).mp h2
    have split : ∀ i, i < t.length + 1 → i < t.length ∨ i = t.length := fun i hi => by omega
    refine ⟨⟨by rw [List.length_append]; rfl, fun y hy => ?_, fun y hy => ?_⟩, fun i j hij hj => ?_, fun i j hi hj => ?_⟩
    · rcases List.mem_append.mp hy with z | z
      · exact m.pl.lo y z
      · rw [List.mem_singleton.mp z]
        exact h0
    · rcases List.mem_append.mp hy with z | z
      · exact m.pl.hi y z
      · rw [List.mem_singleton.mp z]
        exact h1
    · rcases split j hj with z | rfl
      · rw [at0_app1 (by omega), at0_app1 z]
        exact m.asc i j hij z
      · rw [at0_app1 hij, at0_app2]
        exact hy _ (at0_mem hij)
    · have tri : ∀ i, i < t.length → at0 q i < at0 q t.length ∨ at0 q t.length < at0 q i := fun i hi => by
        have : at0 q i ≠ at0 q t.length := fun w => by
          have := at0_inj iq (by omega) ha w
          omega
        omega
      rcases split i hi with zi | rfl
      · rcases split j hj with zj | rfl
        · rw [at0_app1 zi, at0_app1 zj]
          exact m.ord i j zi zj
        · rw [at0_app1 zi, at0_app2]
          rcases tri i zi with w | w
          · exact ⟨fun _ => w, fun _ => h3.1 i zi w⟩
          · have := h3.2 i zi w
            constructor <;> intro <;> omega
      · rcases split j hj with zj | rfl
        · rw [at0_app1 zj, at0_app2]
          rcases tri j zj with w | w
          · have := h3.1 j zj w
            constructor <;> intro <;> omega
          · exact ⟨fun _ => w, fun _ => h3.2 j zj w⟩
        · rw [at0_app2]
          constructor <;> intro <;> omega
end
theorem mem_Ls {p q : List Int} (ip : IsOrd p) (iq : q.Nodup) : ∀ {a : Nat}, a ≤ q.length → ∀ t : List Int, t ∈ Ls p q a ↔ Mt p q a t ∧ ∀ x ∈ t, x + ((q.length : Int) - a) < p.length
  | 0, _, t => by
    constructor
    · intro h
      have e : t = [] := List.mem_singleton.mp h
      subst e
      exact ⟨⟨⟨rfl, fun _ h => (nomatch h), fun _ h => (nomatch h)⟩, fun i j _ hj => absurd hj (Nat.not_lt_zero _), fun i j hi _ => absurd hi (Nat.not_lt_zero _)⟩, fun _ h => (nomatch h)⟩
    · rintro ⟨m, _⟩
      rw [List.eq_nil_of_length_eq_zero m.pl.len]
      exact List.mem_singleton.mpr rfl
  | a + 1, ha, t => by
    have ih := mem_Ls ip iq (a := a) (by omega)
    constructor
    · intro h
      obtain ⟨s, hs, hu⟩ := List.mem_flatMap.mp h
      obtain ⟨m, hr⟩ := (ih s).mp hs
      unfold extT at hu
      obtain ⟨x, hx, rfl⟩ := List.mem_map.mp hu
      obtain ⟨hx1, hx2⟩ := List.mem_filter.mp hx
      have hx3 := irange_mem.mp hx1
      have hb := startI_bd m.pl
      have hst : stopI p q a = (p.length : Int) - ((q.length : Int) - a - 1) := rfl
      have m' := (mt_snoc ip iq (show a < q.length by omega) m.pl.len (x := x)).mpr ⟨m, hx3.1, by omega, by omega, hx2⟩
      refine ⟨m', fun y hy => ?_⟩
      rcases List.mem_append.mp hy with z | z
      · have h2 := (startI_le (by rw [m.pl.len]; exact m.asc) (show 0 ≤ x by omega)).mp hx3.1 y z
        omega
      · rw [List.mem_singleton.mp z]
        omega
    · rintro ⟨m, hr⟩
      rcases List.eq_nil_or_concat t with rfl | ⟨s, x, rfl⟩
      · have := m.pl.len
        cases this
      · rw [List.concat_eq_append] at *
        have hl : s.length = a := by
          have := m.pl.len
          rw [List.length_append, List.length_singleton] at this
          omega
        obtain ⟨m0, h2, h0, h1, h3⟩ := (mt_snoc ip iq (show a < q.length by omega) hl).mp m
        have hx := hr x (List.mem_append_right _ (List.mem_singleton.mpr rfl))
        have hst : stopI p q a = (p.length : Int) - ((q.length : Int) - a - 1) := rfl
        refine List.mem_flatMap.mpr ⟨s, (ih s).mpr ⟨m0, fun y hy => ?_⟩, List.mem_map.mpr ⟨x, List.mem_filter.mpr ⟨irange_mem.mpr ⟨h2, by omega⟩, h3⟩, rfl⟩⟩
        have := (startI_le (by rw [m0.pl.len]; exact m0.asc) h0).mp h2 y hy
        omega
/-- all places -/
def PL (p q : List Int) : List (List Int) := Ls p q q.length
theorem mem_PL {p q : List Int} (ip : IsOrd p) (iq : q.Nodup) (t : List Int) : t ∈ PL p q ↔ Mt p q q.length t := by
  unfold PL
  rw [mem_Ls ip iq (Nat.le_refl _)]
  refine ⟨fun h => h.1, fun h => ⟨h, fun x hx => ?_⟩⟩
  have := h.pl.hi x hx
  omega
theorem lt_app : ∀ {s t : List Int} {u v : List Int}, s.length = t.length → s < t → s ++ u < t ++ v
  | [], [], _, _, _, h => absurd h (List.lt_irrefl _)
  | [], _ :: _, _, _, e, _ => by cases e
  | _ :: _, [], _, _, e, _ => by cases e
  | x :: s, y :: t, u, v, e, h => by
    rw [List.cons_append, List.cons_append, List.cons_lt_cons_iff]
    rcases List.cons_lt_cons_iff.mp h with z | ⟨rfl, z⟩
    · exact .inl z
    · exact .inr ⟨rfl, lt_app (by simpa using e) z⟩
theorem lt_snoc : ∀ {s : List Int} {x y : Int}, x < y → s ++ [x] < s ++ [y]
  | [], x, y, h => List.cons_lt_cons_iff.mpr (.inl h)
  | z :: s, x, y, h => List.cons_lt_cons_iff.mpr (.inr ⟨rfl, lt_snoc h⟩)
/-- two ascending lists of the same things -/
theorem asc_eq {l m : List (List Int)} (hl : l.Pairwise (· < ·)) (hm : m.Pairwise (· < ·)) (h : ∀ t, t ∈ l ↔ t ∈ m) : l = m := by
  have n1 : l.Nodup := hl.imp fun {a b} h e => by subst e; exact List.lt_irrefl _ h
  have n2 : m.Nodup := hm.imp fun {a b} h e => by subst e; exact List.lt_irrefl _ h
  exact List.Perm.eq_of_pairwise (le := fun a b => a < b) (fun a b _ _ h1 h2 => absurd (List.lt_trans h1 h2) (List.lt_irrefl _)) hl hm ((List.perm_ext_iff_of_nodup n1 n2).mpr h)
end Z

set_option Elab.async false
set_option linter.all false
set_option maxRecDepth 100000
set_option autoImplicit false
set_option maxHeartbeats 1000000
namespace Z
open PySem PySem.Spec PyProof.Rows L2
theorem at0_map {t : List Int} {f : Int → Int} {i : Nat} (h : i < t.length) : at0 (t.map f) i = f (at0 t i) := by
  unfold at0
  rw [List.getD_eq_getElem?_getD, List.getD_eq_getElem?_getD, List.getElem?_map, List.getElem?_eq_getElem h]
  rfl
/-- the places of the numbers -/
def ac (p q t : List Int) : List Int := (irange 0 q.length).map fun j => pAt p (at0 t (at0 (inv q) j.toNat - 1).toNat) - 1
end Z

set_option Elab.async false
set_option linter.all false
set_option maxRecDepth 100000
set_option autoImplicit false
set_option maxHeartbeats 1000000
namespace Z
open PySem PySem.Spec PyProof.Rows L2
end Z

set_option Elab.async false
set_option linter.all false
set_option maxRecDepth 100000
set_option autoImplicit false
set_option maxHeartbeats 1000000
namespace Z
open PySem PySem.Spec PyProof.Rows L2
def sft (k : Int) (c : List Int) : List Int := c.map fun x => x + k
theorem cnt_range (y : Int) : ∀ n : Nat, 1 ≤ y → y ≤ n + 1 → ((irange 1 n).filter fun x => decide (x < y)).length = (y - 1).toNat
  | 0, h1, h2 => by
    rw [irange_zero]
    simp
    omega
  | n + 1, h1, h2 => by
    rw [irange_snoc, List.filter_append, List.length_append]
    by_cases h : y ≤ n + 1
    · rw [cnt_range y n h1 h, List.filter_cons_of_neg (by simp; omega)]
      rfl
    · have e : y = (n : Int) + 2 := by omega
      rw [List.filter_cons_of_pos (by simp; omega)]
      have : (irange 1 n).filter (fun x => decide (x < y)) = irange 1 n := List.filter_eq_self.mpr fun x hx => by
        have := irange_mem.mp hx
        simp
        omega
      rw [this, irange_len]
      simp
      omega
theorem like_ord {p : List Int} (h : IsOrd p) : like p = p := by
  unfold like
  refine (List.map_congr_left fun y hy => ?_).trans (List.map_id p)
  have h1 := h.lo y hy
  have h2 := h.hi y hy
  have := (h.perm.filter fun x => decide (x < y)).length_eq
  rw [this, cnt_range y p.length h1 (by omega)]
  simp only [id]
  omega
end Z

set_option Elab.async false
set_option linter.all false
set_option maxRecDepth 100000
set_option autoImplicit false
set_option maxHeartbeats 1000000
namespace Z
open PySem PySem.Spec PyProof.Rows L2
theorem fCutT_from (xs : List D) (a : Nat) (ha : a ≤ xs.length) : fCutT (.tuple xs) (some (a : Int)) none = some (.tuple (xs.drop a)) := by
  show some (PyData.tuple (cutD xs (some (a : Int)) none)) = _
  unfold cutD
  rw [HT.sIx_nat, HT.sIx_none, Nat.min_eq_left ha, List.take_of_length_le (by rw [List.length_drop]; omega)]
end Z

set_option Elab.async false
set_option linter.all false
set_option maxRecDepth 100000
set_option autoImplicit false
set_option maxHeartbeats 1000000
namespace Z
open PySem PySem.Spec PyProof.Rows L2
def sm (p q : List Int) : List Int := p ++ sft p.length q
def sk (p q : List Int) : List Int := sft q.length p ++ q
end Z

set_option Elab.async false
set_option linter.all false
set_option maxRecDepth 100000
set_option autoImplicit false
set_option maxHeartbeats 1000000
namespace Z
open PySem PySem.Spec PyProof.Rows L2
def due (k : Bool) (n t : Nat) : List Int := if k then irange ((n : Int) - t + 1) t else irange 1 t
end Z

set_option Elab.async false
set_option linter.all false
set_option maxRecDepth 100000
set_option autoImplicit false
set_option maxHeartbeats 1000000
namespace Z
open PySem PySem.Spec PyProof.Rows L2
end Z

set_option Elab.async false
set_option linter.all false
set_option maxRecDepth 100000
set_option autoImplicit false
set_option maxHeartbeats 1000000
namespace Z
open PySem PySem.Spec PyProof.Rows L2
end Z

set_option Elab.async false
set_option linter.all false
set_option maxRecDepth 100000
set_option autoImplicit false
set_option maxHeartbeats 1000000
namespace Z
open PySem PySem.Spec PySem.W PyProof.Rows L2
end Z

set_option Elab.async false
set_option linter.all false
set_option maxRecDepth 100000
set_option autoImplicit false
set_option maxHeartbeats 1000000
namespace Z
open PySem PySem.Spec PySem.W PyProof.Rows L2
end Z

set_option Elab.async false
set_option linter.all false
set_option maxRecDepth 100000
set_option autoImplicit false
set_option maxHeartbeats 1000000
namespace Z
open PySem PySem.Spec PyProof.Rows L2
def zipD (xs ys : List D) : List D := List.zipWith (fun x y => .tuple [x, y]) xs ys
def iZip (m : M (List Rs)) : M (List D) := bnd m fun rs => match rs with
  | [r, s] => bnd (itR r) fun xs => bnd (itR s) fun ys => rt (zipD xs ys)
  | _ => fun _ => .bad
end Z

set_option Elab.async false
set_option linter.all false
set_option maxRecDepth 100000
set_option autoImplicit false
set_option maxHeartbeats 1000000
namespace Z
open PySem PySem.Spec PyProof.Rows L2
def stch (p : List Int) (a b : Nat) : List Int := (p.drop a).take (b - a)
def tight (c : List Int) : Bool := decide (mx c - mn c = (c.length : Int) - 1)
def blk (p : List Int) (a b : Nat) : Bool := tight (stch p a b)
end Z

set_option Elab.async false
set_option linter.all false
set_option maxRecDepth 100000
set_option autoImplicit false
set_option maxHeartbeats 1000000
namespace Z
open PySem PySem.Spec PyProof.Rows L2
theorem by_places (c : List Int) : c = (List.range c.length).map fun i => c.getD i 0 := List.ext_getElem? fun i => by
  by_cases h : i < c.length
  · rw [List.getElem?_map, List.getElem?_range h, getD_get h]
    rfl
  · rw [List.getElem?_eq_none (by omega), List.getElem?_eq_none (by rw [List.length_map, List.length_range]; omega)]
theorem like_places (c : List Int) : like c = (List.range c.length).map fun j => 1 + ((((List.range c.length).filter fun i => decide (c.getD i 0 < c.getD j 0)).length : Nat) : Int) := by
  have e : ∀ y : Int, (c.filter fun x => decide (x < y)).length = ((List.range c.length).filter fun i => decide (c.getD i 0 < y)).length := fun y => by
    conv => lhs; rw [by_places c]
    rw [List.filter_map, List.length_map]
    rfl
  unfold like
  conv => lhs; arg 2; rw [by_places c]
  rw [List.map_map]
  exact List.map_congr_left fun j _ => by
    show 1 + (((c.filter fun x => decide (x < c.getD j 0)).length : Nat) : Int) = _
    rw [e]
theorem like_cmp {c d : List Int} (hl : c.length = d.length) (h : ∀ i j, i < c.length → j < c.length → (c.getD i 0 < c.getD j 0 ↔ d.getD i 0 < d.getD j 0)) : like c = like d := by
  rw [like_places, like_places, ← hl]
  refine List.map_congr_left fun j hj => ?_
  have e : ((List.range c.length).filter fun i => decide (c.getD i 0 < c.getD j 0)) = (List.range c.length).filter fun i => decide (d.getD i 0 < d.getD j 0) := by
    refine List.filter_congr fun i hi => ?_
    exact decide_eq_decide.mpr (h i j (List.mem_range.mp hi) (List.mem_range.mp hj))
  rw [e]
def wt (n : Nat) (t : List Int) : Nat := 2 ^ (n - (startI t).toNat)
theorem startI_snoc (t : List Int) (x : Int) : startI (t ++ [x]) = x + 1 := by
  unfold startI
  rw [List.getLast?_append]
  rfl
theorem geo (n : Nat) : ∀ (k s : Nat), s + k ≤ n → ((irange (s : Int) k).map fun x => 2 ^ (n - (x + 1).toNat)).sum ≤ 2 ^ (n - s)
  | 0, _, _ => Nat.zero_le _
  | k + 1, s, h => by
    rw [irange_succ, List.map_cons, List.sum_cons]
    have ih := geo n k (s + 1) (by omega)
    rw [show ((s + 1 : Nat) : Int) = (s : Int) + 1 from rfl] at ih
    have e1 : ((s : Int) + 1).toNat = s + 1 := by omega
    rw [e1]
    have e2 : 2 ^ (n - s) = 2 ^ (n - (s + 1)) + 2 ^ (n - (s + 1)) := by
      rw [show n - s = (n - (s + 1)) + 1 by omega, Nat.pow_succ]
      omega
    omega
theorem sum_filter (f : Int → Nat) (P : Int → Bool) : ∀ l : List Int, ((l.filter P).map f).sum ≤ (l.map f).sum
  | [] => Nat.le_refl _
  | x :: l => by
    have ih := sum_filter f P l
    by_cases h : P x = true
    · rw [List.filter_cons_of_pos h, List.map_cons, List.map_cons, List.sum_cons, List.sum_cons]
      omega
    · rw [List.filter_cons_of_neg h, List.map_cons, List.sum_cons]
      omega
theorem ext_wt {p q : List Int} {a : Nat} {t : List Int} (h : Pl p a t) (ha : a < q.length) : ((extT p q a t).map (wt p.length)).sum ≤ wt p.length t := by
  obtain ⟨b1, b2⟩ := startI_bd h
  unfold extT
  rw [List.map_map]
  have e : (wt p.length ∘ fun x => t ++ [x]) = fun x => 2 ^ (p.length - (x + 1).toNat) := funext fun x => by
    show wt p.length (t ++ [x]) = _
    unfold wt
    rw [startI_snoc]
  rw [e]
  refine Nat.le_trans (sum_filter _ _ _) ?_
  have hs : stopI p q a ≤ p.length := by
    unfold stopI
    omega
  have := geo p.length (stopI p q a - startI t).toNat (startI t).toNat (by omega)
  rw [Int.toNat_of_nonneg b1] at this
  exact this
theorem sum_flat (f : List Int → List (List Int)) (w : List Int → Nat) : ∀ l : List (List Int), (∀ t ∈ l, ((f t).map w).sum ≤ w t) → ((l.flatMap f).map w).sum ≤ (l.map w).sum
  | [], _ => Nat.le_refl _
  | t :: l, h => by
    rw [List.flatMap_cons, List.map_append, List.sum_append, List.map_cons, List.sum_cons]
    have h1 := h t List.mem_cons_self
    have h2 := sum_flat f w l fun u hu => h u (List.mem_cons_of_mem _ hu)
    omega
theorem Ls_wt {p q : List Int} : ∀ {a : Nat}, a ≤ q.length → ((Ls p q a).map (wt p.length)).sum ≤ 2 ^ p.length
  | 0, _ => by
    show wt p.length [] + 0 ≤ _
    exact Nat.le_refl _
  | a + 1, ha => by
    refine Nat.le_trans (sum_flat _ _ _ fun t ht => ext_wt (pl_Ls (by omega) t ht) ha) (Ls_wt (by omega))
theorem len_sum (w : List Int → Nat) (h : ∀ t, 0 < w t) : ∀ l : List (List Int), l.length ≤ (l.map w).sum
  | [] => Nat.le_refl _
  | t :: l => by
    rw [List.length_cons, List.map_cons, List.sum_cons]
    have := h t
    have := len_sum w h l
    omega
theorem Ls_two {p q : List Int} {a : Nat} (ha : a ≤ q.length) : (Ls p q a).length ≤ 2 ^ p.length :=
  Nat.le_trans (len_sum (wt p.length) (fun _ => Nat.pow_pos (by omega)) _) (Ls_wt ha)
def zipR (rs : List Rs) : M (List D) := match rs with
  | [r, s] => bnd (itR r) fun xs => bnd (itR s) fun ys => rt (zipD xs ys)
  | _ => fun _ => .bad
theorem iZip_at (m : M (List Rs)) (g : En) : iZip m g = (m g).thn (c := ⟨fun rs g1 => zipR rs g1⟩) := Eq.trans rfl rfl
theorem zipR_at (r s : Rs) (g : En) : zipR [r, s] g = (itR r g).thn (c := ⟨fun xs g1 => (itR s g1).thn (c := ⟨fun ys g2 => .ok (zipD xs ys) g2⟩)⟩) := Eq.trans rfl rfl
theorem forG_each {t : Tg} {ms : List Nat} {b : M Fl} {g : En} (hg : Z.fgt ms g = g) : ∀ xs : List D, (∀ x ∈ xs, ∃ g1 g2, setT t x g = some g1 ∧ b g1 = .ok .nx g2 ∧ Z.fgt ms g2 = g) → forG t ms b xs g = .ok .nx g
  | [], _ => by
    rw [forG, hg]
  | x :: xs, h => by
    obtain ⟨g1, g2, h1, h2, h3⟩ := h x List.mem_cons_self
    rw [forG, h1]
    dsimp only
    rw [h2]
    dsimp only
    rw [h3]
    exact forG_each hg xs fun y hy => h y (List.mem_cons_of_mem _ hy)
end Z

set_option Elab.async false
set_option linter.all false
set_option maxRecDepth 100000
set_option autoImplicit false
set_option maxHeartbeats 1000000
namespace Z
open PySem PySem.Spec PyProof.Rows L2
def dcG (vs : List Nat) (t : Tg) (mt : M Bool) (mk mv : M D) : List D → List (D × D) → M (List (D × D))
  | [], ys, g => .ok ys g
  | x :: xs, ys, g => match setT t x g with
    | none => .bad
    | some g1 => match mt g1 with
      | .ok true g2 => match mk g2 with
        | .ok k g3 => match dkey k with
          | none => .bad
          | some key => match mv g3 with
            | .ok d g4 => dcG vs t mt mk mv xs (dput ys key d) (wipG g4 vs)
            | _ => .bad
        | _ => .bad
      | .ok false g2 => dcG vs t mt mk mv xs ys (wipG g2 vs)
      | _ => .bad
def dcB (vs : List Nat) (t : Tg) (mt : M Bool) (mk mv : M D) (xs : List D) : M D := fun g => if xs.length ≤ sizeLine ∧ noOwn g vs = true then match dcG vs t mt mk mv xs [] (wipG g vs) with
    | .ok ys g' => .ok (.dict ys) (rstG g g' vs)
    | _ => .bad
  else .bad
def dcL (vs : List Nat) (t : Tg) (mi : M (List D)) (mt : M Bool) (mk mv : M D) : M D := bnd mi (dcB vs t mt mk mv)
section
variable {X : Cx} {b : Bool} {kx vx tg iter : Expr} {ifs : List Expr} {scope : Scope} {pos : Pos} {t : Tg} {mi : M (List D)} {mt : M Bool} {mk mv : M D}
end
theorem dcL_at (vs : List Nat) (t : Tg) (mi : M (List D)) (mt : M Bool) (mk mv : M D) (g : En) : dcL vs t mi mt mk mv g = (mi g).thn (c := ⟨fun xs g1 => dcB vs t mt mk mv xs g1⟩) := Eq.trans rfl rfl
end Z

set_option Elab.async false
set_option linter.all false
set_option maxRecDepth 100000
set_option autoImplicit false
set_option maxHeartbeats 1000000
namespace Z
open PySem PySem.Spec PyProof.Rows L2
def sSubG (i : Nat) (y : D) (k : M Rs) : M Fl := fun g => match g[i]? with
  | some (.own _ _) => bnd k (fun s => fun g' => match g'[i]?, vl g' s with
    | some (.own b xs), some (.int n) => match ixN xs.length n with
      | some j => .ok .nx (g'.set i (.own b (xs.set j y)))
      | none => .bad
    | _, _ => .bad) g
  | _ => .bad
def sSwap (i : Nat) (m : M (List D)) (k1 k2 : M Rs) : M Fl := bnd (dTup m) fun t => match t with
  | .tuple [y1, y2] => dSeq (sSubG i y1 k1) (sSubG i y2 k2)
  | _ => fun _ => .bad
def swapR (i : Nat) (k1 k2 : M Rs) (t : D) : M Fl := match t with
  | .tuple [y1, y2] => dSeq (sSub i (rt y1) k1) (sSub i (rt y2) k2)
  | _ => fun _ => .bad
theorem sSwap_at (i : Nat) (m : M (List D)) (k1 k2 : M Rs) (g : En) : sSwap i m k1 k2 g = (dTup m g).thn (c := ⟨fun t g1 => swapR i k1 k2 t g1⟩) := Eq.trans rfl rfl
theorem swapR_at (i : Nat) (k1 k2 : M Rs) (y1 y2 : D) (g : En) : swapR i k1 k2 (.tuple [y1, y2]) g = dSeq (sSub i (rt y1) k1) (sSub i (rt y2) k2) g := Eq.trans rfl rfl
end Z

set_option Elab.async false
set_option linter.all false
set_option maxRecDepth 100000
set_option autoImplicit false
set_option maxHeartbeats 1000000
namespace Z
open PySem PySem.Spec PyProof.Rows L2
def srt (c : List Int) : List Int := c.mergeSort fun a b => decide (a ≤ b)
theorem srt_perm (c : List Int) : (srt c).Perm c := List.mergeSort_perm c _
theorem srt_le (c : List Int) : (srt c).Pairwise (· ≤ ·) := by
  have := List.pairwise_mergeSort (le := fun a b : Int => decide (a ≤ b)) (fun a b c h k => decide_eq_true (Int.le_trans (of_decide_eq_true h) (of_decide_eq_true k))) (fun a b => by simp; omega) c
  exact this.imp fun h => of_decide_eq_true h
theorem srt_ints (c : List Int) : sortD (c.map .int) = (srt c).map .int := sortD_ints (srt_perm c).symm (srt_le c)
theorem srt_len (c : List Int) : (srt c).length = c.length := (srt_perm c).length_eq
end Z

set_option Elab.async false
set_option linter.all false
set_option maxRecDepth 100000
set_option autoImplicit false
set_option maxHeartbeats 1000000
namespace Z
open PySem PySem.Spec PyProof.Rows L2
def moveV (o : Option SV) : Option SV := match o with
  | some (.own false xs) => some (.own false xs)
  | some (.d x) => some (.d x)
  | _ => none
def sMove (i j : Nat) : M Fl := fun g => match moveV g[j]? with
  | some sv => .ok .nx ((g.set j .u).set i sv)
  | none => .bad
theorem ds_move {X : Cx} {i j : Nat} {x y : Str} {px py pos : Pos} (hN : X.N.Nodup) (hi : X.N[i]? = some x) (hx : Loc X.env.scope x) (hj : X.N[j]? = some y) (hv : Vis X.env.scope y) (hd : (y == ("__debug__" : Str)) = false := by decide) (hcd : (y == ("__classdict__" : Str)) = false := by decide)
    (hs : swapsWith (.Name y py) (some (.Name x px)) pos.line X.env = pure false := by rfl) (hf : X.fn x = true ∨ X.env.scope.names.lookup x = some .local := by first | exact .inl rfl | exact .inr rfl | assumption) :
    DS X (.Assign [.Name x px] (.Name y py) pos) (sMove i j) := fun W tk =>
  ps_imp (ps_set hN hi hx (pe_var hj hv hd hcd) hs hf) fun D σ H ⟨F, G, Mu, Γ, R, q⟩ => by
    unfold sMove at q
    cases hg : Γ[j]? with
    | none => rw [hg] at q; exact q.elim
    | some sv =>
      rw [hg] at q
      cases sv with
      | u => exact q.elim
      | a xs => exact q.elim
      | dk ds => exact q.elim
      | d z =>
        obtain ⟨v, h1, h2⟩ := R.data hg
        refine ⟨v, h1, ?_⟩
        exact q _ H G (Same.refl _) ((R.forget' j).store (sv := .d z) ⟨v, rfl, h2⟩ fun e => nomatch e)
      | own b xs =>
        cases b with
        | true => exact q.elim
        | false =>
          obtain ⟨l, vs, h1, h2, h3, h4, h5, _, h7, ho⟩ := R.owned hg
          refine ⟨_, h1, ?_⟩
          refine q _ H G (Same.refl _) ((R.forget' j).storeO ⟨l, vs, rfl, h2, h3, h4, h5, h7 rfl, fun k hk => ?_⟩ i)
          obtain ⟨m, w1, ws, w2⟩ := hk
          by_cases e : j = k
          · subst e
            have hl : j < Γ.length := (List.getElem?_eq_some_iff.mp hg).1
            rw [List.getElem?_set_self hl] at w1
            cases w1
            cases ws
          · rw [List.getElem?_set_ne e] at w1
            exact e (R.sep j k l ho ⟨m, w1, ws, w2⟩)
theorem moveV_o (xs : List D) : moveV (some (.own false xs)) = some (.own false xs) := Eq.trans rfl rfl
theorem moveV_d (x : D) : moveV (some (.d x)) = some (.d x) := Eq.trans rfl rfl
def mvR (i j : Nat) (g : En) (o : Option SV) : Ro Fl := match o with
  | some sv => .ok .nx ((g.set j .u).set i sv)
  | none => .bad
theorem sMove_at (i j : Nat) (g : En) : sMove i j g = mvR i j g (moveV g[j]?) := Eq.trans rfl rfl
theorem mvR_some (i j : Nat) (g : En) (sv : SV) : mvR i j g (some sv) = .ok .nx ((g.set j .u).set i sv) := Eq.trans rfl rfl
end Z

set_option Elab.async false
set_option linter.all false
set_option maxRecDepth 100000
set_option autoImplicit false
set_option maxHeartbeats 1000000
namespace Z
open PySem PySem.Spec PyProof.Rows L2
def okIn (x : D) (ys : List D) : Bool := x.canLay0 && PyData.canLayAll0 ys && decide (x.depth ≤ 60)
theorem okIn_ok {x : D} {ys : List D} (h : okIn x ys = true) : x.canLay0 = true ∧ PyData.canLayAll0 ys = true ∧ x.depth ≤ 60 := by
  unfold okIn at h
  simp only [Bool.and_eq_true, decide_eq_true_eq] at h
  exact ⟨h.1.1, h.1.2, h.2⟩
def inD (x : D) (ys : List D) : Bool := ys.any fun z => PyData.eqv z x
def fIn (x y : D) : Option D := match y with
  | .list ys => if okIn x ys then some (.bool (inD x ys)) else none
  | .tuple ys => if okIn x ys then some (.bool (inD x ys)) else none
  | _ => none
def fNotIn (x y : D) : Option D := match y with
  | .list ys => if okIn x ys then some (.bool (!inD x ys)) else none
  | .tuple ys => if okIn x ys then some (.bool (!inD x ys)) else none
  | _ => none
section
variable {X : Cx}
theorem or_notIn (hu : X.A.units + 64 < cLine) : OpR X (compareOp .NotIn) (rD2 X.K fNotIn) := by
  intro pins s σ H x y v u Q I rx ry h
  obtain ⟨G, dx, dy, z, gh, r1, r2, e, q⟩ := h
  unfold fNotIn at e
  split at e
  · split at e
    · rename_i ys hk
      cases e
      obtain ⟨k1, k2, k3⟩ := okIn_ok hk
      have p2 : (PyData.list ys).plain = true := PyData.plain_of_canLay0 _ (by rw [PyData.canLay0]; exact k2)
      obtain ⟨as, a1⟩ := Dp.reads I dx x v ((r1.dp gh).dp _ _ (PyData.plain_of_canLay0 _ k1)) rx
      obtain ⟨bs, a2⟩ := Dp.reads I (.list ys) y u ((r2.dp gh).dp _ _ p2) ry
      exact SeqAt.notIn_list_reads a2 a1 k2 k1 (by have := Nat.min_le_right (PyData.depthAll ys) dx.depth; omega) ⟨.bl _, H, I, rfl, q _ _ _ (Ext.refl gh) (.bl _)⟩
    · cases e
  · split at e
    · rename_i ys hk
      cases e
      obtain ⟨k1, k2, k3⟩ := okIn_ok hk
      have p2 : (PyData.tuple ys).plain = true := PyData.plain_of_canLay0 _ (by rw [PyData.canLay0]; exact k2)
      obtain ⟨as, a1⟩ := Dp.reads I dx x v ((r1.dp gh).dp _ _ (PyData.plain_of_canLay0 _ k1)) rx
      obtain ⟨bs, a2⟩ := Dp.reads I (.tuple ys) y u ((r2.dp gh).dp _ _ p2) ry
      exact SeqAt.notIn_tuple_reads a2 a1 k2 k1 (by have := Nat.min_le_right (PyData.depthAll ys) dx.depth; omega) ⟨.bl _, H, I, rfl, q _ _ _ (Ext.refl gh) (.bl _)⟩
    · cases e
  · cases e
variable {o e : Expr} {apos cpos : Pos}
end
end Z

set_option Elab.async false
set_option linter.all false
set_option maxRecDepth 100000
set_option autoImplicit false
set_option maxHeartbeats 1000000
namespace Z
open PySem PySem.Spec PyProof.Rows L2
def sUnp (t : Tg) (m : M D) : M Fl := bnd m fun x => fun g => match setT t x g with
  | some g' => .ok .nx g'
  | none => .bad
def unpR (t : Tg) (x : D) : M Fl := fun g => match setT t x g with
  | some g' => .ok .nx g'
  | none => .bad
theorem sUnp_at (t : Tg) (m : M D) (g : En) : sUnp t m g = (m g).thn (c := ⟨fun x g1 => unpR t x g1⟩) := Eq.trans rfl rfl
theorem unpR_2 (i j : Nat) (x y : D) (g : En) : unpR (.tup [.nm i, .nm j]) (.tuple [x, y]) g = .ok .nx ((g.set i (.d x)).set j (.d y)) := by
  unfold unpR
  rw [setT_tup, setTs_cons _ _ _ _ _ _ (setT_nm _ _ _), setTs_cons _ _ _ _ _ _ (setT_nm _ _ _), setTs_nil]
theorem dpa_nums {K : PySem.W.Frag} {G : Hp} : ∀ ns : List Int, DqAll K G (ns.map .int) (ns.map .int)
  | [] => .nil
  | n :: ns => .cons (.int n) (dpa_nums ns)
end Z

set_option Elab.async false
set_option linter.all false
set_option maxRecDepth 100000
set_option autoImplicit false
set_option maxHeartbeats 1000000
namespace Z
open PySem PySem.Spec PyProof.Rows L2
def c2G (vs : List Nat) (t : Tg) (mt : M Bool) (vs1 : List Nat) (mi1 : M (List D)) (t1 : Tg) (mt1 : M Bool) (me : M D) : List D → List D → M (List D)
  | [], ys, g => .ok ys g
  | x :: xs, ys, g => match setT t x g with
    | none => .bad
    | some g1 => match mt g1 with
      | .ok true g2 => match mi1 g2 with
        | .ok xs1 g3 => match compG vs1 t1 mt1 me xs1 ys (wipG g3 vs1) with
          | .ok zs g4 => c2G vs t mt vs1 mi1 t1 mt1 me xs zs (wipG g4 vs)
          | _ => .bad
        | _ => .bad
      | .ok false g2 => c2G vs t mt vs1 mi1 t1 mt1 me xs ys (wipG g2 vs)
      | _ => .bad
def c2B (vs : List Nat) (t : Tg) (mt : M Bool) (vs1 : List Nat) (mi1 : M (List D)) (t1 : Tg) (mt1 : M Bool) (me : M D) (xs : List D) : M (List D) := fun g => if noOwn g vs = true then match c2G vs t mt vs1 mi1 t1 mt1 me xs [] (wipG g vs) with
    | .ok ys g' => if ys.length ≤ sizeLine then .ok ys (rstG g g' vs) else .bad
    | _ => .bad
  else .bad
def c2L (vs : List Nat) (t : Tg) (mi : M (List D)) (mt : M Bool) (vs1 : List Nat) (mi1 : M (List D)) (t1 : Tg) (mt1 : M Bool) (me : M D) : M (List D) := bnd mi (c2B vs t mt vs1 mi1 t1 mt1 me)
section
variable {X : Cx} {b b1 : Bool} {elt tg iter tg1 iter1 : Expr} {ifs ifs1 : List Expr} {scope : Scope} {pos : Pos} {t t1 : Tg} {mi mi1 : M (List D)} {mt mt1 : M Bool} {me : M D}
end
theorem c2L_at (vs : List Nat) (t : Tg) (mi : M (List D)) (mt : M Bool) (vs1 : List Nat) (mi1 : M (List D)) (t1 : Tg) (mt1 : M Bool) (me : M D) (g : En) : c2L vs t mi mt vs1 mi1 t1 mt1 me g = (mi g).thn (c := ⟨fun xs g1 => c2B vs t mt vs1 mi1 t1 mt1 me xs g1⟩) := Eq.trans rfl rfl
end Z

set_option Elab.async false
set_option linter.all false
set_option maxRecDepth 100000
set_option autoImplicit false
set_option maxHeartbeats 1000000
namespace Z
open PySem PySem.Spec PyProof.Rows L2
def sUnpL (ts : List Tg) (m : M D) : M Fl := bnd m fun x => fun g => match x with
  | .list xs => match setTs ts xs g with
    | some g' => .ok .nx g'
    | none => .bad
  | _ => .bad
theorem ds_unpL {X : Cx} {es : List Expr} {e : Expr} {k n : Nat} {p pos : Pos} {ts : List Tg} {m : M D} (hc : X.calm = true) (hg : DGs X es ts) (h : DP X e m) (hn : (assignEach es X.env).length = n := by rfl) (hst : (assignEach es X.env).findIdx? (·.1) = none := by rfl) (hl : ts.length = n := by rfl)
    (hs : swapsWithSole [.Tuple es k p] e pos.line X.env = pure false := by rfl) (hw : swappedStores [.Tuple es k p] e X.env = pure none := by rfl)
    (h1 : (assignEach [.Tuple es k p] X.env).map (·.2) = [assign (.Tuple es k p) X.env] := by rfl) : DS X (.Assign [.Tuple es k p] e pos) (sUnpL ts m) := fun W tk =>
  ps_imp (ps_asg (h W tk) (pg_lst hc hg hn hst) hs hw h1) fun D σ H q => (st_bnd (ρ := rhoD) q).imp fun v H1 ⟨x, F, G, Mu, Γ, R, d1, q1⟩ => by
    split at q1
    · rename_i xs
      split at q1
      · rename_i Γ' e1
        have d1' : Dq X.K G v (.list xs) := d1
        cases d1' with
        | lst hq hd =>
          exact ⟨_, _, rfl, R.gh.seq hq, by rw [dpa_length hd, setTs_len e1, hl], F, G, Mu, Γ, Γ', xs, R, hd, e1, fun σ' R' _ => q1 σ' H1 G (Same.refl _) R'⟩
      · exact q1.elim
    · exact q1.elim
def unpRL (ts : List Tg) (x : D) : M Fl := fun g => match x with
  | .list xs => match setTs ts xs g with
    | some g' => .ok .nx g'
    | none => .bad
  | _ => .bad
theorem sUnpL_at (ts : List Tg) (m : M D) (g : En) : sUnpL ts m g = (m g).thn (c := ⟨fun x g1 => unpRL ts x g1⟩) := Eq.trans rfl rfl
theorem unpRL_2 (i j : Nat) (x y : D) (g : En) : unpRL [.nm i, .nm j] (.list [x, y]) g = .ok .nx ((g.set i (.d x)).set j (.d y)) := by
  unfold unpRL
  dsimp only
  rw [setTs_cons _ _ _ _ _ _ (setT_nm _ _ _), setTs_cons _ _ _ _ _ _ (setT_nm _ _ _), setTs_nil]
end Z

set_option Elab.async false
set_option linter.all false
set_option maxRecDepth 100000
set_option autoImplicit false
set_option maxHeartbeats 1000000
namespace Z
open PySem PySem.Spec PyProof.Rows L2
def nz : List Int → Bool
  | [] => true
  | [_] => true
  | x :: y :: r => !(decide (x = 0) && decide (y = 0)) && nz (y :: r)
def nums (F : List Int) : List Int := F.filter fun x => decide (x ≠ 0)
structure IsForm (F : List Int) : Prop where
  sep : nz F = true
  ord : IsOrd (nums F)
  ne : F ≠ []
def cntz (F : List Int) : Nat := (F.filter fun x => decide (x = 0)).length
/-- the places of the slots -/
def zs (F : List Int) : List Int := (irange 0 F.length).filter fun k => decide (F.getD k.toNat 0 = 0)
/-- the place of a slot -/
def zat (F : List Int) (s : Int) : Int := (zs F).getD (s - 1).toNat 0
structure Valid (F : List Int) (s w : Int) : Prop where
  s1 : 1 ≤ s
  s2 : s ≤ cntz F
  w0 : 0 ≤ w
  w3 : w ≤ 3
def fillW (w n : Int) : List Int := if w = 0 then [0, n, 0] else if w = 1 then [n, 0] else if w = 2 then [0, n] else [n]
def putF (F : List Int) (s w : Int) : List Int := F.take (zat F s).toNat ++ fillW w (mx F + 1) ++ F.drop ((zat F s).toNat + 1)
def OkW (F : List Int) : List (Int × Int) → Prop
  | [] => True
  | l :: r => Valid F l.1 l.2 ∧ OkW (putF F l.1 l.2) r
def lead (F : List Int) : List (Int × Int) → List Int
  | [] => F
  | l :: r => lead (putF F l.1 l.2) r
theorem canLay_ints : ∀ p : List Int, PyData.canLayAll0 (p.map .int) = true
  | [] => rfl
  | x :: p => by
    show (PyData.canLay0 (.int x) && PyData.canLayAll0 (p.map .int)) = true
    rw [canLay_ints p]
    rfl
theorem okIn_ints (i : Int) (p : List Int) : okIn (.int i) (p.map .int) = true := by
  unfold okIn
  rw [canLay_ints]
  rfl
theorem eqv_int (i j : Int) : PyData.eqv (.int i) (.int j) = decide (i = j) := by
  show (i == j) = _
  by_cases h : i = j <;> simp [h]
theorem fIn_t (i : Int) (p : List Int) : fIn (.int i) (ti p) = some (.bool (decide (i ∈ p))) := by
  unfold fIn
  dsimp only
  rw [if_pos (okIn_ints i p)]
  congr 2
  unfold inD
  rw [List.any_map]
  rw [Bool.eq_iff_iff, List.any_eq_true, decide_eq_true_eq]
  constructor
  · rintro ⟨x, h1, h2⟩
    have h2' : PyData.eqv (.int x) (.int i) = true := h2
    rw [eqv_int, decide_eq_true_eq] at h2'
    rw [← h2']
    exact h1
  · intro h
    exact ⟨i, h, by show PyData.eqv (.int i) (.int i) = true; rw [eqv_int]; simp⟩
end Z

set_option Elab.async false
set_option linter.all false
set_option maxRecDepth 100000
set_option autoImplicit false
set_option maxHeartbeats 1000000
namespace Z
open PySem PySem.Spec PyProof.Rows L2
abbrev DkP : List (List Int × Addr × V) → List (List Int × Addr × Value) → Prop := Paired fun p q => p.1 = q.1 ∧ p.2.1 = q.2.1 ∧ RelV p.2.2 q.2.2
section
variable {X : Cx} {pins : List (Addr × Obj)} {σ : L2.St} {H G : Hp} {s : Shared} {l : Addr} {es : List (List Int × Addr × V)} {ds : List (List Int × D)}
end
section
variable {K : PySem.W.Frag} {F : Fr} {G H : Hp} {Mu : Option Addr} {Γ : En} {σ : St}
end
section
variable {X : Cx} {i j : Nat} {x y : Str} {a e : Expr} {px py pt pos pd : Pos} {kt k2 : Nat} {pt2 : Pos}
end
end Z

set_option Elab.async false
set_option linter.all false
set_option maxRecDepth 100000
set_option autoImplicit false
set_option maxHeartbeats 1000000
namespace Z
open PySem PySem.Spec PyProof.Rows L2
def lo (k : Int) : Bool → List Int → Bool
  | b, [] => b
  | _, x :: r => lo k (decide (k ≤ x)) r
def wst (k : Int) (p : List Int) (j : Int) : Bool := decide (k ≤ p.getD j.toNat 0) && (decide (j = 0) || !decide (k ≤ p.getD (j - 1).toNat 0))
def wlf (k : Int) (p : List Int) (a : Int) : Bool := decide (0 < a) && decide (k ≤ p.getD (a - 1).toNat 0)
def wrt (k : Int) (p : List Int) (a : Int) : Bool := decide (a + 1 < p.length) && decide (k ≤ p.getD (a + 1).toNat 0)
def bz (b : Bool) : Int := if b then 1 else 0
/-- the letter of the number k, a its place -/
def lwA (k : Int) (p : List Int) (a : Nat) : Int × Int := ((((irange 0 (a + 1)).filter (wst k p)).length : Nat), 3 - 2 * bz (wrt k p a) - bz (wlf k p a))
def lw (p : List Int) (k : Int) : Int × Int := lwA k p (p.idxOf k)
def lword (p : List Int) : List (Int × Int) := (irange 1 p.length).map (lw p)
end Z

set_option Elab.async false
set_option linter.all false
set_option maxRecDepth 100000
set_option autoImplicit false
set_option maxHeartbeats 1000000
namespace Z
open PySem PySem.Spec PyProof.Rows L2
/-- a loop that puts behind a list what each item gives -/
theorem forG_gather {α : Type} {t : Tg} {ms : List Nat} {b : M Fl} (enc : α → D) (f : α → List D) (G : List D → En) (hG : ∀ a, Z.fgt ms (G a) = G a) (N : Nat) : ∀ (xs : List α) (acc : List D), acc.length + (xs.flatMap f).length ≤ N →
    (∀ x ∈ xs, ∀ a : List D, a.length + (f x).length ≤ N → ∃ g1 g2, setT t (enc x) (G a) = some g1 ∧ b g1 = .ok .nx g2 ∧ Z.fgt ms g2 = G (a ++ f x)) → forG t ms b (xs.map enc) (G acc) = .ok .nx (G (acc ++ xs.flatMap f))
  | [], acc, _, _ => by
    rw [List.flatMap_nil, List.append_nil, List.map_nil, forG, hG]
  | x :: xs, acc, hN, h => by
    rw [List.flatMap_cons, List.length_append] at hN
    obtain ⟨g1, g2, h1, h2, h3⟩ := h x List.mem_cons_self acc (by omega)
    rw [List.map_cons, forG, h1]
    dsimp only
    rw [h2]
    dsimp only
    rw [h3, forG_gather enc f G hG N xs (acc ++ f x) (by rw [List.length_append]; omega) fun y hy => h y (List.mem_cons_of_mem _ hy), List.flatMap_cons, List.append_assoc]
theorem flatMap_if {α β : Type} (p : α → Bool) (f : α → β) (xs : List α) : (xs.flatMap fun x => if p x then [f x] else []) = (xs.filter p).map f := by
  induction xs with
  | nil => rfl
  | cons x xs ih =>
    rw [List.flatMap_cons, ih]
    cases h : p x
    · rw [List.filter_cons_of_neg (by rw [h]; decide)]
      rfl
    · rw [List.filter_cons_of_pos h]
      rfl
theorem fIx_tiz {p : List Int} {j : Int} (h0 : 0 ≤ j) (h1 : j < p.length) : fIx (.tuple (p.map .int)) (.int j) = some (.int (p.getD j.toNat 0)) := by
  have := fIx_t (xs := p.map PyData.int) (i := j.toNat) (x := .int (p.getD j.toNat 0)) (by
    rw [List.getElem?_map, getD_get (by omega)]
    rfl)
  rw [Int.toNat_of_nonneg h0] at this
  exact this
end Z

set_option Elab.async false
set_option linter.all false
set_option maxRecDepth 100000
set_option autoImplicit false
set_option maxHeartbeats 1000000
namespace Z
open PySem PySem.Spec PyProof.Rows L2
def letsI (F : List Int) : List (Int × Int) := (irange 1 (cntz F)).flatMap fun s => [(s, 0), (s, 1), (s, 2), (s, 3)]
abbrev WF : Type := List (Int × Int) × List Int
def wwL (m : Int) (r : WF) (l : Int × Int) : List WF := if (cntz (Z.putF r.2 l.1 l.2) : Int) ≤ m then [(r.1 ++ [l], Z.putF r.2 l.1 l.2)] else []
def wwIn (m : Int) (r : WF) : List WF := (letsI r.2).flatMap (wwL m r)
def wwRows (n : Nat) : Nat → List WF
  | 0 => [([], [0])]
  | k + 1 => (wwRows n k).flatMap (wwIn ((n : Int) - k - 1))
def ww (n : Nat) : List WF := (wwRows n n).filter fun r => decide ((0 : Int) ∉ r.2)
structure WwOk (k : Nat) (r : WF) : Prop where
  ok : OkW [0] r.1
  ld : lead [0] r.1 = r.2
  len : r.1.length = k
structure WwAll (n c : Nat) : Prop where
  wd : ∀ r ∈ ww n, r.1 = lword r.2
  nd : ((ww n).map (·.2)).Nodup
  len : (ww n).length = c
  few : ∀ k, k ≤ n → (wwRows n k).length ≤ 40000
end Z

set_option Elab.async false
set_option linter.all false
set_option maxRecDepth 100000
set_option autoImplicit false
set_option maxHeartbeats 1000000
namespace Z
open PySem PySem.Spec PyProof.Rows L2
section
variable {X : Cx} {e st : Expr} {p2 pos : Pos} {te ts : TE}
end
end Z

set_option Elab.async false
set_option linter.all false
set_option maxRecDepth 100000
set_option autoImplicit false
set_option maxHeartbeats 1000000
namespace Z
open PySem PySem.Spec PyProof.Rows L2
def okP (p q : List Int) (a : Nat) (t : List Int) (x : Int) : Bool := (List.range a).all fun j => decide (pAt p (at0 t j) < pAt p x) == decide (at0 q j < at0 q a)
def extP (p q : List Int) (a : Nat) (t : List Int) : List (List Int) := ((irange (startI t) ((p.length : Int) - startI t).toNat).filter (okP p q a t)).map fun x => t ++ [x]
def Lp (p q : List Int) : Nat → List (List Int)
  | 0 => [[]]
  | a + 1 => (Lp p q a).flatMap (extP p q a)
theorem plP_ext {p q : List Int} {a : Nat} {t u : List Int} (h : Pl p a t) (hu : u ∈ extP p q a t) : Pl p (a + 1) u := by
  unfold extP at hu
  obtain ⟨x, hx, rfl⟩ := List.mem_map.mp hu
  obtain ⟨h1, _⟩ := List.mem_filter.mp hx
  have h2 := irange_mem.mp h1
  have h3 := startI_bd h
  refine ⟨by rw [List.length_append, h.len]; rfl, fun y hy => ?_, fun y hy => ?_⟩
  · rcases List.mem_append.mp hy with z | z
    · exact h.lo y z
    · rw [List.mem_singleton.mp z]
      omega
  · rcases List.mem_append.mp hy with z | z
    · exact h.hi y z
    · rw [List.mem_singleton.mp z]
      omega
theorem pl_Lp {p q : List Int} : ∀ {a : Nat} (t : List Int), t ∈ Lp p q a → Pl p a t
  | 0, t, ht => by
    have e : t = [] := List.mem_singleton.mp ht
    subst e
    exact ⟨rfl, fun _ h => (nomatch h), fun _ h => (nomatch h)⟩
  | a + 1, t, ht => by
    obtain ⟨s, hs, h⟩ := List.mem_flatMap.mp ht
    exact plP_ext (pl_Lp s hs) h
theorem okP_iff {p q : List Int} {a : Nat} {t : List Int} {x : Int} : okP p q a t x = true ↔ ∀ j, j < a → (pAt p (at0 t j) < pAt p x ↔ at0 q j < at0 q a) := by
  unfold okP
  rw [List.all_eq_true]
  constructor
  · intro h j hj
    have := h j (List.mem_range.mpr hj)
    rw [beq_iff_eq, decide_eq_decide] at this
    exact this
  · intro h j hj
    rw [beq_iff_eq, decide_eq_decide]
    exact h j (List.mem_range.mp hj)
theorem mtP_snoc {p q : List Int} {a : Nat} {t : List Int} {x : Int} (ip : p.Nodup) (iq : q.Nodup) (ha : a < q.length) (hl : t.length = a) : Mt p q (a + 1) (t ++ [x]) ↔ Mt p q a t ∧ startI t ≤ x ∧ 0 ≤ x ∧ x < p.length ∧ okP p q a t x = true := by
  have e1 : ∀ j, j < a → at0 (t ++ [x]) j = at0 t j := fun j hj => at0_app1 (by omega)
  have e2 : at0 (t ++ [x]) a = x := by rw [← hl]; exact at0_app2
  constructor
  · intro m
    have pl : Pl p a t := ⟨hl, fun y hy => m.pl.lo y (List.mem_append_left _ hy), fun y hy => m.pl.hi y (List.mem_append_left _ hy)⟩
    have asc : ∀ i j, i < j → j < a → at0 t i < at0 t j := fun i j h1 h2 => by
      have := m.asc i j h1 (by omega)
      rw [e1 i (by omega), e1 j h2] at this
      exact this
    have h0 := m.pl.lo x (List.mem_append_right _ (List.mem_singleton.mpr rfl))
    have h1 := m.pl.hi x (List.mem_append_right _ (List.mem_singleton.mpr rfl))
    refine ⟨⟨pl, asc, fun i j hi hj => ?_⟩, (startI_le (by rw [hl]; exact asc) h0).mpr fun y hy => ?_, h0, h1, okP_iff.mpr fun j hj => ?_⟩
    · have := m.ord i j (by omega) (by omega)
      rw [e1 i hi, e1 j hj] at this
      exact this
    · obtain ⟨i, hi, rfl⟩ := mem_at0 hy
      have := m.asc i a (by omega) (by omega)
      rw [e1 i (by omega), e2] at this
      exact this
    · have := m.ord j a (by omega) (by omega)
      rw [e1 j hj, e2] at this
      exact this
  · rintro ⟨m, hs, h0, h1, hk⟩
    have hk := okP_iff.mp hk
    have hs' := (startI_le (by rw [hl]; exact m.asc) h0).mp hs
    refine ⟨⟨by rw [List.length_append, hl]; rfl, fun y hy => ?_, fun y hy => ?_⟩, fun i j hij hj => ?_, fun i j hi hj => ?_⟩
    · rcases List.mem_append.mp hy with z | z
      · exact m.pl.lo y z
      · rw [List.mem_singleton.mp z]
        exact h0
    · rcases List.mem_append.mp hy with z | z
      · exact m.pl.hi y z
      · rw [List.mem_singleton.mp z]
        exact h1
    · by_cases e : j = a
      · rw [e, e2, e1 i (by omega)]
        exact hs' _ (at0_mem (by omega))
      · rw [e1 i (by omega), e1 j (by omega)]
        exact m.asc i j hij (by omega)
    · have ne : ∀ k, k < a → at0 t k ≠ x ∧ pAt p (at0 t k) ≠ pAt p x ∧ at0 q k ≠ at0 q a := fun k hk => by
        have b0 := m.pl.lo _ (at0_mem (t := t) (i := k) (by omega))
        have b1 := m.pl.hi _ (at0_mem (t := t) (i := k) (by omega))
        have b2 := hs' _ (at0_mem (t := t) (i := k) (by omega))
        refine ⟨by omega, fun z => ?_, fun z => ?_⟩
        · have := at0_inj ip (i := (at0 t k).toNat) (j := x.toNat) (by omega) (by omega) z
          omega
        · have := at0_inj iq (by omega) ha z
          omega
      by_cases ei : i = a
      · by_cases ej : j = a
        · rw [ei, ej]
          constructor <;> intro z <;> omega
        · have := hk j (by omega)
          have nn := ne j (by omega)
          rw [ei, e2, e1 j (by omega)]
          constructor
          · intro z
            rcases Int.lt_trichotomy (at0 q j) (at0 q a) with c | c | c
            · have := this.mpr c
              omega
            · exact absurd c nn.2.2
            · exact c
          · intro z
            rcases Int.lt_trichotomy (pAt p (at0 t j)) (pAt p x) with c | c | c
            · have := this.mp c
              omega
            · exact absurd c nn.2.1
            · exact c
      · by_cases ej : j = a
        · rw [ej, e2, e1 i (by omega)]
          exact hk i (by omega)
        · rw [e1 i (by omega), e1 j (by omega)]
          exact m.ord i j (by omega) (by omega)
theorem mem_Lp {p q : List Int} (ip : p.Nodup) (iq : q.Nodup) : ∀ {a : Nat}, a ≤ q.length → ∀ t : List Int, t ∈ Lp p q a ↔ Mt p q a t
  | 0, _, t => by
    constructor
    · intro h
      have e : t = [] := List.mem_singleton.mp h
      subst e
      exact ⟨⟨rfl, fun _ h => (nomatch h), fun _ h => (nomatch h)⟩, fun _ _ _ h => absurd h (Nat.not_lt_zero _), fun _ _ h => absurd h (Nat.not_lt_zero _)⟩
    · intro m
      rw [List.length_eq_zero_iff.mp m.pl.len]
      exact List.mem_singleton.mpr rfl
  | a + 1, ha, t => by
    have ih := mem_Lp ip iq (a := a) (by omega)
    constructor
    · intro h
      obtain ⟨s, hs, hu⟩ := List.mem_flatMap.mp h
      obtain ⟨x, hx, rfl⟩ := List.mem_map.mp hu
      obtain ⟨h1, h2⟩ := List.mem_filter.mp hx
      have h3 := irange_mem.mp h1
      have m := (ih s).mp hs
      have b := startI_bd m.pl
      exact (mtP_snoc ip iq (by omega) m.pl.len).mpr ⟨m, h3.1, by omega, by omega, h2⟩
    · intro m
      rcases List.eq_nil_or_concat t with rfl | ⟨s, x, rfl⟩
      · have := m.pl.len
        simp at this
      · rw [List.concat_eq_append] at m ⊢
        have hl : s.length = a := by
          have := m.pl.len
          rw [List.length_append, List.length_singleton] at this
          omega
        obtain ⟨m', hs, h0, h1, hk⟩ := (mtP_snoc ip iq (by omega) hl).mp m
        exact List.mem_flatMap.mpr ⟨s, (ih s).mpr m', List.mem_map.mpr ⟨x, List.mem_filter.mpr ⟨irange_mem.mpr ⟨hs, by omega⟩, hk⟩, rfl⟩⟩
/-- whether p shows q -/
def Shows (p q : List Int) : Prop := ∃ t, Mt p q q.length t
theorem PL_shows {p q : List Int} (ip : IsOrd p) (iq : q.Nodup) : PL p q ≠ [] ↔ Shows p q := by
  constructor
  · intro h
    obtain ⟨t, ht⟩ := List.exists_mem_of_ne_nil _ h
    exact ⟨t, (mem_PL ip iq t).mp ht⟩
  · rintro ⟨t, ht⟩ e
    have := (mem_PL ip iq t).mpr ht
    rw [e] at this
    cases this
theorem Lp_shows {p q : List Int} (ip : p.Nodup) (iq : q.Nodup) : Lp p q q.length ≠ [] ↔ Shows p q := by
  constructor
  · intro h
    obtain ⟨t, ht⟩ := List.exists_mem_of_ne_nil _ h
    exact ⟨t, (mem_Lp ip iq (Nat.le_refl _) t).mp ht⟩
  · rintro ⟨t, ht⟩ e
    have := (mem_Lp ip iq (Nat.le_refl _) t).mpr ht
    rw [e] at this
    cases this
theorem shows_len {p q : List Int} (h : Shows p q) : q.length ≤ p.length := by
  obtain ⟨t, m⟩ := h
  have key : ∀ i, i < q.length → (i : Int) ≤ at0 t i := by
    intro i
    induction i with
    | zero => exact fun h => m.pl.lo _ (at0_mem (by rw [m.pl.len]; exact h))
    | succ i ih =>
      intro h
      have := ih (by omega)
      have := m.asc i (i + 1) (by omega) h
      omega
  by_cases h0 : q.length = 0
  · omega
  · have a := key (q.length - 1) (by omega)
    have b := m.pl.hi _ (at0_mem (t := t) (i := q.length - 1) (by rw [m.pl.len]; omega))
    omega
end Z

set_option Elab.async false
set_option linter.all false
set_option maxRecDepth 100000
set_option autoImplicit false
set_option maxHeartbeats 1000000
namespace Z
open PySem PySem.Spec PyProof.Rows L2
end Z

set_option Elab.async false
set_option linter.all false
set_option maxRecDepth 100000
set_option autoImplicit false
set_option maxHeartbeats 1000000
namespace Z
open PySem PySem.Spec PyProof.Rows L2
end Z

set_option Elab.async false
set_option linter.all false
set_option maxRecDepth 100000
set_option autoImplicit false
set_option maxHeartbeats 1000000
namespace Z
open PySem PySem.Spec PyProof.Rows L2
end Z

set_option Elab.async false
set_option linter.all false
set_option maxRecDepth 100000
set_option autoImplicit false
set_option maxHeartbeats 1000000
namespace Z
open PySem PySem.Spec PyProof.Rows L2
def fAddI : D → D → Option D
  | .int i, .int j => some (.int (i + j))
  | _, _ => none
theorem ior_add {X : Cx} : OpR X (inplaceOp .Add) (rD2 X.K fAddI) := by
  refine or_ints (c := fun _ _ => True) (g := fun i j => i + j) ?_ fun x y z e => ?_
  · exact opI fun _ _ _ _ _ _ _ _ q => iadd_int q
  · unfold fAddI at e
    split at e
    · cases e
      exact ⟨_, _, rfl, rfl, trivial, rfl⟩
    · cases e
theorem fAddI_i (i j : Int) : fAddI (.int i) (.int j) = some (.int (i + j)) := Eq.trans rfl rfl
end Z

set_option Elab.async false
set_option linter.all false
set_option maxRecDepth 100000
set_option autoImplicit false
set_option maxHeartbeats 1000000
namespace Z
open PySem PySem.Spec PyProof.Rows L2
/-- s compares as q -/
def Cmp (s q : List Int) : Prop := s.length = q.length ∧ ∀ i j, i < q.length → j < q.length → (at0 s i < at0 s j ↔ at0 q i < at0 q j)
theorem shows_sub {c q : List Int} : Shows c q ↔ ∃ s, s.Sublist c ∧ Cmp s q := by
  constructor
  · rintro ⟨t, m⟩
    have hlt : ∀ x ∈ t, x.toNat < c.length := fun x hx => by
      have := m.pl.lo x hx
      have := m.pl.hi x hx
      omega
    have hp : t.Pairwise (· < ·) := by
      rw [List.pairwise_iff_getElem]
      intro i j hi hj hij
      have := m.asc i j hij (by rw [← m.pl.len]; exact hj)
      unfold at0 at this
      rw [List.getD_eq_getElem?_getD, List.getD_eq_getElem?_getD, List.getElem?_eq_getElem hi, List.getElem?_eq_getElem hj] at this
      exact this
    have hs := List.map_getElem_sublist (l := c) (is := t.pmap (fun x h => (⟨x.toNat, h⟩ : Fin c.length)) hlt) (by
      rw [List.pairwise_pmap]
      refine hp.imp_of_mem fun {a b} ha hb hab h1 h2 => ?_
      have := m.pl.lo a ha
      show a.toNat < b.toNat
      omega)
    have e : (t.pmap (fun x h => (⟨x.toNat, h⟩ : Fin c.length)) hlt).map (fun x => c[x]) = t.map (pAt c) := by
      rw [List.map_pmap, ← List.pmap_eq_map (p := fun x => x.toNat < c.length) (f := pAt c) (H := hlt)]
      refine List.pmap_congr_left _ fun x hx h1 h2 => ?_
      show c[x.toNat] = c.getD x.toNat 0
      rw [List.getD_eq_getElem?_getD, List.getElem?_eq_getElem h1]
      rfl
    rw [e] at hs
    refine ⟨_, hs, by rw [List.length_map, m.pl.len], fun i j hi hj => ?_⟩
    rw [at0_map (by rw [m.pl.len]; exact hi), at0_map (by rw [m.pl.len]; exact hj)]
    exact m.ord i j hi hj
  · rintro ⟨s, hs, hl, ho⟩
    obtain ⟨is, rfl, hp⟩ := List.sublist_eq_map_getElem hs
    rw [List.length_map] at hl
    have g : ∀ i (h : i < q.length), at0 (is.map fun i : Fin c.length => ((i.val : Nat) : Int)) i = ((is[i]'(by omega)).val : Int) := fun i h => by
      unfold at0
      rw [List.getD_eq_getElem?_getD, List.getElem?_map, List.getElem?_eq_getElem (by omega)]
      rfl
    have g2 : ∀ i (h : i < q.length), at0 (is.map fun x : Fin c.length => c[x]) i = pAt c (at0 (is.map fun i : Fin c.length => ((i.val : Nat) : Int)) i) := fun i h => by
      rw [g i h]
      unfold at0 pAt
      rw [List.getD_eq_getElem?_getD, List.getElem?_map, List.getElem?_eq_getElem (by omega), Int.toNat_natCast, List.getD_eq_getElem?_getD, List.getElem?_eq_getElem (is[i]'(by omega)).isLt]
      rfl
    refine ⟨is.map fun i : Fin c.length => ((i.val : Nat) : Int), ⟨by rw [List.length_map, hl], fun x hx => ?_, fun x hx => ?_⟩, fun i j hij hj => ?_, fun i j hi hj => ?_⟩
    · obtain ⟨i, _, rfl⟩ := List.mem_map.mp hx
      omega
    · obtain ⟨i, _, rfl⟩ := List.mem_map.mp hx
      have := i.isLt
      omega
    · rw [g i (by omega), g j hj]
      have := List.pairwise_iff_getElem.mp hp i j (by omega) (by omega) hij
      exact Int.ofNat_lt.mpr this
    · rw [← g2 i hi, ← g2 j hj]
      exact ho i j hi hj
theorem shows_mono {c d q : List Int} (h : c.Sublist d) (k : Shows c q) : Shows d q := by
  obtain ⟨s, hs, hc⟩ := shows_sub.mp k
  exact shows_sub.mpr ⟨s, hs.trans h, hc⟩
/-- what compares alike shows alike -/
theorem shows_cmp {c d q : List Int} (hl : c.length = d.length) (h : ∀ i j, i < c.length → j < c.length → (at0 c i < at0 c j ↔ at0 d i < at0 d j)) (k : Shows c q) : Shows d q := by
  obtain ⟨t, m⟩ := k
  refine ⟨t, ⟨m.pl.len, m.pl.lo, fun x hx => by rw [← hl]; exact m.pl.hi x hx⟩, m.asc, fun i j hi hj => ?_⟩
  have a1 := m.pl.lo _ (at0_mem (t := t) (i := i) (by rw [m.pl.len]; exact hi))
  have a2 := m.pl.hi _ (at0_mem (t := t) (i := i) (by rw [m.pl.len]; exact hi))
  have b1 := m.pl.lo _ (at0_mem (t := t) (i := j) (by rw [m.pl.len]; exact hj))
  have b2 := m.pl.hi _ (at0_mem (t := t) (i := j) (by rw [m.pl.len]; exact hj))
  rw [← m.ord i j hi hj]
  exact (h (at0 t i).toNat (at0 t j).toNat (by omega) (by omega)).symm
def fil : List Int → List Int → List Int
  | [], _ => []
  | x :: F, row => if x = 0 then match row with
    | [] => fil F []
    | r :: rs => r :: fil F rs
    else x :: fil F row
/-- rows of unlike numbers behind the form's -/
structure RowOk (F row : List Int) : Prop where
  len : row.length ≤ cntz F
  nd : row.Nodup
  lo : ∀ x ∈ row, mx F < x
  hi : ∀ x ∈ row, x ≤ mx F + cntz F
def okR (P : List Int → Bool) (F row : List Int) (x : Int) : Bool := decide (x ∉ row) && P (like (fil F (row ++ [x])))
def extR (P : List Int → Bool) (F row : List Int) : List (List Int) := ((irange (mx F + 1) (cntz F)).filter (okR P F row)).map fun x => row ++ [x]
end Z

set_option Elab.async false
set_option linter.all false
set_option maxRecDepth 100000
set_option autoImplicit false
set_option maxHeartbeats 1000000
namespace Z
open PySem PySem.Spec PyProof.Rows L2
def shB (p q : List Int) : Bool := !decide (PL p q = [])
theorem shB_iff {p q : List Int} (ip : IsOrd p) (iq : IsOrd q) : shB p q = true ↔ Shows p q := by
  unfold shB
  rw [← PL_shows ip iq.nd]
  simp
def letB (P : List (List Int)) (p : List Int) : Bool := P.all fun q => !shB p q
theorem letB_iff {P : List (List Int)} {p : List Int} (hP : ∀ q ∈ P, IsOrd q) (ip : IsOrd p) : letB P p = true ↔ ∀ q ∈ P, ¬ Shows p q := by
  unfold letB
  rw [List.all_eq_true]
  refine forall_congr' fun q => forall_congr' fun hq => ?_
  rw [Bool.not_eq_true', ← shB_iff ip (hP q hq)]
  simp
inductive Exp : List Int → List Int → Prop
  | nil : Exp [] []
  | num {x : Int} {F e : List Int} : x ≠ 0 → Exp F e → Exp (x :: F) (x :: e)
  | slot {b F e : List Int} : b ≠ [] → Exp F e → Exp (0 :: F) (b ++ e)
end Z

set_option Elab.async false
set_option linter.all false
set_option maxRecDepth 100000
set_option autoImplicit false
set_option maxHeartbeats 1000000
namespace Z
open PySem PySem.Spec PyProof.Rows L2
end Z

set_option Elab.async false
set_option linter.all false
set_option maxRecDepth 100000
set_option autoImplicit false
set_option maxHeartbeats 2000000
namespace Z
open PySem PySem.Spec PyProof.Rows L2
abbrev NKey := NestedKey
mutual
/-- no texts within -/
def ntx : NKey → Bool
  | .text _ => false
  | .none => true
  | .num _ => true
  | .tup ks => ntxs ks
def ntxs : List NKey → Bool
  | [] => true
  | k :: ks => ntx k && ntxs ks
end
section
variable {P : Program} {w : World}
/-- two small questions that the table asks of what it stores -/
structure Tame (P : Program) (w : World) (n : Nat) (s : Shared) (v : Value) : Prop where
  cls : ∀ (A : Around) (E : Value → Shared → Prop) (Q : Bool → Shared → Prop), Q false s → wpAny (model P w) A (ofAClassStatement n v) Q E s
  hsh : ∀ (A : Around) (E : Value → Shared → Prop) (Q : Bool → Shared → Prop), Q true s → wpAny (model P w) A (hashByValue n v) Q E s
theorem Tame.tup {n : Nat} {s : Shared} {a : Addr} {o : Obj} {its : Array Value} {m : Nat} (ho : s.heap.get? a = some o) (hc : o.cls = .type "tuple") (hd : o.data = .seq its m) (hi : ∀ v ∈ its.toList, Tame P w n s v) : Tame P w (n + 1) s (.ref a) := by
  have ty : s.TypeIs (.ref a) "tuple" := ⟨o, ho, hc⟩
  constructor
  · intro A E Q q
    unfold ofAClassStatement
    refine wpAny_bind (wpAny_typeOf ty ?_)
    simp only [show (("tuple" : String) == "tuple") = true by decide, if_true]
    try refine wpAny_bind (wpAny_pure ?_)
    simp only [Bool.not_true, Bool.false_eq_true, if_false]
    try refine wpAny_bind (wpAny_pure ?_)
    refine wpAny_bind (wpAny_seqItems (items := its) ho hd ?_)
    dsimp only
    refine wpAny_bind ?_
    rw [← Array.forIn_toList]
    refine wpAny_forIn_list _ (fun left acc now => (acc.1 = none ∧ now = s) ∧ ∀ v ∈ left, Tame P w n s v) _ ?_ ?_ _ _ ⟨⟨rfl, rfl⟩, hi⟩
    · rintro v left acc now ⟨⟨e1, rfl⟩, al⟩
      refine wpAny_bind ((al v List.mem_cons_self).cls _ _ _ ?_)
      simp only [Bool.false_eq_true, if_false]
      exact wpAny_pure ⟨⟨rfl, rfl⟩, fun z hz => al z (List.mem_cons_of_mem _ hz)⟩
    · rintro ⟨acc, u⟩ now ⟨⟨e1, rfl⟩, _⟩
      cases (show acc = none from e1)
      exact wpAny_pure q
  · intro A E Q q
    unfold hashByValue
    refine wpAny_bind (wpAny_specialOf ty F.slot_tuple_hash.lookup ?_)
    dsimp only
    refine wpAny_bind (wpAny_seqItems (items := its) ho hd ?_)
    refine wpAny_bind ?_
    show wpAny _ _ (forIn its _ _) _ _ s
    rw [← Array.forIn_toList]
    refine wpAny_forIn_list _ (fun left acc now => (acc.1 = none ∧ now = s) ∧ ∀ v ∈ left, Tame P w n s v) _ ?_ ?_ _ _ ⟨⟨rfl, rfl⟩, hi⟩
    · rintro v left acc now ⟨⟨e1, rfl⟩, al⟩
      refine wpAny_bind ((al v List.mem_cons_self).hsh _ _ _ ?_)
      simp only [Bool.not_true, Bool.false_eq_true, if_false]
      exact wpAny_pure ⟨⟨rfl, rfl⟩, fun z hz => al z (List.mem_cons_of_mem _ hz)⟩
    · rintro ⟨acc, u⟩ now ⟨⟨e1, rfl⟩, _⟩
      cases (show acc = none from e1)
      exact wpAny_pure q
theorem Tame.plain {n : Nat} {s : Shared} {v : Value} (h1 : ofAClassStatement n v = pure false) (h2 : hashByValue n v = pure true) : Tame P w n s v :=
  ⟨fun A E Q q => by rw [h1]; exact wpAny_pure q, fun A E Q q => by rw [h2]; exact wpAny_pure q⟩
end
end Z

set_option Elab.async false
set_option linter.all false
set_option maxRecDepth 100000
set_option autoImplicit false
set_option maxHeartbeats 4000000
namespace Z
open PySem PySem.Spec PyProof.Rows L2
/-- a member: the tuple at b is the key k -/
structure Mem (h : Heap) (k : NKey) (b : Addr) : Prop where
  is : NestedIs h k (.ref b)
  dep : k.depth ≤ 8
  ntx : ntx k = true
abbrev Row : Type := Addr × NKey
section
variable {P : Program} {w : World} {A : Around} {E : Value → Shared → Prop} {s : Shared}
theorem Mem.more {h h' : Heap} {k : NKey} {b : Addr} (m : Mem h k b) (e : ∀ c o vs n, h.get? c = some o → o.data = .seq vs n → h'.get? c = some o) : Mem h' k b := ⟨NestedIs.at e _ _ m.is, m.dep, m.ntx⟩
def hOf (w : World) (p : Row) : Int := p.2.hash w
structure NSet (w : World) (h : Heap) (a : Addr) (L : List Row) (es : Array (Int × Value)) (ep : Nat) (t : SetTable) : Prop where
  obj : ∃ o, h.get? a = some o ∧ o.ExactSet ∧ o.data = .set es ep t
  ents : es.toList = L.map fun p => (hOf w p, Value.ref p.1)
  tab : TabOk t (L.map (hOf w))
  nd : (L.map Prod.snd).Nodup
  mem : ∀ p ∈ L, Mem h p.2 p.1
  pln : t.plain = true
  led : w.params.followText "set-order" = true ∨ t.led = true
  room : L.length * 5 < t.mask * 3
  few : L.length < 64
variable {a : Addr} {L : List Row} {es : Array (Int × Value)} {ep : Nat} {t : SetTable}
theorem NSet.esz (S : NSet w s.heap a L es ep t) : es.size = L.length := by
  rw [← Array.length_toList, S.ents, List.length_map]
theorem NSet.psz (S : NSet w s.heap a L es ep t) : t.place.toList.length = L.length := by
  rw [Array.length_toList, S.tab.sz, List.length_map]
theorem NSet.fit (S : NSet w s.heap a L es ep t) : t.fits es.size = true := by
  have r := S.room
  have z := S.psz
  rw [Array.length_toList] at z
  unfold SetTable.fits SetTable.fill
  rw [S.tab.dm, S.esz, z]
  simp
  omega
theorem NSet.stays (S : NSet w s.heap a L es ep t) : ¬ t.gaveWay = true := by
  have := mask_odd S.tab.mok
  unfold SetTable.gaveWay
  rw [this]
  decide
end
end Z

set_option Elab.async false
set_option linter.all false
set_option maxRecDepth 100000
set_option autoImplicit false
set_option maxHeartbeats 4000000
namespace Z
open PySem PySem.Spec PyProof.Rows L2
section
variable {P : Program} {w : World} {A : Around} {E : Value → Shared → Prop} {s : Shared}
variable {a : Addr} {L : List Row} {es : Array (Int × Value)} {ep : Nat} {t : SetTable}
theorem ins_perm {α : Type} (L : List α) (n : Nat) (x : α) : (L.take n ++ x :: L.drop n).Perm (x :: L) := by
  have := List.perm_middle (a := x) (l₁ := L.take n) (l₂ := L.drop n)
  rwa [List.take_append_drop] at this
end
end Z

set_option Elab.async false
set_option linter.all false
set_option maxRecDepth 100000
set_option autoImplicit false
set_option maxHeartbeats 4000000
namespace Z
open PySem PySem.Spec PyProof.Rows L2
section
variable {X : Cx} {pins : List (Addr × Obj)} {σ : St} {G H : Hp} {s : Shared}
mutual
theorem nested_of (I : L2.Inv X pins σ H s) (g : Same G H) : ∀ (k : NKey) (v : V) (u : Value), ntx k = true → Dq X.K G v k.data → RelV v u → NestedIs s.heap k u
  | .none, v, u, _, d, r => by
    rw [NestedKey.data] at d
    cases d
    cases r
    exact .none
  | .num i, v, u, _, d, r => by
    rw [NestedKey.data] at d
    cases d
    obtain ⟨t, rfl⟩ := r
    exact .int i t
  | .text x, v, u, t, _, _ => by cases (show false = true from t)
  | .tup ks, v, u, t, d, r => by
    rw [NestedKey.data] at d
    cases d with
    | tup ht ha =>
      cases r
      obtain ⟨its, rv, ⟨o, ho, hc, n, hd⟩, _⟩ := I.tuple (ht.mono g).sq
      exact .tup ho hc hd (by simpa using nested_all I g ks _ _ t ha rv)
theorem nested_all (I : L2.Inv X pins σ H s) (g : Same G H) : ∀ (ks : List NKey) (vs : List V) (us : List Value), ntxs ks = true → DqAll X.K G vs (NestedKey.datas ks) → Vals vs us → NestedAll s.heap ks us
  | [], vs, us, _, d, r => by
    rw [NestedKey.datas] at d
    cases d
    cases r
    exact .nil
  | k :: ks, vs, us, t, d, r => by
    rw [NestedKey.datas] at d
    rw [ntxs, Bool.and_eq_true] at t
    cases d with
    | cons d1 d2 =>
      cases r with
      | cons r1 r2 => exact .cons (nested_of I g k _ _ t.1 d1 r1) (nested_all I g ks _ _ t.2 d2 r2)
end
/-- a row's key, seen in the layer -/
def RowAt (K : PySem.W.Frag) (G : Hp) (p : Row) : Prop := Dq K G (.ref p.1) p.2.data ∧ p.2.depth ≤ 8 ∧ ntx p.2 = true
theorem RowAt.mem {p : Row} (r : RowAt X.K G p) (I : L2.Inv X pins σ H s) (g : Same G H) : Mem s.heap p.2 p.1 := ⟨nested_of I g _ _ _ r.2.2 r.1 rfl, r.2.1, r.2.2⟩
end
end Z

set_option Elab.async false
set_option linter.all false
set_option maxRecDepth 100000
set_option autoImplicit false
set_option maxHeartbeats 4000000
namespace Z
open PySem PySem.Spec PyProof.Rows L2 PpSet
section
variable {X : Cx}
end
end Z

set_option Elab.async false
set_option linter.all false
set_option maxRecDepth 100000
set_option autoImplicit false
set_option maxHeartbeats 4000000
namespace Z
open PySem PySem.Spec PyProof.Rows L2
theorem okSort_perm {xs ys : List D} (hp : xs.Perm ys) (h : okSort ys = true) : okSort xs = true := by
  unfold okSort at *
  simp only [Bool.and_eq_true, Bool.or_eq_true, List.all_eq_true, decide_eq_true_eq] at h ⊢
  obtain ⟨⟨⟨h1, h2⟩, h3⟩, h4⟩ := h
  have m := fun d => (hp.mem_iff (a := d)).mp
  exact ⟨⟨⟨fun a ha b hb => h1 a (m a ha) b (m b hb), h2.imp (fun z a ha => z a (m a ha)) fun z a ha => z a (m a ha)⟩, by rw [hp.length_eq]; exact h3⟩, fun a ha => h4 a (m a ha)⟩
theorem perm_map_of {α β : Type} (f : α → β) {vs : List β} {M : List β} (hp : vs.Perm M) : ∀ L : List α, M = L.map f → ∃ L1 : List α, vs = L1.map f ∧ L1.Perm L := by
  induction hp with
  | nil => intro L e; exact ⟨L, e, .refl _⟩
  | cons x _ ih =>
    intro L e
    cases L with
    | nil => cases e
    | cons y L =>
      rw [List.map_cons] at e
      injection e with e1 e2
      obtain ⟨L1, q1, q2⟩ := ih L e2
      exact ⟨y :: L1, by rw [List.map_cons, ← e1, q1], .cons y q2⟩
  | swap x y l =>
    intro L e
    match L, e with
    | a :: b :: L, e =>
      simp only [List.map_cons, List.cons.injEq] at e
      obtain ⟨e1, e2, e3⟩ := e
      exact ⟨b :: a :: L, by rw [List.map_cons, List.map_cons, ← e1, ← e2, ← e3], .swap _ _ _⟩
  | trans _ _ ih1 ih2 =>
    intro L e
    obtain ⟨L1, q1, q2⟩ := ih2 L e
    obtain ⟨L2, r1, r2⟩ := ih1 L1 q1
    exact ⟨L2, r1, r2.trans q2⟩
end Z

set_option Elab.async false
set_option linter.all false
set_option maxRecDepth 100000
set_option autoImplicit false
set_option maxHeartbeats 4000000
namespace Z
open PySem PySem.Spec PyProof.Rows L2
section
variable {prog : Program} {w : World} {A : Around} {E : Value → Shared → Prop} {s : Shared}
open PySem.W PySem.Calls in
/-- what comes of sorted(s): a new list of the members' values, in the order of their data -/
theorem sorted_members {a : Addr} {L : List Row} {es : Array (Int × Value)} {ep : Nat} {t : SetTable} {R : Value → D → Prop} {Q : Value → Shared → Prop} (S : NSet w s.heap a L es ep t) (hh : A.handled = none) (hu : A.units + 2 + 30 < cLine)
    (rel : ∀ p ∈ L, R (.ref p.1) p.2.data ∧ ∃ as, Reads s.heap (.ref p.1) p.2.data as) (ok : okSort (L.map fun p => p.2.data) = true)
    (h : ∀ (L1 : List Row) (s1 : Shared) (h' : Heap) (out : List Value) (c : Nat), L1.Perm L → (∀ b o, s.heap.get? b = some o → s1.heap.get? b = some o) → s.heap.objs.size ≤ s1.heap.objs.size → s1.gens = s.gens → s1.os = s.os → (∀ b o, s1.heap.get? b = some o → h'.get? b = some o) →
      h'.get? s1.heap.objs.size = some (seqObj "list" out.toArray c) → EachIs R out (sortD (L1.map fun p => p.2.data)) → Q (.ref s1.heap.objs.size) { s1 with heap := h' }) :
    wpAny (model prog w) A (call (.builtin "sorted") [.ref a]) Q E s := by
  obtain ⟨o, go, ex, dat⟩ := S.obj
  have few := S.few
  have big : 64 ≤ sizeLine := by rw [sizeLine_eq]; omega
  refine call_function_entry_kw kind_sorted plain_sorted entry_sorted (args_sorted1 _) ?_
  unfold Builtin.«sorted»
  refine wpAny_bind (m := checkCount "sorted" 1 1 _) (wpAny_pure ?_)
  refine wpAny_bind (collect_set (A := A.in1) hh ⟨o, go, ex.1, dat⟩ S.fit (by rw [S.esz]; unfold scanBound; omega) S.tab.ris S.led fun s1 vs k1 sz g1 o1 pm => ?_)
  rw [show es.toList.map (·.2) = L.map fun p => Value.ref p.1 by rw [S.ents, List.map_map]; rfl] at pm
  obtain ⟨L1, rfl, pL⟩ := perm_map_of (fun p : Row => Value.ref p.1) pm L rfl
  have len : (L1.map fun p => Value.ref p.1).length ≤ sizeLine := by rw [List.length_map, pL.length_eq]; omega
  refine wpAny_bind (wpAny_newList ?_ len)
  show wpAny (model prog w) _ _ _ _ { s1 with heap := s1.heap.push (seqObj "list" (L1.map fun p => Value.ref p.1).toArray 0) }
  generalize hvs : (L1.map fun p => Value.ref p.1) = vs at *
  have atL : (s1.heap.push (seqObj "list" vs.toArray 0)).get? s1.heap.objs.size = some (seqObj "list" vs.toArray 0) := Heap.get?_push_size _ rfl
  have k2 : ∀ b ob, s.heap.get? b = some ob → (sortingHeap (s1.heap.push (seqObj "list" vs.toArray 0)) s1.heap.objs.size vs).get? b = some ob := fun b ob q => sortingHeap_old (Nat.ne_of_lt (Heap.lt_size (k1 b ob q))) (Heap.get?_push_of_some _ (k1 b ob q))
  have each : ∀ M : List Row, (∀ p ∈ M, p ∈ L) → EachIs R (M.map fun p => Value.ref p.1) (M.map fun p => p.2.data) ∧ EachIs (fun v d => ∃ as, Reads s.heap v d as) (M.map fun p => Value.ref p.1) (M.map fun p => p.2.data) := by
    intro M
    induction M with
    | nil => intro _; exact ⟨.nil, .nil⟩
    | cons p M ih =>
      intro hm
      obtain ⟨a1, a2⟩ := ih fun q hq => hm q (List.mem_cons_of_mem _ hq)
      obtain ⟨b1, b2⟩ := rel p (hm p List.mem_cons_self)
      exact ⟨.cons b1 a1, .cons b2 a2⟩
  obtain ⟨er, rd⟩ := each L1 fun p hp => pL.mem_iff.mp hp
  rw [hvs] at er rd
  have okL := okSort_perm (pL.map fun p : Row => p.2.data) ok
  generalize hxs : (L1.map fun p => p.2.data) = xs at *
  obtain ⟨al, so, _, dep⟩ := okSort_ok okL
  have rd' : EachIs (fun v d => ∃ as, Reads (sortingHeap (s1.heap.push (seqObj "list" vs.toArray 0)) s1.heap.objs.size vs) v d as) vs xs := rd.mono fun _ _ ⟨as, r⟩ => ⟨as, PyProof.Rows.Reads.keeps k2 r⟩
  refine wpAny_bind (wpAny_holding (wpAny_call_entry_kw slot_list_sort ⟨_, atL, rfl⟩ entry_list_sort ?_ (args_list_sort _)))
  have srt := SortsAt.data (prog := prog) (w := w) (A := A.in1.in1) (s := { s1 with heap := sortingHeap (s1.heap.push (seqObj "list" vs.toArray 0)) s1.heap.objs.size vs }) rd' al so fun d hd => by
    have := dep d hd
    show A.units + 2 + d.depth < cLine
    omega
  refine list_sort_vals (s := { s1 with heap := s1.heap.push (seqObj "list" vs.toArray 0) }) atL srt len ⟨_, rfl, wpAny_pure ?_⟩
  obtain ⟨c, atS⟩ := sortedHeap_at (h := s1.heap.push (seqObj "list" vs.toArray 0)) (a := s1.heap.objs.size) (vs := vs) (n := 0) (out := (sortVals (dataKind (sortingHeap (s1.heap.push (seqObj "list" vs.toArray 0)) s1.heap.objs.size vs) xs) false vs vs).toArray) atL
  have out := sortVals_data (R := R) (enc := id) (bs := xs) (vs := vs) false er rd' (by rw [List.map_id]; exact al)
  rw [List.map_id] at out
  refine ⟨_, rfl, h L1 s1 _ _ c pL k1 sz g1 o1 (fun b ob q => ?_) atS ?_⟩
  · rw [sortedHeap_old (Nat.ne_of_lt (Heap.lt_size q)) (Heap.lt_size (Heap.get?_push_of_some _ q))]
    exact Heap.get?_push_of_some _ q
  · rw [hxs]
    exact out
end
section
variable {X : Cx}
end
end Z

set_option Elab.async false
set_option linter.all false
set_option maxRecDepth 100000
set_option autoImplicit false
set_option maxHeartbeats 4000000
namespace Z
open PySem PySem.Spec PyProof.Rows L2
section
variable {X : Cx} {b : Bool} {elt tg iter : Expr} {ifs : List Expr} {scope : Scope} {pos cpos p : Pos} {t : Tg} {mi : M (List D)} {mt : M Bool} {me : M D}
end
end Z

set_option Elab.async false
set_option linter.all false
set_option maxRecDepth 100000
set_option autoImplicit false
set_option maxHeartbeats 1000000
namespace Z
open PySem PySem.Spec PyProof.Rows L2
def slt (p q : List Int) : Prop := p.length < q.length ∨ (p.length = q.length ∧ p < q)
theorem slt_irrefl {p : List Int} : ¬ slt p p := fun h => by
  rcases h with h | ⟨_, h⟩
  · omega
  · exact List.lt_irrefl p h
theorem slt_trans {p q r : List Int} (h : slt p q) (k : slt q r) : slt p r := by
  rcases h with h | ⟨h, h'⟩ <;> rcases k with k | ⟨k, k'⟩
  · exact .inl (by omega)
  · exact .inl (by omega)
  · exact .inl (by omega)
  · exact .inr ⟨by omega, List.lt_trans h' k'⟩
theorem slt_tri (p q : List Int) : slt p q ∨ p = q ∨ slt q p := by
  rcases Nat.lt_trichotomy p.length q.length with h | h | h
  · exact .inl (.inl h)
  · by_cases e : p = q
    · exact .inr (.inl e)
    · rcases Classical.em (p < q) with c | c
      · exact .inl (.inr ⟨h, c⟩)
      · have : q ≤ p := List.not_lt.mp c
        rcases List.le_iff_lt_or_eq.mp this with d | d
        · exact .inr (.inr (.inr ⟨h.symm, d⟩))
        · exact absurd d.symm e
  · exact .inr (.inr (.inl h))
end Z

set_option Elab.async false
set_option linter.all false
set_option maxRecDepth 100000
set_option autoImplicit false
set_option maxHeartbeats 2000000
namespace Z
open PySem PySem.Spec PyProof.Rows L2
theorem cmp_refl (q : List Int) : Cmp q q := ⟨rfl, fun _ _ _ _ => Iff.rfl⟩
theorem shows_refl (q : List Int) : Shows q q := shows_sub.mpr ⟨q, .refl _, cmp_refl q⟩
theorem shows_trans {p q r : List Int} (h : Shows p q) (k : Shows q r) : Shows p r := by
  obtain ⟨s, hs, hc⟩ := shows_sub.mp h
  exact shows_mono hs (shows_cmp hc.1.symm (fun i j hi hj => (hc.2 i j hi hj).symm) k)
theorem shows_same {p q : List Int} (ip : IsOrd p) (iq : IsOrd q) (h : Shows p q) (l : p.length = q.length) : p = q := by
  obtain ⟨s, hs, hc⟩ := shows_sub.mp h
  have e : s = p := hs.eq_of_length (by rw [hc.1, l])
  subst e
  have := like_cmp (c := s) (d := q) l fun i j hi hj => hc.2 i j (by omega) (by omega)
  rwa [like_ord ip, like_ord iq] at this
instance (p q : List Int) : Decidable (slt p q) := by unfold slt; exact inferInstance
def insP (q : List Int) : List (List Int) → List (List Int)
  | [] => [q]
  | x :: r => if q = x then x :: r else if slt q x then q :: x :: r else x :: insP q r
def srtP : List (List Int) → List (List Int)
  | [] => []
  | q :: F => insP q (srtP F)
theorem insP_mem {q t : List Int} : ∀ {L : List (List Int)}, t ∈ insP q L ↔ t = q ∨ t ∈ L
  | [] => by simp [insP]
  | x :: r => by
    unfold insP
    split
    · rename_i e
      subst e
      simp
    · split
      · simp
      · rw [List.mem_cons, insP_mem, List.mem_cons]
        constructor
        · rintro (h | h | h)
          · exact .inr (.inl h)
          · exact .inl h
          · exact .inr (.inr h)
        · rintro (h | h | h)
          · exact .inr (.inl h)
          · exact .inl h
          · exact .inr (.inr h)
theorem insP_srt {q : List Int} : ∀ {L : List (List Int)}, L.Pairwise slt → (insP q L).Pairwise slt
  | [], _ => List.pairwise_singleton _ _
  | x :: r, h => by
    obtain ⟨h1, h2⟩ := List.pairwise_cons.mp h
    unfold insP
    split
    · exact h
    · split
      · rename_i c
        exact List.pairwise_cons.mpr ⟨fun y hy => by
          rcases List.mem_cons.mp hy with rfl | hy
          · exact c
          · exact slt_trans c (h1 y hy), h⟩
      · rename_i e c
        refine List.pairwise_cons.mpr ⟨fun y hy => ?_, insP_srt h2⟩
        rcases insP_mem.mp hy with rfl | hy
        · rcases slt_tri x y with d | d | d
          · exact d
          · exact absurd d.symm e
          · exact absurd d c
        · exact h1 y hy
theorem srtP_mem {t : List Int} : ∀ {F : List (List Int)}, t ∈ srtP F ↔ t ∈ F
  | [] => Iff.rfl
  | q :: F => by
    show t ∈ insP q (srtP F) ↔ _
    rw [insP_mem, srtP_mem, List.mem_cons]
theorem srtP_srt : ∀ F : List (List Int), (srtP F).Pairwise slt
  | [] => .nil
  | q :: F => insP_srt (srtP_srt F)
end Z

set_option Elab.async false
set_option linter.all false
set_option maxRecDepth 100000
set_option autoImplicit false
set_option maxHeartbeats 2000000
namespace Z
open PySem PySem.Spec PyProof.Rows L2
end Z

set_option Elab.async false
set_option linter.all false
set_option maxRecDepth 100000
set_option autoImplicit false
set_option maxHeartbeats 2000000
namespace Z
open PySem PySem.Spec PyProof.Rows L2
def lgo : List (List Int) → List (List Int) → List (List Int)
  | acc, [] => acc
  | acc, q :: r => lgo (if letB acc q = true then acc ++ [q] else acc) r
def leastL (F : List (List Int)) : List (List Int) := lgo [] (srtP F)
abbrev Ords (F : List (List Int)) : Prop := ∀ q ∈ F, IsOrd q
/-- what shows no other one -/
def Minl (F : List (List Int)) (q : List Int) : Prop := q ∈ F ∧ ∀ r ∈ F, Shows q r → r = q
theorem minl_below {F : List (List Int)} (hF : Ords F) : ∀ (n : Nat) (q : List Int), q.length ≤ n → q ∈ F → ∃ m, Minl F m ∧ Shows q m
  | n, q, hn, hq => by
    by_cases c : ∀ r ∈ F, Shows q r → r = q
    · exact ⟨q, ⟨hq, c⟩, shows_refl q⟩
    · obtain ⟨r, hc⟩ := Classical.not_forall.mp c
      obtain ⟨hr, hc⟩ := Classical.not_imp.mp hc
      obtain ⟨hs, hne⟩ := Classical.not_imp.mp hc
      have l1 := shows_len hs
      have l2 : r.length ≠ q.length := fun e => hne (shows_same (hF q hq) (hF r hr) hs e.symm).symm
      cases n with
      | zero => omega
      | succ n =>
        obtain ⟨m, hm, sm⟩ := minl_below hF n r (by omega) hr
        exact ⟨m, hm, shows_trans hs sm⟩
theorem lgo_sub : ∀ (r acc : List (List Int)), acc.Sublist (lgo acc r) ∧ (lgo acc r).Sublist (acc ++ r)
  | [], acc => ⟨.refl _, by rw [List.append_nil]; exact .refl _⟩
  | q :: r, acc => by
    unfold lgo
    split
    · obtain ⟨a, b⟩ := lgo_sub r (acc ++ [q])
      exact ⟨(List.sublist_append_left _ _).trans a, by rw [List.append_assoc] at b; exact b⟩
    · obtain ⟨a, b⟩ := lgo_sub r acc
      exact ⟨a, b.trans (List.Sublist.append_left (List.sublist_cons_self _ _) _)⟩
theorem leastL_sub (F : List (List Int)) : (leastL F).Sublist (srtP F) := (lgo_sub (srtP F) []).2
theorem leastL_in {F : List (List Int)} {q : List Int} (h : q ∈ leastL F) : q ∈ F := srtP_mem.mp ((leastL_sub F).subset h)
theorem leastL_ords {F : List (List Int)} (h : Ords F) : Ords (leastL F) := fun q hq => h q (leastL_in hq)
theorem lgo_mem {F : List (List Int)} (hF : Ords F) : ∀ (r pre acc : List (List Int)), pre ++ r = srtP F → (∀ q, q ∈ acc ↔ q ∈ pre ∧ Minl F q) → ∀ q, q ∈ lgo acc r ↔ Minl F q
  | [], pre, acc, e, h, q => by
    rw [List.append_nil] at e
    show q ∈ acc ↔ _
    rw [h, e, srtP_mem]
    exact ⟨fun z => z.2, fun z => ⟨z.1, z⟩⟩
  | x :: r, pre, acc, e, h, q => by
    have hx : x ∈ F := srtP_mem.mp (by rw [← e]; simp)
    have ps := srtP_srt F
    rw [← e] at ps
    have pre_lt : ∀ y ∈ pre, slt y x := fun y hy => (List.pairwise_append.mp ps).2.2 y hy x List.mem_cons_self
    have accO : Ords acc := fun y hy => hF y ((h y).mp hy).2.1
    have key : letB acc x = true ↔ Minl F x := by
      rw [letB_iff accO (hF x hx)]
      constructor
      · intro hn
        obtain ⟨m, hm, sm⟩ := minl_below hF x.length x (Nat.le_refl _) hx
        have hms : m ∈ srtP F := srtP_mem.mpr hm.1
        rw [← e] at hms
        rcases List.mem_append.mp hms with k | k
        · exact absurd sm (hn m ((h m).mpr ⟨k, hm⟩))
        · rcases List.mem_cons.mp k with rfl | k
          · exact hm
          · have lt := (List.pairwise_cons.mp (List.pairwise_append.mp ps).2.1).1 m k
            have l1 := shows_len sm
            rcases lt with lt | ⟨le, lt⟩
            · omega
            · have := shows_same (hF x hx) (hF m hm.1) sm le
              subst this
              exact absurd lt (List.lt_irrefl _)
      · intro hm y hy sy
        obtain ⟨k1, k2⟩ := (h y).mp hy
        have := hm.2 y k2.1 sy
        subst this
        exact slt_irrefl (pre_lt y k1)
    unfold lgo
    by_cases c : letB acc x = true
    · rw [if_pos c]
      refine lgo_mem hF r (pre ++ [x]) (acc ++ [x]) (by rw [List.append_assoc]; exact e) (fun y => ?_) q
      rw [List.mem_append, List.mem_append, List.mem_singleton, h]
      constructor
      · rintro (⟨a, b⟩ | rfl)
        · exact ⟨.inl a, b⟩
        · exact ⟨.inr rfl, key.mp c⟩
      · rintro ⟨a | rfl, b⟩
        · exact .inl ⟨a, b⟩
        · exact .inr rfl
    · rw [if_neg c]
      refine lgo_mem hF r (pre ++ [x]) acc (by rw [List.append_assoc]; exact e) (fun y => ?_) q
      rw [List.mem_append, List.mem_singleton, h]
      constructor
      · rintro ⟨a, b⟩
        exact ⟨.inl a, b⟩
      · rintro ⟨a | rfl, b⟩
        · exact ⟨a, b⟩
        · exact absurd (key.mpr b) c
theorem leastL_mem {F : List (List Int)} (hF : Ords F) {q : List Int} : q ∈ leastL F ↔ Minl F q := lgo_mem hF (srtP F) [] [] rfl (fun q => by simp) q
theorem leastL_let {F : List (List Int)} (hF : Ords F) {p : List Int} (ip : IsOrd p) : letB (leastL F) p = letB F p := by
  rw [Bool.eq_iff_iff, letB_iff (leastL_ords hF) ip, letB_iff hF ip]
  constructor
  · intro h q hq hs
    obtain ⟨m, hm, sm⟩ := minl_below hF q.length q (Nat.le_refl _) hq
    exact h m ((leastL_mem hF).mpr hm) (shows_trans hs sm)
  · exact fun h q hq => h q (leastL_in hq)
end Z

set_option Elab.async false
set_option linter.all false
set_option maxRecDepth 100000
set_option autoImplicit false
set_option maxHeartbeats 2000000
namespace Z
open PySem PySem.Spec PyProof.Rows L2
structure Mv (w : List Int → List Int) : Prop where
  ord : ∀ {p : List Int}, IsOrd p → IsOrd (w p)
  len : ∀ p : List Int, (w p).length = p.length
  back : ∀ {p : List Int}, IsOrd p → w (w p) = p
  sh : ∀ {p q : List Int}, IsOrd p → IsOrd q → Shows p q → Shows (w p) (w q)
variable {w : List Int → List Int}
theorem Mv.iff (h : Mv w) {p q : List Int} (ip : IsOrd p) (iq : IsOrd q) : Shows (w p) (w q) ↔ Shows p q := by
  constructor
  · intro s
    have := h.sh (h.ord ip) (h.ord iq) s
    rwa [h.back ip, h.back iq] at this
  · exact h.sh ip iq
theorem Mv.ords (h : Mv w) {F : List (List Int)} (hF : Ords F) : Ords (F.map w) := fun q hq => by
  obtain ⟨p, hp, rfl⟩ := List.mem_map.mp hq
  exact h.ord (hF p hp)
theorem Mv.let (h : Mv w) {F : List (List Int)} (hF : Ords F) {p : List Int} (ip : IsOrd p) : letB (leastL (F.map w)) (w p) = letB F p := by
  rw [leastL_let (h.ords hF) (h.ord ip), Bool.eq_iff_iff, letB_iff (h.ords hF) (h.ord ip), letB_iff hF ip]
  constructor
  · intro a q hq hs
    exact a (w q) (List.mem_map.mpr ⟨q, hq, rfl⟩) ((h.iff ip (hF q hq)).mpr hs)
  · intro a q hq hs
    obtain ⟨r, hr, rfl⟩ := List.mem_map.mp hq
    exact a r hr ((h.iff ip (hF r hr)).mp hs)
end Z

set_option Elab.async false
set_option linter.all false
set_option maxRecDepth 100000
set_option autoImplicit false
set_option maxHeartbeats 2000000
namespace Z
open PySem PySem.Spec PyProof.Rows L2
def insG (p : List Int) (i : Nat) : List Int := p.take i ++ [((p.length + 1 : Nat) : Int)] ++ p.drop i
def lngG (p : List Int) : List (List Int) := (irange 0 (p.length + 1)).map fun i => insG p i.toNat
theorem insG_len (p : List Int) (i : Nat) : (insG p i).length = p.length + 1 := by
  unfold insG
  rw [List.length_append, List.length_append, List.length_take, List.length_drop, List.length_singleton]
  omega
theorem lngG_len (p : List Int) : (lngG p).length = p.length + 1 := by unfold lngG; rw [List.length_map, irange_len]
theorem lngG_ord {p q : List Int} (ip : IsOrd p) (h : q ∈ lngG p) : IsOrd q ∧ q.length = p.length + 1 := by
  obtain ⟨i, _, rfl⟩ := List.mem_map.mp h
  exact ⟨isOrd_insert ip i.toNat, insG_len p _⟩
/-- without the greatest -/
def shr (q : List Int) : List Int := q.filter fun x => decide (x ≠ (q.length : Int))
theorem shr_ins {p : List Int} (ip : IsOrd p) (i : Nat) : shr (insG p i) = p := by
  have hn : ∀ x ∈ p, decide (x ≠ ((p.length + 1 : Nat) : Int)) = true := fun x hx => by
    have := ip.hi x hx
    exact decide_eq_true (by omega)
  unfold shr
  rw [insG_len]
  unfold insG
  rw [List.filter_append, List.filter_append, List.filter_eq_self.mpr fun x hx => hn x (List.mem_of_mem_take hx), List.filter_eq_self.mpr fun x hx => hn x (List.mem_of_mem_drop hx)]
  rw [List.filter_cons_of_neg (by simp), List.filter_nil, List.append_nil, List.take_append_drop]
theorem shr_ord {q : List Int} (iq : IsOrd q) {n : Nat} (hn : q.length = n + 1) : IsOrd (shr q) ∧ (shr q).length = n ∧ q ∈ lngG (shr q) := by
  have hm : (((n + 1 : Nat)) : Int) ∈ q := iq.mem (by omega) (by rw [hn]; exact Int.le_refl _)
  obtain ⟨a, b, e⟩ := List.append_of_mem hm
  have nd := iq.nd
  rw [e] at nd
  have hne : ∀ x ∈ a ++ b, x ≠ ((n + 1 : Nat) : Int) := fun x hx z => by
    subst z
    rw [List.nodup_append] at nd
    obtain ⟨_, n2, n3⟩ := nd
    rcases List.mem_append.mp hx with h | h
    · exact n3 _ h _ List.mem_cons_self rfl
    · exact (List.nodup_cons.mp n2).1 h
  have es : shr q = a ++ b := by
    unfold shr
    rw [hn]
    conv => lhs; rw [e]
    rw [List.filter_append, List.filter_cons_of_neg (by simp), ← List.filter_append]
    exact List.filter_eq_self.mpr fun x hx => decide_eq_true (hne x hx)
  have sub : (a ++ b).Sublist q := by rw [e]; exact List.Sublist.append_left (List.sublist_cons_self _ _) _
  have hl : (a ++ b).length = n := by
    have := congrArg List.length e
    rw [hn, List.length_append, List.length_cons] at this
    rw [List.length_append]
    omega
  rw [es]
  refine ⟨⟨iq.nd.sublist sub, fun x hx => iq.lo x (sub.subset hx), fun x hx => ?_⟩, hl, ?_⟩
  · have h1 := iq.hi x (sub.subset hx)
    have h2 := hne x hx
    rw [hl]
    rw [hn] at h1
    omega
  · refine List.mem_map.mpr ⟨(a.length : Int), irange_mem.mpr ⟨by omega, by rw [List.length_append]; omega⟩, ?_⟩
    unfold insG
    rw [Int.toNat_natCast, hl, List.take_left, List.drop_left, List.append_assoc]
    exact e.symm
theorem lngG_nd {p : List Int} (ip : IsOrd p) : (lngG p).Nodup := by
  unfold lngG List.Nodup
  rw [List.pairwise_map]
  refine (irange_sorted 0 _).imp_of_mem fun {i j} hi hj hij e => ?_
  have hi' := irange_mem.mp hi
  have hj' := irange_mem.mp hj
  have g : ∀ k : Nat, k ≤ p.length → (insG p k).idxOf ((p.length + 1 : Nat) : Int) = k := fun k hk => by
    have hn : ((p.length + 1 : Nat) : Int) ∉ p.take k := fun h => by
      have := ip.hi _ (List.mem_of_mem_take h)
      omega
    unfold insG
    rw [List.append_assoc, List.idxOf_append, if_neg hn]
    show ([((p.length + 1 : Nat) : Int)] ++ p.drop k).idxOf _ + (p.take k).length = k
    rw [List.length_take, Nat.min_eq_left hk, List.singleton_append, List.idxOf_cons_self, Nat.zero_add]
  have a := g i.toNat (by omega)
  have b := g j.toNat (by omega)
  rw [e, b] at a
  omega
def fac : Nat → Nat
  | 0 => 1
  | n + 1 => (n + 1) * fac n
def allO : Nat → List (List Int)
  | 0 => [[]]
  | n + 1 => ((allO n).flatMap lngG).mergeSort (fun a b => decide (a ≤ b))
structure AllOk (n : Nat) (L : List (List Int)) : Prop where
  asc : L.Pairwise (· < ·)
  mem : ∀ t, t ∈ L ↔ IsOrd t ∧ t.length = n
theorem flat_nd {α β : Type} {f : α → List β} {L : List α} (h1 : L.Nodup) (h2 : ∀ x ∈ L, (f x).Nodup) (g : β → α) (h3 : ∀ x ∈ L, ∀ y ∈ f x, g y = x) : (L.flatMap f).Nodup := by
  induction L with
  | nil => exact .nil
  | cons x L ih =>
    obtain ⟨n1, n2⟩ := List.nodup_cons.mp h1
    rw [List.flatMap_cons, List.nodup_append]
    refine ⟨h2 x List.mem_cons_self, ih n2 (fun y hy => h2 y (List.mem_cons_of_mem _ hy)) fun y hy => h3 y (List.mem_cons_of_mem _ hy), fun a ha b hb e => ?_⟩
    obtain ⟨y, hy, hb'⟩ := List.mem_flatMap.mp hb
    have e1 := h3 x List.mem_cons_self a ha
    have e2 := h3 y (List.mem_cons_of_mem _ hy) b hb'
    rw [e, e2] at e1
    subst e1
    exact n1 hy
theorem allO_ok : ∀ n : Nat, AllOk n (allO n) ∧ ((allO n).flatMap lngG).Nodup ∧ (allO n).length = fac n
  | 0 => ⟨⟨List.pairwise_singleton _ _, fun t => by
      show t ∈ [[]] ↔ _
      rw [List.mem_singleton, List.length_eq_zero_iff]
      constructor
      · rintro rfl
        exact ⟨isOrd_nil, rfl⟩
      · exact fun h => h.2⟩, by
      show (List.flatMap lngG [[]]).Nodup
      decide, rfl⟩
  | n + 1 => by
    obtain ⟨⟨a, m⟩, nd, ln⟩ := allO_ok n
    have pm := List.mergeSort_perm ((allO n).flatMap lngG) (fun a b => decide (a ≤ b))
    have tot : ∀ x y : List Int, (decide (x ≤ y) || decide (y ≤ x)) = true := fun x y => by
      rcases List.le_total x y with h | h <;> simp [h]
    have tr : ∀ x y z : List Int, decide (x ≤ y) = true → decide (y ≤ z) = true → decide (x ≤ z) = true := fun x y z h1 h2 => decide_eq_true (List.le_trans (of_decide_eq_true h1) (of_decide_eq_true h2))
    have hs := List.pairwise_mergeSort (le := fun x y : List Int => decide (x ≤ y)) tr tot ((allO n).flatMap lngG)
    have nd' : (allO (n + 1)).Nodup := pm.nodup_iff.mpr nd
    have asc : (allO (n + 1)).Pairwise (· < ·) := by
      refine List.Pairwise.imp₂ (R := fun x y => decide (x ≤ y) = true) (S := fun x y => x ≠ y) (fun x y h1 h2 => ?_) hs nd'
      rcases List.le_iff_lt_or_eq.mp (of_decide_eq_true h1) with h | h
      · exact h
      · exact absurd h h2
    have mem : ∀ t, t ∈ allO (n + 1) ↔ IsOrd t ∧ t.length = n + 1 := fun t => by
      show t ∈ ((allO n).flatMap lngG).mergeSort _ ↔ _
      rw [pm.mem_iff, List.mem_flatMap]
      constructor
      · rintro ⟨p, hp, ht⟩
        obtain ⟨ip, lp⟩ := (m p).mp hp
        obtain ⟨h1, h2⟩ := lngG_ord ip ht
        exact ⟨h1, by rw [h2, lp]⟩
      · rintro ⟨it, lt⟩
        obtain ⟨h1, h2, h3⟩ := shr_ord it lt
        exact ⟨shr t, (m _).mpr ⟨h1, h2⟩, h3⟩
    refine ⟨⟨asc, mem⟩, flat_nd nd' (fun x hx => lngG_nd ((mem x).mp hx).1) shr fun x hx y hy => ?_, ?_⟩
    · obtain ⟨i, _, rfl⟩ := List.mem_map.mp hy
      exact shr_ins ((mem x).mp hx).1 _
    · show (((allO n).flatMap lngG).mergeSort _).length = _
      rw [List.length_mergeSort]
      have : ∀ L : List (List Int), (∀ x ∈ L, x.length = n) → (L.flatMap lngG).length = (n + 1) * L.length := by
        intro L
        induction L with
        | nil => intro _; simp
        | cons x L ih =>
          intro h
          rw [List.flatMap_cons, List.length_append, lngG_len, h x List.mem_cons_self, ih fun y hy => h y (List.mem_cons_of_mem _ hy), List.length_cons, Nat.mul_succ]
          omega
      rw [this _ fun x hx => ((m x).mp hx).2, ln]
      rfl
end Z

set_option Elab.async false
set_option linter.all false
set_option maxRecDepth 100000
set_option autoImplicit false
set_option maxHeartbeats 2000000
namespace Z
open PySem PySem.Spec PyProof.Rows L2
end Z

set_option Elab.async false
set_option linter.all false
set_option maxRecDepth 100000
set_option autoImplicit false
set_option maxHeartbeats 2000000
namespace Z
open PySem PySem.Spec PyProof.Rows L2
theorem fIx_lastL {xs : List D} {x : D} : fIx (.list (xs ++ [x])) (.int (-1)) = some x := by
  have : fIx (.list (xs ++ [x])) (.int (-1)) = fIx (.tuple (xs ++ [x])) (.int (-1)) := rfl
  rw [this, fIx_last]
end Z

set_option Elab.async false
set_option linter.all false
set_option maxRecDepth 100000
set_option autoImplicit false
set_option maxHeartbeats 2000000
namespace Z
open PySem PySem.Spec PyProof.Rows L2
section
variable {X : Cx}
end
end Z

set_option Elab.async false
set_option linter.all false
set_option maxRecDepth 100000
set_option autoImplicit false
set_option maxHeartbeats 2000000
namespace Z
open PySem PySem.Spec PyProof.Rows L2
section
variable {X : Cx}
end
section
variable {X : Cx} {pins : List (Addr × Obj)} {σ : L2.St} {H G : Hp} {s : Shared}
structure PrOk (X : Cx) (H G : Hp) (s : Shared) (ps : List (List Int × D)) (its : List Value) (as : List Addr) (es : List (List Int × Addr × V)) (xs : List (List Int × Addr × Value)) : Prop where
  it : its = as.map Value.ref
  al : DkAll X.K G es ps
  dp : DkP es xs
  la : as.length = xs.length
  pr : ∀ (j : Nat) (x : List Int × Addr × Value), xs[j]? = some x → ∃ a, as[j]? = some a ∧ PairAt s.heap a (.ref x.2.1) x.2.2
  ks : ∀ x ∈ xs, IsTupleKey (intKind X.prog X.w) s.heap x.1 x.2.1
end
end Z

set_option Elab.async false
set_option linter.all false
set_option maxRecDepth 100000
set_option autoImplicit false
set_option maxHeartbeats 2000000
namespace Z
open PySem PySem.Spec PyProof.Rows L2
section
variable {X : Cx} {i j : Nat} {x y : Str} {px py pt pos pd pc pl : Pos} {kt k2 : Nat} {pt2 : Pos} {arg : Expr}
end
section
variable {X : Cx} {b b1 : Bool} {elt tg iter tg1 iter1 : Expr} {ifs ifs1 : List Expr} {scope : Scope} {pos : Pos} {t t1 : Tg} {mi mi1 : M (List D)} {mt mt1 : M Bool} {me : M D}
end
def whG (ms : List Nat) (t : M Bool) (b : M Fl) : Nat → M Fl
  | 0 => fun _ => .bad
  | n + 1 => bnd t fun c => if c = true then fun g1 => match b g1 with
      | .ok .nx g2 => whG ms t b n (fgt ms g2)
      | .ok .ct g2 => whG ms t b n (fgt ms g2)
      | .ok .bk g2 => .ok .nx (fgt ms g2)
      | o => o
    else fun g1 => .ok .nx (fgt ms g1)
def sWh (ms : List Nat) (t : M Bool) (b : M Fl) : M Fl := whG ms t b 1000000
theorem ds_while {X : Cx} {c : Expr} {body : List Stmt} {pos : Pos} {mt : M Bool} {mb : M Fl} (ms : List Nat) (hp : PassesOwn (model X.prog X.w) X.A X.env X.xe) (hc : DT X c mt) (hb : DSs X body mb) : DS X (.While c body [] pos) (sWh ms mt mb) := fun W tk =>
  ps_imp (ps_while hp (hc W tk) (hb W tk)) fun D σ H p => by
    refine ⟨fun m σ' H' => st X W (whG ms mt mb m) D σ' H', ⟨1000000, p⟩, fun m σ' H' p' => ?_⟩
    cases m with
    | zero =>
      obtain ⟨F, G, Mu, Γ, R, q⟩ := p'
      exact q.elim
    | succ n =>
      unfold whG at p'
      refine (st_bnd (ρ := rhoB) p').imp fun v H1 ⟨r, F, G, Mu, Γ, R, h1, q⟩ => ?_
      have e0 : r = v := h1
      subst e0
      cases r with
      | false =>
        rw [if_neg (by decide)]
        rw [if_neg (by decide)] at q
        exact q _ H1 G (Same.refl _) R.fgt
      | true =>
        rw [if_pos rfl]
        rw [if_pos rfl] at q
        refine ⟨fun σ2 H2 => st X W (whG ms mt mb n) D σ2 H2, fun σ2 H2 h => ⟨n, Nat.lt_succ_self n, h⟩, F, G, Mu, Γ, R, ?_⟩
        cases e2 : mb Γ with
        | bad => rw [e2] at q; exact q
        | ex c z Γ2 => rw [e2] at q; exact q
        | ok f Γ2 =>
          rw [e2] at q
          cases f with
          | nx => exact fun σ3 H3 G3 k R3 => ⟨F, G3, Mu, _, R3.fgt, q.rebase k⟩
          | ct => exact fun σ3 H3 G3 k R3 => ⟨F, G3, Mu, _, R3.fgt, q.rebase k⟩
          | rt r => exact q
          | bk => exact fun σ3 H3 G3 k R3 => q σ3 H3 G3 k R3.fgt
end Z

set_option Elab.async false
set_option linter.all false
set_option maxRecDepth 100000
set_option autoImplicit false
set_option maxHeartbeats 2000000
namespace Z
open PySem PySem.Spec PyProof.Rows L2
def rmx : List Int → List Int
  | [] => []
  | x :: l => if ∀ y ∈ l, y < x then x :: rmx l else rmx l
def rst : List Int → List Int
  | [] => []
  | x :: l => if ∀ y ∈ l, y < x then rst l else x :: rst l
theorem rmx_sub : ∀ l : List Int, (rmx l).Sublist l
  | [] => .refl _
  | x :: l => by
    unfold rmx
    split
    · exact (rmx_sub l).cons_cons x
    · exact (rmx_sub l).cons x
theorem rst_sub : ∀ l : List Int, (rst l).Sublist l
  | [] => .refl _
  | x :: l => by
    unfold rst
    split
    · exact (rst_sub l).cons x
    · exact (rst_sub l).cons_cons x
theorem rmx_len : ∀ l : List Int, (rmx l).length + (rst l).length = l.length
  | [] => rfl
  | x :: l => by
    have := rmx_len l
    unfold rmx rst
    split <;> simp only [List.length_cons] <;> omega
theorem rmx_desc : ∀ l : List Int, (rmx l).Pairwise (· > ·)
  | [] => .nil
  | x :: l => by
    unfold rmx
    split
    · rename_i h
      exact .cons (fun y hy => h y ((rmx_sub l).subset hy)) (rmx_desc l)
    · exact rmx_desc l
theorem rst_ext : ∀ (l s : List Int), l.Nodup → s.Sublist (rst l) → s ≠ [] → s.Pairwise (· < ·) → ∃ y, (s ++ [y]).Sublist l ∧ (s ++ [y]).Pairwise (· < ·)
  | [], s, _, h, hn, _ => absurd (List.sublist_nil.mp h) hn
  | x :: l, s, nd, h, hn, hp => by
    obtain ⟨n1, n2⟩ := List.nodup_cons.mp nd
    unfold rst at h
    split at h
    · obtain ⟨y, h1, h2⟩ := rst_ext l s n2 h hn hp
      exact ⟨y, h1.cons x, h2⟩
    · rename_i hx
      cases h with
      | cons _ h =>
        obtain ⟨y, h1, h2⟩ := rst_ext l s n2 h hn hp
        exact ⟨y, h1.cons x, h2⟩
      | cons_cons _ h =>
        rename_i s'
        obtain ⟨p1, p2⟩ := List.pairwise_cons.mp hp
        by_cases c : s' = []
        · subst c
          obtain ⟨y, hy⟩ := Classical.not_forall.mp hx
          obtain ⟨hy, hlt⟩ := Classical.not_imp.mp hy
          have ne : y ≠ x := fun z => n1 (z ▸ hy)
          refine ⟨y, (List.singleton_sublist.mpr hy).cons_cons x, ?_⟩
          show [x, y].Pairwise (· < ·)
          refine .cons (fun z hz => ?_) (List.pairwise_singleton _ _)
          rw [List.mem_singleton.mp hz]
          omega
        · obtain ⟨y, h1, h2⟩ := rst_ext l s' n2 h c p2
          refine ⟨y, h1.cons_cons x, .cons (fun z hz => ?_) h2⟩
          rcases List.mem_append.mp hz with a | a
          · exact p1 z a
          · rw [List.mem_singleton.mp a]
            obtain ⟨w, hw⟩ := List.exists_mem_of_ne_nil _ c
            have := p1 w hw
            have := (List.pairwise_append.mp h2).2.2 w hw y (List.mem_singleton.mpr rfl)
            omega
theorem far (f : Nat) : ∀ (r : Nat) (l : List Int), l.Nodup → r * f < l.length → (∃ s : List Int, s.Sublist l ∧ s.Pairwise (· < ·) ∧ s.length = r + 1) ∨ ∃ s : List Int, s.Sublist l ∧ s.Pairwise (· > ·) ∧ s.length = f + 1
  | 0, l, nd, h => by
    cases l with
    | nil => rw [List.length_nil] at h; omega
    | cons x l => exact .inl ⟨[x], List.singleton_sublist.mpr List.mem_cons_self, List.pairwise_singleton _ _, rfl⟩
  | r + 1, l, nd, h => by
    by_cases c : f + 1 ≤ (rmx l).length
    · exact .inr ⟨(rmx l).take (f + 1), (List.take_sublist _ _).trans (rmx_sub l), (rmx_desc l).sublist (List.take_sublist _ _), by rw [List.length_take]; omega⟩
    · have hl := rmx_len l
      rw [Nat.add_mul, Nat.one_mul] at h
      rcases far f r (rst l) (nd.sublist (rst_sub l)) (by omega) with ⟨s, h1, h2, h3⟩ | ⟨s, h1, h2, h3⟩
      · obtain ⟨y, k1, k2⟩ := rst_ext l s nd h1 (fun z => by rw [z] at h3; cases h3) h2
        exact .inl ⟨s ++ [y], k1, k2, by rw [List.length_append, h3]; rfl⟩
      · exact .inr ⟨s, h1.trans (rst_sub l), h2, h3⟩
end Z

set_option Elab.async false
set_option linter.all false
set_option maxRecDepth 100000
set_option autoImplicit false
set_option maxHeartbeats 2000000
namespace Z
open PySem PySem.Spec PyProof.Rows L2
section
variable {prog : Program} {w : World} {A : Around} {E : Value → Shared → Prop} {s : Shared}
end
end Z

set_option Elab.async false
set_option linter.all false
set_option maxRecDepth 100000
set_option autoImplicit false
set_option maxHeartbeats 1000000
namespace Z
open PySem PySem.Spec PyProof.Rows L2
def fAbs : List D → Option D
  | [.int i] => some (.int (if i < 0 then -i else i))
  | _ => none
theorem fAbs_i (i : Int) : fAbs [.int i] = some (.int (if i < 0 then -i else i)) := Eq.trans rfl rfl
section
variable {X : Cx}
theorem cd_abs : CallR X (.builtin "abs") (rDN X.K fAbs) := by
  intro pins s σ H vs us Q I r h
  obtain ⟨G, xs, z, gh, rd, e, q⟩ := h
  unfold fAbs at e
  split at e
  · cases e
    obtain ⟨v, rfl, r1⟩ := rd.one
    have e1 := r1.int
    subst e1
    exact call_abs pins s σ H _ us Q I r ⟨_, rfl, q _ _ _ (Ext.refl gh) (.int _)⟩
  · cases e
end
theorem boot_abs : bootBuiltins "abs" = some (.builtin "abs") := by first | rfl | decide +kernel
def fitJ (a : Str) (ys : List Str) : Prop := (ys.map (·.length)).sum + ys.length * a.length ≤ 16777216
instance (a : Str) (ys : List Str) : Decidable (fitJ a ys) := by unfold fitJ; exact inferInstance
section
variable {X : Cx} {o e : Expr} {apos pos : Pos}
end
end Z

set_option Elab.async false
set_option linter.all false
set_option maxRecDepth 100000
set_option autoImplicit false
set_option maxHeartbeats 3200000
namespace Z
open PySem PySem.Spec PyProof.Rows L2
section
variable {P : Program} {w : World} {A : Around} {E : Value → Shared → Prop} {s : Shared}
end
section
variable {X : Cx} {pins : List (Addr × Obj)} {σ : St}
end
end Z

set_option Elab.async false
set_option linter.all false
set_option maxRecDepth 100000
set_option autoImplicit false
set_option maxHeartbeats 3200000
namespace Z
open PySem PySem.Spec PyProof.Rows L2
section
variable {X : Cx} {e : Expr} {p p2 pos pos2 : Pos}
end
end Z

set_option Elab.async false
set_option linter.all false
set_option maxRecDepth 100000
set_option autoImplicit false
set_option maxHeartbeats 1000000
namespace Z
open PySem PySem.Spec PyProof.Rows L2
def okPowW (i j : Int) : Bool := decide (0 ≤ j) && decide (j ≤ 1000) && decide (i.natAbs.log2 < 10000)
def fPowW : D → D → Option D
  | .int i, .int j => if okPowW i j = true then some (.int (i ^ j.toNat)) else none
  | _, _ => none
theorem bits_log (i : Int) : Builtin.Int.intBits i ≤ i.natAbs.log2 + 1 := by
  unfold Builtin.Int.intBits
  split <;> omega
theorem or_powW {X : Cx} : OpR X (binaryOp .Pow) (rD2 X.K fPowW) := by
  refine or_ints (c := fun i j => okPowW i j = true) (g := fun i j => i ^ j.toNat) ?_ fun x y z e => ?_
  · refine opI fun i j _ _ _ _ _ hc q => ?_
    unfold okPowW at hc
    simp only [Bool.and_eq_true, decide_eq_true_eq] at hc
    obtain ⟨⟨h1, h2⟩, h3⟩ := hc
    refine PyProof.Rows.pow_int h1 ?_ q
    have hb := bits_log i
    have : ((Builtin.Int.intBits i : Nat) : Int) ≤ 10000 := by omega
    calc ((Builtin.Int.intBits i : Nat) : Int) * j ≤ 10000 * j := Int.mul_le_mul_of_nonneg_right this h1
      _ ≤ 10000 * 1000 := by omega
      _ ≤ 2 ^ 27 := by decide
  · unfold fPowW at e
    split at e
    · split at e
      · cases e
        exact ⟨_, _, rfl, rfl, by assumption, rfl⟩
      · cases e
    · cases e
theorem fPowW_3 {i : Int} (h : i.natAbs.log2 < 10000) : fPowW (.int i) (.int 3) = some (.int (i ^ 3)) := by
  have ok : okPowW i 3 = true := by
    unfold okPowW
    rw [decide_eq_true (show (0 : Int) ≤ 3 by decide), decide_eq_true (show (3 : Int) ≤ 1000 by decide), decide_eq_true h]
    rfl
  exact if_pos ok
theorem log_lt {n k : Nat} (h : n < 2 ^ k) (hk : 0 < k) : n.log2 < k := by
  by_cases c : n = 0
  · rw [c]
    exact hk
  · exact (Nat.log2_lt c).mpr h
end Z

set_option Elab.async false
set_option linter.all false
set_option maxRecDepth 100000
set_option autoImplicit false
set_option maxHeartbeats 1000000
namespace Z
open PySem PySem.Spec PyProof.Rows L2
def mPopAt (xs : List D) (as : List D) : Option (List D × D) := match as with
  | [.int i] => if 0 ≤ i ∧ i < 2 ^ 63 then (match xs[i.toNat]? with
    | some y => some (xs.eraseIdx i.toNat, y)
    | none => none) else none
  | _ => none
theorem mPopAt_ok {xs : List D} {i : Int} {y : D} (h0 : 0 ≤ i) (h1 : i < 1000000) (h : xs[i.toNat]? = some y) : mPopAt xs [.int i] = some (xs.eraseIdx i.toNat, y) := by
  unfold mPopAt
  dsimp only
  rw [if_pos ⟨h0, by omega⟩, h]
end Z

set_option Elab.async false
set_option linter.all false
set_option maxRecDepth 100000
set_option autoImplicit false
set_option maxHeartbeats 1000000
namespace Z
open PySem PySem.Spec PyProof.Rows L2
def KDicC (w : World) (K : PySem.W.Frag) (mg : Str → Option Value) (x : Str) (kvs : List (Str × D)) : Prop :=
  ∃ (a : Addr) (es : Array DictEntry) (n : Nat), mg x = some (.ref a) ∧ KDict K w a es n ∧ ∀ p ∈ kvs, ∃ (v : V) (u : Value), PySem.W.nsIn K a p.1 = some (some u) ∧ RelV v u ∧ ∀ G, Dq K G v p.2
def fInK (ks : List Str) : D → Option D
  | .str z => if z ∈ ks then some (.bool true) else none
  | _ => none
theorem dp_inKD {X : Cx} {x : Str} {kvs : List (Str × D)} {ks : List Str} {e : Expr} {m : M Rs} {p pos : Pos} (he : DV X e m) (hg : Gl X x) (hm : KDicC X.w X.K X.mg x kvs) (hks : ks = kvs.map (·.1)) (hd : (x == ("__debug__" : Str)) = false := by decide)
    (hb : behindInMarks .In (.Name x p) = false := by first | exact nobehind _ (by decide) (by decide) | rfl) : DP X (.Compare e [.In] [.Name x p] pos) (op1 (fInK ks) m) := fun W tk => by
  subst hks
  obtain ⟨a, es, n, h1, kd, hk⟩ := hm
  refine pe_imp (pe_cmpR (op_in_kd kd) (he W tk) (pe_glob (v := .ref a) hg h1 rfl hd) hb) fun σ H Q q => ?_
  refine (op1_run q).imp fun v H1 ⟨G, dx, z, gh, r1, e, q⟩ => ?_
  unfold fInK at e
  split at e
  · rename_i t
    split at e
    · rename_i hz
      cases e
      have e1 := r1.str
      subst e1
      obtain ⟨p, hp, rfl⟩ := List.mem_map.mp hz
      obtain ⟨v, u, h2, _, _⟩ := hk p hp
      exact ⟨_, _, rfl, rfl, h2, q _ _ _ (Ext.refl gh) (.bl _)⟩
    · cases e
  · cases e
end Z

set_option Elab.async false
set_option linter.all false
set_option maxRecDepth 100000
set_option autoImplicit false
set_option maxHeartbeats 4000000
namespace Z
open PySem PySem.Spec PyProof.Rows L2
def okQ (zs : List Int) (n : Int) : Bool := decide (zs = []) || decide (zs.getLastD 0 < n)
def stQ (s : List Int × List Int) (n : Int) : List Int × List Int := if okQ s.1 n = true then (s.1 ++ [n], s.2) else if okQ s.2 n = true then (s.1, s.2 ++ [n]) else (s.1 ++ [n], s.2)
def queues (o : List Int) : List Int × List Int := o.foldl stQ ([], [])
abbrev tQ : M Bool := dOr (dB (op2 fEq (dName 4) (dv (dFz (dLst dNil))))) (dB (op2 fLt (dv (op2 fIx (dName 4) (dv (op1 fNeg (dv (dC (.int 1))))))) (dName 2)))
abbrev nQ : M Bool := dB (op2 fNe (dName 3) (dv (dFz (dLst dNil))))
theorem tQ_ok (n : Int) (zs : List Int) : tQ [.u, .u, .d (.int n), .u, .d (.list (zs.map .int))] = .ok (okQ zs n) [.u, .u, .d (.int n), .u, .d (.list (zs.map .int))] := by
  have e1 : fEq (.list (zs.map .int)) (.list []) = some (.bool (decide (zs = []))) := fEq_li zs []
  have g1 : fNeg (.int 1) = some (.int (-1)) := Eq.trans rfl rfl
  unfold tQ okQ
  rcases List.eq_nil_or_concat zs with rfl | ⟨ys, y, rfl⟩
  · rw [List.map_nil] at *
    rw [decide_eq_true (show ([] : List Int) = [] from rfl)] at *
    simp only [bnd_at, rt_at, thn_ok, thn_ex, oRo_some, oMap_some, brn_t, brn_f, dName_at, slR_d, slR_a, slR_o, vl_d, vl_s, slV_d, slV_a, slV_o, dv_at, dEsc_at, esc_d, esc_s, escS_d, escS_o, dFz_at, dC_at, dNil_at, dCons_at, vNil_at, vCons_at, op2_at, op2r_at, op1_at, op1o_at, opN_at, opNo_at, vls_nil, vls_cons, cutR_at, oNone_at, oSome_at, dTup_at, dLst_at, dB_at, boolD_b, dNot_at, dAnd_at, dOr_at, dIfE_at, dAndV_at, dOrV_at, dNotV_at, dSeq_at, dsq_nx, dsq_rt, dsq_bk, dsq_ct, dsq_ex, sNx_at, sBk_at, sCt_at, sExpr_at, sRet_at, sRetO_at, sRetN_at, sRetV_at, retS_d, retS_o, sSet_at, sSetO_at, sIf_at, ownV_o, msNil_at, msD_at, msO_at, msR_at, gRo_some, sPar_at, setRs_nil, setRs_d, setRs_o, callP_at, callK_at, argO_some, callM_at, outR_ret, outR_ex, argD_nil, argD_v, argD_p, argD_m, argD_vn, argD_vs, Option.some.injEq, Nat.reduceEqDiff, mIx_m, mIx_v, mIx_p, mIx_nil, putM_none, putM_some, putO_o, call1_at, rD_at, rtD_d, rtD_o, rO_at, rtO_o, sExprR_at, sRetR_at, sSetR_at, setS_d, setS_o, runF_at, outF_nx, outF_rt, mOut_some, muOf_nil, muOf_m, muOf_v, muOf_p, chk_some, sSub_at, subS0, subS1, mutS_some, mutP_some, dMut_at, mixR_at, dChain_at, dRep_at, intD_i, rg1_at, rg2_at, dLstRg_go, rgL_ok, dTupRg_go, rgT_ok, dTupRg3_go, rgT3_ok, rgO1_ok, rgO2_ok, rgO3_ok, sm0, sm1, dIndexT_at, seqS_d, seqS_a, seqS_o, seqD_l, seqD_t, itR_d, itR_s, iV_at, iO_at, iR1_go, iR2_go, iR3_go, iEnV_at, iEnO_at, iZip_at, zipR_at, dcL_at, sSwap_at, c2L_at, sUnp_at, unpR_2, sUnpL_at, unpRL_2, sMove_at, moveV_o, moveV_d, mvR_some, swapR_at, sFor_at, compL_at, fAdd_i, fSub_i, fLt_i, fLe_i, fGt_i, fGe_i, fDiv_33, fPow_64, fPow_33, fPow_18, fNeg_i, fLen_l, fLen_t, fInt_i, fTuple_l, fList_l, fMax_2, fMin_2, fIx_l0, fIx_l1, fIx_l2, fEq_i, start0, svs, svK, svA, List.length_cons, List.length_nil, List.replicate, List.append_nil, List.cons_append, List.nil_append, List.getElem?_cons_zero, List.getElem?_cons_succ, List.set_cons_zero, List.set_cons_succ, Bool.not_true, Bool.not_false, decide_true, decide_false, ne_eq, not_false_eq_true, Nat.reduceAdd, Nat.reduceSub, fMul_take, fMul_7919, fMul_31, Nat.reduceLT, Int.reduceLT, Int.reduceEq, fMod_i, fDiv_i, bdz_ok, setT_nm, fgt_nil, fgt_cons, wipG_nil, wipG_cons, sz1, sz2, sz3, sz4, sz5, Nat.zero_le, fIs_ii, fIs_ib, fIs_is, fIs_itl, fIs_tt, fIs_tl, fIs_ttl, fIs_lt, fIs_ll, fIs_ltl, fAll_b, fSum_i, fBack_t, fBackL_l, e1, Bool.true_or]
  · have hne : decide (ys ++ [y] = []) = false := decide_eq_false (by simp)
    rw [List.concat_eq_append] at *
    rw [hne] at e1 ⊢
    have e2 : fIx (.list ((ys ++ [y]).map PyData.int)) (.int (-1)) = some (.int y) := by
      rw [List.map_append]
      exact fIx_lastL
    have e3 : (ys ++ [y]).getLastD 0 = y := by simp
    rw [e3]
    generalize (ys ++ [y]).map PyData.int = z at *
    simp only [bnd_at, rt_at, thn_ok, thn_ex, oRo_some, oMap_some, brn_t, brn_f, dName_at, slR_d, slR_a, slR_o, vl_d, vl_s, slV_d, slV_a, slV_o, dv_at, dEsc_at, esc_d, esc_s, escS_d, escS_o, dFz_at, dC_at, dNil_at, dCons_at, vNil_at, vCons_at, op2_at, op2r_at, op1_at, op1o_at, opN_at, opNo_at, vls_nil, vls_cons, cutR_at, oNone_at, oSome_at, dTup_at, dLst_at, dB_at, boolD_b, dNot_at, dAnd_at, dOr_at, dIfE_at, dAndV_at, dOrV_at, dNotV_at, dSeq_at, dsq_nx, dsq_rt, dsq_bk, dsq_ct, dsq_ex, sNx_at, sBk_at, sCt_at, sExpr_at, sRet_at, sRetO_at, sRetN_at, sRetV_at, retS_d, retS_o, sSet_at, sSetO_at, sIf_at, ownV_o, msNil_at, msD_at, msO_at, msR_at, gRo_some, sPar_at, setRs_nil, setRs_d, setRs_o, callP_at, callK_at, argO_some, callM_at, outR_ret, outR_ex, argD_nil, argD_v, argD_p, argD_m, argD_vn, argD_vs, Option.some.injEq, Nat.reduceEqDiff, mIx_m, mIx_v, mIx_p, mIx_nil, putM_none, putM_some, putO_o, call1_at, rD_at, rtD_d, rtD_o, rO_at, rtO_o, sExprR_at, sRetR_at, sSetR_at, setS_d, setS_o, runF_at, outF_nx, outF_rt, mOut_some, muOf_nil, muOf_m, muOf_v, muOf_p, chk_some, sSub_at, subS0, subS1, mutS_some, mutP_some, dMut_at, mixR_at, dChain_at, dRep_at, intD_i, rg1_at, rg2_at, dLstRg_go, rgL_ok, dTupRg_go, rgT_ok, dTupRg3_go, rgT3_ok, rgO1_ok, rgO2_ok, rgO3_ok, sm0, sm1, dIndexT_at, seqS_d, seqS_a, seqS_o, seqD_l, seqD_t, itR_d, itR_s, iV_at, iO_at, iR1_go, iR2_go, iR3_go, iEnV_at, iEnO_at, iZip_at, zipR_at, dcL_at, sSwap_at, c2L_at, sUnp_at, unpR_2, sUnpL_at, unpRL_2, sMove_at, moveV_o, moveV_d, mvR_some, swapR_at, sFor_at, compL_at, fAdd_i, fSub_i, fLt_i, fLe_i, fGt_i, fGe_i, fDiv_33, fPow_64, fPow_33, fPow_18, fNeg_i, fLen_l, fLen_t, fInt_i, fTuple_l, fList_l, fMax_2, fMin_2, fIx_l0, fIx_l1, fIx_l2, fEq_i, start0, svs, svK, svA, List.length_cons, List.length_nil, List.replicate, List.append_nil, List.cons_append, List.nil_append, List.getElem?_cons_zero, List.getElem?_cons_succ, List.set_cons_zero, List.set_cons_succ, Bool.not_true, Bool.not_false, decide_true, decide_false, ne_eq, not_false_eq_true, Nat.reduceAdd, Nat.reduceSub, fMul_take, fMul_7919, fMul_31, Nat.reduceLT, Int.reduceLT, Int.reduceEq, fMod_i, fDiv_i, bdz_ok, setT_nm, fgt_nil, fgt_cons, wipG_nil, wipG_cons, sz1, sz2, sz3, sz4, sz5, Nat.zero_le, fIs_ii, fIs_ib, fIs_is, fIs_itl, fIs_tt, fIs_tl, fIs_ttl, fIs_lt, fIs_ll, fIs_ltl, fAll_b, fSum_i, fBack_t, fBackL_l, e1, g1, e2, Bool.false_or]
theorem nQ_ok (zs : List (List Int)) : nQ [.u, .u, .u, .d (.list (zs.map li)), .u] = .ok (decide (zs ≠ [])) [.u, .u, .u, .d (.list (zs.map li)), .u] := by
  have e1 : fNe (.list (zs.map li)) (.list []) = some (.bool (!decide (zs = []))) := by
    rw [fNe_gd (n := 2) (m := 1) (gd_list fun x hx => by obtain ⟨q, _, rfl⟩ := List.mem_map.mp hx; exact gd_li 0 q) (gd_list (xs := ([] : List D)) fun x hx => (nomatch hx)) (by decide) (by decide)]
    cases zs with
    | nil => rfl
    | cons z r => rfl
  unfold nQ
  simp only [bnd_at, rt_at, thn_ok, thn_ex, oRo_some, oMap_some, brn_t, brn_f, dName_at, slR_d, slR_a, slR_o, vl_d, vl_s, slV_d, slV_a, slV_o, dv_at, dEsc_at, esc_d, esc_s, escS_d, escS_o, dFz_at, dC_at, dNil_at, dCons_at, vNil_at, vCons_at, op2_at, op2r_at, op1_at, op1o_at, opN_at, opNo_at, vls_nil, vls_cons, cutR_at, oNone_at, oSome_at, dTup_at, dLst_at, dB_at, boolD_b, dNot_at, dAnd_at, dOr_at, dIfE_at, dAndV_at, dOrV_at, dNotV_at, dSeq_at, dsq_nx, dsq_rt, dsq_bk, dsq_ct, dsq_ex, sNx_at, sBk_at, sCt_at, sExpr_at, sRet_at, sRetO_at, sRetN_at, sRetV_at, retS_d, retS_o, sSet_at, sSetO_at, sIf_at, ownV_o, msNil_at, msD_at, msO_at, msR_at, gRo_some, sPar_at, setRs_nil, setRs_d, setRs_o, callP_at, callK_at, argO_some, callM_at, outR_ret, outR_ex, argD_nil, argD_v, argD_p, argD_m, argD_vn, argD_vs, Option.some.injEq, Nat.reduceEqDiff, mIx_m, mIx_v, mIx_p, mIx_nil, putM_none, putM_some, putO_o, call1_at, rD_at, rtD_d, rtD_o, rO_at, rtO_o, sExprR_at, sRetR_at, sSetR_at, setS_d, setS_o, runF_at, outF_nx, outF_rt, mOut_some, muOf_nil, muOf_m, muOf_v, muOf_p, chk_some, sSub_at, subS0, subS1, mutS_some, mutP_some, dMut_at, mixR_at, dChain_at, dRep_at, intD_i, rg1_at, rg2_at, dLstRg_go, rgL_ok, dTupRg_go, rgT_ok, dTupRg3_go, rgT3_ok, rgO1_ok, rgO2_ok, rgO3_ok, sm0, sm1, dIndexT_at, seqS_d, seqS_a, seqS_o, seqD_l, seqD_t, itR_d, itR_s, iV_at, iO_at, iR1_go, iR2_go, iR3_go, iEnV_at, iEnO_at, iZip_at, zipR_at, dcL_at, sSwap_at, c2L_at, sUnp_at, unpR_2, sUnpL_at, unpRL_2, sMove_at, moveV_o, moveV_d, mvR_some, swapR_at, sFor_at, compL_at, fAdd_i, fSub_i, fLt_i, fLe_i, fGt_i, fGe_i, fDiv_33, fPow_64, fPow_33, fPow_18, fNeg_i, fLen_l, fLen_t, fInt_i, fTuple_l, fList_l, fMax_2, fMin_2, fIx_l0, fIx_l1, fIx_l2, fEq_i, start0, svs, svK, svA, List.length_cons, List.length_nil, List.replicate, List.append_nil, List.cons_append, List.nil_append, List.getElem?_cons_zero, List.getElem?_cons_succ, List.set_cons_zero, List.set_cons_succ, Bool.not_true, Bool.not_false, decide_true, decide_false, ne_eq, not_false_eq_true, Nat.reduceAdd, Nat.reduceSub, fMul_take, fMul_7919, fMul_31, Nat.reduceLT, Int.reduceLT, Int.reduceEq, fMod_i, fDiv_i, bdz_ok, setT_nm, fgt_nil, fgt_cons, wipG_nil, wipG_cons, sz1, sz2, sz3, sz4, sz5, Nat.zero_le, fIs_ii, fIs_ib, fIs_is, fIs_itl, fIs_tt, fIs_tl, fIs_ttl, fIs_lt, fIs_ll, fIs_ltl, fAll_b, fSum_i, fBack_t, fBackL_l, e1]
  simp
/-- all that is there is read -/
def snF (H : Hp) : Fr := ⟨H, H, fun _ => False, Same.refl _, fun _ h => False.elim h⟩
theorem snap {K : PySem.W.Frag} {H : Hp} {Γ : En} {σ : St} (hl : Γ.length = σ.length) (h : ∀ (i : Nat) (sv : SV), Γ[i]? = some sv → sv = .u ∨ ∃ x v, sv = .d x ∧ σ[i]? = some (some v) ∧ Dq K H v x) : Rel K (snF H) H none Γ σ H where
  fh := Same.refl _
  lk := fun _ h => h.elim
  gh := Same.refl _
  mu := fun _ h => by cases h
  len := hl
  sl := fun i sv e => by
    rcases h i sv e with rfl | ⟨x, v, rfl, h1, h2⟩
    · exact True.intro
    · exact ⟨v, by rw [h1]; rfl, h2⟩
  sep := fun i j l ⟨sv, e, ho, _⟩ _ => by
    rcases h i sv e with rfl | ⟨x, v, rfl, _⟩ <;> cases ho
end Z

set_option Elab.async false
set_option linter.all false
set_option maxRecDepth 100000
set_option autoImplicit false
set_option maxHeartbeats 4000000
namespace Z
open PySem PySem.Spec PyProof.Rows L2
structure QF (F : Fr) (G : Hp) (Mu : Option Addr) (p l1 l2 : Addr) : Prop where
  ne : l1 ≠ l2
  n1 : p ≠ l1
  n2 : p ≠ l2
  fp : F p = none
  f1 : F l1 = none
  f2 : F l2 = none
  gp : G p = none
  g1 : G l1 = none
  g2 : G l2 = none
  mu : ∀ l, Mu = some l → l ≠ p ∧ l ≠ l1 ∧ l ≠ l2
structure QH (F : Fr) (G : Hp) (Mu : Option Addr) (v0 : V) (p l1 l2 : Addr) (s : List Int × List Int) (σ : St) (H : Hp) : Prop where
  len : σ.length = 5
  s0 : σ[0]? = some (some v0)
  s1 : σ[1]? = some (some (.ref p))
  hp : ∃ ob : Obj, ob.dict = none ∧ H p = some (.frz ob (.tup [.ref l1, .ref l2]))
  h1 : H l1 = some (.lst (s.1.map .int))
  h2 : H l2 = some (.lst (s.2.map .int))
  mu : ∀ l, Mu = some l → H l ≠ none
  fh : Same F.f H
  gh : Same G H
def QI (F : Fr) (G : Hp) (Mu : Option Addr) (v0 : V) (s : List Int × List Int) (σ : St) (H : Hp) : Prop := ∃ p l1 l2, QF F G Mu p l1 l2 ∧ QH F G Mu v0 p l1 l2 s σ H
theorem QH.grow {F : Fr} {G H H' : Hp} {Mu : Option Addr} {v0 : V} {p l1 l2 : Addr} {s : List Int × List Int} {σ σ' : St} (q : QH F G Mu v0 p l1 l2 s σ H) (e : Same H H') (hl : σ'.length = 5) (h0 : σ'[0]? = σ[0]?) (h1 : σ'[1]? = σ[1]?) : QH F G Mu v0 p l1 l2 s σ' H' where
  len := hl
  s0 := h0.trans q.s0
  s1 := h1.trans q.s1
  hp := by
    obtain ⟨ob, d, h⟩ := q.hp
    exact ⟨ob, d, e _ _ h⟩
  h1 := e _ _ q.h1
  h2 := e _ _ q.h2
  mu := fun l h z => q.mu l h (e.free z)
  fh := q.fh.trans e
  gh := q.gh.trans e
theorem dq_li {K : PySem.W.Frag} {H : Hp} {l : Addr} {zs : List Int} (h : H l = some (.lst (zs.map .int))) : Dq K H (.ref l) (li zs) := .lst (.of h) (dpa_nums zs)
theorem same_mut {A H : Hp} {l : Addr} {o : HO} (e : Same A H) (n : A l = none) : Same A (upd H l o) := same_updR e n
/-- row.append(number) -/
theorem QH.push1 {F : Fr} {G H : Hp} {Mu : Option Addr} {v0 : V} {p l1 l2 : Addr} {s : List Int × List Int} {σ : St} (f : QF F G Mu p l1 l2) (q : QH F G Mu v0 p l1 l2 s σ H) (n : Int) : QH F G Mu v0 p l1 l2 (s.1 ++ [n], s.2) σ (upd H l1 (.lst (s.1.map .int ++ [.int n]))) where
  len := q.len
  s0 := q.s0
  s1 := q.s1
  hp := by
    obtain ⟨ob, d, h⟩ := q.hp
    exact ⟨ob, d, by rw [upd_ne f.n1]; exact h⟩
  h1 := by rw [upd_same, List.map_append]; rfl
  h2 := by rw [upd_ne (Ne.symm f.ne)]; exact q.h2
  mu := fun l h => by rw [upd_ne (f.mu l h).2.1]; exact q.mu l h
  fh := same_mut q.fh f.f1
  gh := same_mut q.gh f.g1
theorem QH.push2 {F : Fr} {G H : Hp} {Mu : Option Addr} {v0 : V} {p l1 l2 : Addr} {s : List Int × List Int} {σ : St} (f : QF F G Mu p l1 l2) (q : QH F G Mu v0 p l1 l2 s σ H) (n : Int) : QH F G Mu v0 p l1 l2 (s.1, s.2 ++ [n]) σ (upd H l2 (.lst (s.2.map .int ++ [.int n]))) where
  len := q.len
  s0 := q.s0
  s1 := q.s1
  hp := by
    obtain ⟨ob, d, h⟩ := q.hp
    exact ⟨ob, d, by rw [upd_ne f.n2]; exact h⟩
  h1 := by rw [upd_ne f.ne]; exact q.h1
  h2 := by rw [upd_same, List.map_append]; rfl
  mu := fun l h => by rw [upd_ne (f.mu l h).2.2]; exact q.mu l h
  fh := same_mut q.fh f.f2
  gh := same_mut q.gh f.g2
abbrev tAq (X : Cx) : TE := tLc (iTup X.K (tVar 1)) (gName 4) (zt X W0 rhoB tQ) (tVar 4) [4]
abbrev tBq (X : Cx) (W : WX) : TE := tIf (zt X W rhoB nQ) (tOp (rIxL X.K) (tVar 3) (tC (.int 0))) (tOp (rIxT X.K) (tVar 1) (tC (.int 0)))
abbrev tCq (X : Cx) : TE := tBM X.K "list" rAppend (tVar 4) (tCons (tVar 2) tNil)
/-- one row of the two -/
theorem item_q {X : Cx} {σ : St} {H H' : Hp} {Dd l : Addr} {zs : List Int} {n : Int} {acc acc' : List V} (hlen : σ.length = 5) (h2 : σ[2]? = some (some (.int n))) (hl : H l = some (.lst (zs.map .int))) (sm : Same H H') (nD : H Dd = none) (hD : H' Dd = some (.lst acc)) (ha : acc.length ≤ 10)
    (e : acc' = if okQ zs n = true then acc ++ [.ref l] else acc) :
    gName 4 (.ref l) (wipe σ [4]) H' fun σ2 H2 => wipe σ2 [4] = wipe σ [4] ∧ zt X W0 rhoB tQ σ2 H2 fun b H3 => if b = true then tVar 4 σ2 H3 fun y H4 => ∃ acc, H4 Dd = some (.lst acc) ∧ acc.length < sizeLine ∧ (Same H (upd H4 Dd (.lst (acc ++ [y]))) ∧ (upd H4 Dd (.lst (acc ++ [y]))) Dd = some (.lst acc')) else (Same H H3 ∧ H3 Dd = some (.lst acc')) := by
  have hw : wipe σ [4] = σ.set 4 none := rfl
  obtain ⟨a, b, c, d, f, rfl⟩ : ∃ a b c d f, σ = [a, b, c, d, f] := by
    match σ, hlen with
    | [a, b, c, d, f], _ => exact ⟨a, b, c, d, f, rfl⟩
  have hc : c = some (.int n) := by simpa using h2
  subst hc
  refine ⟨rfl, snF H', H', none, [.u, .u, .d (.int n), .u, .d (.list (zs.map .int))], snap rfl fun i sv e => ?_, ?_⟩
  · match i, e with
    | 0, e => exact .inl (by simpa using e.symm)
    | 1, e => exact .inl (by simpa using e.symm)
    | 2, e => exact .inr ⟨.int n, .int n, by simpa using e.symm, rfl, .int n⟩
    | 3, e => exact .inl (by simpa using e.symm)
    | 4, e => exact .inr ⟨.list (zs.map .int), .ref l, by simpa using e.symm, rfl, dq_li (sm _ _ hl)⟩
    | i + 5, e => simp at e
  · rw [tQ_ok]
    intro bb H3 G3 k3 R3 hb
    have hb : okQ zs n = bb := hb
    subst hb
    have s3 : Same H' H3 := R3.fh
    by_cases hk : okQ zs n = true
    · rw [if_pos hk]
      rw [if_pos hk] at e
      refine ⟨.ref l, rfl, acc, s3 _ _ hD, sz_lt (by omega), same_mut (sm.trans s3) nD, ?_⟩
      rw [upd_same, e]
    · rw [if_neg hk]
      rw [if_neg hk] at e
      exact ⟨sm.trans s3, by rw [e]; exact s3 _ _ hD⟩
end Z

set_option Elab.async false
set_option linter.all false
set_option maxRecDepth 100000
set_option autoImplicit false
set_option maxHeartbeats 4000000
namespace Z
open PySem PySem.Spec PyProof.Rows L2
def a1Q (l1 : Addr) (s : List Int × List Int) (n : Int) : List V := if okQ s.1 n = true then [.ref l1] else []
def a2Q (l1 l2 : Addr) (s : List Int × List Int) (n : Int) : List V := if okQ s.2 n = true then a1Q l1 s n ++ [.ref l2] else a1Q l1 s n
theorem comp_q {X : Cx} {F : Fr} {G H : Hp} {Mu : Option Addr} {v0 : V} {p l1 l2 : Addr} {s : List Int × List Int} {σ : St} {n : Int} (q : QH F G Mu v0 p l1 l2 s σ H) (h2 : σ[2]? = some (some (.int n))) {Q : VK}
    (hQ : ∀ Dd H', H Dd = none → Same H H' → H' Dd = some (.lst (a2Q l1 l2 s n)) → Q (.ref Dd) H') : tAq X σ H Q := by
  obtain ⟨ob, hd, hp⟩ := q.hp
  refine ⟨.ref p, q.s1, p, rfl, ⟨[.ref l1, .ref l2], .inl (.inr ⟨ob, hp⟩)⟩, fun Dd nD => ?_⟩
  refine lc_tup (xs := [.ref l1, .ref l2]) (fun i H' => Same H H' ∧ H' Dd = some (.lst (match i with | 0 => [] | 1 => a1Q l1 s n | _ => a2Q l1 l2 s n))) ⟨same_upd nD, upd_same⟩ (fun i H' _ h => .inl (.inr ⟨ob, h.1 _ _ hp⟩)) (fun i x H' hx h => ?_) (fun H' h => hQ Dd H' nD h.1 h.2)
  match i, hx with
  | 0, hx =>
    have : x = .ref l1 := by simpa using hx.symm
    subst this
    exact item_q (acc := []) (acc' := a1Q l1 s n) q.len h2 q.h1 h.1 nD h.2 (by simp) rfl
  | 1, hx =>
    have : x = .ref l2 := by simpa using hx.symm
    subst this
    have ha : (a1Q l1 s n).length ≤ 10 := by
      unfold a1Q
      split <;> simp
    exact item_q (acc := a1Q l1 s n) (acc' := a2Q l1 l2 s n) q.len h2 q.h2 h.1 nD h.2 ha rfl
  | i + 2, hx => simp at hx
theorem five {σ : St} (h : σ.length = 5) : ∃ a b c d f, σ = [a, b, c, d, f] := by
  match σ, h with
  | [a, b, c, d, f], _ => exact ⟨a, b, c, d, f, rfl⟩
/-- free[0] if free != [] else rows[0] -/
theorem pick_q {X : Cx} {W : WX} {F : Fr} {G H : Hp} {Mu : Option Addr} {v0 : V} {p l1 l2 : Addr} {s : List Int × List Int} {σ : St} {Dd : Addr} (q : QH F G Mu v0 p l1 l2 s σ H) (h3 : σ[3]? = some (some (.ref Dd))) {vs : List V} {zs : List (List Int)} (hv : H Dd = some (.lst vs)) (hz : DqAll X.K H vs (zs.map li)) {Q : VK} (hQ : ∀ H', Same H H' → Q (vs.headD (.ref l1)) H') : tBq X W σ H Q := by
  obtain ⟨ob, hd, hp⟩ := q.hp
  obtain ⟨a, b, c, d, f, rfl⟩ := five q.len
  have hd3 : d = some (.ref Dd) := by simpa using h3
  have hb1 : b = some (.ref p) := by simpa using q.s1
  subst hd3 hb1
  refine ⟨snF H, H, none, [.u, .u, .u, .d (.list (zs.map li)), .u], snap rfl fun i sv e => ?_, ?_⟩
  · match i, e with
    | 0, e => exact .inl (by simpa using e.symm)
    | 1, e => exact .inl (by simpa using e.symm)
    | 2, e => exact .inl (by simpa using e.symm)
    | 3, e => exact .inr ⟨.list (zs.map li), .ref Dd, by simpa using e.symm, rfl, .lst (.of hv) hz⟩
    | 4, e => exact .inl (by simpa using e.symm)
    | i + 5, e => simp at e
  · rw [nQ_ok]
    intro bb H3 G3 k3 R3 hb
    have hb : decide (zs ≠ []) = bb := hb
    subst hb
    have s3 : Same H H3 := R3.fh
    have hlen := dpa_length hz
    rw [List.length_map] at hlen
    by_cases hk : zs = []
    · subst hk
      have : vs = [] := List.length_eq_zero_iff.mp (by simpa using hlen)
      subst this
      rw [decide_eq_false (by simp), if_neg (by decide)]
      exact ⟨.ref p, rfl, p, [.ref l1, .ref l2], 0, .ref l1, rfl, rfl, .inl (.inr ⟨ob, s3 _ _ hp⟩), rfl, hQ _ s3⟩
    · rw [decide_eq_true hk, if_pos rfl]
      cases vs with
      | nil => exact absurd (List.length_eq_zero_iff.mp (by simpa using hlen.symm)) hk
      | cons v r =>
        have ha : atI (v :: r) 0 = some v := by
          unfold atI
          rw [ixN_int (Int.le_refl 0) (by rw [List.length_cons]; omega)]
          rfl
        exact ⟨.ref Dd, rfl, Dd, v :: r, 0, v, rfl, rfl, .of (s3 _ _ hv), ha, hQ _ s3⟩
theorem push_q {X : Cx} {σ : St} {H : Hp} {l : Addr} {zs : List Int} {n : Int} (h2 : σ[2]? = some (some (.int n))) (h4 : σ[4]? = some (some (.ref l))) (hl : H l = some (.lst (zs.map .int))) (hz : zs.length ≤ 1000) {Q : VK} (hQ : Q .non (upd H l (.lst (zs.map .int ++ [.int n])))) : tCq X σ H Q :=
  ⟨.ref l, h4, .inl ⟨rfl, _, .of hl⟩, .int n, h2, l, zs.map .int, .int n, rfl, rfl, hl, by rw [List.length_map]; exact sz_lt (by omega), hQ⟩
theorem body_q {X : Cx} {W : WX} {F : Fr} {G H : Hp} {Mu : Option Addr} {v0 : V} {s : List Int × List Int} {σ : St} {n : Int} {D : Ends} (q : QI F G Mu v0 s σ H) (hz1 : s.1.length ≤ 1000) (hz2 : s.2.length ≤ 1000) (h2 : σ[2]? = some (some (.int n)))
    (hD : ∀ σ' H', QI F G Mu v0 (stQ s n) σ' H' → D.nx σ' H') : tSeq (tAsg (tAq X) (gName 3)) (tSeq (tAsg (tBq X W) (gName 4)) (tDrop (tCq X))) D σ H := by
  obtain ⟨p, l1, l2, f, q⟩ := q
  show tAq X σ H (fun x H1 => tSeq (tAsg (tBq X W) (gName 4)) (tDrop (tCq X)) D (σ.set 3 (some x)) H1)
  refine comp_q q h2 fun Dd H1 nD sm hDd => ?_
  obtain ⟨a, b, c, d, g, rfl⟩ := five q.len
  have hc : c = some (.int n) := by simpa using h2
  subst hc
  have q1 : QH F G Mu v0 p l1 l2 s [a, b, some (.int n), some (.ref Dd), g] H1 := q.grow sm rfl rfl rfl
  have d1 : Dq X.K H1 (.ref l1) (li s.1) := dq_li q1.h1
  have d2 : Dq X.K H1 (.ref l2) (li s.2) := dq_li q1.h2
  have hz : ∃ zs : List (List Int), DqAll X.K H1 (a2Q l1 l2 s n) (zs.map li) := by
    unfold a2Q a1Q
    by_cases c1 : okQ s.1 n = true
    · by_cases c2 : okQ s.2 n = true
      · rw [if_pos c1, if_pos c2]
        exact ⟨[s.1, s.2], .cons d1 (.cons d2 .nil)⟩
      · rw [if_pos c1, if_neg c2]
        exact ⟨[s.1], .cons d1 .nil⟩
    · by_cases c2 : okQ s.2 n = true
      · rw [if_neg c1, if_pos c2]
        exact ⟨[s.2], .cons d2 .nil⟩
      · rw [if_neg c1, if_neg c2]
        exact ⟨[], .nil⟩
  obtain ⟨zs, hz⟩ := hz
  show tBq X W [a, b, some (.int n), some (.ref Dd), g] H1 (fun x H2 => tDrop (tCq X) D [a, b, some (.int n), some (.ref Dd), some x] H2)
  refine pick_q (s := s) q1 rfl hDd hz fun H2 s2 => ?_
  have q2 : QH F G Mu v0 p l1 l2 s [a, b, some (.int n), some (.ref Dd), some ((a2Q l1 l2 s n).headD (.ref l1))] H2 := q1.grow s2 rfl rfl rfl
  show tCq X [a, b, some (.int n), some (.ref Dd), some ((a2Q l1 l2 s n).headD (.ref l1))] H2 (fun _ H' => D.nx [a, b, some (.int n), some (.ref Dd), some ((a2Q l1 l2 s n).headD (.ref l1))] H')
  unfold a2Q a1Q at *
  by_cases c1 : okQ s.1 n = true
  · have e : stQ s n = (s.1 ++ [n], s.2) := if_pos c1
    rw [e] at hD
    have hh : (if okQ s.2 n = true then (if okQ s.1 n = true then [V.ref l1] else []) ++ [.ref l2] else if okQ s.1 n = true then [.ref l1] else []).headD (.ref l1) = .ref l1 := by
      rw [if_pos c1]
      split <;> rfl
    rw [hh] at q2 ⊢
    exact push_q rfl rfl q2.h1 hz1 (hD _ _ ⟨p, l1, l2, f, q2.push1 f n⟩)
  · by_cases c2 : okQ s.2 n = true
    · have e : stQ s n = (s.1, s.2 ++ [n]) := by
        unfold stQ
        rw [if_neg c1, if_pos c2]
      rw [e] at hD
      rw [if_neg c1, if_pos c2] at q2 ⊢
      exact push_q rfl rfl q2.h2 hz2 (hD _ _ ⟨p, l1, l2, f, q2.push2 f n⟩)
    · have e : stQ s n = (s.1 ++ [n], s.2) := by
        unfold stQ
        rw [if_neg c1, if_neg c2]
      rw [e] at hD
      rw [if_neg c1, if_neg c2] at q2 ⊢
      exact push_q rfl rfl q2.h1 hz1 (hD _ _ ⟨p, l1, l2, f, q2.push1 f n⟩)
end Z

set_option Elab.async false
set_option linter.all false
set_option maxRecDepth 100000
set_option autoImplicit false
set_option maxHeartbeats 4000000
namespace Z
open PySem PySem.Spec PyProof.Rows L2
def intsQ : List D → Option (List Int)
  | [] => some []
  | .int i :: r => (intsQ r).map (i :: ·)
  | _ => none
theorem intsQ_ok : ∀ o : List Int, intsQ (o.map .int) = some o
  | [] => rfl
  | i :: o => by
    show (intsQ (o.map .int)).map _ = _
    rw [intsQ_ok o]
    rfl
theorem intsQ_is : ∀ {xs : List D} {o : List Int}, intsQ xs = some o → xs = o.map .int
  | [], o, h => by cases h; rfl
  | x :: xs, o, h => by
    unfold intsQ at h
    split at h
    · rename_i e; cases e
    · rename_i i r e
      cases e
      obtain ⟨zs, e2, rfl⟩ := Option.map_eq_some_iff.mp h
      rw [intsQ_is e2]
      rfl
    · cases h
theorem dpa_intsV {K : PySem.W.Frag} {G : Hp} : ∀ {o : List Int} {vs : List V}, DqAll K G vs (o.map PyData.int) → vs = o.map V.int
  | [], _, h => by cases h; rfl
  | i :: o, _, h => by
    cases h with
    | cons a b =>
      cases a
      rw [dpa_intsV b]
      rfl
theorem stQ_len (s : List Int × List Int) (n : Int) : (stQ s n).1.length + (stQ s n).2.length = s.1.length + s.2.length + 1 := by
  unfold stQ
  split
  · simp; omega
  · split <;> simp <;> omega
theorem fold_len : ∀ (o : List Int) (s : List Int × List Int), (o.foldl stQ s).1.length + (o.foldl stQ s).2.length = s.1.length + s.2.length + o.length
  | [], s => rfl
  | n :: o, s => by
    rw [List.foldl_cons, fold_len o, stQ_len, List.length_cons]
    omega
theorem queues_len (o : List Int) : (queues o).1.length + (queues o).2.length = o.length := by
  have := fold_len o ([], [])
  simpa [queues] using this
theorem queues_step (o : List Int) (i : Nat) (h : i < o.length) : queues (o.take (i + 1)) = stQ (queues (o.take i)) o[i] := by
  unfold queues
  rw [List.take_succ, List.getElem?_eq_getElem h]
  show List.foldl stQ ([], []) (o.take i ++ [o[i]]) = _
  rw [List.foldl_append]
  rfl
def mQueues (m3 : M Fl) : M Fl := fun g => match g with
  | [.d (.tuple ds), .u, .u, .u, .u] => match intsQ ds with
    | some o => if o.length ≤ 1000 then m3 [.u, .d (.tuple [.list ((queues o).1.map .int), .list ((queues o).2.map .int)]), .u, .u, .u] else .bad
    | none => .bad
  | _ => .bad
theorem dss_queues {X : Cx} {b : List Stmt} {m3 : M Fl} (h : ∀ W, Takes X W → PSs X b (tSeq (tAsg (tTupZ (tCons (tLst tNil) (tCons (tLst tNil) tNil))) (gName 1)) (tSeq (tFor (iTup X.K (tVar 0)) (gName 2) (tSeq (tAsg (tAq X) (gName 3)) (tSeq (tAsg (tBq X W) (gName 4)) (tDrop (tCq X))))) (st X W m3)))) : DSs X b (mQueues m3) := fun W tk => pss_imp (h W tk) fun D σ H ⟨F, G, Mu, Γ, R, pp⟩ => by
  unfold mQueues at pp
  split at pp
  · rename_i ds
    split at pp
    · rename_i o ho
      split at pp
      · rename_i hlen
        have ed := intsQ_is ho
        subst ed
        obtain ⟨v, h1, h2⟩ := R.data (i := 0) rfl
        cases h2 with
        | tup t da =>
          rename_i a us
          have eu := dpa_intsV da
          subst eu
          obtain ⟨va, vb, vc, vd, ve, rfl⟩ := five (R.len.symm.trans rfl)
          have hv : va = some (.ref a) := by simpa using h1
          subst hv
          refine ⟨Nat.zero_le _, fun l1 n1 => ⟨Nat.zero_le _, fun l2 n2 => ⟨sz2, fun p ob np hd => ?_⟩⟩⟩
          have k1 : l2 ≠ l1 := fun z => by rw [z, upd_same] at n2; cases n2
          have m2 : H l2 = none := by rw [upd_ne k1] at n2; exact n2
          have k2 : p ≠ l2 := fun z => by rw [z, upd_same] at np; cases np
          have np1 : upd H l1 (.lst []) p = none := by rw [upd_ne k2] at np; exact np
          have k3 : p ≠ l1 := fun z => by rw [z, upd_same] at np1; cases np1
          have m3' : H p = none := by rw [upd_ne k3] at np1; exact np1
          have qf : QF F G Mu p l1 l2 := ⟨Ne.symm k1, k3, k2, R.fh.free m3', R.fh.free n1, R.fh.free m2, R.gh.free m3', R.gh.free n1, R.gh.free m2, fun l e => by
            have := (R.mu l e).2.2
            exact ⟨fun z => this (by rw [z]; exact m3'), fun z => this (by rw [z]; exact n1), fun z => this (by rw [z]; exact m2)⟩⟩
          have sH : Same H (upd (upd (upd H l1 (.lst [])) l2 (.lst [])) p (.frz ob (.tup [.ref l1, .ref l2]))) := ((same_upd n1).trans (same_upd n2)).trans (same_upd np)
          have q0 : QI F G Mu (.ref a) (queues (o.take 0)) [some (.ref a), some (.ref p), vc, vd, ve] (upd (upd (upd H l1 (.lst [])) l2 (.lst [])) p (.frz ob (.tup [.ref l1, .ref l2]))) :=
            ⟨p, l1, l2, qf, rfl, rfl, rfl, ⟨ob, hd, upd_same⟩, by rw [upd_ne (Ne.symm k3), upd_ne (Ne.symm k1), upd_same]; rfl, by rw [upd_ne (Ne.symm k2), upd_same]; rfl, fun l e z => (R.mu l e).2.2 (sH.free z), R.fh.trans sH, R.gh.trans sH⟩
          show tSeq (tFor (iTup X.K (tVar 0)) (gName 2) (tSeq (tAsg (tAq X) (gName 3)) (tSeq (tAsg (tBq X W) (gName 4)) (tDrop (tCq X))))) (st X W m3) D [some (.ref a), some (.ref p), vc, vd, ve] _
          have tm : ∀ H', Same G H' → SqT X.K H' a (o.map V.int) := fun H' e => (t.mono e).sq
          refine ⟨.ref a, rfl, a, rfl, ⟨_, tm _ (R.gh.trans sH)⟩, ?_⟩
          refine for_tup (xs := o.map V.int) (fun i σ' H' => QI F G Mu (.ref a) (queues (o.take i)) σ' H') q0 (fun i σ' H' _ ⟨_, _, _, _, q⟩ => tm _ q.gh) (fun i x σ' H' hx ⟨p, l1, l2, qf, q⟩ => ?_) (fun σ' H' q => ?_)
          · rw [List.getElem?_map] at hx
            obtain ⟨y, hy, rfl⟩ := Option.map_eq_some_iff.mp hx
            obtain ⟨hi, hy⟩ := List.getElem?_eq_some_iff.mp hy
            subst hy
            obtain ⟨a1, b1, c1, d1, e1, rfl⟩ := five q.len
            have ql := queues_len (o.take i)
            rw [List.length_take] at ql
            exact body_q (n := o[i]) ⟨p, l1, l2, qf, q.grow (σ' := [a1, b1, some (.int o[i]), d1, e1]) (Same.refl _) rfl rfl rfl⟩ (by omega) (by omega) rfl fun σ2 H2 q2 => by
              show QI F G Mu (.ref a) (queues (o.take (i + 1))) σ2 H2
              rw [queues_step o i hi]
              exact q2
          · rw [List.length_map, List.take_length] at q
            obtain ⟨p, l1, l2, qf, q⟩ := q
            obtain ⟨a1, b1, c1, d1, e1, rfl⟩ := five q.len
            obtain ⟨ob, hd, hp⟩ := q.hp
            have hb : b1 = some (.ref p) := by simpa using q.s1
            subst hb
            have s1 : Same G (upd G l1 (.lst ((queues o).1.map .int))) := same_upd qf.g1
            have s2 : Same (upd G l1 (.lst ((queues o).1.map .int))) (upd (upd G l1 (.lst ((queues o).1.map .int))) l2 (.lst ((queues o).2.map .int))) := same_upd (by rw [upd_ne (Ne.symm qf.ne)]; exact qf.g2)
            have s3 : Same (upd (upd G l1 (.lst ((queues o).1.map .int))) l2 (.lst ((queues o).2.map .int))) (upd (upd (upd G l1 (.lst ((queues o).1.map .int))) l2 (.lst ((queues o).2.map .int))) p (.frz ob (.tup [.ref l1, .ref l2]))) := same_upd (by rw [upd_ne qf.n2, upd_ne qf.n1]; exact qf.gp)
            have sg := (s1.trans s2).trans s3
            have g1 : (upd (upd (upd G l1 (.lst ((queues o).1.map .int))) l2 (.lst ((queues o).2.map .int))) p (.frz ob (.tup [.ref l1, .ref l2]))) l1 = some (.lst ((queues o).1.map .int)) := by rw [upd_ne (Ne.symm qf.n1), upd_ne qf.ne, upd_same]
            have g2 : (upd (upd (upd G l1 (.lst ((queues o).1.map .int))) l2 (.lst ((queues o).2.map .int))) p (.frz ob (.tup [.ref l1, .ref l2]))) l2 = some (.lst ((queues o).2.map .int)) := by rw [upd_ne (Ne.symm qf.n2), upd_same]
            have gn : ∀ l, l ≠ p → l ≠ l1 → l ≠ l2 → (upd (upd (upd G l1 (.lst ((queues o).1.map .int))) l2 (.lst ((queues o).2.map .int))) p (.frz ob (.tup [.ref l1, .ref l2]))) l = G l := fun l w1 w2 w3 => by rw [upd_ne w1, upd_ne w3, upd_ne w2]
            refine ⟨F, _, Mu, [.u, .d (.tuple [.list ((queues o).1.map .int), .list ((queues o).2.map .int)]), .u, .u, .u], ?_, pp.rebase sg⟩
            refine ⟨q.fh, fun l hl => ?_, fun l x e => ?_, fun l e => ?_, rfl, fun i sv e => ?_, fun i j l ⟨sv, e, ho, _⟩ _ => ?_⟩
            · have hne := F.kf l hl
              rw [gn l (fun z => hne (by rw [z]; exact qf.fp)) (fun z => hne (by rw [z]; exact qf.f1)) (fun z => hne (by rw [z]; exact qf.f2))]
              exact R.lk l hl
            · by_cases w1 : l = p
              · subst w1
                rw [upd_same] at e
                cases e
                exact hp
              · by_cases w2 : l = l1
                · subst w2
                  rw [g1] at e
                  cases e
                  exact q.h1
                · by_cases w3 : l = l2
                  · subst w3
                    rw [g2] at e
                    cases e
                    exact q.h2
                  · rw [gn l w1 w2 w3] at e
                    exact q.gh l x e
            · obtain ⟨w1, w2, w3⟩ := qf.mu l e
              exact ⟨(R.mu l e).1, by rw [gn l w1 w2 w3]; exact (R.mu l e).2.1, q.mu l e⟩
            · match i, e with
              | 0, e => cases e; exact True.intro
              | 1, e =>
                cases e
                exact ⟨.ref p, rfl, .tup (.new hd) (.cons (.lst (.of g1) (dpa_nums _)) (.cons (.lst (.of g2) (dpa_nums _)) .nil))⟩
              | 2, e => cases e; exact True.intro
              | 3, e => cases e; exact True.intro
              | 4, e => cases e; exact True.intro
              | i + 5, e => cases e
            · match i, e with
              | 0, e => cases e; cases ho
              | 1, e => cases e; cases ho
              | 2, e => cases e; cases ho
              | 3, e => cases e; cases ho
              | 4, e => cases e; cases ho
              | i + 5, e => cases e
      · exact pp.elim
    · exact pp.elim
  · exact pp.elim
end Z

set_option Elab.async false
set_option linter.all false
set_option maxRecDepth 100000
set_option autoImplicit false
set_option maxHeartbeats 1000000
namespace Z
open PySem PySem.Spec PyProof.Rows L2
structure FnA (P : Program) (w : World) (K : PySem.W.Frag) (mg : Str → Option Value) (base : Heap) (y : Str) (st : Stmt) (k : Nat) (ps : List Str) (ks : List Pk) (φ : List D → Out) : Prop where
  ex : ∃ f fd x qual, Fun K x qual st f fd ∧ mg y = some (.ref f) ∧ FnOk P w K mg base (L2.CX P w) k f fd ps (spF K mg ks φ) ∧ Binds K fd ps []
theorem FnA.mono {P : Program} {w : World} {K : PySem.W.Frag} {mg : Str → Option Value} {base : Heap} {y : Str} {st : Stmt} {j k : Nat} {ps : List Str} {ks : List Pk} {φ : List D → Out} (F : FnA P w K mg base y st j ps ks φ) (h : j ≤ k) : FnA P w K mg base y st k ps ks φ := by
  obtain ⟨f, fd, x, qual, a, b, c, d⟩ := F.ex
  exact ⟨f, fd, x, qual, a, b, c.mono h, d⟩
section
variable {P : Program} {w : World} {K : PySem.W.Frag} {mg : Str → Option Value} {base : Heap}
end
section
variable {X : Cx} {e : Expr} {es : List Expr} {p pos : Pos} {x : Str} {st : Stmt} {k : Nat} {ps : List Str} {ks : List Pk} {φ : List D → Out}
end
end Z

set_option Elab.async false
set_option linter.all false
set_option maxRecDepth 100000
set_option autoImplicit false
set_option maxHeartbeats 1000000
namespace Z
open PySem PySem.Spec PyProof.Rows L2
section
variable {X : Cx} {i j : Nat} {pt pos pd pc pl pb : Pos} {kt k2 k3 : Nat} {pt2 : Pos}
end
end Z

set_option Elab.async false
set_option linter.all false
set_option maxRecDepth 100000
set_option maxHeartbeats 2000000
namespace Zp
open PySem PySem.Spec
open Sem (wp)
end Zp
set_option Elab.async false
set_option linter.all false
set_option maxRecDepth 100000
set_option maxHeartbeats 2000000
namespace Zp
open PySem PySem.Spec
open Sem (wp)
abbrev tupO (vs : List Value) : Obj := { cls := .type "tuple", data := .seq vs.toArray }
abbrev pickV (its : List Value) (ind : List Nat) : List Value := ind.map fun i => its.getD i Value.none
section
variable {prog : Program} {w : World} {A : Around} {E : Value → Shared → Prop} {s : Shared}
def pmL : Nat → List Nat → List (List Nat)
  | 0, _ => [[]]
  | k + 1, l => l.flatMap fun x => (pmL k (l.erase x)).map (x :: ·)
end
end Zp
set_option Elab.async false
set_option linter.all false
set_option maxRecDepth 100000
set_option maxHeartbeats 2000000
namespace Zp
open PySem PySem.Spec PyProof.Rows
open Sem (wp)
section
variable {prog : Program} {w : World} {A : Around} {E : Value → Shared → Prop} {s : Shared} {r : Addr} {a b : Int} {t u v : Tok} {n : Nat}
end
end Zp
set_option Elab.async false
set_option linter.all false
set_option maxRecDepth 100000
set_option maxHeartbeats 2000000
namespace Z
open PySem PySem.Spec PyProof.Rows L2 Zp
section
variable {X : Cx} {pins : List (Addr × Obj)} {σ : St} {s : Shared} {h' : Heap} {tk : Nat} {ex : List Addr}
end
end Z
set_option Elab.async false
set_option linter.all false
set_option maxRecDepth 100000
set_option maxHeartbeats 2000000
namespace Zp
open PySem PySem.Spec PyProof.Rows
open Sem (wp)
/-- the tuples made so far -/
structure Tups (its : List Value) (lo : Addr) (h : Heap) (as : List Addr) (rows : List (List Nat)) : Prop where
  len : as.length = rows.length
  rise : as.Pairwise (· < ·)
  low : ∀ a ∈ as, lo ≤ a
  at_ : ∀ (j : Nat) (a : Addr) (r : List Nat), as[j]? = some a → rows[j]? = some r → h.get? a = some (tupO (pickV its r))
theorem Tups.there {its : List Value} {lo : Addr} {h : Heap} {as : List Addr} {rows : List (List Nat)} (g : Tups its lo h as rows) {a : Addr} (ha : a ∈ as) : a < h.objs.size := by
  obtain ⟨j, hj⟩ := List.mem_iff_getElem?.mp ha
  have hl : j < rows.length := by
    rw [← g.len]
    exact (List.getElem?_eq_some_iff.mp hj).1
  exact Heap.lt_size (g.at_ j a _ hj (List.getElem?_eq_getElem hl))
section
variable {prog : Program} {w : World} {A : Around} {E : Value → Shared → Prop} {s : Shared} {R : Result → Shared → Prop}
end
end Zp
set_option Elab.async false
set_option linter.all false
set_option maxRecDepth 100000
set_option maxHeartbeats 2000000
namespace Zp
open PySem PySem.Spec PyProof.Rows
open Sem (wp)
abbrev prmAll (n : Nat) : List (List Nat) := pmL n (List.range n)
section
variable {prog : Program} {w : World} {A : Around} {E : Value → Shared → Prop} {s : Shared} {R : Result → Shared → Prop} {I p : Addr} {its : List Value} {n : Nat}
end
end Zp
set_option Elab.async false
set_option linter.all false
set_option maxRecDepth 100000
set_option autoImplicit false
set_option maxHeartbeats 1000000
namespace Z
open PySem PySem.Spec PyProof.Rows L2 Zp
def prmR (a : Int) (row : List Nat) : List Int := row.map fun (k : Nat) => a + (k : Int)
def prmD (a : Int) (n : Nat) : List D := (prmAll n).map fun row => .tuple ((prmR a row).map PyData.int)
def dLstPrm (m : M (Int × Int)) : M (List D) := bnd m fun ij => if okRg ij.1 ij.2 = true ∧ (ij.2 - ij.1).toNat ≤ 6 then rt (prmD ij.1 (ij.2 - ij.1).toNat) else fun _ => .bad
section
variable {X : Cx} {e : Expr} {p pos p2 pos2 : Pos}
end
end Z

set_option Elab.async false
set_option linter.all false
set_option maxRecDepth 100000
set_option autoImplicit false
set_option maxHeartbeats 1000000
namespace Z
open PySem PySem.Spec PyProof.Rows L2
section
variable {X : Cx}
end
end Z

set_option Elab.async false
set_option linter.all false
set_option maxRecDepth 100000
set_option autoImplicit false
set_option maxHeartbeats 1000000
namespace Z
open PySem PySem.Spec PyProof.Rows L2
end Z

set_option Elab.async false
set_option linter.all false
set_option maxRecDepth 100000
set_option autoImplicit false
set_option maxHeartbeats 1000000
namespace Z
open PySem PySem.Spec PyProof.Rows L2
def fItK (kvs : List (Str × D)) : D → Option D
  | .str z => (kvs.find? fun p => decide (p.1 = z)).map (·.2)
  | _ => none
theorem dp_itKD {X : Cx} {x : Str} {kvs : List (Str × D)} {e : Expr} {m : M Rs} {p pos : Pos} (hg : Gl X x) (hm : KDicC X.w X.K X.mg x kvs) (he : DV X e m) (hs : PlainIx e) (hd : (x == ("__debug__" : Str)) = false := by decide) :
    DP X (.Subscript (.Name x p) e pos) (op1 (fItK kvs) m) := fun W tk => by
  obtain ⟨a, es, n, h1, kd, hk⟩ := hm
  refine pe_imp (pe_ix (ix_kdict (X := X)) (pe_glob (v := .ref a) hg h1 rfl hd) (he W tk) hs) fun σ H Q q => ?_
  refine (op1_run q).imp fun v H1 ⟨G, dx, z, gh, r1, e, q⟩ => ?_
  unfold fItK at e
  split at e
  · rename_i t
    obtain ⟨pr, h2, h3⟩ := Option.map_eq_some_iff.mp e
    have hp := List.mem_of_find?_eq_some h2
    have hz := List.find?_some h2
    have hz : pr.1 = t := of_decide_eq_true hz
    subst hz h3
    have e1 := r1.str
    subst e1
    obtain ⟨v, u, h4, h5, h6⟩ := hk pr hp
    exact ⟨_, _, v, rfl, rfl, ⟨es, n, u, kd.at_, kd.lit, h4, h5⟩, q _ _ _ (Ext.refl gh) (h6 _)⟩
  · cases e
end Z

set_option Elab.async false
set_option linter.all false
set_option maxRecDepth 100000
set_option autoImplicit false
set_option maxHeartbeats 1000000
namespace Z
open PySem PySem.Spec PyProof.Rows L2
section
variable {prog : Program} {w : World} {A : Around} {E : Value → Shared → Prop} {s : Shared}
end
section
variable {X : Cx} {e st : Expr} {p2 pos : Pos} {te ts : TE}
end
end Z

set_option Elab.async false
set_option linter.all false
set_option maxRecDepth 100000
set_option autoImplicit false
set_option maxHeartbeats 1000000
namespace Z
open PySem PySem.Spec PyProof.Rows L2 Zp
end Z

set_option Elab.async false
set_option linter.all false
set_option maxRecDepth 100000
set_option autoImplicit false
set_option maxHeartbeats 4000000
namespace Ck38
open PySem PySem.Spec PyProof.Rows L2 Z
def topS (i : Nat) : Stmt := PySem.Challenge.pw_wholeorders_k38_whole_sorted_exactly_by.main.body.getD i (.Pass ⟨0, 0, 0, 0⟩)
abbrev s_is_integer : Stmt := topS 5
abbrev s_are_integers : Stmt := topS 6
abbrev s_is_order_of : Stmt := topS 7
abbrev s_is_order : Stmt := topS 9
abbrev s_is_sorter : Stmt := topS 12
abbrev s_check_sorter : Stmt := topS 13
abbrev s_check_order : Stmt := topS 14
abbrev s_by_stack : Stmt := topS 15
abbrev s_by_popper : Stmt := topS 16
abbrev s_merged : Stmt := topS 17
abbrev s_by_queues : Stmt := topS 18
abbrev s_by_bubble : Stmt := topS 19
abbrev s_made_by : Stmt := topS 20
abbrev s_risen : Stmt := topS 21
abbrev s_does_sort : Stmt := topS 22
abbrev s_made : Stmt := topS 23
abbrev s_sorts : Stmt := topS 24
abbrev s_list_of : Stmt := topS 25
abbrev s__law_well : Stmt := topS 27
abbrev s__law_dip : Stmt := topS 28
abbrev s__law_same : Stmt := topS 29
abbrev s__law_shows : Stmt := topS 30
abbrev s__law_lets : Stmt := topS 31
abbrev s__law_orders : Stmt := topS 32
abbrev s__law_lists : Stmt := topS 34
abbrev s__law_let : Stmt := topS 35
abbrev s__law_exchanged : Stmt := topS 36
abbrev s__law_right : Stmt := topS 37
abbrev s_law : Stmt := topS 38
/-! ### mirrors -/
def m_is_integer : M Fl :=
  (sRet (dAndV (op1 (fIs [.int]) (dName 0)) (dNotV (op1 (fIs [.bool]) (dName 0)))))
def φ_is_integer : List PyData → Out := runF 1 [.v] m_is_integer
def m_are_integers : M Fl :=
  (sRet (dAndV (op1 (fIs [.tuple]) (dName 0)) (opN fAll (vCons (dv (dFz (compL [1] (.nm 1) (iV (dName 0)) (rt true) (rD (callP [.v] φ_is_integer (vCons (dName 1) vNil)))))) vNil))))
def φ_are_integers : List PyData → Out := runF 2 [.v] m_are_integers
def m_is_order_of : M Fl :=
  (sRet (dAndV (rD (callP [.v] φ_are_integers (vCons (dName 0) vNil))) (op2 fEq (dv (dFz (opNo fSorted (vCons (dName 0) vNil)))) (dv (dFz (dLstRg (rg2 (dv (dC (.int 1))) (dv (rD (op2r fAdd fCat (dv (opN fLen (vCons (dName 0) vNil))) (dv (dC (.int 1)))))))))))))
def φ_is_order_of : List PyData → Out := runF 1 [.v] m_is_order_of
def m_is_order : M Fl :=
  (sRetR (callP [.v] φ_is_order_of (vCons (dName 0) vNil)))
def φ_is_order : List PyData → Out := runF 1 [.v] m_is_order
def m_is_sorter : M Fl :=
  (sRet (dAndV (op1 (fIs [.str]) (dName 0)) (op1 (fInK [Str.ofString "stack", Str.ofString "popper", Str.ofString "queues", Str.ofString "bubble"]) (dName 0))))
def φ_is_sorter : List PyData → Out := runF 1 [.v] m_is_sorter
def m_check_sorter : M Fl :=
  (sIf (dNot (dB (rD (callP [.v] φ_is_sorter (vCons (dName 0) vNil))))) sBad sNx)
def φ_check_sorter : List PyData → Out := runF 1 [.v] m_check_sorter
def m_check_order : M Fl :=
  (sIf (dNot (dB (rD (callP [.v] φ_is_order (vCons (dName 0) vNil))))) sBad sNx)
def φ_check_order : List PyData → Out := runF 1 [.v] m_check_order
def m_by_stack : M Fl :=
  (dSeq (sPar [1, 2] (msO (dLst dNil) (msO (dLst dNil) msNil)))
    (dSeq (sFor (.nm 3) [3] (iV (dName 0)) (dSeq (sWh [] (dAnd (dB (op2 fNe (dName 2) (dv (dFz (dLst dNil))))) (dB (op2 fLt (dv (op2 fIx (dName 2) (dv (op1 fNeg (dv (dC (.int 1))))))) (dName 3)))) (sExpr (dMut 1 mAppend (dCons (dMut 2 mPop (rt [])) dNil))))
    (sExpr (dMut 2 mAppend (dCons (dEsc (dName 3)) dNil)))))
    (sRet (opN fTuple (vCons (dv (rD (op2r fAdd fCat (dName 1) (dv (rD (mixR (op1 fBack (dName 2)) (op1o fBackL (dName 2)))))))) vNil)))))
def φ_by_stack : List PyData → Out := runF 4 [.v] m_by_stack
def m_by_popper : M Fl :=
  (dSeq (sPar [1, 2] (msO (dLst dNil) (msO (dLst dNil) msNil)))
    (dSeq (sFor (.nm 3) [3] (iV (dName 0)) (dSeq (sIf (dAnd (dB (op2 fNe (dName 2) (dv (dFz (dLst dNil))))) (dB (op2 fLt (dv (op2 fIx (dName 2) (dv (op1 fNeg (dv (dC (.int 1))))))) (dName 3)))) (dSeq (sExpr (dMut 1 mExtend (rO (mixR (op1 fBack (dName 2)) (op1o fBackL (dName 2))))))
    (sSetO 2 (dLst dNil))) sNx)
    (sExpr (dMut 2 mAppend (dCons (dEsc (dName 3)) dNil)))))
    (sRet (opN fTuple (vCons (dv (rD (op2r fAdd fCat (dName 1) (dv (rD (mixR (op1 fBack (dName 2)) (op1o fBackL (dName 2)))))))) vNil)))))
def φ_by_popper : List PyData → Out := runF 4 [.v] m_by_popper
def m_merged : M Fl :=
  (dSeq (sPar [2, 3, 4] (msO (dLst dNil) (msD (dC (.int 0)) (msD (dC (.int 0)) msNil))))
    (dSeq (sWh [] (dAnd (dB (op2 fLt (dName 3) (dv (opN fLen (vCons (dName 0) vNil))))) (dB (op2 fLt (dName 4) (dv (opN fLen (vCons (dName 1) vNil)))))) (sIf (dB (op2 fLt (dv (op2 fIx (dName 0) (dName 3))) (dv (op2 fIx (dName 1) (dName 4))))) (dSeq (sExpr (dMut 2 mAppend (dCons (op2 fIx (dName 0) (dName 3)) dNil)))
    (sAug 3 fAddI (dv (dC (.int 1))))) (dSeq (sExpr (dMut 2 mAppend (dCons (op2 fIx (dName 1) (dName 4)) dNil)))
    (sAug 4 fAddI (dv (dC (.int 1)))))))
    (sRetR (op2r fAdd fCat (dv (rD (op2r fAdd fCat (dName 2) (dv (rD (cutR (dName 0) (oSome (dEsc (dName 3))) oNone)))))) (dv (rD (cutR (dName 1) (oSome (dEsc (dName 4))) oNone)))))))
def φ_merged : List PyData → Out := runF 5 [.v, .v] m_merged
def m_by_queues : M Fl :=
  (mQueues (sRet (opN fTuple (vCons (dv (rD (callP [.v, .v] φ_merged (vCons (dv (op2 fIx (dName 1) (dv (dC (.int 0))))) (vCons (dv (op2 fIx (dName 1) (dv (dC (.int 1))))) vNil))))) vNil))))
def φ_by_queues : List PyData → Out := runF 5 [.v] m_by_queues
def m_by_bubble : M Fl :=
  (dSeq (sSetO 1 (dLst dNil))
    (dSeq (sFor (.nm 2) [2] (iV (dName 0)) (sIf (dAnd (dB (op2 fNe (dName 1) (dv (dFz (dLst dNil))))) (dB (op2 fLt (dName 2) (dv (op2 fIx (dName 1) (dv (op1 fNeg (dv (dC (.int 1)))))))))) (sExpr (dMut 1 mInsert (dCons (op2 fSub (dv (opN fLen (vCons (dName 1) vNil))) (dv (dC (.int 1)))) (dCons (dEsc (dName 2)) dNil)))) (sExpr (dMut 1 mAppend (dCons (dEsc (dName 2)) dNil)))))
    (sRet (opN fTuple (vCons (dName 1) vNil)))))
def φ_by_bubble : List PyData → Out := runF 3 [.v] m_by_bubble
def m_made_by : M Fl :=
  (dSeq (sIf (dB (op2 fEq (dName 0) (dv (dC (.str "stack"))))) (sRetR (callP [.v] φ_by_stack (vCons (dName 1) vNil))) sNx)
    (dSeq (sIf (dB (op2 fEq (dName 0) (dv (dC (.str "popper"))))) (sRetR (callP [.v] φ_by_popper (vCons (dName 1) vNil))) sNx)
    (sRet (dIfE (dB (op2 fEq (dName 0) (dv (dC (.str "queues"))))) (rD (callP [.v] φ_by_queues (vCons (dName 1) vNil))) (rD (callP [.v] φ_by_bubble (vCons (dName 1) vNil)))))))
def φ_made_by : List PyData → Out := runF 2 [.v, .v] m_made_by
def m_risen : M Fl :=
  (sRet (dTupRg (rg2 (dv (dC (.int 1))) (dv (rD (op2r fAdd fCat (dName 0) (dv (dC (.int 1)))))))))
def φ_risen : List PyData → Out := runF 1 [.v] m_risen
def m_does_sort : M Fl :=
  (sRet (op2 fEq (dv (rD (callP [.v, .v] φ_made_by (vCons (dName 0) (vCons (dName 1) vNil))))) (dv (rD (callP [.v] φ_risen (vCons (dv (opN fLen (vCons (dName 1) vNil))) vNil))))))
def φ_does_sort : List PyData → Out := runF 2 [.v, .v] m_does_sort
def m_made : M Fl :=
  (dSeq (sExprR (callP [.v] φ_check_sorter (vCons (dName 0) vNil)))
    (dSeq (sExprR (callP [.v] φ_check_order (vCons (dName 1) vNil)))
    (sRetR (callP [.v, .v] φ_made_by (vCons (dName 0) (vCons (dName 1) vNil))))))
def φ_made : List PyData → Out := runF 2 [.v, .v] m_made
def m_sorts : M Fl :=
  (dSeq (sExprR (callP [.v] φ_check_sorter (vCons (dName 0) vNil)))
    (dSeq (sExprR (callP [.v] φ_check_order (vCons (dName 1) vNil)))
    (sRetR (callP [.v, .v] φ_does_sort (vCons (dName 0) (vCons (dName 1) vNil))))))
def φ_sorts : List PyData → Out := runF 2 [.v, .v] m_sorts
def m_list_of : M Fl :=
  (dSeq (sExprR (callP [.v] φ_check_sorter (vCons (dName 0) vNil)))
    (sRet (op1 (fItK [(Str.ofString "stack", (.tuple [(.tuple [(.int 2), (.int 3), (.int 1)])])), (Str.ofString "popper", (.tuple [(.tuple [(.int 2), (.int 3), (.int 1)]), (.tuple [(.int 3), (.int 1), (.int 2)])])), (Str.ofString "queues", (.tuple [(.tuple [(.int 3), (.int 2), (.int 1)])])), (Str.ofString "bubble", (.tuple [(.tuple [(.int 2), (.int 3), (.int 1)]), (.tuple [(.int 3), (.int 2), (.int 1)])]))]) (dName 0))))
def φ_list_of : List PyData → Out := runF 1 [.v] m_list_of
def m__law_well : M Fl :=
  (dSeq (sSet 2 (dIfE (dB (op2 fLt (dName 1) (dv (opN fLen (vCons (dName 0) vNil))))) (op2 fIx (dName 0) (dName 1)) (rD (op2r fAdd fCat (dv (op2 fMul (dName 1) (dv (dC (.int 7919))))) (dv (op2 fMul (dv (opN fLen (vCons (dName 0) vNil))) (dv (dC (.int 104729)))))))))
    (sRetO (dLst (dCons (opN fMax (vCons (dv (dC (.int 0))) (vCons (dv (op2 fSub (dv (opN fAbs (vCons (dName 2) vNil))) (dv (op2 fPow (dv (dC (.int 10))) (dv (dC (.int 18))))))) vNil))) (dCons (op2 fMod (dv (opN fInt (vCons (dv (rD (op2r fAdd fCat (dv (rD (op2r fAdd fCat (dv (op2 fMul (dName 2) (dv (dC (.int 48611))))) (dv (op2 fMul (dName 1) (dv (dC (.int 6700417)))))))) (dv (dC (.int 31337)))))) vNil))) (dv (rD (op2r fAdd fCat (dv (op2 fPow (dv (dC (.int 10))) (dv (dC (.int 24))))) (dv (dC (.int 7))))))) (dCons (dC (.int 0)) dNil))))))
def φ__law_well : List PyData → Out := runF 3 [.v, .v] m__law_well
def m__law_dip : M Fl :=
  (dSeq (sIf (dB (op2 fGt (dv (op2 fIx (dName 0) (dv (dC (.int 0))))) (dv (dC (.int 0))))) (dSeq (sSet 2 (op2 fMod (dv (opN fInt (vCons (dv (op2 fIx (dName 0) (dv (dC (.int 0))))) vNil))) (dName 1)))
    (dSeq (sSub 0 (op2 fDiv (dv (op2 fIx (dName 0) (dv (dC (.int 0))))) (dName 1)) (dv (dC (.int 0))))
    (sRetV 2))) sNx)
    (dSeq (sSub 0 (rD (op2r fAdd fCat (dv (op2 fIx (dName 0) (dv (dC (.int 2))))) (dv (dC (.int 1))))) (dv (dC (.int 2))))
    (dSeq (sSet 3 (op2 fMod (dv (op2 fPowW (dv (opN fInt (vCons (dv (rD (op2r fAdd fCat (dv (op2 fIx (dName 0) (dv (dC (.int 1))))) (dv (op2 fMul (dv (dC (.int 1000003))) (dv (op2 fIx (dName 0) (dv (dC (.int 2)))))))))) vNil))) (dv (dC (.int 3))))) (dv (rD (op2r fAdd fCat (dv (op2 fPowW (dv (dC (.int 10))) (dv (dC (.int 25))))) (dv (dC (.int 13))))))))
    (dSeq (sSet 3 (op2 fMod (dv (op2 fPowW (dv (opN fInt (vCons (dv (rD (op2r fAdd fCat (dName 3) (dv (op2 fMul (dv (dC (.int 77347))) (dv (op2 fIx (dName 0) (dv (dC (.int 2)))))))))) vNil))) (dv (dC (.int 2))))) (dv (rD (op2r fAdd fCat (dv (op2 fPowW (dv (dC (.int 10))) (dv (dC (.int 24))))) (dv (dC (.int 7))))))))
    (sRet (op2 fMod (dv (opN fInt (vCons (dv (op2 fDiv (dName 3) (dv (dC (.int 4096))))) vNil))) (dName 1)))))))
def φ__law_dip : List PyData → Out := runF 4 [.m, .v] m__law_dip
def m__law_same (rec : List PyData → Out) : M Fl :=
  (dSeq (sIf (dB (op2 fIsN (dName 1) (dv (dC .none)))) (sRet (op2 fIsN (dName 0) (dv (dC .none)))) sNx)
    (dSeq (sIf (dB (op1 (fIs [.bool]) (dName 1))) (sRet (dAndV (op1 (fIs [.bool]) (dName 0)) (op2 fEq (dName 0) (dName 1)))) sNx)
    (dSeq (sIf (dOr (dB (op1 (fIs [.tuple]) (dName 1))) (dB (op1 (fIs [.list]) (dName 1)))) (dSeq (sSet 2 (dIfE (dB (op1 (fIs [.tuple]) (dName 1))) (op1 (fIs [.tuple]) (dName 0)) (op1 (fIs [.list]) (dName 0))))
    (dSeq (sIf (dOr (dNot (dB (dEsc (dName 2)))) (dB (op2 fNe (dv (opN fLen (vCons (dName 0) vNil))) (dv (opN fLen (vCons (dName 1) vNil)))))) (sRet (dC (.bool false))) sNx)
    (dSeq (sFor (.nm 3) [3] (iR1 (vCons (dv (opN fLen (vCons (dName 1) vNil))) vNil)) (sIf (dNot (dB (rD (callP [.v, .v] rec (vCons (dv (op2 fIx (dName 0) (dName 3))) (vCons (dv (op2 fIx (dName 1) (dName 3))) vNil)))))) (sRet (dC (.bool false))) sNx))
    (sRet (dC (.bool true)))))) sNx)
    (dSeq (sIf (dB (op1 (fIs [.str]) (dName 1))) (sRet (dAndV (op1 (fIs [.str]) (dName 0)) (op2 fEq (dName 0) (dName 1)))) sNx)
    (sRet (dAndV (op1 (fIs [.int]) (dName 0)) (dAndV (dNotV (op1 (fIs [.bool]) (dName 0))) (op2 fEq (dName 0) (dName 1)))))))))
def φ__law_same : Nat → List PyData → Out
  | 0 => fun _ => .bad
  | n + 1 => runF 4 [.v, .v] (m__law_same (φ__law_same n))
def m__law_shows : M Fl :=
  (dSeq (sSetO 2 (dLst (dCons (dTup dNil) dNil)))
    (dSeq (sWh [3, 4, 5] (dB (op2 fNe (dName 2) (dv (dFz (dLst dNil))))) (dSeq (sSet 3 (dMut 2 mPop (rt [])))
    (dSeq (sSet 4 (opN fLen (vCons (dName 3) vNil)))
    (dSeq (sIf (dB (op2 fEq (dName 4) (dv (opN fLen (vCons (dName 1) vNil))))) (sRet (dC (.bool true))) sNx)
    (sFor (.nm 5) [5] (iR2 (vCons (dv (dIfE (dB (op2 fNe (dName 3) (dv (dTup dNil)))) (rD (op2r fAdd fCat (dv (op2 fIx (dName 3) (dv (op1 fNeg (dv (dC (.int 1))))))) (dv (dC (.int 1))))) (dC (.int 0)))) (vCons (dv (rD (op2r fAdd fCat (dv (rD (op2r fAdd fCat (dv (op2 fSub (dv (opN fLen (vCons (dName 0) vNil))) (dv (opN fLen (vCons (dName 1) vNil))))) (dName 4)))) (dv (dC (.int 1)))))) vNil))) (sIf (dB (op2 fEq (dv (dFz (compL [6] (.nm 6) (iR1 (vCons (dName 4) vNil)) (dB (op2 fNe (dv (op2 fLt (dv (op2 fIx (dName 0) (dv (op2 fIx (dName 3) (dName 6))))) (dv (op2 fIx (dName 0) (dName 5))))) (dv (op2 fLt (dv (op2 fIx (dName 1) (dName 6))) (dv (op2 fIx (dName 1) (dName 4))))))) (dEsc (dName 6))))) (dv (dFz (dLst dNil))))) (sExpr (dMut 2 mAppend (dCons (rD (op2r fAdd fCat (dName 3) (dv (dTup (dCons (dEsc (dName 5)) dNil))))) dNil))) sNx))))))
    (sRet (dC (.bool false)))))
def φ__law_shows : List PyData → Out := runF 7 [.v, .v] m__law_shows
def m__law_lets : M Fl :=
  (sRet (op2 fEq (dv (dFz (compL [2] (.nm 2) (iV (dName 0)) (dB (rD (callP [.v, .v] φ__law_shows (vCons (dName 1) (vCons (dName 2) vNil))))) (dEsc (dName 2))))) (dv (dFz (dLst dNil)))))
def φ__law_lets : List PyData → Out := runF 3 [.v, .v] m__law_lets
def m__law_orders : M Fl :=
  (dSeq (sSetO 1 (dLst (dCons (dTup dNil) dNil)))
    (dSeq (sFor (.nm 2) [2, 3, 4] (iR1 (vCons (dName 0) vNil)) (dSeq (sSetO 3 (dLst dNil))
    (dSeq (sFor (.nm 4) [4] (iV (dName 1)) (sSetR 3 (op2r fAdd fCat (dName 3) (dv (dFz (compL [5] (.nm 5) (iR2 (vCons (dv (dC (.int 1))) (vCons (dv (rD (op2r fAdd fCat (dName 0) (dv (dC (.int 1)))))) vNil))) (dB (op2 fNotIn (dName 5) (dName 4))) (rD (op2r fAdd fCat (dName 4) (dv (dTup (dCons (dEsc (dName 5)) dNil)))))))))))
    (sMove 1 3))))
    (sRetV 1)))
def φ__law_orders : List PyData → Out := runF 6 [.v] m__law_orders
def m__law_lists : M Fl :=
  (dSeq (sSetO 0 (dLst (dCons (dTup (dCons (dC (.str "stack")) (dCons (dTup (dCons (dTup (dCons (dC (.int 2)) (dCons (dC (.int 3)) (dCons (dC (.int 1)) dNil)))) dNil)) dNil))) (dCons (dTup (dCons (dC (.str "popper")) (dCons (dTup (dCons (dTup (dCons (dC (.int 2)) (dCons (dC (.int 3)) (dCons (dC (.int 1)) dNil)))) (dCons (dTup (dCons (dC (.int 3)) (dCons (dC (.int 1)) (dCons (dC (.int 2)) dNil)))) dNil))) dNil))) dNil))))
    (sRetR (op2r fAdd fCat (dName 0) (dv (dFz (dLst (dCons (dTup (dCons (dC (.str "queues")) (dCons (dTup (dCons (dTup (dCons (dC (.int 3)) (dCons (dC (.int 2)) (dCons (dC (.int 1)) dNil)))) dNil)) dNil))) (dCons (dTup (dCons (dC (.str "bubble")) (dCons (dTup (dCons (dTup (dCons (dC (.int 2)) (dCons (dC (.int 3)) (dCons (dC (.int 1)) dNil)))) (dCons (dTup (dCons (dC (.int 3)) (dCons (dC (.int 2)) (dCons (dC (.int 1)) dNil)))) dNil))) dNil))) dNil))))))))
def φ__law_lists : List PyData → Out := runF 1 [] m__law_lists
def m__law_let : M Fl :=
  (dSeq (sSet 3 (dTup dNil))
    (dSeq (sFor (.nm 4) [4, 5, 6, 7, 8, 9, 10, 11] (iR2 (vCons (dv (dC (.int 1))) (vCons (dv (rD (op2r fAdd fCat (dName 2) (dv (dC (.int 1)))))) vNil))) (dSeq (sPar [5, 6] (msO (dLstRg (rg1 (dName 4))) (msR (callP [.m, .v] φ__law_dip (vCons (dName 0) (vCons (dName 4) vNil))) msNil)))
    (dSeq (sSetO 7 (dLst dNil))
    (dSeq (sFor (.nm 8) [8, 9, 10, 11] (iR1 (vCons (dName 4) vNil)) (dSeq (sSet 9 (op2 fIx (dName 5) (dv (op2 fMod (dv (opN fInt (vCons (dv (rD (op2r fAdd fCat (dName 6) (dName 8)))) vNil))) (dName 4)))))
    (sFor (.nm 10) [10, 11] (iO (dLst (dCons (dEsc (dName 4)) (dCons (dC (.int 1)) (dCons (rD (op2r fAdd fCat (dv (dC (.int 1))) (dv (rD (callP [.m, .v] φ__law_dip (vCons (dName 0) (vCons (dName 4) vNil))))))) dNil))))) (dSeq (sSet 11 (opN fTuple (vCons (dv (dFz (compL [12] (.nm 12) (iV (dName 3)) (rt true) (rD (op2r fAdd fCat (dName 12) (dv (opN fInt (vCons (dv (op2 fGe (dName 12) (dName 10))) vNil)))))))) vNil)))
    (dSeq (sSetR 11 (op2r fAdd fCat (dv (rD (op2r fAdd fCat (dv (rD (cutR (dName 11) oNone (oSome (dEsc (dName 9)))))) (dv (dTup (dCons (dEsc (dName 10)) dNil)))))) (dv (rD (cutR (dName 11) (oSome (dEsc (dName 9))) oNone)))))
    (sIf (dAnd (dB (op2 fEq (dName 7) (dv (dFz (dLst dNil))))) (dB (rD (callP [.v, .v] φ__law_lets (vCons (dName 1) (vCons (dName 11) vNil)))))) (sSetO 7 (dLst (dCons (dEsc (dName 11)) dNil))) sNx))))))
    (sSet 3 (dIfE (dB (op2 fNe (dName 7) (dv (dFz (dLst dNil))))) (op2 fIx (dName 7) (dv (dC (.int 0)))) (rD (op2r fAdd fCat (dName 3) (dv (dTup (dCons (dEsc (dName 4)) dNil)))))))))))
    (sRetV 3)))
def φ__law_let : List PyData → Out := runF 13 [.m, .v, .v] m__law_let
def m__law_exchanged : M Fl :=
  (dSeq (sSetO 3 (opNo fList (vCons (dName 0) vNil)))
    (dSeq (sSub 3 (op2 fIx (dName 0) (dName 2)) (dName 1))
    (dSeq (sSub 3 (op2 fIx (dName 0) (dName 1)) (dName 2))
    (sRet (opN fTuple (vCons (dName 3) vNil))))))
def φ__law_exchanged : List PyData → Out := runF 4 [.v, .v, .v] m__law_exchanged
def m__law_right : M Fl :=
  (dSeq (sSetR 3 (callP [.v, .v] φ__law_lets (vCons (dName 1) (vCons (dName 2) vNil))))
    (dSeq (sIf (dNot (dB (rD (callP [.v, .v] (φ__law_same 4) (vCons (dv (dFz (dLst (dCons (rD (callP [.v, .v] φ_sorts (vCons (dName 0) (vCons (dName 2) vNil)))) (dCons (rD (callK [.v, .v] φ_sorts [1, 0] vNil (vCons (dName 2) (vCons (dName 0) vNil)))) dNil))))) (vCons (dv (dFz (dLst (dCons (dEsc (dName 3)) (dCons (dEsc (dName 3)) dNil))))) vNil)))))) (sRet (dC (.bool false))) sNx)
    (sRet (dOrV (dNotV (dEsc (dName 3))) (rD (callP [.v, .v] (φ__law_same 4) (vCons (dv (rD (callP [.v, .v] φ_made (vCons (dName 0) (vCons (dName 2) vNil))))) (vCons (dv (dTupRg (rg2 (dv (dC (.int 1))) (dv (rD (op2r fAdd fCat (dv (opN fLen (vCons (dName 2) vNil))) (dv (dC (.int 1))))))))) vNil))))))))
def φ__law_right : List PyData → Out := runF 4 [.v, .v, .v] m__law_right
def m_law : M Fl :=
  (dSeq (sFor (.tup [(.nm 1), (.nm 2)]) [1, 2, 3] (iV (dv (rD (callP [] φ__law_lists vNil)))) (dSeq (sIf (dNot (dB (rD (callP [.v, .v] (φ__law_same 4) (vCons (dv (dFz (dLst (dCons (rD (callP [.v] φ_list_of (vCons (dName 1) vNil))) (dCons (rD (callK [.v] φ_list_of [0] vNil (vCons (dName 1) vNil))) dNil))))) (vCons (dv (dFz (dLst (dCons (dEsc (dName 2)) (dCons (dEsc (dName 2)) dNil))))) vNil)))))) (sRet (dC (.bool false))) sNx)
    (sFor (.nm 3) [3] (iR1 (vCons (dv (dC (.int 6))) vNil)) (sFor (.nm 4) [] (iV (dv (rD (callP [.v] φ__law_orders (vCons (dName 3) vNil))))) (sIf (dNot (dB (rD (callP [.v, .v, .v] φ__law_right (vCons (dName 1) (vCons (dName 2) (vCons (dName 4) vNil))))))) (sRet (dC (.bool false))) sNx)))))
    (dSeq (sFor (.nm 5) [5, 6, 7, 8] (iR1 (vCons (dv (opN fMax (vCons (dv (dC (.int 1))) (vCons (dv (opN fMin (vCons (dv (dC (.int 6))) (vCons (dv (opN fLen (vCons (dName 0) vNil))) vNil)))) vNil)))) vNil)) (dSeq (sSetR 6 (callP [.v, .v] φ__law_well (vCons (dName 0) (vCons (dName 5) vNil))))
    (sFor (.tup [(.nm 1), (.nm 2)]) [1, 2, 7, 8] (iV (dv (rD (callP [] φ__law_lists vNil)))) (dSeq (sSetR 4 (callP [.m, .v, .v] φ__law_let (vCons (dName 6) (vCons (dName 2) (vCons (dv (rD (op2r fAdd fCat (dv (dC (.int 6))) (dv (rD (callP [.m, .v] φ__law_dip (vCons (dName 6) (vCons (dv (dC (.int 7))) vNil)))))))) vNil)))))
    (dSeq (sIf (dNot (dB (rD (callP [.v, .v, .v] φ__law_right (vCons (dName 1) (vCons (dName 2) (vCons (dName 4) vNil))))))) (sRet (dC (.bool false))) sNx)
    (dSeq (sUnpL [(.nm 7), (.nm 8)] (dFz (opNo fSorted (vCons (dv (dFz (dLst (dCons (rD (callP [.m, .v] φ__law_dip (vCons (dName 6) (vCons (dv (opN fLen (vCons (dName 4) vNil))) vNil)))) (dCons (rD (callP [.m, .v] φ__law_dip (vCons (dName 6) (vCons (dv (opN fLen (vCons (dName 4) vNil))) vNil)))) dNil))))) vNil))))
    (sIf (dNot (dB (rD (callP [.v, .v, .v] φ__law_right (vCons (dName 1) (vCons (dName 2) (vCons (dv (rD (callP [.v, .v, .v] φ__law_exchanged (vCons (dName 4) (vCons (dName 7) (vCons (dName 8) vNil)))))) vNil))))))) (sRet (dC (.bool false))) sNx)))))))
    (sRet (dC (.bool true)))))
def φ_law : List PyData → Out := runF 9 [.v] m_law
/-! ### what the top holds -/
structure EnvOk (w : World) (mg : Str → Option Value) (K : PySem.W.Frag) : Prop where
  f_is_integer : ∃ f fd, Fun K "is_integer" "is_integer" s_is_integer f fd ∧ mg "is_integer" = some (.ref f)
  f_are_integers : ∃ f fd, Fun K "are_integers" "are_integers" s_are_integers f fd ∧ mg "are_integers" = some (.ref f)
  f_is_order_of : ∃ f fd, Fun K "is_order_of" "is_order_of" s_is_order_of f fd ∧ mg "is_order_of" = some (.ref f)
  f_is_order : ∃ f fd, Fun K "is_order" "is_order" s_is_order f fd ∧ mg "is_order" = some (.ref f)
  f_is_sorter : ∃ f fd, Fun K "is_sorter" "is_sorter" s_is_sorter f fd ∧ mg "is_sorter" = some (.ref f)
  f_check_sorter : ∃ f fd, Fun K "check_sorter" "check_sorter" s_check_sorter f fd ∧ mg "check_sorter" = some (.ref f)
  f_check_order : ∃ f fd, Fun K "check_order" "check_order" s_check_order f fd ∧ mg "check_order" = some (.ref f)
  f_by_stack : ∃ f fd, Fun K "by_stack" "by_stack" s_by_stack f fd ∧ mg "by_stack" = some (.ref f)
  f_by_popper : ∃ f fd, Fun K "by_popper" "by_popper" s_by_popper f fd ∧ mg "by_popper" = some (.ref f)
  f_merged : ∃ f fd, Fun K "merged" "merged" s_merged f fd ∧ mg "merged" = some (.ref f)
  f_by_queues : ∃ f fd, Fun K "by_queues" "by_queues" s_by_queues f fd ∧ mg "by_queues" = some (.ref f)
  f_by_bubble : ∃ f fd, Fun K "by_bubble" "by_bubble" s_by_bubble f fd ∧ mg "by_bubble" = some (.ref f)
  f_made_by : ∃ f fd, Fun K "made_by" "made_by" s_made_by f fd ∧ mg "made_by" = some (.ref f)
  f_risen : ∃ f fd, Fun K "risen" "risen" s_risen f fd ∧ mg "risen" = some (.ref f)
  f_does_sort : ∃ f fd, Fun K "does_sort" "does_sort" s_does_sort f fd ∧ mg "does_sort" = some (.ref f)
  f_made : ∃ f fd, Fun K "made" "made" s_made f fd ∧ mg "made" = some (.ref f)
  f_sorts : ∃ f fd, Fun K "sorts" "sorts" s_sorts f fd ∧ mg "sorts" = some (.ref f)
  f_list_of : ∃ f fd, Fun K "list_of" "list_of" s_list_of f fd ∧ mg "list_of" = some (.ref f)
  f__law_well : ∃ f fd, Fun K "_law_well" "_law_well" s__law_well f fd ∧ mg "_law_well" = some (.ref f)
  f__law_dip : ∃ f fd, Fun K "_law_dip" "_law_dip" s__law_dip f fd ∧ mg "_law_dip" = some (.ref f)
  f__law_same : ∃ f fd, Fun K "_law_same" "_law_same" s__law_same f fd ∧ mg "_law_same" = some (.ref f)
  f__law_shows : ∃ f fd, Fun K "_law_shows" "_law_shows" s__law_shows f fd ∧ mg "_law_shows" = some (.ref f)
  f__law_lets : ∃ f fd, Fun K "_law_lets" "_law_lets" s__law_lets f fd ∧ mg "_law_lets" = some (.ref f)
  f__law_orders : ∃ f fd, Fun K "_law_orders" "_law_orders" s__law_orders f fd ∧ mg "_law_orders" = some (.ref f)
  f__law_lists : ∃ f fd, Fun K "_law_lists" "_law_lists" s__law_lists f fd ∧ mg "_law_lists" = some (.ref f)
  f__law_let : ∃ f fd, Fun K "_law_let" "_law_let" s__law_let f fd ∧ mg "_law_let" = some (.ref f)
  f__law_exchanged : ∃ f fd, Fun K "_law_exchanged" "_law_exchanged" s__law_exchanged f fd ∧ mg "_law_exchanged" = some (.ref f)
  f__law_right : ∃ f fd, Fun K "_law_right" "_law_right" s__law_right f fd ∧ mg "_law_right" = some (.ref f)
  f_law : ∃ f fd, Fun K "law" "law" s_law f fd ∧ mg "law" = some (.ref f)
  b_abs : mg "abs" = none
  b_all : mg "all" = none
  b_bool : mg "bool" = none
  b_int : mg "int" = none
  b_isinstance : mg "isinstance" = none
  b_len : mg "len" = none
  b_list : mg "list" = none
  b_max : mg "max" = none
  b_min : mg "min" = none
  b_range : mg "range" = none
  b_sorted : mg "sorted" = none
  b_str : mg "str" = none
  b_tuple : mg "tuple" = none
  c_LISTS : KDicC w K mg "LISTS" [(Str.ofString "stack", (.tuple [(.tuple [(.int 2), (.int 3), (.int 1)])])), (Str.ofString "popper", (.tuple [(.tuple [(.int 2), (.int 3), (.int 1)]), (.tuple [(.int 3), (.int 1), (.int 2)])])), (Str.ofString "queues", (.tuple [(.tuple [(.int 3), (.int 2), (.int 1)])])), (Str.ofString "bubble", (.tuple [(.tuple [(.int 2), (.int 3), (.int 1)]), (.tuple [(.int 3), (.int 2), (.int 1)])]))]
/-! ### derivations -/
section
variable {P : Program} {w : World} {K : PySem.W.Frag} {mg : Str → Option Value} {base : Heap}
theorem sc_is_integer : FnScope ["value"] ["value"] (defScope s_is_integer) := ⟨rfl, rfl, rfl, by decide +kernel, rfl, by decide +kernel, by decide +kernel⟩
theorem fn_is_integer (e : EnvOk w mg K) : FnP P w K mg base "is_integer" s_is_integer 1 ["value"] [.v] φ_is_integer := by
  obtain ⟨f, fd, F, hm⟩ := e.f_is_integer
  refine fnP_mk (k := 0) (N := ["value"]) F hm (F.binds (ps := ["value"]) fun _ _ _ _ _ _ us hl => match us, hl with | [_], _ => rfl) sc_is_integer rfl rfl fun cdv A outer s H E hr => ?_
  exact (dss_one (ds_ret (dp_and (dp_isi (t := .int) (by rfl) e.b_isinstance (zv 0) (by rfl) e.b_int boot_int) (dp_one (dp_not (dp_isi (t := .bool) (by rfl) e.b_isinstance (zv 0) (by rfl) e.b_bool boot_bool))))))
theorem sc_are_integers : FnScope ["value", "a"] ["value"] (defScope s_are_integers) := ⟨rfl, rfl, rfl, by decide +kernel, rfl, by decide +kernel, by decide +kernel⟩
theorem fn_are_integers (e : EnvOk w mg K) : FnP P w K mg base "are_integers" s_are_integers 2 ["value"] [.v] φ_are_integers := by
  obtain ⟨f, fd, F, hm⟩ := e.f_are_integers
  refine fnP_mk (k := 1) (N := ["value", "a"]) F hm (F.binds (ps := ["value"]) fun _ _ _ _ _ _ us hl => match us, hl with | [_], _ => rfl) sc_are_integers rfl rfl fun cdv A outer s H E hr => ?_
  exact (dss_one (ds_ret (dp_and (dp_isi (t := .tuple) (by rfl) e.b_isinstance (zv 0) (by rfl) e.b_tuple boot_tuple) (dp_one (dp_callB (cd_all rfl) (by rfl) e.b_all boot_all (dvs_cons (dv_of (dp_fz (do_comp [("a", 1)] rfl sc_are_integers.nd (di_val (zv 0)) (blkOk_by (by rfl)) (fun _ _ _ _ _ => (dgb_any (dg_name (i := 1) sc_are_integers.nd rfl (by first | exact Or.inl rfl | exact Or.inr rfl)))) (fun _ _ _ _ _ => dts_nil) (fun _ _ _ _ _ => (dp_ofR (dr_fn ((fn_is_integer e).mono (by omega)) hr (by rfl) (dvs_cons (zv 1) dvs_nil)))) (by simp [tgS, tgsS])))) dvs_nil))))))
theorem sc_is_order_of : FnScope ["told"] ["told"] (defScope s_is_order_of) := ⟨rfl, rfl, rfl, by decide +kernel, rfl, by decide +kernel, by decide +kernel⟩
theorem fn_is_order_of (e : EnvOk w mg K) : FnP P w K mg base "is_order_of" s_is_order_of 3 ["told"] [.v] φ_is_order_of := by
  obtain ⟨f, fd, F, hm⟩ := e.f_is_order_of
  refine fnP_mk (k := 2) (N := ["told"]) F hm (F.binds (ps := ["told"]) fun _ _ _ _ _ _ us hl => match us, hl with | [_], _ => rfl) sc_is_order_of rfl rfl fun cdv A outer s H E hr => ?_
  exact (dss_one (ds_ret (dp_and (dp_ofR (dr_fn ((fn_are_integers e).mono (by omega)) hr (by rfl) (dvs_cons (zv 0) dvs_nil))) (dp_one (dp_cmp (or_eq hr.units) (dv_of (dp_fz (do_callB (cd_sorted hr.units) (by rfl) e.b_sorted boot_sorted (dvs_cons (zv 0) dvs_nil)))) (dv_of (dp_fz (do_lstRg rfl (by rfl) e.b_list (drg2 (by rfl) e.b_range (dv_of dp_int) (dv_of (dp_ofR (dr_bin or_add or_cat (dv_of (dp_callB cd_len (by rfl) e.b_len boot_len (dvs_cons (zv 0) dvs_nil))) (dv_of dp_int)))))))) (by rfl))))))
theorem sc_is_order : FnScope ["told"] ["told"] (defScope s_is_order) := ⟨rfl, rfl, rfl, by decide +kernel, rfl, by decide +kernel, by decide +kernel⟩
theorem fn_is_order (e : EnvOk w mg K) : FnP P w K mg base "is_order" s_is_order 4 ["told"] [.v] φ_is_order := by
  obtain ⟨f, fd, F, hm⟩ := e.f_is_order
  refine fnP_mk (k := 3) (N := ["told"]) F hm (F.binds (ps := ["told"]) fun _ _ _ _ _ _ us hl => match us, hl with | [_], _ => rfl) sc_is_order rfl rfl fun cdv A outer s H E hr => ?_
  exact (dss_one (ds_retR (dr_fn ((fn_is_order_of e).mono (by omega)) hr (by rfl) (dvs_cons (zv 0) dvs_nil))))
theorem sc_is_sorter : FnScope ["told"] ["told"] (defScope s_is_sorter) := ⟨rfl, rfl, rfl, by decide +kernel, rfl, by decide +kernel, by decide +kernel⟩
theorem fn_is_sorter (e : EnvOk w mg K) : FnP P w K mg base "is_sorter" s_is_sorter 1 ["told"] [.v] φ_is_sorter := by
  obtain ⟨f, fd, F, hm⟩ := e.f_is_sorter
  refine fnP_mk (k := 0) (N := ["told"]) F hm (F.binds (ps := ["told"]) fun _ _ _ _ _ _ us hl => match us, hl with | [_], _ => rfl) sc_is_sorter rfl rfl fun cdv A outer s H E hr => ?_
  exact (dss_one (ds_ret (dp_and (dp_isi (t := .str) (by rfl) e.b_isinstance (zv 0) (by rfl) e.b_str boot_str) (dp_one (dp_inKD (zv 0) (by rfl) e.c_LISTS rfl)))))
theorem sc_check_sorter : FnScope ["sorter"] ["sorter"] (defScope s_check_sorter) := ⟨rfl, rfl, rfl, by decide +kernel, rfl, by decide +kernel, by decide +kernel⟩
theorem fn_check_sorter (e : EnvOk w mg K) : FnP P w K mg base "check_sorter" s_check_sorter 2 ["sorter"] [.v] φ_check_sorter := by
  obtain ⟨f, fd, F, hm⟩ := e.f_check_sorter
  refine fnP_mk (k := 1) (N := ["sorter"]) F hm (F.binds (ps := ["sorter"]) fun _ _ _ _ _ _ us hl => match us, hl with | [_], _ => rfl) sc_check_sorter rfl rfl fun cdv A outer s H E hr => ?_
  exact (dss_one (ds_if (dt_not (dt_val (dp_ofR (dr_fn ((fn_is_sorter e).mono (by omega)) hr (by rfl) (dvs_cons (zv 0) dvs_nil))))) (dss_one ds_bad) dss_nil))
theorem sc_check_order : FnScope ["order"] ["order"] (defScope s_check_order) := ⟨rfl, rfl, rfl, by decide +kernel, rfl, by decide +kernel, by decide +kernel⟩
theorem fn_check_order (e : EnvOk w mg K) : FnP P w K mg base "check_order" s_check_order 5 ["order"] [.v] φ_check_order := by
  obtain ⟨f, fd, F, hm⟩ := e.f_check_order
  refine fnP_mk (k := 4) (N := ["order"]) F hm (F.binds (ps := ["order"]) fun _ _ _ _ _ _ us hl => match us, hl with | [_], _ => rfl) sc_check_order rfl rfl fun cdv A outer s H E hr => ?_
  exact (dss_one (ds_if (dt_not (dt_val (dp_ofR (dr_fn ((fn_is_order e).mono (by omega)) hr (by rfl) (dvs_cons (zv 0) dvs_nil))))) (dss_one ds_bad) dss_nil))
theorem sc_by_stack : FnScope ["order", "left", "stack", "number"] ["order"] (defScope s_by_stack) := ⟨rfl, rfl, rfl, by decide +kernel, rfl, by decide +kernel, by decide +kernel⟩
theorem fn_by_stack (e : EnvOk w mg K) : FnP P w K mg base "by_stack" s_by_stack 1 ["order"] [.v] φ_by_stack := by
  obtain ⟨f, fd, F, hm⟩ := e.f_by_stack
  refine fnP_mk (k := 0) (N := ["order", "left", "stack", "number"]) F hm (F.binds (ps := ["order"]) fun _ _ _ _ _ _ us hl => match us, hl with | [_], _ => rfl) sc_by_stack rfl rfl fun cdv A outer s H E hr => ?_
  exact (dss_cons (ds_par (i := 1) (j := 2) rfl sc_by_stack.nd rfl rfl (by decide) rfl rfl (dms_o (do_lst dps_nil) (dms_o (do_lst dps_nil) dms_nil)))
      (dss_cons (ds_for [3] passX rfl (di_val (zv 0)) (dgb_any (dg_name (i := 3) sc_by_stack.nd rfl (by first | exact Or.inl rfl | exact Or.inr rfl))) (dss_cons (ds_while [] passX (dt_w (dw_and (dt_cmp (or_ne hr.units) (zv 2) (dv_of (dp_fz (do_lst dps_nil))) (by rfl)) (dw_and1 (dt_cmp or_lt (dv_of (dp_ix (ixr hr.units) (zv 2) (dv_of (dp_un un_negD (dv_of dp_int))) (fun _ _ => rfl))) (zv 3) (by rfl))))) (dss_one (ds_expr (dp_mut (i := 1) rfl (by first | exact Or.inl rfl | exact Or.inr (Or.inl rfl) | exact Or.inr (Or.inr rfl)) PySem.F.slot_list_append PySem.F.type_list_append mr_append (dps_cons (dp_mut0 (i := 2) rfl (by first | exact Or.inl rfl | exact Or.inr (Or.inl rfl) | exact Or.inr (Or.inr rfl)) PySem.F.slot_list_pop PySem.F.type_list_pop mr_pop) dps_nil)))))
      (dss_one (ds_expr (dp_mut (i := 2) rfl (by first | exact Or.inl rfl | exact Or.inr (Or.inl rfl) | exact Or.inr (Or.inr rfl)) PySem.F.slot_list_append PySem.F.type_list_append mr_append (dps_cons (dp_esc (zv 3)) dps_nil))))))
      (dss_one (ds_ret (dp_callTy cd_tuple (by rfl) e.b_tuple boot_tuple (dvs_cons (dv_of (dp_ofR (dr_bin or_add or_cat (zv 1) (dv_of (dp_ofR (dr_or (dp_back (zv 2)) (do_backL (zv 2)))))))) dvs_nil))))))
theorem sc_by_popper : FnScope ["order", "left", "stack", "number"] ["order"] (defScope s_by_popper) := ⟨rfl, rfl, rfl, by decide +kernel, rfl, by decide +kernel, by decide +kernel⟩
theorem fn_by_popper (e : EnvOk w mg K) : FnP P w K mg base "by_popper" s_by_popper 1 ["order"] [.v] φ_by_popper := by
  obtain ⟨f, fd, F, hm⟩ := e.f_by_popper
  refine fnP_mk (k := 0) (N := ["order", "left", "stack", "number"]) F hm (F.binds (ps := ["order"]) fun _ _ _ _ _ _ us hl => match us, hl with | [_], _ => rfl) sc_by_popper rfl rfl fun cdv A outer s H E hr => ?_
  exact (dss_cons (ds_par (i := 1) (j := 2) rfl sc_by_popper.nd rfl rfl (by decide) rfl rfl (dms_o (do_lst dps_nil) (dms_o (do_lst dps_nil) dms_nil)))
      (dss_cons (ds_for [3] passX rfl (di_val (zv 0)) (dgb_any (dg_name (i := 3) sc_by_popper.nd rfl (by first | exact Or.inl rfl | exact Or.inr rfl))) (dss_cons (ds_if (dt_w (dw_and (dt_cmp (or_ne hr.units) (zv 2) (dv_of (dp_fz (do_lst dps_nil))) (by rfl)) (dw_and1 (dt_cmp or_lt (dv_of (dp_ix (ixr hr.units) (zv 2) (dv_of (dp_un un_negD (dv_of dp_int))) (fun _ _ => rfl))) (zv 3) (by rfl))))) (dss_cons (ds_expr (dp_extend (i := 1) rfl (by first | exact Or.inl rfl | exact Or.inr (Or.inl rfl) | exact Or.inr (Or.inr rfl)) (df_of (do_ofR (dr_or (dp_back (zv 2)) (do_backL (zv 2)))))))
      (dss_one (ds_setO (i := 2) sc_by_popper.nd rfl (by first | exact Or.inl rfl | exact Or.inr rfl) (do_lst dps_nil)))) dss_nil)
      (dss_one (ds_expr (dp_mut (i := 2) rfl (by first | exact Or.inl rfl | exact Or.inr (Or.inl rfl) | exact Or.inr (Or.inr rfl)) PySem.F.slot_list_append PySem.F.type_list_append mr_append (dps_cons (dp_esc (zv 3)) dps_nil))))))
      (dss_one (ds_ret (dp_callTy cd_tuple (by rfl) e.b_tuple boot_tuple (dvs_cons (dv_of (dp_ofR (dr_bin or_add or_cat (zv 1) (dv_of (dp_ofR (dr_or (dp_back (zv 2)) (do_backL (zv 2)))))))) dvs_nil))))))
theorem sc_merged : FnScope ["one", "other", "left", "i", "j"] ["one", "other"] (defScope s_merged) := ⟨rfl, rfl, rfl, by decide +kernel, rfl, by decide +kernel, by decide +kernel⟩
theorem fn_merged (e : EnvOk w mg K) : FnP P w K mg base "merged" s_merged 1 ["one", "other"] [.v, .v] φ_merged := by
  obtain ⟨f, fd, F, hm⟩ := e.f_merged
  refine fnP_mk (k := 0) (N := ["one", "other", "left", "i", "j"]) F hm (F.binds (ps := ["one", "other"]) fun _ _ _ _ _ _ us hl => match us, hl with | [_, _], _ => rfl) sc_merged rfl rfl fun cdv A outer s H E hr => ?_
  exact (dss_cons (ds_par3 (i := 2) (j := 3) (l := 4) rfl sc_merged.nd rfl rfl rfl (by decide) (by decide) (by decide) rfl rfl rfl (dms_o (do_lst dps_nil) (dms_d dp_int (dms_d dp_int dms_nil))))
      (dss_cons (ds_while [] passX (dt_w (dw_and (dt_cmp or_lt (zv 3) (dv_of (dp_callB cd_len (by rfl) e.b_len boot_len (dvs_cons (zv 0) dvs_nil))) (by rfl)) (dw_and1 (dt_cmp or_lt (zv 4) (dv_of (dp_callB cd_len (by rfl) e.b_len boot_len (dvs_cons (zv 1) dvs_nil))) (by rfl))))) (dss_one (ds_if (dt_cmp or_lt (dv_of (dp_ix (ixr hr.units) (zv 0) (zv 3) (fun _ _ => rfl))) (dv_of (dp_ix (ixr hr.units) (zv 1) (zv 4) (fun _ _ => rfl))) (by rfl)) (dss_cons (ds_expr (dp_mut (i := 2) rfl (by first | exact Or.inl rfl | exact Or.inr (Or.inl rfl) | exact Or.inr (Or.inr rfl)) PySem.F.slot_list_append PySem.F.type_list_append mr_append (dps_cons (dp_ix (ixr hr.units) (zv 0) (zv 3) (fun _ _ => rfl)) dps_nil)))
      (dss_one (ds_aug (i := 3) sc_merged.nd rfl (by first | exact Or.inl rfl | exact Or.inr rfl) (dv_of dp_int) ior_add))) (dss_cons (ds_expr (dp_mut (i := 2) rfl (by first | exact Or.inl rfl | exact Or.inr (Or.inl rfl) | exact Or.inr (Or.inr rfl)) PySem.F.slot_list_append PySem.F.type_list_append mr_append (dps_cons (dp_ix (ixr hr.units) (zv 1) (zv 4) (fun _ _ => rfl)) dps_nil)))
      (dss_one (ds_aug (i := 4) sc_merged.nd rfl (by first | exact Or.inl rfl | exact Or.inr rfl) (dv_of dp_int) ior_add))))))
      (dss_one (ds_retR (dr_bin or_add or_cat (dv_of (dp_ofR (dr_bin or_add or_cat (zv 2) (dv_of (dp_ofR (dr_cut (zv 0) (dpo_some (dp_esc (zv 3))) dpo_none)))))) (dv_of (dp_ofR (dr_cut (zv 1) (dpo_some (dp_esc (zv 4))) dpo_none))))))))
theorem sc_by_queues : FnScope ["order", "rows", "number", "free", "row"] ["order"] (defScope s_by_queues) := ⟨rfl, rfl, rfl, by decide +kernel, rfl, by decide +kernel, by decide +kernel⟩
theorem fn_by_queues (e : EnvOk w mg K) : FnP P w K mg base "by_queues" s_by_queues 2 ["order"] [.v] φ_by_queues := by
  obtain ⟨f, fd, F, hm⟩ := e.f_by_queues
  refine fnP_mk (k := 1) (N := ["order", "rows", "number", "free", "row"]) F hm (F.binds (ps := ["order"]) fun _ _ _ _ _ _ us hl => match us, hl with | [_], _ => rfl) sc_by_queues rfl rfl fun cdv A outer s H E hr => ?_
  exact (dss_queues fun W tk => pss_cons (ps_set (i := 1) sc_by_queues.nd rfl (by first | exact Or.inl rfl | exact Or.inr rfl) (pe_tupZ (pa_cons (pe_lst pa_nil) (pa_cons (pe_lst pa_nil) pa_nil)))) (pss_cons (ps_for passX rfl (pi_tup (pe_var (i := 0) rfl (by first | exact Or.inl rfl | exact Or.inr (Or.inl rfl) | exact Or.inr (Or.inr rfl)))) (pg_name (i := 2) sc_by_queues.nd rfl (by first | exact Or.inl rfl | exact Or.inr rfl)) (pss_cons (ps_setLc (g := gName 4) (te := tVar 4) (own := [("row", 4)]) (i := 3) rfl sc_by_queues.nd rfl rfl (sw_true rfl rfl (by rfl) (by rfl)) (pi_tup (pe_var (i := 1) rfl (by first | exact Or.inl rfl | exact Or.inr (Or.inl rfl) | exact Or.inr (Or.inr rfl)))) (blkOk_by (by rfl)) (fun _ _ _ _ _ => pg_name (i := 4) sc_by_queues.nd rfl (by first | exact Or.inl rfl | exact Or.inr rfl)) (fun _ _ _ _ _ => (dts_one (dt_w (dw_or (dt_cmp (or_eq hr.units) (zv 4) (dv_of (dp_fz (do_lst dps_nil))) (by rfl)) (dw_or1 (dt_cmp or_lt (dv_of (dp_ix (ixr hr.units) (zv 4) (dv_of (dp_un un_negD (dv_of dp_int))) (fun _ _ => rfl))) (zv 2) (by rfl)))))) W0 takes0) (fun _ _ _ _ _ => (pe_var (i := 4) rfl (by first | exact Or.inl rfl | exact Or.inr (Or.inl rfl) | exact Or.inr (Or.inr rfl))))) (pss_cons (ps_set (i := 4) sc_by_queues.nd rfl (by first | exact Or.inl rfl | exact Or.inr rfl) (pe_ifExp ((dt_cmp (or_ne hr.units) (zv 3) (dv_of (dp_fz (do_lst dps_nil))) (by rfl)) W tk) (pe_ix ix_list (pe_var (i := 3) rfl (by first | exact Or.inl rfl | exact Or.inr (Or.inl rfl) | exact Or.inr (Or.inr rfl))) pe_int (fun _ _ => rfl)) (pe_ix ix_tup (pe_var (i := 1) rfl (by first | exact Or.inl rfl | exact Or.inr (Or.inl rfl) | exact Or.inr (Or.inr rfl))) pe_int (fun _ _ => rfl)))) (pss_one (ps_expr (pe_bm PySem.F.plainAttrs_list PySem.F.slot_list_append PySem.F.type_list_append mt_append (pe_var (i := 4) rfl (by first | exact Or.inl rfl | exact Or.inr (Or.inl rfl) | exact Or.inr (Or.inr rfl))) (pa_cons (pe_var (i := 2) rfl (by first | exact Or.inl rfl | exact Or.inr (Or.inl rfl) | exact Or.inr (Or.inr rfl))) pa_nil))))))) ((dss_one (ds_ret (dp_callTy cd_tuple (by rfl) e.b_tuple boot_tuple (dvs_cons (dv_of (dp_ofR (dr_fn ((fn_merged e).mono (by omega)) hr (by rfl) (dvs_cons (dv_of (dp_ix (ixr hr.units) (zv 1) (dv_of dp_int) (fun _ _ => rfl))) (dvs_cons (dv_of (dp_ix (ixr hr.units) (zv 1) (dv_of dp_int) (fun _ _ => rfl))) dvs_nil))))) dvs_nil)))) W tk)))
theorem sc_by_bubble : FnScope ["order", "left", "number"] ["order"] (defScope s_by_bubble) := ⟨rfl, rfl, rfl, by decide +kernel, rfl, by decide +kernel, by decide +kernel⟩
theorem fn_by_bubble (e : EnvOk w mg K) : FnP P w K mg base "by_bubble" s_by_bubble 1 ["order"] [.v] φ_by_bubble := by
  obtain ⟨f, fd, F, hm⟩ := e.f_by_bubble
  refine fnP_mk (k := 0) (N := ["order", "left", "number"]) F hm (F.binds (ps := ["order"]) fun _ _ _ _ _ _ us hl => match us, hl with | [_], _ => rfl) sc_by_bubble rfl rfl fun cdv A outer s H E hr => ?_
  exact (dss_cons (ds_setO (i := 1) sc_by_bubble.nd rfl (by first | exact Or.inl rfl | exact Or.inr rfl) (do_lst dps_nil))
      (dss_cons (ds_for [2] passX rfl (di_val (zv 0)) (dgb_any (dg_name (i := 2) sc_by_bubble.nd rfl (by first | exact Or.inl rfl | exact Or.inr rfl))) (dss_one (ds_if (dt_w (dw_and (dt_cmp (or_ne hr.units) (zv 1) (dv_of (dp_fz (do_lst dps_nil))) (by rfl)) (dw_and1 (dt_cmp or_lt (zv 2) (dv_of (dp_ix (ixr hr.units) (zv 1) (dv_of (dp_un un_negD (dv_of dp_int))) (fun _ _ => rfl))) (by rfl))))) (dss_one (ds_expr (dp_mut (i := 1) rfl (by first | exact Or.inl rfl | exact Or.inr (Or.inl rfl) | exact Or.inr (Or.inr rfl)) PySem.F.slot_list_insert PySem.F.type_list_insert mr_insert (dps_cons (dp_bin or_sub (dv_of (dp_callB cd_len (by rfl) e.b_len boot_len (dvs_cons (zv 1) dvs_nil))) (dv_of dp_int)) (dps_cons (dp_esc (zv 2)) dps_nil))))) (dss_one (ds_expr (dp_mut (i := 1) rfl (by first | exact Or.inl rfl | exact Or.inr (Or.inl rfl) | exact Or.inr (Or.inr rfl)) PySem.F.slot_list_append PySem.F.type_list_append mr_append (dps_cons (dp_esc (zv 2)) dps_nil)))))))
      (dss_one (ds_ret (dp_callTy cd_tuple (by rfl) e.b_tuple boot_tuple (dvs_cons (zv 1) dvs_nil))))))
theorem sc_made_by : FnScope ["sorter", "order"] ["sorter", "order"] (defScope s_made_by) := ⟨rfl, rfl, rfl, by decide +kernel, rfl, by decide +kernel, by decide +kernel⟩
theorem fn_made_by (e : EnvOk w mg K) : FnP P w K mg base "made_by" s_made_by 3 ["sorter", "order"] [.v, .v] φ_made_by := by
  obtain ⟨f, fd, F, hm⟩ := e.f_made_by
  refine fnP_mk (k := 2) (N := ["sorter", "order"]) F hm (F.binds (ps := ["sorter", "order"]) fun _ _ _ _ _ _ us hl => match us, hl with | [_, _], _ => rfl) sc_made_by rfl rfl fun cdv A outer s H E hr => ?_
  exact (dss_cons (ds_if (dt_cmp (or_eq hr.units) (zv 0) (dv_of dp_str) (by rfl)) (dss_one (ds_retR (dr_fn ((fn_by_stack e).mono (by omega)) hr (by rfl) (dvs_cons (zv 1) dvs_nil)))) dss_nil)
      (dss_cons (ds_if (dt_cmp (or_eq hr.units) (zv 0) (dv_of dp_str) (by rfl)) (dss_one (ds_retR (dr_fn ((fn_by_popper e).mono (by omega)) hr (by rfl) (dvs_cons (zv 1) dvs_nil)))) dss_nil)
      (dss_one (ds_ret (dp_ifE (dt_cmp (or_eq hr.units) (zv 0) (dv_of dp_str) (by rfl)) (dp_ofR (dr_fn ((fn_by_queues e).mono (by omega)) hr (by rfl) (dvs_cons (zv 1) dvs_nil))) (dp_ofR (dr_fn ((fn_by_bubble e).mono (by omega)) hr (by rfl) (dvs_cons (zv 1) dvs_nil))))))))
theorem sc_risen : FnScope ["n"] ["n"] (defScope s_risen) := ⟨rfl, rfl, rfl, by decide +kernel, rfl, by decide +kernel, by decide +kernel⟩
theorem fn_risen (e : EnvOk w mg K) : FnP P w K mg base "risen" s_risen 1 ["n"] [.v] φ_risen := by
  obtain ⟨f, fd, F, hm⟩ := e.f_risen
  refine fnP_mk (k := 0) (N := ["n"]) F hm (F.binds (ps := ["n"]) fun _ _ _ _ _ _ us hl => match us, hl with | [_], _ => rfl) sc_risen rfl rfl fun cdv A outer s H E hr => ?_
  exact (dss_one (ds_ret (dp_tupRg rfl (by rfl) e.b_tuple (drg2 (by rfl) e.b_range (dv_of dp_int) (dv_of (dp_ofR (dr_bin or_add or_cat (zv 0) (dv_of dp_int))))))))
theorem sc_does_sort : FnScope ["sorter", "order"] ["sorter", "order"] (defScope s_does_sort) := ⟨rfl, rfl, rfl, by decide +kernel, rfl, by decide +kernel, by decide +kernel⟩
theorem fn_does_sort (e : EnvOk w mg K) : FnP P w K mg base "does_sort" s_does_sort 4 ["sorter", "order"] [.v, .v] φ_does_sort := by
  obtain ⟨f, fd, F, hm⟩ := e.f_does_sort
  refine fnP_mk (k := 3) (N := ["sorter", "order"]) F hm (F.binds (ps := ["sorter", "order"]) fun _ _ _ _ _ _ us hl => match us, hl with | [_, _], _ => rfl) sc_does_sort rfl rfl fun cdv A outer s H E hr => ?_
  exact (dss_one (ds_ret (dp_cmp (or_eq hr.units) (dv_of (dp_ofR (dr_fn ((fn_made_by e).mono (by omega)) hr (by rfl) (dvs_cons (zv 0) (dvs_cons (zv 1) dvs_nil))))) (dv_of (dp_ofR (dr_fn ((fn_risen e).mono (by omega)) hr (by rfl) (dvs_cons (dv_of (dp_callB cd_len (by rfl) e.b_len boot_len (dvs_cons (zv 1) dvs_nil))) dvs_nil)))) (by rfl))))
theorem sc_made : FnScope ["sorter", "order"] ["sorter", "order"] (defScope s_made) := ⟨rfl, rfl, rfl, by decide +kernel, rfl, by decide +kernel, by decide +kernel⟩
theorem fn_made (e : EnvOk w mg K) : FnP P w K mg base "made" s_made 6 ["sorter", "order"] [.v, .v] φ_made := by
  obtain ⟨f, fd, F, hm⟩ := e.f_made
  refine fnP_mk (k := 5) (N := ["sorter", "order"]) F hm (F.binds (ps := ["sorter", "order"]) fun _ _ _ _ _ _ us hl => match us, hl with | [_, _], _ => rfl) sc_made rfl rfl fun cdv A outer s H E hr => ?_
  exact (dss_cons (ds_exprR (dr_fn ((fn_check_sorter e).mono (by omega)) hr (by rfl) (dvs_cons (zv 0) dvs_nil)))
      (dss_cons (ds_exprR (dr_fn ((fn_check_order e).mono (by omega)) hr (by rfl) (dvs_cons (zv 1) dvs_nil)))
      (dss_one (ds_retR (dr_fn ((fn_made_by e).mono (by omega)) hr (by rfl) (dvs_cons (zv 0) (dvs_cons (zv 1) dvs_nil)))))))
theorem sc_sorts : FnScope ["sorter", "order"] ["sorter", "order"] (defScope s_sorts) := ⟨rfl, rfl, rfl, by decide +kernel, rfl, by decide +kernel, by decide +kernel⟩
theorem fn_sorts (e : EnvOk w mg K) : FnP P w K mg base "sorts" s_sorts 6 ["sorter", "order"] [.v, .v] φ_sorts := by
  obtain ⟨f, fd, F, hm⟩ := e.f_sorts
  refine fnP_mk (k := 5) (N := ["sorter", "order"]) F hm (F.binds (ps := ["sorter", "order"]) fun _ _ _ _ _ _ us hl => match us, hl with | [_, _], _ => rfl) sc_sorts rfl rfl fun cdv A outer s H E hr => ?_
  exact (dss_cons (ds_exprR (dr_fn ((fn_check_sorter e).mono (by omega)) hr (by rfl) (dvs_cons (zv 0) dvs_nil)))
      (dss_cons (ds_exprR (dr_fn ((fn_check_order e).mono (by omega)) hr (by rfl) (dvs_cons (zv 1) dvs_nil)))
      (dss_one (ds_retR (dr_fn ((fn_does_sort e).mono (by omega)) hr (by rfl) (dvs_cons (zv 0) (dvs_cons (zv 1) dvs_nil)))))))
theorem sc_list_of : FnScope ["sorter"] ["sorter"] (defScope s_list_of) := ⟨rfl, rfl, rfl, by decide +kernel, rfl, by decide +kernel, by decide +kernel⟩
theorem fn_list_of (e : EnvOk w mg K) : FnP P w K mg base "list_of" s_list_of 3 ["sorter"] [.v] φ_list_of := by
  obtain ⟨f, fd, F, hm⟩ := e.f_list_of
  refine fnP_mk (k := 2) (N := ["sorter"]) F hm (F.binds (ps := ["sorter"]) fun _ _ _ _ _ _ us hl => match us, hl with | [_], _ => rfl) sc_list_of rfl rfl fun cdv A outer s H E hr => ?_
  exact (dss_cons (ds_exprR (dr_fn ((fn_check_sorter e).mono (by omega)) hr (by rfl) (dvs_cons (zv 0) dvs_nil)))
      (dss_one (ds_ret (dp_itKD (by rfl) e.c_LISTS (zv 0) (fun _ _ => rfl)))))
theorem sc__law_well : FnScope ["script", "place", "cell"] ["script", "place"] (defScope s__law_well) := ⟨rfl, rfl, rfl, by decide +kernel, rfl, by decide +kernel, by decide +kernel⟩
theorem fn__law_well (e : EnvOk w mg K) : FnP P w K mg base "_law_well" s__law_well 1 ["script", "place"] [.v, .v] φ__law_well := by
  obtain ⟨f, fd, F, hm⟩ := e.f__law_well
  refine fnP_mk (k := 0) (N := ["script", "place", "cell"]) F hm (F.binds (ps := ["script", "place"]) fun _ _ _ _ _ _ us hl => match us, hl with | [_, _], _ => rfl) sc__law_well rfl rfl fun cdv A outer s H E hr => ?_
  exact (dss_cons (ds_set (i := 2) sc__law_well.nd rfl (by first | exact Or.inl rfl | exact Or.inr rfl) (dp_ifE (dt_cmp or_lt (zv 1) (dv_of (dp_callB cd_len (by rfl) e.b_len boot_len (dvs_cons (zv 0) dvs_nil))) (by rfl)) (dp_ix (ixr hr.units) (zv 0) (zv 1) (fun _ _ => rfl)) (dp_ofR (dr_bin or_add or_cat (dv_of (dp_bin or_mul (zv 1) (dv_of dp_int))) (dv_of (dp_bin or_mul (dv_of (dp_callB cd_len (by rfl) e.b_len boot_len (dvs_cons (zv 0) dvs_nil))) (dv_of dp_int)))))))
      (dss_one (ds_retO (do_lst (dps_cons (dp_callB (cd_max rfl) (by rfl) e.b_max boot_max (dvs_cons (dv_of dp_int) (dvs_cons (dv_of (dp_bin or_sub (dv_of (dp_callB cd_abs (by rfl) e.b_abs Z.boot_abs (dvs_cons (zv 2) dvs_nil))) (dv_of (dp_bin or_pow (dv_of dp_int) (dv_of dp_int))))) dvs_nil))) (dps_cons (dp_bin or_mod (dv_of (dp_callTy cd_int (by rfl) e.b_int boot_int (dvs_cons (dv_of (dp_ofR (dr_bin or_add or_cat (dv_of (dp_ofR (dr_bin or_add or_cat (dv_of (dp_bin or_mul (zv 2) (dv_of dp_int))) (dv_of (dp_bin or_mul (zv 1) (dv_of dp_int)))))) (dv_of dp_int)))) dvs_nil))) (dv_of (dp_ofR (dr_bin or_add or_cat (dv_of (dp_bin or_pow (dv_of dp_int) (dv_of dp_int))) (dv_of dp_int))))) (dps_cons dp_int dps_nil)))))))
theorem sc__law_dip : FnScope ["well", "many", "figure", "mixed"] ["well", "many"] (defScope s__law_dip) := ⟨rfl, rfl, rfl, by decide +kernel, rfl, by decide +kernel, by decide +kernel⟩
theorem fn__law_dip (e : EnvOk w mg K) : FnP P w K mg base "_law_dip" s__law_dip 1 ["well", "many"] [.m, .v] φ__law_dip := by
  obtain ⟨f, fd, F, hm⟩ := e.f__law_dip
  refine fnP_mk (k := 0) (N := ["well", "many", "figure", "mixed"]) F hm (F.binds (ps := ["well", "many"]) fun _ _ _ _ _ _ us hl => match us, hl with | [_, _], _ => rfl) sc__law_dip rfl rfl fun cdv A outer s H E hr => ?_
  exact (dss_cons (ds_if (dt_cmp or_gt (dv_of (dp_ix (ixr hr.units) (zv 0) (dv_of dp_int) (fun _ _ => rfl))) (dv_of dp_int) (by rfl)) (dss_cons (ds_set (i := 2) sc__law_dip.nd rfl (by first | exact Or.inl rfl | exact Or.inr rfl) (dp_bin or_mod (dv_of (dp_callTy cd_int (by rfl) e.b_int boot_int (dvs_cons (dv_of (dp_ix (ixr hr.units) (zv 0) (dv_of dp_int) (fun _ _ => rfl))) dvs_nil))) (zv 1)))
      (dss_cons (ds_sub (i := 0) rfl (by first | exact Or.inl rfl | exact Or.inr (Or.inl rfl) | exact Or.inr (Or.inr rfl)) (dp_bin or_div (dv_of (dp_ix (ixr hr.units) (zv 0) (dv_of dp_int) (fun _ _ => rfl))) (zv 1)) (dv_of dp_int))
      (dss_one (ds_retV (i := 2) rfl (by first | exact Or.inl rfl | exact Or.inr (Or.inl rfl) | exact Or.inr (Or.inr rfl)))))) dss_nil)
      (dss_cons (ds_sub (i := 0) rfl (by first | exact Or.inl rfl | exact Or.inr (Or.inl rfl) | exact Or.inr (Or.inr rfl)) (dp_ofR (dr_bin or_add or_cat (dv_of (dp_ix (ixr hr.units) (zv 0) (dv_of dp_int) (fun _ _ => rfl))) (dv_of dp_int))) (dv_of dp_int))
      (dss_cons (ds_set (i := 3) sc__law_dip.nd rfl (by first | exact Or.inl rfl | exact Or.inr rfl) (dp_bin or_mod (dv_of (dp_bin or_powW (dv_of (dp_callTy cd_int (by rfl) e.b_int boot_int (dvs_cons (dv_of (dp_ofR (dr_bin or_add or_cat (dv_of (dp_ix (ixr hr.units) (zv 0) (dv_of dp_int) (fun _ _ => rfl))) (dv_of (dp_bin or_mul (dv_of dp_int) (dv_of (dp_ix (ixr hr.units) (zv 0) (dv_of dp_int) (fun _ _ => rfl)))))))) dvs_nil))) (dv_of dp_int))) (dv_of (dp_ofR (dr_bin or_add or_cat (dv_of (dp_bin or_powW (dv_of dp_int) (dv_of dp_int))) (dv_of dp_int))))))
      (dss_cons (ds_set (i := 3) sc__law_dip.nd rfl (by first | exact Or.inl rfl | exact Or.inr rfl) (dp_bin or_mod (dv_of (dp_bin or_powW (dv_of (dp_callTy cd_int (by rfl) e.b_int boot_int (dvs_cons (dv_of (dp_ofR (dr_bin or_add or_cat (zv 3) (dv_of (dp_bin or_mul (dv_of dp_int) (dv_of (dp_ix (ixr hr.units) (zv 0) (dv_of dp_int) (fun _ _ => rfl)))))))) dvs_nil))) (dv_of dp_int))) (dv_of (dp_ofR (dr_bin or_add or_cat (dv_of (dp_bin or_powW (dv_of dp_int) (dv_of dp_int))) (dv_of dp_int))))))
      (dss_one (ds_ret (dp_bin or_mod (dv_of (dp_callTy cd_int (by rfl) e.b_int boot_int (dvs_cons (dv_of (dp_bin or_div (zv 3) (dv_of dp_int))) dvs_nil))) (zv 1))))))))
theorem sc__law_same : FnScope ["told", "due", "kind", "spot"] ["told", "due"] (defScope s__law_same) := ⟨rfl, rfl, rfl, by decide +kernel, rfl, by decide +kernel, by decide +kernel⟩
theorem fn__law_same (e : EnvOk w mg K) : ∀ n : Nat, FnP P w K mg base "_law_same" s__law_same (n + 1) ["told", "due"] [.v, .v] (φ__law_same n)
  | 0 => by
    obtain ⟨f, fd, F, hm⟩ := e.f__law_same
    exact fnP_bad F hm (F.binds (ps := ["told", "due"]) fun _ _ _ _ _ _ us hl => match us, hl with | [_, _], _ => rfl)
  | n + 1 => by
    have ih := fn__law_same e n
    obtain ⟨f, fd, F, hm⟩ := e.f__law_same
    refine (show n + 1 + 1 = (n + 1) + 1 by omega) ▸ fnP_mk (N := ["told", "due", "kind", "spot"]) F hm (F.binds (ps := ["told", "due"]) fun _ _ _ _ _ _ us hl => match us, hl with | [_, _], _ => rfl) sc__law_same rfl rfl fun cdv A outer s H E hr => ?_
    exact (dss_cons (ds_if (dt_cmp or_isN (zv 1) (dv_of dp_none) (by rfl)) (dss_one (ds_ret (dp_cmp or_isN (zv 0) (dv_of dp_none) (by rfl)))) dss_nil)
      (dss_cons (ds_if (dt_val (dp_isi (t := .bool) (by rfl) e.b_isinstance (zv 1) (by rfl) e.b_bool boot_bool)) (dss_one (ds_ret (dp_and (dp_isi (t := .bool) (by rfl) e.b_isinstance (zv 0) (by rfl) e.b_bool boot_bool) (dp_one (dp_cmp (or_eq hr.units) (zv 0) (zv 1) (by rfl)))))) dss_nil)
      (dss_cons (ds_if (dt_w (dw_or (dt_val (dp_isi (t := .tuple) (by rfl) e.b_isinstance (zv 1) (by rfl) e.b_tuple boot_tuple)) (dw_or1 (dt_val (dp_isi (t := .list) (by rfl) e.b_isinstance (zv 1) (by rfl) e.b_list boot_list))))) (dss_cons (ds_set (i := 2) sc__law_same.nd rfl (by first | exact Or.inl rfl | exact Or.inr rfl) (dp_ifE (dt_val (dp_isi (t := .tuple) (by rfl) e.b_isinstance (zv 1) (by rfl) e.b_tuple boot_tuple)) (dp_isi (t := .tuple) (by rfl) e.b_isinstance (zv 0) (by rfl) e.b_tuple boot_tuple) (dp_isi (t := .list) (by rfl) e.b_isinstance (zv 0) (by rfl) e.b_list boot_list)))
      (dss_cons (ds_if (dt_w (dw_or (dt_not (dt_val (dp_esc (zv 2)))) (dw_or1 (dt_cmp (or_ne hr.units) (dv_of (dp_callB cd_len (by rfl) e.b_len boot_len (dvs_cons (zv 0) dvs_nil))) (dv_of (dp_callB cd_len (by rfl) e.b_len boot_len (dvs_cons (zv 1) dvs_nil))) (by rfl))))) (dss_one (ds_ret dp_bool)) dss_nil)
      (dss_cons (ds_for [3] passX rfl (di_range1 (by rfl) e.b_range (dvs_cons (dv_of (dp_callB cd_len (by rfl) e.b_len boot_len (dvs_cons (zv 1) dvs_nil))) dvs_nil)) (dgb_any (dg_name (i := 3) sc__law_same.nd rfl (by first | exact Or.inl rfl | exact Or.inr rfl))) (dss_one (ds_if (dt_not (dt_val (dp_ofR (dr_fn ih hr (by rfl) (dvs_cons (dv_of (dp_ix (ixr hr.units) (zv 0) (zv 3) (fun _ _ => rfl))) (dvs_cons (dv_of (dp_ix (ixr hr.units) (zv 1) (zv 3) (fun _ _ => rfl))) dvs_nil)))))) (dss_one (ds_ret dp_bool)) dss_nil)))
      (dss_one (ds_ret dp_bool))))) dss_nil)
      (dss_cons (ds_if (dt_val (dp_isi (t := .str) (by rfl) e.b_isinstance (zv 1) (by rfl) e.b_str boot_str)) (dss_one (ds_ret (dp_and (dp_isi (t := .str) (by rfl) e.b_isinstance (zv 0) (by rfl) e.b_str boot_str) (dp_one (dp_cmp (or_eq hr.units) (zv 0) (zv 1) (by rfl)))))) dss_nil)
      (dss_one (ds_ret (dp_and (dp_isi (t := .int) (by rfl) e.b_isinstance (zv 0) (by rfl) e.b_int boot_int) (dp_and (dp_not (dp_isi (t := .bool) (by rfl) e.b_isinstance (zv 0) (by rfl) e.b_bool boot_bool)) (dp_one (dp_cmp (or_eq hr.units) (zv 0) (zv 1) (by rfl)))))))))))
theorem sc__law_shows : FnScope ["order", "pattern", "rows", "row", "at", "place", "k"] ["order", "pattern"] (defScope s__law_shows) := ⟨rfl, rfl, rfl, by decide +kernel, rfl, by decide +kernel, by decide +kernel⟩
theorem fn__law_shows (e : EnvOk w mg K) : FnP P w K mg base "_law_shows" s__law_shows 1 ["order", "pattern"] [.v, .v] φ__law_shows := by
  obtain ⟨f, fd, F, hm⟩ := e.f__law_shows
  refine fnP_mk (k := 0) (N := ["order", "pattern", "rows", "row", "at", "place", "k"]) F hm (F.binds (ps := ["order", "pattern"]) fun _ _ _ _ _ _ us hl => match us, hl with | [_, _], _ => rfl) sc__law_shows rfl rfl fun cdv A outer s H E hr => ?_
  exact (dss_cons (ds_setO (i := 2) sc__law_shows.nd rfl (by first | exact Or.inl rfl | exact Or.inr rfl) (do_lst (dps_cons (dp_tup dps_nil) dps_nil)))
      (dss_cons (ds_while [3, 4, 5] passX (dt_cmp (or_ne hr.units) (zv 2) (dv_of (dp_fz (do_lst dps_nil))) (by rfl)) (dss_cons (ds_set (i := 3) sc__law_shows.nd rfl (by first | exact Or.inl rfl | exact Or.inr rfl) (dp_mut0 (i := 2) rfl (by first | exact Or.inl rfl | exact Or.inr (Or.inl rfl) | exact Or.inr (Or.inr rfl)) PySem.F.slot_list_pop PySem.F.type_list_pop mr_pop))
      (dss_cons (ds_set (i := 4) sc__law_shows.nd rfl (by first | exact Or.inl rfl | exact Or.inr rfl) (dp_callB cd_len (by rfl) e.b_len boot_len (dvs_cons (zv 3) dvs_nil)))
      (dss_cons (ds_if (dt_cmp (or_eq hr.units) (zv 4) (dv_of (dp_callB cd_len (by rfl) e.b_len boot_len (dvs_cons (zv 1) dvs_nil))) (by rfl)) (dss_one (ds_ret dp_bool)) dss_nil)
      (dss_one (ds_for [5] passX rfl (di_range2 (by rfl) e.b_range (dvs_cons (dv_of (dp_ifE (dt_cmp (or_ne hr.units) (zv 3) (dv_of (dp_tup dps_nil)) (by rfl)) (dp_ofR (dr_bin or_add or_cat (dv_of (dp_ix (ixr hr.units) (zv 3) (dv_of (dp_un un_negD (dv_of dp_int))) (fun _ _ => rfl))) (dv_of dp_int))) dp_int)) (dvs_cons (dv_of (dp_ofR (dr_bin or_add or_cat (dv_of (dp_ofR (dr_bin or_add or_cat (dv_of (dp_bin or_sub (dv_of (dp_callB cd_len (by rfl) e.b_len boot_len (dvs_cons (zv 0) dvs_nil))) (dv_of (dp_callB cd_len (by rfl) e.b_len boot_len (dvs_cons (zv 1) dvs_nil))))) (zv 4)))) (dv_of dp_int)))) dvs_nil))) (dgb_any (dg_name (i := 5) sc__law_shows.nd rfl (by first | exact Or.inl rfl | exact Or.inr rfl))) (dss_one (ds_if (dt_cmp (or_eq hr.units) (dv_of (dp_fz (do_comp [("k", 6)] rfl sc__law_shows.nd (di_range1 (by rfl) e.b_range (dvs_cons (zv 4) dvs_nil)) (blkOk_by (by rfl)) (fun _ _ _ _ _ => (dgb_any (dg_name (i := 6) sc__law_shows.nd rfl (by first | exact Or.inl rfl | exact Or.inr rfl)))) (fun _ _ _ _ _ => (dts_one (dt_cmp (or_ne hr.units) (dv_of (dp_cmp or_lt (dv_of (dp_ix (ixr hr.units) (zv 0) (dv_of (dp_ix (ixr hr.units) (zv 3) (zv 6) (fun _ _ => rfl))) (fun _ _ => rfl))) (dv_of (dp_ix (ixr hr.units) (zv 0) (zv 5) (fun _ _ => rfl))) (by rfl))) (dv_of (dp_cmp or_lt (dv_of (dp_ix (ixr hr.units) (zv 1) (zv 6) (fun _ _ => rfl))) (dv_of (dp_ix (ixr hr.units) (zv 1) (zv 4) (fun _ _ => rfl))) (by rfl))) (by rfl)))) (fun _ _ _ _ _ => (dp_esc (zv 6))) (by simp [tgS, tgsS])))) (dv_of (dp_fz (do_lst dps_nil))) (by rfl)) (dss_one (ds_expr (dp_mut (i := 2) rfl (by first | exact Or.inl rfl | exact Or.inr (Or.inl rfl) | exact Or.inr (Or.inr rfl)) PySem.F.slot_list_append PySem.F.type_list_append mr_append (dps_cons (dp_ofR (dr_bin or_add or_cat (zv 3) (dv_of (dp_tup (dps_cons (dp_esc (zv 5)) dps_nil))))) dps_nil)))) dss_nil))))))))
      (dss_one (ds_ret dp_bool))))
theorem sc__law_lets : FnScope ["forbidden", "order", "pattern"] ["forbidden", "order"] (defScope s__law_lets) := ⟨rfl, rfl, rfl, by decide +kernel, rfl, by decide +kernel, by decide +kernel⟩
theorem fn__law_lets (e : EnvOk w mg K) : FnP P w K mg base "_law_lets" s__law_lets 2 ["forbidden", "order"] [.v, .v] φ__law_lets := by
  obtain ⟨f, fd, F, hm⟩ := e.f__law_lets
  refine fnP_mk (k := 1) (N := ["forbidden", "order", "pattern"]) F hm (F.binds (ps := ["forbidden", "order"]) fun _ _ _ _ _ _ us hl => match us, hl with | [_, _], _ => rfl) sc__law_lets rfl rfl fun cdv A outer s H E hr => ?_
  exact (dss_one (ds_ret (dp_cmp (or_eq hr.units) (dv_of (dp_fz (do_comp [("pattern", 2)] rfl sc__law_lets.nd (di_val (zv 0)) (blkOk_by (by rfl)) (fun _ _ _ _ _ => (dgb_any (dg_name (i := 2) sc__law_lets.nd rfl (by first | exact Or.inl rfl | exact Or.inr rfl)))) (fun _ _ _ _ _ => (dts_one (dt_val (dp_ofR (dr_fn ((fn__law_shows e).mono (by omega)) hr (by rfl) (dvs_cons (zv 1) (dvs_cons (zv 2) dvs_nil))))))) (fun _ _ _ _ _ => (dp_esc (zv 2))) (by simp [tgS, tgsS])))) (dv_of (dp_fz (do_lst dps_nil))) (by rfl))))
theorem sc__law_orders : FnScope ["n", "found", "turn", "further", "row", "number"] ["n"] (defScope s__law_orders) := ⟨rfl, rfl, rfl, by decide +kernel, rfl, by decide +kernel, by decide +kernel⟩
theorem fn__law_orders (e : EnvOk w mg K) : FnP P w K mg base "_law_orders" s__law_orders 1 ["n"] [.v] φ__law_orders := by
  obtain ⟨f, fd, F, hm⟩ := e.f__law_orders
  refine fnP_mk (k := 0) (N := ["n", "found", "turn", "further", "row", "number"]) F hm (F.binds (ps := ["n"]) fun _ _ _ _ _ _ us hl => match us, hl with | [_], _ => rfl) sc__law_orders rfl rfl fun cdv A outer s H E hr => ?_
  exact (dss_cons (ds_setO (i := 1) sc__law_orders.nd rfl (by first | exact Or.inl rfl | exact Or.inr rfl) (do_lst (dps_cons (dp_tup dps_nil) dps_nil)))
      (dss_cons (ds_for [2, 3, 4] passX rfl (di_range1 (by rfl) e.b_range (dvs_cons (zv 0) dvs_nil)) (dgb_any (dg_name (i := 2) sc__law_orders.nd rfl (by first | exact Or.inl rfl | exact Or.inr rfl))) (dss_cons (ds_setO (i := 3) sc__law_orders.nd rfl (by first | exact Or.inl rfl | exact Or.inr rfl) (do_lst dps_nil))
      (dss_cons (ds_for [4] passX rfl (di_val (zv 1)) (dgb_any (dg_name (i := 4) sc__law_orders.nd rfl (by first | exact Or.inl rfl | exact Or.inr rfl))) (dss_one (ds_setR (i := 3) sc__law_orders.nd rfl (by first | exact Or.inl rfl | exact Or.inr rfl) (dr_bin or_add or_cat (zv 3) (dv_of (dp_fz (do_comp [("number", 5)] rfl sc__law_orders.nd (di_range2 (by rfl) e.b_range (dvs_cons (dv_of dp_int) (dvs_cons (dv_of (dp_ofR (dr_bin or_add or_cat (zv 0) (dv_of dp_int)))) dvs_nil))) (blkOk_by (by rfl)) (fun _ _ _ _ _ => (dgb_any (dg_name (i := 5) sc__law_orders.nd rfl (by first | exact Or.inl rfl | exact Or.inr rfl)))) (fun _ _ _ _ _ => (dts_one (dt_cmp (or_notIn hr.units) (zv 5) (zv 4) (by rfl)))) (fun _ _ _ _ _ => (dp_ofR (dr_bin or_add or_cat (zv 4) (dv_of (dp_tup (dps_cons (dp_esc (zv 5)) dps_nil)))))) (by simp [tgS, tgsS]))))))))
      (dss_one (ds_move (i := 1) (j := 3) sc__law_orders.nd rfl (by first | exact Or.inl rfl | exact Or.inr rfl) rfl (by first | exact Or.inl rfl | exact Or.inr (Or.inl rfl) | exact Or.inr (Or.inr rfl)))))))
      (dss_one (ds_retV (i := 1) rfl (by first | exact Or.inl rfl | exact Or.inr (Or.inl rfl) | exact Or.inr (Or.inr rfl))))))
theorem sc__law_lists : FnScope ["found"] [] (defScope s__law_lists) := ⟨rfl, rfl, rfl, by decide +kernel, rfl, by decide +kernel, by decide +kernel⟩
theorem fn__law_lists (e : EnvOk w mg K) : FnP P w K mg base "_law_lists" s__law_lists 1 [] [] φ__law_lists := by
  obtain ⟨f, fd, F, hm⟩ := e.f__law_lists
  refine fnP_mk (k := 0) (N := ["found"]) F hm (F.binds (ps := []) fun _ _ _ _ _ _ us hl => match us, hl with | [], _ => rfl) sc__law_lists rfl rfl fun cdv A outer s H E hr => ?_
  exact (dss_cons (ds_setO (i := 0) sc__law_lists.nd rfl (by first | exact Or.inl rfl | exact Or.inr rfl) (do_lst (dps_cons (dp_tup (dps_cons dp_str (dps_cons (dp_tup (dps_cons (dp_tup (dps_cons dp_int (dps_cons dp_int (dps_cons dp_int dps_nil)))) dps_nil)) dps_nil))) (dps_cons (dp_tup (dps_cons dp_str (dps_cons (dp_tup (dps_cons (dp_tup (dps_cons dp_int (dps_cons dp_int (dps_cons dp_int dps_nil)))) (dps_cons (dp_tup (dps_cons dp_int (dps_cons dp_int (dps_cons dp_int dps_nil)))) dps_nil))) dps_nil))) dps_nil))))
      (dss_one (ds_retR (dr_bin or_add or_cat (zv 0) (dv_of (dp_fz (do_lst (dps_cons (dp_tup (dps_cons dp_str (dps_cons (dp_tup (dps_cons (dp_tup (dps_cons dp_int (dps_cons dp_int (dps_cons dp_int dps_nil)))) dps_nil)) dps_nil))) (dps_cons (dp_tup (dps_cons dp_str (dps_cons (dp_tup (dps_cons (dp_tup (dps_cons dp_int (dps_cons dp_int (dps_cons dp_int dps_nil)))) (dps_cons (dp_tup (dps_cons dp_int (dps_cons dp_int (dps_cons dp_int dps_nil)))) dps_nil))) dps_nil))) dps_nil)))))))))
theorem sc__law_let : FnScope ["well", "forbidden", "n", "order", "size", "places", "first", "found", "turn", "at", "height", "row", "number"] ["well", "forbidden", "n"] (defScope s__law_let) := ⟨rfl, rfl, rfl, by decide +kernel, rfl, by decide +kernel, by decide +kernel⟩
theorem fn__law_let (e : EnvOk w mg K) : FnP P w K mg base "_law_let" s__law_let 3 ["well", "forbidden", "n"] [.m, .v, .v] φ__law_let := by
  obtain ⟨f, fd, F, hm⟩ := e.f__law_let
  refine fnP_mk (k := 2) (N := ["well", "forbidden", "n", "order", "size", "places", "first", "found", "turn", "at", "height", "row", "number"]) F hm (F.binds (ps := ["well", "forbidden", "n"]) fun _ _ _ _ _ _ us hl => match us, hl with | [_, _, _], _ => rfl) sc__law_let rfl rfl fun cdv A outer s H E hr => ?_
  exact (dss_cons (ds_set (i := 3) sc__law_let.nd rfl (by first | exact Or.inl rfl | exact Or.inr rfl) (dp_tup dps_nil))
      (dss_cons (ds_for [4, 5, 6, 7, 8, 9, 10, 11] passX rfl (di_range2 (by rfl) e.b_range (dvs_cons (dv_of dp_int) (dvs_cons (dv_of (dp_ofR (dr_bin or_add or_cat (zv 2) (dv_of dp_int)))) dvs_nil))) (dgb_any (dg_name (i := 4) sc__law_let.nd rfl (by first | exact Or.inl rfl | exact Or.inr rfl))) (dss_cons (ds_par (i := 5) (j := 6) rfl sc__law_let.nd rfl rfl (by decide) rfl rfl (dms_o (do_lstRg rfl (by rfl) e.b_list (drg1 (by rfl) e.b_range (zv 4))) (dms_r (dr_fn ((fn__law_dip e).mono (by omega)) hr (by rfl) (dvs_cons (zv 0) (dvs_cons (zv 4) dvs_nil))) dms_nil)))
      (dss_cons (ds_setO (i := 7) sc__law_let.nd rfl (by first | exact Or.inl rfl | exact Or.inr rfl) (do_lst dps_nil))
      (dss_cons (ds_for [8, 9, 10, 11] passX rfl (di_range1 (by rfl) e.b_range (dvs_cons (zv 4) dvs_nil)) (dgb_any (dg_name (i := 8) sc__law_let.nd rfl (by first | exact Or.inl rfl | exact Or.inr rfl))) (dss_cons (ds_set (i := 9) sc__law_let.nd rfl (by first | exact Or.inl rfl | exact Or.inr rfl) (dp_ix (ixr hr.units) (zv 5) (dv_of (dp_bin or_mod (dv_of (dp_callTy cd_int (by rfl) e.b_int boot_int (dvs_cons (dv_of (dp_ofR (dr_bin or_add or_cat (zv 6) (zv 8)))) dvs_nil))) (zv 4))) (fun _ _ => rfl)))
      (dss_one (ds_for [10, 11] passX rfl (di_own (do_lst (dps_cons (dp_esc (zv 4)) (dps_cons dp_int (dps_cons (dp_ofR (dr_bin or_add or_cat (dv_of dp_int) (dv_of (dp_ofR (dr_fn ((fn__law_dip e).mono (by omega)) hr (by rfl) (dvs_cons (zv 0) (dvs_cons (zv 4) dvs_nil))))))) dps_nil))))) (dgb_any (dg_name (i := 10) sc__law_let.nd rfl (by first | exact Or.inl rfl | exact Or.inr rfl))) (dss_cons (ds_set (i := 11) sc__law_let.nd rfl (by first | exact Or.inl rfl | exact Or.inr rfl) (dp_callTy cd_tuple (by rfl) e.b_tuple boot_tuple (dvs_cons (dv_of (dp_fz (do_comp [("number", 12)] rfl sc__law_let.nd (di_val (zv 3)) (blkOk_by (by rfl)) (fun _ _ _ _ _ => (dgb_any (dg_name (i := 12) sc__law_let.nd rfl (by first | exact Or.inl rfl | exact Or.inr rfl)))) (fun _ _ _ _ _ => dts_nil) (fun _ _ _ _ _ => (dp_ofR (dr_bin or_add or_cat (zv 12) (dv_of (dp_callTy cd_int (by rfl) e.b_int boot_int (dvs_cons (dv_of (dp_cmp or_ge (zv 12) (zv 10) (by rfl))) dvs_nil)))))) (by simp [tgS, tgsS])))) dvs_nil)))
      (dss_cons (ds_setR (i := 11) sc__law_let.nd rfl (by first | exact Or.inl rfl | exact Or.inr rfl) (dr_bin or_add or_cat (dv_of (dp_ofR (dr_bin or_add or_cat (dv_of (dp_ofR (dr_cut (zv 11) dpo_none (dpo_some (dp_esc (zv 9)))))) (dv_of (dp_tup (dps_cons (dp_esc (zv 10)) dps_nil)))))) (dv_of (dp_ofR (dr_cut (zv 11) (dpo_some (dp_esc (zv 9))) dpo_none)))))
      (dss_one (ds_if (dt_w (dw_and (dt_cmp (or_eq hr.units) (zv 7) (dv_of (dp_fz (do_lst dps_nil))) (by rfl)) (dw_and1 (dt_val (dp_ofR (dr_fn ((fn__law_lets e).mono (by omega)) hr (by rfl) (dvs_cons (zv 1) (dvs_cons (zv 11) dvs_nil)))))))) (dss_one (ds_setO (i := 7) sc__law_let.nd rfl (by first | exact Or.inl rfl | exact Or.inr rfl) (do_lst (dps_cons (dp_esc (zv 11)) dps_nil)))) dss_nil))))))))
      (dss_one (ds_set (i := 3) sc__law_let.nd rfl (by first | exact Or.inl rfl | exact Or.inr rfl) (dp_ifE (dt_cmp (or_ne hr.units) (zv 7) (dv_of (dp_fz (do_lst dps_nil))) (by rfl)) (dp_ix (ixr hr.units) (zv 7) (dv_of dp_int) (fun _ _ => rfl)) (dp_ofR (dr_bin or_add or_cat (zv 3) (dv_of (dp_tup (dps_cons (dp_esc (zv 4)) dps_nil))))))))))))
      (dss_one (ds_retV (i := 3) rfl (by first | exact Or.inl rfl | exact Or.inr (Or.inl rfl) | exact Or.inr (Or.inr rfl))))))
theorem sc__law_exchanged : FnScope ["order", "at", "other", "things"] ["order", "at", "other"] (defScope s__law_exchanged) := ⟨rfl, rfl, rfl, by decide +kernel, rfl, by decide +kernel, by decide +kernel⟩
theorem fn__law_exchanged (e : EnvOk w mg K) : FnP P w K mg base "_law_exchanged" s__law_exchanged 1 ["order", "at", "other"] [.v, .v, .v] φ__law_exchanged := by
  obtain ⟨f, fd, F, hm⟩ := e.f__law_exchanged
  refine fnP_mk (k := 0) (N := ["order", "at", "other", "things"]) F hm (F.binds (ps := ["order", "at", "other"]) fun _ _ _ _ _ _ us hl => match us, hl with | [_, _, _], _ => rfl) sc__law_exchanged rfl rfl fun cdv A outer s H E hr => ?_
  exact (dss_cons (ds_setO (i := 3) sc__law_exchanged.nd rfl (by first | exact Or.inl rfl | exact Or.inr rfl) (do_callTy cd_list (by rfl) e.b_list boot_list (dvs_cons (zv 0) dvs_nil)))
      (dss_cons (ds_sub (i := 3) rfl (by first | exact Or.inl rfl | exact Or.inr (Or.inl rfl) | exact Or.inr (Or.inr rfl)) (dp_ix (ixr hr.units) (zv 0) (zv 2) (fun _ _ => rfl)) (zv 1))
      (dss_cons (ds_sub (i := 3) rfl (by first | exact Or.inl rfl | exact Or.inr (Or.inl rfl) | exact Or.inr (Or.inr rfl)) (dp_ix (ixr hr.units) (zv 0) (zv 1) (fun _ _ => rfl)) (zv 2))
      (dss_one (ds_ret (dp_callTy cd_tuple (by rfl) e.b_tuple boot_tuple (dvs_cons (zv 3) dvs_nil)))))))
theorem sc__law_right : FnScope ["sorter", "forbidden", "order", "due"] ["sorter", "forbidden", "order"] (defScope s__law_right) := ⟨rfl, rfl, rfl, by decide +kernel, rfl, by decide +kernel, by decide +kernel⟩
theorem fn__law_right (e : EnvOk w mg K) : FnP P w K mg base "_law_right" s__law_right 7 ["sorter", "forbidden", "order"] [.v, .v, .v] φ__law_right := by
  obtain ⟨f, fd, F, hm⟩ := e.f__law_right
  refine fnP_mk (k := 6) (N := ["sorter", "forbidden", "order", "due"]) F hm (F.binds (ps := ["sorter", "forbidden", "order"]) fun _ _ _ _ _ _ us hl => match us, hl with | [_, _, _], _ => rfl) sc__law_right rfl rfl fun cdv A outer s H E hr => ?_
  exact (dss_cons (ds_setR (i := 3) sc__law_right.nd rfl (by first | exact Or.inl rfl | exact Or.inr rfl) (dr_fn ((fn__law_lets e).mono (by omega)) hr (by rfl) (dvs_cons (zv 1) (dvs_cons (zv 2) dvs_nil))))
      (dss_cons (ds_if (dt_not (dt_val (dp_ofR (dr_fn ((fn__law_same e 4).mono (by omega)) hr (by rfl) (dvs_cons (dv_of (dp_fz (do_lst (dps_cons (dp_ofR (dr_fn ((fn_sorts e).mono (by omega)) hr (by rfl) (dvs_cons (zv 0) (dvs_cons (zv 2) dvs_nil)))) (dps_cons (dp_ofR (dr_fnK0 ((fn_sorts e).mono (by omega)) hr (by rfl) ["order", "sorter"] [1, 0] (dks_cons (zv 2) (dks_cons (zv 0) dks_nil)) (fun _ _ _ _ _ _ _ ws hl => match ws, hl with | [_, _], _ => rfl) (hln := fun W σ H Q _ q => len_zt (len_cons (len_cons len_nil)) q))) dps_nil))))) (dvs_cons (dv_of (dp_fz (do_lst (dps_cons (dp_esc (zv 3)) (dps_cons (dp_esc (zv 3)) dps_nil))))) dvs_nil)))))) (dss_one (ds_ret dp_bool)) dss_nil)
      (dss_one (ds_ret (dp_or (dp_not (dp_esc (zv 3))) (dp_one (dp_ofR (dr_fn ((fn__law_same e 4).mono (by omega)) hr (by rfl) (dvs_cons (dv_of (dp_ofR (dr_fn ((fn_made e).mono (by omega)) hr (by rfl) (dvs_cons (zv 0) (dvs_cons (zv 2) dvs_nil))))) (dvs_cons (dv_of (dp_tupRg rfl (by rfl) e.b_tuple (drg2 (by rfl) e.b_range (dv_of dp_int) (dv_of (dp_ofR (dr_bin or_add or_cat (dv_of (dp_callB cd_len (by rfl) e.b_len boot_len (dvs_cons (zv 2) dvs_nil))) (dv_of dp_int))))))) dvs_nil))))))))))
theorem sc_law : FnScope ["script", "sorter", "forbidden", "n", "order", "spot", "well", "at", "other"] ["script"] (defScope s_law) := ⟨rfl, rfl, rfl, by decide +kernel, rfl, by decide +kernel, by decide +kernel⟩
theorem fn_law (e : EnvOk w mg K) : FnP P w K mg base "law" s_law 8 ["script"] [.v] φ_law := by
  obtain ⟨f, fd, F, hm⟩ := e.f_law
  refine fnP_mk (k := 7) (N := ["script", "sorter", "forbidden", "n", "order", "spot", "well", "at", "other"]) F hm (F.binds (ps := ["script"]) fun _ _ _ _ _ _ us hl => match us, hl with | [_], _ => rfl) sc_law rfl rfl fun cdv A outer s H E hr => ?_
  exact (dss_cons (ds_for [1, 2, 3] passX rfl (di_val (dv_of (dp_ofR (dr_fn0 ((fn__law_lists e).mono (by omega)) hr (by rfl))))) (dgb_any (dg_tup rfl (dgs_cons (dg_name (i := 1) sc_law.nd rfl (by first | exact Or.inl rfl | exact Or.inr rfl)) (dgs_cons (dg_name (i := 2) sc_law.nd rfl (by first | exact Or.inl rfl | exact Or.inr rfl)) dgs_nil)))) (dss_cons (ds_if (dt_not (dt_val (dp_ofR (dr_fn ((fn__law_same e 4).mono (by omega)) hr (by rfl) (dvs_cons (dv_of (dp_fz (do_lst (dps_cons (dp_ofR (dr_fn ((fn_list_of e).mono (by omega)) hr (by rfl) (dvs_cons (zv 1) dvs_nil))) (dps_cons (dp_ofR (dr_fnK0 ((fn_list_of e).mono (by omega)) hr (by rfl) ["sorter"] [0] (dks_cons (zv 1) dks_nil) (fun _ _ _ _ _ _ _ ws hl => match ws, hl with | [_], _ => rfl) (hln := fun W σ H Q _ q => len_zt (len_cons len_nil) q))) dps_nil))))) (dvs_cons (dv_of (dp_fz (do_lst (dps_cons (dp_esc (zv 2)) (dps_cons (dp_esc (zv 2)) dps_nil))))) dvs_nil)))))) (dss_one (ds_ret dp_bool)) dss_nil)
      (dss_one (ds_for [3] passX rfl (di_range1 (by rfl) e.b_range (dvs_cons (dv_of dp_int) dvs_nil)) (dgb_any (dg_name (i := 3) sc_law.nd rfl (by first | exact Or.inl rfl | exact Or.inr rfl))) (dss_one (ds_for [] passX rfl (di_val (dv_of (dp_ofR (dr_fn ((fn__law_orders e).mono (by omega)) hr (by rfl) (dvs_cons (zv 3) dvs_nil))))) (dgb_any (dg_name (i := 4) sc_law.nd rfl (by first | exact Or.inl rfl | exact Or.inr rfl))) (dss_one (ds_if (dt_not (dt_val (dp_ofR (dr_fn ((fn__law_right e).mono (by omega)) hr (by rfl) (dvs_cons (zv 1) (dvs_cons (zv 2) (dvs_cons (zv 4) dvs_nil))))))) (dss_one (ds_ret dp_bool)) dss_nil))))))))
      (dss_cons (ds_for [5, 6, 7, 8] passX rfl (di_range1 (by rfl) e.b_range (dvs_cons (dv_of (dp_callB (cd_max rfl) (by rfl) e.b_max boot_max (dvs_cons (dv_of dp_int) (dvs_cons (dv_of (dp_callB (cd_min rfl) (by rfl) e.b_min boot_min (dvs_cons (dv_of dp_int) (dvs_cons (dv_of (dp_callB cd_len (by rfl) e.b_len boot_len (dvs_cons (zv 0) dvs_nil))) dvs_nil)))) dvs_nil)))) dvs_nil)) (dgb_any (dg_name (i := 5) sc_law.nd rfl (by first | exact Or.inl rfl | exact Or.inr rfl))) (dss_cons (ds_setR (i := 6) sc_law.nd rfl (by first | exact Or.inl rfl | exact Or.inr rfl) (dr_fn ((fn__law_well e).mono (by omega)) hr (by rfl) (dvs_cons (zv 0) (dvs_cons (zv 5) dvs_nil))))
      (dss_one (ds_for [1, 2, 7, 8] passX rfl (di_val (dv_of (dp_ofR (dr_fn0 ((fn__law_lists e).mono (by omega)) hr (by rfl))))) (dgb_any (dg_tup rfl (dgs_cons (dg_name (i := 1) sc_law.nd rfl (by first | exact Or.inl rfl | exact Or.inr rfl)) (dgs_cons (dg_name (i := 2) sc_law.nd rfl (by first | exact Or.inl rfl | exact Or.inr rfl)) dgs_nil)))) (dss_cons (ds_setR (i := 4) sc_law.nd rfl (by first | exact Or.inl rfl | exact Or.inr rfl) (dr_fn ((fn__law_let e).mono (by omega)) hr (by rfl) (dvs_cons (zv 6) (dvs_cons (zv 2) (dvs_cons (dv_of (dp_ofR (dr_bin or_add or_cat (dv_of dp_int) (dv_of (dp_ofR (dr_fn ((fn__law_dip e).mono (by omega)) hr (by rfl) (dvs_cons (zv 6) (dvs_cons (dv_of dp_int) dvs_nil)))))))) dvs_nil)))))
      (dss_cons (ds_if (dt_not (dt_val (dp_ofR (dr_fn ((fn__law_right e).mono (by omega)) hr (by rfl) (dvs_cons (zv 1) (dvs_cons (zv 2) (dvs_cons (zv 4) dvs_nil))))))) (dss_one (ds_ret dp_bool)) dss_nil)
      (dss_cons (ds_unpL rfl (dgs_cons (dg_name (i := 7) sc_law.nd rfl (by first | exact Or.inl rfl | exact Or.inr rfl)) (dgs_cons (dg_name (i := 8) sc_law.nd rfl (by first | exact Or.inl rfl | exact Or.inr rfl)) dgs_nil)) (dp_fz (do_callB (cd_sorted hr.units) (by rfl) e.b_sorted boot_sorted (dvs_cons (dv_of (dp_fz (do_lst (dps_cons (dp_ofR (dr_fn ((fn__law_dip e).mono (by omega)) hr (by rfl) (dvs_cons (zv 6) (dvs_cons (dv_of (dp_callB cd_len (by rfl) e.b_len boot_len (dvs_cons (zv 4) dvs_nil))) dvs_nil)))) (dps_cons (dp_ofR (dr_fn ((fn__law_dip e).mono (by omega)) hr (by rfl) (dvs_cons (zv 6) (dvs_cons (dv_of (dp_callB cd_len (by rfl) e.b_len boot_len (dvs_cons (zv 4) dvs_nil))) dvs_nil)))) dps_nil))))) dvs_nil))))
      (dss_one (ds_if (dt_not (dt_val (dp_ofR (dr_fn ((fn__law_right e).mono (by omega)) hr (by rfl) (dvs_cons (zv 1) (dvs_cons (zv 2) (dvs_cons (dv_of (dp_ofR (dr_fn ((fn__law_exchanged e).mono (by omega)) hr (by rfl) (dvs_cons (zv 4) (dvs_cons (zv 7) (dvs_cons (zv 8) dvs_nil)))))) dvs_nil))))))) (dss_one (ds_ret dp_bool)) dss_nil)))))))))
      (dss_one (ds_ret dp_bool))))
end
theorem all_mk {w : World} {K : PySem.W.Frag} {h : Heap} {mg : Str → Option Value} {fa : Addr} (X : K.In h) (G : h.Ns mainGlobals mg) (hfa : mg "law" = some (.ref fa)) (main : ∀ ns : List Int, ns.length ≤ 63 → φ_law [.list (ns.map PyData.int)] = .ret (.d (.bool true)) [])
    {od0 an0 : Option Addr} {f0 : Addr} {sl0 : Array (Option Value)} {oc0 kV0 dc0 pm0 cd0 ct0 : Value} (a0 : PySem.W.nsIn K mainGlobals "is_integer" = some (some (.ref f0))) (l0 : K.lookup f0 = some ⟨oc0, od0, .func (PySem.W.fnOf "is_integer" "is_integer" (defArgs s_is_integer) (defBody s_is_integer) (defScope s_is_integer) .none kV0 dc0 pm0 an0 cd0 ct0), sl0⟩) (c0 : PySem.W.codeIn K cd0 "is_integer" = true) (k0 : PySem.W.keepIn K (.ref f0) = true)
    {od1 an1 : Option Addr} {f1 : Addr} {sl1 : Array (Option Value)} {oc1 kV1 dc1 pm1 cd1 ct1 : Value} (a1 : PySem.W.nsIn K mainGlobals "are_integers" = some (some (.ref f1))) (l1 : K.lookup f1 = some ⟨oc1, od1, .func (PySem.W.fnOf "are_integers" "are_integers" (defArgs s_are_integers) (defBody s_are_integers) (defScope s_are_integers) .none kV1 dc1 pm1 an1 cd1 ct1), sl1⟩) (c1 : PySem.W.codeIn K cd1 "are_integers" = true) (k1 : PySem.W.keepIn K (.ref f1) = true)
    {od2 an2 : Option Addr} {f2 : Addr} {sl2 : Array (Option Value)} {oc2 kV2 dc2 pm2 cd2 ct2 : Value} (a2 : PySem.W.nsIn K mainGlobals "is_order_of" = some (some (.ref f2))) (l2 : K.lookup f2 = some ⟨oc2, od2, .func (PySem.W.fnOf "is_order_of" "is_order_of" (defArgs s_is_order_of) (defBody s_is_order_of) (defScope s_is_order_of) .none kV2 dc2 pm2 an2 cd2 ct2), sl2⟩) (c2 : PySem.W.codeIn K cd2 "is_order_of" = true) (k2 : PySem.W.keepIn K (.ref f2) = true)
    {od3 an3 : Option Addr} {f3 : Addr} {sl3 : Array (Option Value)} {oc3 kV3 dc3 pm3 cd3 ct3 : Value} (a3 : PySem.W.nsIn K mainGlobals "is_order" = some (some (.ref f3))) (l3 : K.lookup f3 = some ⟨oc3, od3, .func (PySem.W.fnOf "is_order" "is_order" (defArgs s_is_order) (defBody s_is_order) (defScope s_is_order) .none kV3 dc3 pm3 an3 cd3 ct3), sl3⟩) (c3 : PySem.W.codeIn K cd3 "is_order" = true) (k3 : PySem.W.keepIn K (.ref f3) = true)
    {od4 an4 : Option Addr} {f4 : Addr} {sl4 : Array (Option Value)} {oc4 kV4 dc4 pm4 cd4 ct4 : Value} (a4 : PySem.W.nsIn K mainGlobals "is_sorter" = some (some (.ref f4))) (l4 : K.lookup f4 = some ⟨oc4, od4, .func (PySem.W.fnOf "is_sorter" "is_sorter" (defArgs s_is_sorter) (defBody s_is_sorter) (defScope s_is_sorter) .none kV4 dc4 pm4 an4 cd4 ct4), sl4⟩) (c4 : PySem.W.codeIn K cd4 "is_sorter" = true) (k4 : PySem.W.keepIn K (.ref f4) = true)
    {od5 an5 : Option Addr} {f5 : Addr} {sl5 : Array (Option Value)} {oc5 kV5 dc5 pm5 cd5 ct5 : Value} (a5 : PySem.W.nsIn K mainGlobals "check_sorter" = some (some (.ref f5))) (l5 : K.lookup f5 = some ⟨oc5, od5, .func (PySem.W.fnOf "check_sorter" "check_sorter" (defArgs s_check_sorter) (defBody s_check_sorter) (defScope s_check_sorter) .none kV5 dc5 pm5 an5 cd5 ct5), sl5⟩) (c5 : PySem.W.codeIn K cd5 "check_sorter" = true) (k5 : PySem.W.keepIn K (.ref f5) = true)
    {od6 an6 : Option Addr} {f6 : Addr} {sl6 : Array (Option Value)} {oc6 kV6 dc6 pm6 cd6 ct6 : Value} (a6 : PySem.W.nsIn K mainGlobals "check_order" = some (some (.ref f6))) (l6 : K.lookup f6 = some ⟨oc6, od6, .func (PySem.W.fnOf "check_order" "check_order" (defArgs s_check_order) (defBody s_check_order) (defScope s_check_order) .none kV6 dc6 pm6 an6 cd6 ct6), sl6⟩) (c6 : PySem.W.codeIn K cd6 "check_order" = true) (k6 : PySem.W.keepIn K (.ref f6) = true)
    {od7 an7 : Option Addr} {f7 : Addr} {sl7 : Array (Option Value)} {oc7 kV7 dc7 pm7 cd7 ct7 : Value} (a7 : PySem.W.nsIn K mainGlobals "by_stack" = some (some (.ref f7))) (l7 : K.lookup f7 = some ⟨oc7, od7, .func (PySem.W.fnOf "by_stack" "by_stack" (defArgs s_by_stack) (defBody s_by_stack) (defScope s_by_stack) .none kV7 dc7 pm7 an7 cd7 ct7), sl7⟩) (c7 : PySem.W.codeIn K cd7 "by_stack" = true) (k7 : PySem.W.keepIn K (.ref f7) = true)
    {od8 an8 : Option Addr} {f8 : Addr} {sl8 : Array (Option Value)} {oc8 kV8 dc8 pm8 cd8 ct8 : Value} (a8 : PySem.W.nsIn K mainGlobals "by_popper" = some (some (.ref f8))) (l8 : K.lookup f8 = some ⟨oc8, od8, .func (PySem.W.fnOf "by_popper" "by_popper" (defArgs s_by_popper) (defBody s_by_popper) (defScope s_by_popper) .none kV8 dc8 pm8 an8 cd8 ct8), sl8⟩) (c8 : PySem.W.codeIn K cd8 "by_popper" = true) (k8 : PySem.W.keepIn K (.ref f8) = true)
    {od9 an9 : Option Addr} {f9 : Addr} {sl9 : Array (Option Value)} {oc9 kV9 dc9 pm9 cd9 ct9 : Value} (a9 : PySem.W.nsIn K mainGlobals "merged" = some (some (.ref f9))) (l9 : K.lookup f9 = some ⟨oc9, od9, .func (PySem.W.fnOf "merged" "merged" (defArgs s_merged) (defBody s_merged) (defScope s_merged) .none kV9 dc9 pm9 an9 cd9 ct9), sl9⟩) (c9 : PySem.W.codeIn K cd9 "merged" = true) (k9 : PySem.W.keepIn K (.ref f9) = true)
    {od10 an10 : Option Addr} {f10 : Addr} {sl10 : Array (Option Value)} {oc10 kV10 dc10 pm10 cd10 ct10 : Value} (a10 : PySem.W.nsIn K mainGlobals "by_queues" = some (some (.ref f10))) (l10 : K.lookup f10 = some ⟨oc10, od10, .func (PySem.W.fnOf "by_queues" "by_queues" (defArgs s_by_queues) (defBody s_by_queues) (defScope s_by_queues) .none kV10 dc10 pm10 an10 cd10 ct10), sl10⟩) (c10 : PySem.W.codeIn K cd10 "by_queues" = true) (k10 : PySem.W.keepIn K (.ref f10) = true)
    {od11 an11 : Option Addr} {f11 : Addr} {sl11 : Array (Option Value)} {oc11 kV11 dc11 pm11 cd11 ct11 : Value} (a11 : PySem.W.nsIn K mainGlobals "by_bubble" = some (some (.ref f11))) (l11 : K.lookup f11 = some ⟨oc11, od11, .func (PySem.W.fnOf "by_bubble" "by_bubble" (defArgs s_by_bubble) (defBody s_by_bubble) (defScope s_by_bubble) .none kV11 dc11 pm11 an11 cd11 ct11), sl11⟩) (c11 : PySem.W.codeIn K cd11 "by_bubble" = true) (k11 : PySem.W.keepIn K (.ref f11) = true)
    {od12 an12 : Option Addr} {f12 : Addr} {sl12 : Array (Option Value)} {oc12 kV12 dc12 pm12 cd12 ct12 : Value} (a12 : PySem.W.nsIn K mainGlobals "made_by" = some (some (.ref f12))) (l12 : K.lookup f12 = some ⟨oc12, od12, .func (PySem.W.fnOf "made_by" "made_by" (defArgs s_made_by) (defBody s_made_by) (defScope s_made_by) .none kV12 dc12 pm12 an12 cd12 ct12), sl12⟩) (c12 : PySem.W.codeIn K cd12 "made_by" = true) (k12 : PySem.W.keepIn K (.ref f12) = true)
    {od13 an13 : Option Addr} {f13 : Addr} {sl13 : Array (Option Value)} {oc13 kV13 dc13 pm13 cd13 ct13 : Value} (a13 : PySem.W.nsIn K mainGlobals "risen" = some (some (.ref f13))) (l13 : K.lookup f13 = some ⟨oc13, od13, .func (PySem.W.fnOf "risen" "risen" (defArgs s_risen) (defBody s_risen) (defScope s_risen) .none kV13 dc13 pm13 an13 cd13 ct13), sl13⟩) (c13 : PySem.W.codeIn K cd13 "risen" = true) (k13 : PySem.W.keepIn K (.ref f13) = true)
    {od14 an14 : Option Addr} {f14 : Addr} {sl14 : Array (Option Value)} {oc14 kV14 dc14 pm14 cd14 ct14 : Value} (a14 : PySem.W.nsIn K mainGlobals "does_sort" = some (some (.ref f14))) (l14 : K.lookup f14 = some ⟨oc14, od14, .func (PySem.W.fnOf "does_sort" "does_sort" (defArgs s_does_sort) (defBody s_does_sort) (defScope s_does_sort) .none kV14 dc14 pm14 an14 cd14 ct14), sl14⟩) (c14 : PySem.W.codeIn K cd14 "does_sort" = true) (k14 : PySem.W.keepIn K (.ref f14) = true)
    {od15 an15 : Option Addr} {f15 : Addr} {sl15 : Array (Option Value)} {oc15 kV15 dc15 pm15 cd15 ct15 : Value} (a15 : PySem.W.nsIn K mainGlobals "made" = some (some (.ref f15))) (l15 : K.lookup f15 = some ⟨oc15, od15, .func (PySem.W.fnOf "made" "made" (defArgs s_made) (defBody s_made) (defScope s_made) .none kV15 dc15 pm15 an15 cd15 ct15), sl15⟩) (c15 : PySem.W.codeIn K cd15 "made" = true) (k15 : PySem.W.keepIn K (.ref f15) = true)
    {od16 an16 : Option Addr} {f16 : Addr} {sl16 : Array (Option Value)} {oc16 kV16 dc16 pm16 cd16 ct16 : Value} (a16 : PySem.W.nsIn K mainGlobals "sorts" = some (some (.ref f16))) (l16 : K.lookup f16 = some ⟨oc16, od16, .func (PySem.W.fnOf "sorts" "sorts" (defArgs s_sorts) (defBody s_sorts) (defScope s_sorts) .none kV16 dc16 pm16 an16 cd16 ct16), sl16⟩) (c16 : PySem.W.codeIn K cd16 "sorts" = true) (k16 : PySem.W.keepIn K (.ref f16) = true)
    {od17 an17 : Option Addr} {f17 : Addr} {sl17 : Array (Option Value)} {oc17 kV17 dc17 pm17 cd17 ct17 : Value} (a17 : PySem.W.nsIn K mainGlobals "list_of" = some (some (.ref f17))) (l17 : K.lookup f17 = some ⟨oc17, od17, .func (PySem.W.fnOf "list_of" "list_of" (defArgs s_list_of) (defBody s_list_of) (defScope s_list_of) .none kV17 dc17 pm17 an17 cd17 ct17), sl17⟩) (c17 : PySem.W.codeIn K cd17 "list_of" = true) (k17 : PySem.W.keepIn K (.ref f17) = true)
    {od18 an18 : Option Addr} {f18 : Addr} {sl18 : Array (Option Value)} {oc18 kV18 dc18 pm18 cd18 ct18 : Value} (a18 : PySem.W.nsIn K mainGlobals "_law_well" = some (some (.ref f18))) (l18 : K.lookup f18 = some ⟨oc18, od18, .func (PySem.W.fnOf "_law_well" "_law_well" (defArgs s__law_well) (defBody s__law_well) (defScope s__law_well) .none kV18 dc18 pm18 an18 cd18 ct18), sl18⟩) (c18 : PySem.W.codeIn K cd18 "_law_well" = true) (k18 : PySem.W.keepIn K (.ref f18) = true)
    {od19 an19 : Option Addr} {f19 : Addr} {sl19 : Array (Option Value)} {oc19 kV19 dc19 pm19 cd19 ct19 : Value} (a19 : PySem.W.nsIn K mainGlobals "_law_dip" = some (some (.ref f19))) (l19 : K.lookup f19 = some ⟨oc19, od19, .func (PySem.W.fnOf "_law_dip" "_law_dip" (defArgs s__law_dip) (defBody s__law_dip) (defScope s__law_dip) .none kV19 dc19 pm19 an19 cd19 ct19), sl19⟩) (c19 : PySem.W.codeIn K cd19 "_law_dip" = true) (k19 : PySem.W.keepIn K (.ref f19) = true)
    {od20 an20 : Option Addr} {f20 : Addr} {sl20 : Array (Option Value)} {oc20 kV20 dc20 pm20 cd20 ct20 : Value} (a20 : PySem.W.nsIn K mainGlobals "_law_same" = some (some (.ref f20))) (l20 : K.lookup f20 = some ⟨oc20, od20, .func (PySem.W.fnOf "_law_same" "_law_same" (defArgs s__law_same) (defBody s__law_same) (defScope s__law_same) .none kV20 dc20 pm20 an20 cd20 ct20), sl20⟩) (c20 : PySem.W.codeIn K cd20 "_law_same" = true) (k20 : PySem.W.keepIn K (.ref f20) = true)
    {od21 an21 : Option Addr} {f21 : Addr} {sl21 : Array (Option Value)} {oc21 kV21 dc21 pm21 cd21 ct21 : Value} (a21 : PySem.W.nsIn K mainGlobals "_law_shows" = some (some (.ref f21))) (l21 : K.lookup f21 = some ⟨oc21, od21, .func (PySem.W.fnOf "_law_shows" "_law_shows" (defArgs s__law_shows) (defBody s__law_shows) (defScope s__law_shows) .none kV21 dc21 pm21 an21 cd21 ct21), sl21⟩) (c21 : PySem.W.codeIn K cd21 "_law_shows" = true) (k21 : PySem.W.keepIn K (.ref f21) = true)
    {od22 an22 : Option Addr} {f22 : Addr} {sl22 : Array (Option Value)} {oc22 kV22 dc22 pm22 cd22 ct22 : Value} (a22 : PySem.W.nsIn K mainGlobals "_law_lets" = some (some (.ref f22))) (l22 : K.lookup f22 = some ⟨oc22, od22, .func (PySem.W.fnOf "_law_lets" "_law_lets" (defArgs s__law_lets) (defBody s__law_lets) (defScope s__law_lets) .none kV22 dc22 pm22 an22 cd22 ct22), sl22⟩) (c22 : PySem.W.codeIn K cd22 "_law_lets" = true) (k22 : PySem.W.keepIn K (.ref f22) = true)
    {od23 an23 : Option Addr} {f23 : Addr} {sl23 : Array (Option Value)} {oc23 kV23 dc23 pm23 cd23 ct23 : Value} (a23 : PySem.W.nsIn K mainGlobals "_law_orders" = some (some (.ref f23))) (l23 : K.lookup f23 = some ⟨oc23, od23, .func (PySem.W.fnOf "_law_orders" "_law_orders" (defArgs s__law_orders) (defBody s__law_orders) (defScope s__law_orders) .none kV23 dc23 pm23 an23 cd23 ct23), sl23⟩) (c23 : PySem.W.codeIn K cd23 "_law_orders" = true) (k23 : PySem.W.keepIn K (.ref f23) = true)
    {od24 an24 : Option Addr} {f24 : Addr} {sl24 : Array (Option Value)} {oc24 kV24 dc24 pm24 cd24 ct24 : Value} (a24 : PySem.W.nsIn K mainGlobals "_law_lists" = some (some (.ref f24))) (l24 : K.lookup f24 = some ⟨oc24, od24, .func (PySem.W.fnOf "_law_lists" "_law_lists" (defArgs s__law_lists) (defBody s__law_lists) (defScope s__law_lists) .none kV24 dc24 pm24 an24 cd24 ct24), sl24⟩) (c24 : PySem.W.codeIn K cd24 "_law_lists" = true) (k24 : PySem.W.keepIn K (.ref f24) = true)
    {od25 an25 : Option Addr} {f25 : Addr} {sl25 : Array (Option Value)} {oc25 kV25 dc25 pm25 cd25 ct25 : Value} (a25 : PySem.W.nsIn K mainGlobals "_law_let" = some (some (.ref f25))) (l25 : K.lookup f25 = some ⟨oc25, od25, .func (PySem.W.fnOf "_law_let" "_law_let" (defArgs s__law_let) (defBody s__law_let) (defScope s__law_let) .none kV25 dc25 pm25 an25 cd25 ct25), sl25⟩) (c25 : PySem.W.codeIn K cd25 "_law_let" = true) (k25 : PySem.W.keepIn K (.ref f25) = true)
    {od26 an26 : Option Addr} {f26 : Addr} {sl26 : Array (Option Value)} {oc26 kV26 dc26 pm26 cd26 ct26 : Value} (a26 : PySem.W.nsIn K mainGlobals "_law_exchanged" = some (some (.ref f26))) (l26 : K.lookup f26 = some ⟨oc26, od26, .func (PySem.W.fnOf "_law_exchanged" "_law_exchanged" (defArgs s__law_exchanged) (defBody s__law_exchanged) (defScope s__law_exchanged) .none kV26 dc26 pm26 an26 cd26 ct26), sl26⟩) (c26 : PySem.W.codeIn K cd26 "_law_exchanged" = true) (k26 : PySem.W.keepIn K (.ref f26) = true)
    {od27 an27 : Option Addr} {f27 : Addr} {sl27 : Array (Option Value)} {oc27 kV27 dc27 pm27 cd27 ct27 : Value} (a27 : PySem.W.nsIn K mainGlobals "_law_right" = some (some (.ref f27))) (l27 : K.lookup f27 = some ⟨oc27, od27, .func (PySem.W.fnOf "_law_right" "_law_right" (defArgs s__law_right) (defBody s__law_right) (defScope s__law_right) .none kV27 dc27 pm27 an27 cd27 ct27), sl27⟩) (c27 : PySem.W.codeIn K cd27 "_law_right" = true) (k27 : PySem.W.keepIn K (.ref f27) = true)
    {od28 an28 : Option Addr} {f28 : Addr} {sl28 : Array (Option Value)} {oc28 kV28 dc28 pm28 cd28 ct28 : Value} (a28 : PySem.W.nsIn K mainGlobals "law" = some (some (.ref f28))) (l28 : K.lookup f28 = some ⟨oc28, od28, .func (PySem.W.fnOf "law" "law" (defArgs s_law) (defBody s_law) (defScope s_law) .none kV28 dc28 pm28 an28 cd28 ct28), sl28⟩) (c28 : PySem.W.codeIn K cd28 "law" = true) (k28 : PySem.W.keepIn K (.ref f28) = true)
    (z0 : PySem.W.nsIn K mainGlobals "abs" = some none)
    (z1 : PySem.W.nsIn K mainGlobals "all" = some none)
    (z2 : PySem.W.nsIn K mainGlobals "bool" = some none)
    (z3 : PySem.W.nsIn K mainGlobals "int" = some none)
    (z4 : PySem.W.nsIn K mainGlobals "isinstance" = some none)
    (z5 : PySem.W.nsIn K mainGlobals "len" = some none)
    (z6 : PySem.W.nsIn K mainGlobals "list" = some none)
    (z7 : PySem.W.nsIn K mainGlobals "max" = some none)
    (z8 : PySem.W.nsIn K mainGlobals "min" = some none)
    (z9 : PySem.W.nsIn K mainGlobals "range" = some none)
    (z10 : PySem.W.nsIn K mainGlobals "sorted" = some none)
    (z11 : PySem.W.nsIn K mainGlobals "str" = some none)
    (z12 : PySem.W.nsIn K mainGlobals "tuple" = some none)
    {ka0 : Addr} (kn0 : PySem.W.nsIn K mainGlobals "LISTS" = some (some (.ref ka0)))
    {es0 : Array DictEntry} {kn_0 : Nat} (kd0 : K.lookup ka0 = some ⟨.type "dict", none, .dict es0 kn_0, #[]⟩)
    (kl0 : es0.toList.map He.keyOf = He.keysIn w.params [Str.ofString "stack", Str.ofString "popper", Str.ofString "queues", Str.ofString "bubble"]) (kz0 : (ka0 == sysModules) = false)
    {dvK0_0 dvK0_0_0 : Addr} {dtK0_0_0_0 : Tok} {dtK0_0_0_1 : Tok} {dtK0_0_0_2 : Tok}
    (kv0_0 : PySem.W.nsIn K ka0 (Str.ofString "stack") = some (some (.ref dvK0_0)))
    {dmK0_0 : Nat} {drK0_0 : Array (Option Value)} (dhK0_0 : K.lookup dvK0_0 = some ⟨.type "tuple", none, .seq #[.ref dvK0_0_0] dmK0_0, drK0_0⟩)
    {dmK0_0_0 : Nat} {drK0_0_0 : Array (Option Value)} (dhK0_0_0 : K.lookup dvK0_0_0 = some ⟨.type "tuple", none, .seq #[.int 2 dtK0_0_0_0, .int 3 dtK0_0_0_1, .int 1 dtK0_0_0_2] dmK0_0_0, drK0_0_0⟩)
    {dvK0_1 dvK0_1_0 dvK0_1_1 : Addr} {dtK0_1_0_0 : Tok} {dtK0_1_0_1 : Tok} {dtK0_1_0_2 : Tok} {dtK0_1_1_0 : Tok} {dtK0_1_1_1 : Tok} {dtK0_1_1_2 : Tok}
    (kv0_1 : PySem.W.nsIn K ka0 (Str.ofString "popper") = some (some (.ref dvK0_1)))
    {dmK0_1 : Nat} {drK0_1 : Array (Option Value)} (dhK0_1 : K.lookup dvK0_1 = some ⟨.type "tuple", none, .seq #[.ref dvK0_1_0, .ref dvK0_1_1] dmK0_1, drK0_1⟩)
    {dmK0_1_1 : Nat} {drK0_1_1 : Array (Option Value)} (dhK0_1_1 : K.lookup dvK0_1_1 = some ⟨.type "tuple", none, .seq #[.int 3 dtK0_1_1_0, .int 1 dtK0_1_1_1, .int 2 dtK0_1_1_2] dmK0_1_1, drK0_1_1⟩)
    {dmK0_1_0 : Nat} {drK0_1_0 : Array (Option Value)} (dhK0_1_0 : K.lookup dvK0_1_0 = some ⟨.type "tuple", none, .seq #[.int 2 dtK0_1_0_0, .int 3 dtK0_1_0_1, .int 1 dtK0_1_0_2] dmK0_1_0, drK0_1_0⟩)
    {dvK0_2 dvK0_2_0 : Addr} {dtK0_2_0_0 : Tok} {dtK0_2_0_1 : Tok} {dtK0_2_0_2 : Tok}
    (kv0_2 : PySem.W.nsIn K ka0 (Str.ofString "queues") = some (some (.ref dvK0_2)))
    {dmK0_2 : Nat} {drK0_2 : Array (Option Value)} (dhK0_2 : K.lookup dvK0_2 = some ⟨.type "tuple", none, .seq #[.ref dvK0_2_0] dmK0_2, drK0_2⟩)
    {dmK0_2_0 : Nat} {drK0_2_0 : Array (Option Value)} (dhK0_2_0 : K.lookup dvK0_2_0 = some ⟨.type "tuple", none, .seq #[.int 3 dtK0_2_0_0, .int 2 dtK0_2_0_1, .int 1 dtK0_2_0_2] dmK0_2_0, drK0_2_0⟩)
    {dvK0_3 dvK0_3_0 dvK0_3_1 : Addr} {dtK0_3_0_0 : Tok} {dtK0_3_0_1 : Tok} {dtK0_3_0_2 : Tok} {dtK0_3_1_0 : Tok} {dtK0_3_1_1 : Tok} {dtK0_3_1_2 : Tok}
    (kv0_3 : PySem.W.nsIn K ka0 (Str.ofString "bubble") = some (some (.ref dvK0_3)))
    {dmK0_3 : Nat} {drK0_3 : Array (Option Value)} (dhK0_3 : K.lookup dvK0_3 = some ⟨.type "tuple", none, .seq #[.ref dvK0_3_0, .ref dvK0_3_1] dmK0_3, drK0_3⟩)
    {dmK0_3_1 : Nat} {drK0_3_1 : Array (Option Value)} (dhK0_3_1 : K.lookup dvK0_3_1 = some ⟨.type "tuple", none, .seq #[.int 3 dtK0_3_1_0, .int 2 dtK0_3_1_1, .int 1 dtK0_3_1_2] dmK0_3_1, drK0_3_1⟩)
    {dmK0_3_0 : Nat} {drK0_3_0 : Array (Option Value)} (dhK0_3_0 : K.lookup dvK0_3_0 = some ⟨.type "tuple", none, .seq #[.int 2 dtK0_3_0_0, .int 3 dtK0_3_0_1, .int 1 dtK0_3_0_2] dmK0_3_0, drK0_3_0⟩) :
    ∃ fd : FuncData, (∀ (s : Shared) (v : Value), BindsTo s fd ⟨[v], []⟩ [("script", v)]) ∧ ∀ base : Heap, K.In base → base.Ns mainGlobals mg → FnOk PySem.Challenge.pw_wholeorders_k38_whole_sorted_exactly_by w K mg base (L2.CX PySem.Challenge.pw_wholeorders_k38_whole_sorted_exactly_by w) 8 fa fd ["script"] (Z.spLaw K) := by
  have e := hfa.symm.trans (PySem.W.mg_of X G a28)
  cases e
  have en : EnvOk w mg K := ⟨⟨_, _, fun_mk (st := s_is_integer) l0 c0 k0, PySem.W.mg_of X G a0⟩,
    ⟨_, _, fun_mk (st := s_are_integers) l1 c1 k1, PySem.W.mg_of X G a1⟩,
    ⟨_, _, fun_mk (st := s_is_order_of) l2 c2 k2, PySem.W.mg_of X G a2⟩,
    ⟨_, _, fun_mk (st := s_is_order) l3 c3 k3, PySem.W.mg_of X G a3⟩,
    ⟨_, _, fun_mk (st := s_is_sorter) l4 c4 k4, PySem.W.mg_of X G a4⟩,
    ⟨_, _, fun_mk (st := s_check_sorter) l5 c5 k5, PySem.W.mg_of X G a5⟩,
    ⟨_, _, fun_mk (st := s_check_order) l6 c6 k6, PySem.W.mg_of X G a6⟩,
    ⟨_, _, fun_mk (st := s_by_stack) l7 c7 k7, PySem.W.mg_of X G a7⟩,
    ⟨_, _, fun_mk (st := s_by_popper) l8 c8 k8, PySem.W.mg_of X G a8⟩,
    ⟨_, _, fun_mk (st := s_merged) l9 c9 k9, PySem.W.mg_of X G a9⟩,
    ⟨_, _, fun_mk (st := s_by_queues) l10 c10 k10, PySem.W.mg_of X G a10⟩,
    ⟨_, _, fun_mk (st := s_by_bubble) l11 c11 k11, PySem.W.mg_of X G a11⟩,
    ⟨_, _, fun_mk (st := s_made_by) l12 c12 k12, PySem.W.mg_of X G a12⟩,
    ⟨_, _, fun_mk (st := s_risen) l13 c13 k13, PySem.W.mg_of X G a13⟩,
    ⟨_, _, fun_mk (st := s_does_sort) l14 c14 k14, PySem.W.mg_of X G a14⟩,
    ⟨_, _, fun_mk (st := s_made) l15 c15 k15, PySem.W.mg_of X G a15⟩,
    ⟨_, _, fun_mk (st := s_sorts) l16 c16 k16, PySem.W.mg_of X G a16⟩,
    ⟨_, _, fun_mk (st := s_list_of) l17 c17 k17, PySem.W.mg_of X G a17⟩,
    ⟨_, _, fun_mk (st := s__law_well) l18 c18 k18, PySem.W.mg_of X G a18⟩,
    ⟨_, _, fun_mk (st := s__law_dip) l19 c19 k19, PySem.W.mg_of X G a19⟩,
    ⟨_, _, fun_mk (st := s__law_same) l20 c20 k20, PySem.W.mg_of X G a20⟩,
    ⟨_, _, fun_mk (st := s__law_shows) l21 c21 k21, PySem.W.mg_of X G a21⟩,
    ⟨_, _, fun_mk (st := s__law_lets) l22 c22 k22, PySem.W.mg_of X G a22⟩,
    ⟨_, _, fun_mk (st := s__law_orders) l23 c23 k23, PySem.W.mg_of X G a23⟩,
    ⟨_, _, fun_mk (st := s__law_lists) l24 c24 k24, PySem.W.mg_of X G a24⟩,
    ⟨_, _, fun_mk (st := s__law_let) l25 c25 k25, PySem.W.mg_of X G a25⟩,
    ⟨_, _, fun_mk (st := s__law_exchanged) l26 c26 k26, PySem.W.mg_of X G a26⟩,
    ⟨_, _, fun_mk (st := s__law_right) l27 c27 k27, PySem.W.mg_of X G a27⟩,
    ⟨_, _, fun_mk (st := s_law) l28 c28 k28, PySem.W.mg_of X G a28⟩,
    PySem.W.mg_none_of X G z0,
    PySem.W.mg_none_of X G z1,
    PySem.W.mg_none_of X G z2,
    PySem.W.mg_none_of X G z3,
    PySem.W.mg_none_of X G z4,
    PySem.W.mg_none_of X G z5,
    PySem.W.mg_none_of X G z6,
    PySem.W.mg_none_of X G z7,
    PySem.W.mg_none_of X G z8,
    PySem.W.mg_none_of X G z9,
    PySem.W.mg_none_of X G z10,
    PySem.W.mg_none_of X G z11,
    PySem.W.mg_none_of X G z12,
    ⟨ka0, es0, kn_0, PySem.W.mg_of X G kn0, ⟨kd0, He.keysLit_of kl0, kz0⟩, (List.forall_mem_cons.mpr ⟨⟨_, _, kv0_0, (show RelV (.ref dvK0_0) (.ref dvK0_0) from rfl), fun _ => (.tup (.inr ⟨_, _, _, dhK0_0, rfl, rfl, rfl, (show 1 ≤ sizeLine by decide), .cons (show RelV (.ref dvK0_0_0) (.ref dvK0_0_0) from rfl) (.nil)⟩) (.cons (.tup (.inr ⟨_, _, _, dhK0_0_0, rfl, rfl, rfl, (show 3 ≤ sizeLine by decide), .cons (show RelV (.int (2)) (.int (2) dtK0_0_0_0) from ⟨_, rfl⟩) (.cons (show RelV (.int (3)) (.int (3) dtK0_0_0_1) from ⟨_, rfl⟩) (.cons (show RelV (.int (1)) (.int (1) dtK0_0_0_2) from ⟨_, rfl⟩) (.nil)))⟩) (.cons (.int (2)) (.cons (.int (3)) (.cons (.int (1)) (.nil))))) (.nil)))⟩, (List.forall_mem_cons.mpr ⟨⟨_, _, kv0_1, (show RelV (.ref dvK0_1) (.ref dvK0_1) from rfl), fun _ => (.tup (.inr ⟨_, _, _, dhK0_1, rfl, rfl, rfl, (show 2 ≤ sizeLine by decide), .cons (show RelV (.ref dvK0_1_0) (.ref dvK0_1_0) from rfl) (.cons (show RelV (.ref dvK0_1_1) (.ref dvK0_1_1) from rfl) (.nil))⟩) (.cons (.tup (.inr ⟨_, _, _, dhK0_1_0, rfl, rfl, rfl, (show 3 ≤ sizeLine by decide), .cons (show RelV (.int (2)) (.int (2) dtK0_1_0_0) from ⟨_, rfl⟩) (.cons (show RelV (.int (3)) (.int (3) dtK0_1_0_1) from ⟨_, rfl⟩) (.cons (show RelV (.int (1)) (.int (1) dtK0_1_0_2) from ⟨_, rfl⟩) (.nil)))⟩) (.cons (.int (2)) (.cons (.int (3)) (.cons (.int (1)) (.nil))))) (.cons (.tup (.inr ⟨_, _, _, dhK0_1_1, rfl, rfl, rfl, (show 3 ≤ sizeLine by decide), .cons (show RelV (.int (3)) (.int (3) dtK0_1_1_0) from ⟨_, rfl⟩) (.cons (show RelV (.int (1)) (.int (1) dtK0_1_1_1) from ⟨_, rfl⟩) (.cons (show RelV (.int (2)) (.int (2) dtK0_1_1_2) from ⟨_, rfl⟩) (.nil)))⟩) (.cons (.int (3)) (.cons (.int (1)) (.cons (.int (2)) (.nil))))) (.nil))))⟩, (List.forall_mem_cons.mpr ⟨⟨_, _, kv0_2, (show RelV (.ref dvK0_2) (.ref dvK0_2) from rfl), fun _ => (.tup (.inr ⟨_, _, _, dhK0_2, rfl, rfl, rfl, (show 1 ≤ sizeLine by decide), .cons (show RelV (.ref dvK0_2_0) (.ref dvK0_2_0) from rfl) (.nil)⟩) (.cons (.tup (.inr ⟨_, _, _, dhK0_2_0, rfl, rfl, rfl, (show 3 ≤ sizeLine by decide), .cons (show RelV (.int (3)) (.int (3) dtK0_2_0_0) from ⟨_, rfl⟩) (.cons (show RelV (.int (2)) (.int (2) dtK0_2_0_1) from ⟨_, rfl⟩) (.cons (show RelV (.int (1)) (.int (1) dtK0_2_0_2) from ⟨_, rfl⟩) (.nil)))⟩) (.cons (.int (3)) (.cons (.int (2)) (.cons (.int (1)) (.nil))))) (.nil)))⟩, (List.forall_mem_cons.mpr ⟨⟨_, _, kv0_3, (show RelV (.ref dvK0_3) (.ref dvK0_3) from rfl), fun _ => (.tup (.inr ⟨_, _, _, dhK0_3, rfl, rfl, rfl, (show 2 ≤ sizeLine by decide), .cons (show RelV (.ref dvK0_3_0) (.ref dvK0_3_0) from rfl) (.cons (show RelV (.ref dvK0_3_1) (.ref dvK0_3_1) from rfl) (.nil))⟩) (.cons (.tup (.inr ⟨_, _, _, dhK0_3_0, rfl, rfl, rfl, (show 3 ≤ sizeLine by decide), .cons (show RelV (.int (2)) (.int (2) dtK0_3_0_0) from ⟨_, rfl⟩) (.cons (show RelV (.int (3)) (.int (3) dtK0_3_0_1) from ⟨_, rfl⟩) (.cons (show RelV (.int (1)) (.int (1) dtK0_3_0_2) from ⟨_, rfl⟩) (.nil)))⟩) (.cons (.int (2)) (.cons (.int (3)) (.cons (.int (1)) (.nil))))) (.cons (.tup (.inr ⟨_, _, _, dhK0_3_1, rfl, rfl, rfl, (show 3 ≤ sizeLine by decide), .cons (show RelV (.int (3)) (.int (3) dtK0_3_1_0) from ⟨_, rfl⟩) (.cons (show RelV (.int (2)) (.int (2) dtK0_3_1_1) from ⟨_, rfl⟩) (.cons (show RelV (.int (1)) (.int (1) dtK0_3_1_2) from ⟨_, rfl⟩) (.nil)))⟩) (.cons (.int (3)) (.cons (.int (2)) (.cons (.int (1)) (.nil))))) (.nil))))⟩, (fun _ h => (nomatch h))⟩)⟩)⟩)⟩)⟩⟩
  exact ⟨PySem.W.fnOf "law" "law" (defArgs s_law) (defBody s_law) (defScope s_law) .none kV28 dc28 pm28 an28 cd28 ct28, fun s v => .of_eq rfl, fun base _ _ => law_fn (fn_law en) hfa ⟨_, _, _, l28⟩ main⟩
end Ck38

set_option Elab.async false
set_option linter.all false
set_option maxRecDepth 100000
set_option autoImplicit false
set_option maxHeartbeats 4000000
namespace Ck38
open PySem PySem.Spec PyProof.Rows L2 Z
local macro_rules
  | `(tactic| simp! only [$xs,*]) => `(tactic| simp only [bnd_at, rt_at, thn_ok, thn_ex, oRo_some, oMap_some, brn_t, brn_f, dName_at, slR_d, slR_a, slR_o, vl_d, vl_s, slV_d, slV_a, slV_o, dv_at, dEsc_at, esc_d, esc_s, escS_d, escS_o, dFz_at, dC_at, dNil_at, dCons_at, vNil_at, vCons_at, op2_at, op2r_at, op1_at, op1o_at, opN_at, opNo_at, vls_nil, vls_cons, cutR_at, oNone_at, oSome_at, dTup_at, dLst_at, dB_at, boolD_b, dNot_at, dAnd_at, dOr_at, dIfE_at, dAndV_at, dOrV_at, dNotV_at, dSeq_at, dsq_nx, dsq_rt, dsq_bk, dsq_ct, dsq_ex, sNx_at, sBk_at, sCt_at, sExpr_at, sRet_at, sRetO_at, sRetN_at, sRetV_at, retS_d, retS_o, sSet_at, sSetO_at, sIf_at, ownV_o, msNil_at, msD_at, msO_at, msR_at, gRo_some, sPar_at, setRs_nil, setRs_d, setRs_o, callP_at, callK_at, argO_some, callM_at, outR_ret, outR_ex, argD_nil, argD_v, argD_p, argD_m, argD_vn, argD_vs, Option.some.injEq, Nat.reduceEqDiff, mIx_m, mIx_v, mIx_p, mIx_nil, putM_none, putM_some, putO_o, call1_at, rD_at, rtD_d, rtD_o, rO_at, rtO_o, sExprR_at, sRetR_at, sSetR_at, setS_d, setS_o, runF_at, outF_nx, outF_rt, mOut_some, muOf_nil, muOf_m, muOf_v, muOf_p, chk_some, sSub_at, subS0, subS1, mutS_some, mutP_some, dMut_at, mixR_at, dChain_at, dRep_at, intD_i, rg1_at, rg2_at, dLstRg_go, rgL_ok, dTupRg_go, rgT_ok, dTupRg3_go, rgT3_ok, rgO1_ok, rgO2_ok, rgO3_ok, sm0, sm1, dIndexT_at, seqS_d, seqS_a, seqS_o, seqD_l, seqD_t, itR_d, itR_s, iV_at, iO_at, iR1_go, iR2_go, iR3_go, iEnV_at, iEnO_at, iZip_at, zipR_at, dcL_at, sSwap_at, c2L_at, sUnp_at, unpR_2, sUnpL_at, unpRL_2, sMove_at, moveV_o, moveV_d, mvR_some, swapR_at, sFor_at, compL_at, fAdd_i, fSub_i, fLt_i, fLe_i, fGt_i, fGe_i, fDiv_33, fPow_64, fPow_33, fPow_18, fNeg_i, fLen_l, fLen_t, fInt_i, fTuple_l, fList_l, fMax_2, fMin_2, fIx_l0, fIx_l1, fIx_l2, fEq_i, start0, svs, svK, svA, List.length_cons, List.length_nil, List.replicate, List.append_nil, List.cons_append, List.nil_append, List.getElem?_cons_zero, List.getElem?_cons_succ, List.set_cons_zero, List.set_cons_succ, Bool.not_true, Bool.not_false, decide_true, decide_false, ne_eq, not_false_eq_true, Nat.reduceAdd, Nat.reduceSub, fMul_take, fMul_7919, fMul_31, Nat.reduceLT, Int.reduceLT, Int.reduceEq, fMod_i, fDiv_i, bdz_ok, setT_nm, fgt_nil, fgt_cons, wipG_nil, wipG_cons, sz1, sz2, sz3, sz4, sz5, Nat.zero_le, fIs_ii, fIs_ib, fIs_is, fIs_itl, fIs_tt, fIs_tl, fIs_ttl, fIs_lt, fIs_ll, fIs_ltl, fAll_b, fSum_i, fBack_t, fBackL_l, $xs,*])
theorem is_integer_ok (i : Int) : φ_is_integer [.int i] = .ret (.d (.bool true)) [] := by
  unfold φ_is_integer m_is_integer
  simp! only []
theorem are_integers_ok (p : List Int) (h : p.length ≤ 1000) : φ_are_integers [ti p] = .ret (.d (.bool true)) [] := by
  have hc := compB_one (i := 1) (enc := PyData.int) (f := fun _ => .bool true) (me := rD (callP [.v] φ_is_integer (vCons (dName 1) vNil))) (g := [.d (ti p), .u]) p (by omega) rfl fun x hx => by simp! only [is_integer_ok]
  have e : p.map (fun _ => PyData.bool true) = (List.replicate p.length true).map .bool := map_true p
  rw [e] at hc
  unfold φ_are_integers m_are_integers
  simp! only [hc, all_true]
theorem is_order_of_ok (p : List Int) (hp : IsOrd p) (h : p.length ≤ 900) : φ_is_order_of [ti p] = .ret (.d (.bool true)) [] := by
  have hs : sortD (p.map .int) = (irange 1 p.length).map .int := sortD_ints hp.perm ((irange_sorted _ _).imp fun {a b} h => Int.le_of_lt h)
  have hsm : Sm ((p.length : Int) + 1) := sm_of (by omega) (by omega)
  have hr : ((p.length : Int) + 1 - 1).toNat = p.length := by omega
  have hf := fEq_li (irange 1 p.length) (irange 1 p.length)
  rw [decide_eq_true rfl] at hf
  unfold φ_is_order_of m_is_order_of
  simp! only [are_integers_ok p (by omega), fSorted_t _ (okSort_ints p (by omega)), hs, List.length_map, hsm, hr, hf]
/-- data whose sequences are short -/
inductive Sh : Nat → D → Prop where
  | int (n : Nat) (i : Int) : Sh n (.int i)
  | bool (n : Nat) (b : Bool) : Sh n (.bool b)
  | non (n : Nat) : Sh n .none
  | tup {n : Nat} {xs : List D} (hl : xs.length ≤ 100000) (h : ∀ x ∈ xs, Sh n x) : Sh (n + 1) (.tuple xs)
  | lst {n : Nat} {xs : List D} (hl : xs.length ≤ 100000) (h : ∀ x ∈ xs, Sh n x) : Sh (n + 1) (.list xs)

theorem fAdd_ll (xs ys : List D) : fAdd (.list xs) (.list ys) = none := Eq.trans rfl rfl
theorem fCat_ok (xs ys : List D) (h : xs.length + ys.length ≤ 100000) : fCat (.list xs) (.list ys) = some (xs ++ ys) := if_pos (sz_le h)
abbrev nbBody : M Fl := (dSeq (sSetO 4 (compL [5] (.nm 5) (iV (dv (rD (cutR (dName 0) oNone (oSome (dEsc (dName 2))))))) (dB (op2 fLt (dName 5) (dName 3))) (dEsc (dName 5))))
    (dSeq (sSetO 6 (compL [5] (.nm 5) (iV (dv (rD (cutR (dName 0) oNone (oSome (dEsc (dName 2))))))) (dB (op2 fGt (dName 5) (dName 3))) (dEsc (dName 5))))
    (dSeq (sSet 7 (dIfE (dB (op2 fNe (dName 4) (dv (dFz (dLst dNil))))) (dIndexT (dName 0) (dv (opN fMax (vCons (dName 4) vNil)))) (dC .none)))
    (dSeq (sSet 8 (dIfE (dB (op2 fNe (dName 6) (dv (dFz (dLst dNil))))) (dIndexT (dName 0) (dv (opN fMin (vCons (dName 6) vNil)))) (dC .none)))
    (sExpr (dMut 1 mAppend (dCons (dTup (dCons (dEsc (dName 7)) (dCons (dEsc (dName 8)) dNil))) dNil)))))))
theorem nb_step (q : List Int) (a : Nat) (ha : a < q.length) (hq : q.length ≤ 900) : nbBody [.d (ti q), .own false (nbs q a), .d (.int (a : Int)), .d (.int (qAt q a)), .u, .u, .u, .u, .u] = .ok .nx [.d (ti q), .own false (nbs q (a + 1)), .d (.int (a : Int)), .d (.int (qAt q a)), .own false ((lesser q a).map .int), .u, .own false ((greater q a).map .int), .d (belD q a), .d (abvD q a)] := by
  have hcut := fCutT_take (q.map .int) a
  rw [← List.map_take] at hcut
  have hc1 := compB_fil (i := 5) (enc := PyData.int) (f := fun x => .int x) (p := fun x => decide (x < qAt q a)) (mt := dB (op2 fLt (dName 5) (dName 3))) (me := dEsc (dName 5)) (g := [.d (ti q), .own false (nbs q a), .d (.int (a : Int)), .d (.int (qAt q a)), .u, .u, .u, .u, .u]) (q.take a) (by rw [List.length_take]; omega) rfl fun x hx => ⟨by simp! only [], fun _ => by simp! only []⟩
  have hc2 := compB_fil (i := 5) (enc := PyData.int) (f := fun x => .int x) (p := fun x => decide (qAt q a < x)) (mt := dB (op2 fGt (dName 5) (dName 3))) (me := dEsc (dName 5)) (g := [.d (ti q), .own false (nbs q a), .d (.int (a : Int)), .d (.int (qAt q a)), .own false ((lesser q a).map .int), .u, .u, .u, .u]) (q.take a) (by rw [List.length_take]; omega) rfl fun x hx => ⟨by simp! only [], fun _ => by simp! only []⟩
  have hn1 : fNe (.list ((lesser q a).map .int)) (.list []) = some (.bool (!decide (lesser q a = []))) := fNe_li (lesser q a) []
  have hn2 : fNe (.list ((greater q a).map .int)) (.list []) = some (.bool (!decide (greater q a = []))) := fNe_li (greater q a) []
  have happ := fun y => mAppend_ok (nbs q a) y (by rw [nbs_len]; exact sz_lt (by omega))
  have m1 : lesser q a ≠ [] → mx (lesser q a) ∈ q := fun h => List.mem_of_mem_take (List.mem_filter.mp (mx_mem h)).1
  have m2 : greater q a ≠ [] → mn (greater q a) ∈ q := fun h => List.mem_of_mem_take (List.mem_filter.mp (mn_mem h)).1
  change compB [5] _ _ _ _ _ = .ok ((lesser q a).map .int) _ at hc1
  change compB [5] _ _ _ _ _ = .ok ((greater q a).map .int) _ at hc2
  unfold nbBody
  by_cases h1 : lesser q a = []
  · have b1 : belD q a = .none := if_pos h1
    by_cases h2 : greater q a = []
    · have b2 : abvD q a = .none := if_pos h2
      rw [nbs_succ, nbD, b1, b2]
      rw [h1] at hc1 hc2 hn1 ⊢
      rw [h2] at hc2 hn2 ⊢
      simp! only [hcut, hc1, hc2, hn1, hn2, happ]
    · have b2 : abvD q a = .int (q.idxOf (mn (greater q a)) : Nat) := if_neg h2
      rw [nbs_succ, nbD, b1, b2]
      rw [h1] at hc1 hc2 hn1 ⊢
      simp! only [hcut, hc1, hc2, hn1, hn2, happ, h2, fMin_l h2, fIxT_ok (m2 h2)]
  · have b1 : belD q a = .int (q.idxOf (mx (lesser q a)) : Nat) := if_neg h1
    by_cases h2 : greater q a = []
    · have b2 : abvD q a = .none := if_pos h2
      rw [nbs_succ, nbD, b1, b2]
      rw [h2] at hc2 hn2 ⊢
      simp! only [hcut, hc1, hc2, hn1, hn2, happ, h1, fMax_l h1, fIxT_ok (m1 h1)]
    · have b2 : abvD q a = .int (q.idxOf (mn (greater q a)) : Nat) := if_neg h2
      rw [nbs_succ, nbD, b1, b2]
      simp! only [hcut, hc1, hc2, hn1, hn2, happ, h1, h2, fMax_l h1, fIxT_ok (m1 h1), fMin_l h2, fIxT_ok (m2 h2)]
abbrev plIn : M Fl := (dSeq (sSet 8 (dIfE (dB (op2 fNotN (dName 4) (dv (dC .none)))) (op2 fIx (dName 0) (dv (op2 fIx (dName 7) (dName 4)))) (dC (.int 0))))
    (dSeq (sSet 9 (dIfE (dB (op2 fNotN (dName 5) (dv (dC .none)))) (op2 fIx (dName 0) (dv (op2 fIx (dName 7) (dName 5)))) (rD (op2r fAdd fCat (dv (opN fLen (vCons (dName 0) vNil))) (dv (dC (.int 1)))))))
    (dSeq (sSet 10 (dIfE (dB (op2 fNe (dName 7) (dv (dTup dNil)))) (rD (op2r fAdd fCat (dv (op2 fIx (dName 7) (dv (op1 fNeg (dv (dC (.int 1))))))) (dv (dC (.int 1))))) (dC (.int 0))))
    (dSeq (sSet 11 (op2 fSub (dv (opN fLen (vCons (dName 0) vNil))) (dv (op2 fSub (dv (op2 fSub (dv (opN fLen (vCons (dName 1) vNil))) (dName 3))) (dv (dC (.int 1)))))))
    (sExpr (dMut 6 mExtend (compL [12] (.nm 12) (iR2 (vCons (dName 10) (vCons (dName 11) vNil))) (dB (dChain fLt fLt (dName 8) (dv (op2 fIx (dName 0) (dName 12))) (dName 9))) (rD (op2r fAdd fCat (dName 7) (dv (dTup (dCons (dEsc (dName 12)) dNil))))))))))))
theorem pl_in (p q : List Int) (a : Nat) (t : List Int) (ha : a < q.length) (hp : p.length ≤ 900) (hq : q.length ≤ 900) (h : Pl p a t) (f : SV) (L : List (List Int)) (hL : L.length + p.length ≤ sizeLine) :
    plIn [.d (ti p), .d (ti q), f, .d (.int (a : Int)), .d (belD q a), .d (abvD q a), .own false (L.map ti), .d (ti t), .u, .u, .u, .u, .u] =
      .ok .nx [.d (ti p), .d (ti q), f, .d (.int (a : Int)), .d (belD q a), .d (abvD q a), .own false ((L ++ extT p q a t).map ti), .d (ti t), .d (.int (leastI p q a t)), .d (.int (mostI p q a t)), .d (.int (startI t)), .d (.int (stopI p q a)), .u] := by
  have hst := startI_bd h
  have hsp : stopI p q a ≤ p.length := by unfold stopI; omega
  have s1 : Sm (startI t) := ⟨by omega, by omega⟩
  have s2 : Sm (stopI p q a) := ⟨by unfold stopI; omega, by omega⟩
  have m1 : lesser q a ≠ [] → q.idxOf (mx (lesser q a)) < t.length := fun z => by rw [h.len]; exact idx_take (List.mem_filter.mp (mx_mem z)).1
  have m2 : greater q a ≠ [] → q.idxOf (mn (greater q a)) < t.length := fun z => by rw [h.len]; exact idx_take (List.mem_filter.mp (mn_mem z)).1
  have inP : ∀ j, j < t.length → 0 ≤ t.getD j 0 ∧ t.getD j 0 < p.length := fun j hj => by
    have hm : t.getD j 0 ∈ t := by
      rw [List.getD_eq_getElem?_getD, List.getElem?_eq_getElem hj]
      exact List.getElem_mem hj
    exact ⟨h.lo _ hm, h.hi _ hm⟩
  -- least
  have e8 : ∀ g : En, g[0]? = some (.d (ti p)) → g[4]? = some (.d (belD q a)) → g[7]? = some (.d (ti t)) → dIfE (dB (op2 fNotN (dName 4) (dv (dC .none)))) (op2 fIx (dName 0) (dv (op2 fIx (dName 7) (dName 4)))) (dC (.int 0)) g = .ok (.int (leastI p q a t)) g := by
    intro g g0 g4 g7
    by_cases z : lesser q a = []
    · have b1 : belD q a = .none := if_pos z
      have b2 : leastI p q a t = 0 := if_pos z
      rw [b1] at g4
      rw [b2]
      simp! only [g4, fNotN_n]
    · have b1 : belD q a = .int (q.idxOf (mx (lesser q a)) : Nat) := if_neg z
      have b2 : leastI p q a t = pAt p (t.getD (q.idxOf (mx (lesser q a))) 0) := if_neg z
      have b3 := inP _ (m1 z)
      rw [b1] at g4
      rw [b2]
      simp! only [g0, g4, g7, fNotN_i, fIx_pn (m1 z), fIx_p b3.1 b3.2]
  have e9 : ∀ g : En, g[0]? = some (.d (ti p)) → g[5]? = some (.d (abvD q a)) → g[7]? = some (.d (ti t)) → dIfE (dB (op2 fNotN (dName 5) (dv (dC .none)))) (op2 fIx (dName 0) (dv (op2 fIx (dName 7) (dName 5)))) (rD (op2r fAdd fCat (dv (opN fLen (vCons (dName 0) vNil))) (dv (dC (.int 1))))) g = .ok (.int (mostI p q a t)) g := by
    intro g g0 g4 g7
    by_cases z : greater q a = []
    · have b1 : abvD q a = .none := if_pos z
      have b2 : mostI p q a t = (p.length : Int) + 1 := if_pos z
      rw [b1] at g4
      rw [b2]
      simp! only [g0, g4, fNotN_n, List.length_map]
    · have b1 : abvD q a = .int (q.idxOf (mn (greater q a)) : Nat) := if_neg z
      have b2 : mostI p q a t = pAt p (t.getD (q.idxOf (mn (greater q a))) 0) := if_neg z
      have b3 := inP _ (m2 z)
      rw [b1] at g4
      rw [b2]
      simp! only [g0, g4, g7, fNotN_i, fIx_pn (m2 z), fIx_p b3.1 b3.2]
  have e10 : ∀ g : En, g[7]? = some (.d (ti t)) → dIfE (dB (op2 fNe (dName 7) (dv (dTup dNil)))) (rD (op2r fAdd fCat (dv (op2 fIx (dName 7) (dv (op1 fNeg (dv (dC (.int 1))))))) (dv (dC (.int 1))))) (dC (.int 0)) g = .ok (.int (startI t)) g := by
    intro g g7
    have hne : fNe (.tuple (t.map .int)) (.tuple []) = some (.bool (!decide (t = []))) := fNe_ti t []
    rcases List.eq_nil_or_concat t with rfl | ⟨t', x, rfl⟩
    · simp! only [g7, hne]
      rfl
    · rw [List.concat_eq_append] at *
      have hz : ¬ (t' ++ [x] = []) := by simp
      have hl : fIx (.tuple ((t' ++ [x]).map .int)) (.int (-1)) = some (.int x) := by
        rw [List.map_append]
        exact fIx_last
      have hs : startI (t' ++ [x]) = x + 1 := by
        unfold startI
        rw [List.getLast?_concat]
      rw [hs]
      simp! only [g7, hne, hz, hl]
  have hc := compB_fil (i := 12) (enc := PyData.int) (f := fun x => ti (t ++ [x])) (p := okI p q a t) (mt := dB (dChain fLt fLt (dName 8) (dv (op2 fIx (dName 0) (dName 12))) (dName 9))) (me := rD (op2r fAdd fCat (dName 7) (dv (dTup (dCons (dEsc (dName 12)) dNil)))))
    (g := [.d (ti p), .d (ti q), f, .d (.int (a : Int)), .d (belD q a), .d (abvD q a), .own false (L.map ti), .d (ti t), .d (.int (leastI p q a t)), .d (.int (mostI p q a t)), .d (.int (startI t)), .d (.int (stopI p q a)), .u]) (irange (startI t) (stopI p q a - startI t).toNat) (by rw [irange_len]; omega) (by cases f <;> rfl) fun x hx => by
      have hx' := irange_mem.mp hx
      have hix := fIx_p (p := p) (x := x) (by omega) (by omega)
      have hadd := fAdd_tt (t.map .int) [.int x] (by rw [List.length_map, h.len, List.length_singleton]; omega)
      refine ⟨?_, fun _ => ?_⟩
      · unfold okI
        by_cases z : leastI p q a t < pAt p x
        · simp! only [hix, z, Bool.true_and]
        · simp! only [hix, z, Bool.false_and]
      · have ht : ti (t ++ [x]) = .tuple (t.map .int ++ [.int x]) := by rw [ti, List.map_append]; rfl
        rw [ht]
        simp! only [hadd]
  have hmap : ((irange (startI t) (stopI p q a - startI t).toNat).filter (okI p q a t)).map (fun x => ti (t ++ [x])) = (extT p q a t).map ti := by
    unfold extT
    rw [List.map_map]
    rfl
  rw [hmap] at hc
  have hext := mExtend_ok (L.map ti) ((extT p q a t).map ti) (by
    rw [List.length_map, List.length_map]
    have := extT_len h ha
    omega)
  unfold plIn
  have hsi : (p.length : Int) - ((q.length : Int) - a - 1) = stopI p q a := rfl
  simp only [bnd_at, rt_at, thn_ok, thn_ex, oRo_some, oMap_some, brn_t, brn_f, dName_at, slR_d, slR_a, slR_o, vl_d, vl_s, slV_d, slV_a, slV_o, dv_at, dEsc_at, esc_d, esc_s, escS_d, escS_o, dFz_at, dC_at, dNil_at, dCons_at, vNil_at, vCons_at, op2_at, op2r_at, op1_at, op1o_at, opN_at, opNo_at, vls_nil, vls_cons, cutR_at, oNone_at, oSome_at, dTup_at, dLst_at, dB_at, boolD_b, dNot_at, dAnd_at, dOr_at, dAndV_at, dOrV_at, dNotV_at, dSeq_at, dsq_nx, dsq_rt, dsq_bk, dsq_ct, dsq_ex, sNx_at, sBk_at, sCt_at, sExpr_at, sRet_at, sRetO_at, sRetN_at, sRetV_at, retS_d, retS_o, sSet_at, sSetO_at, sIf_at, ownV_o, msNil_at, msD_at, msO_at, msR_at, gRo_some, sPar_at, setRs_nil, setRs_d, setRs_o, callP_at, callK_at, argO_some, callM_at, outR_ret, outR_ex, argD_nil, argD_v, argD_p, argD_m, argD_vn, argD_vs, Option.some.injEq, Nat.reduceEqDiff, mIx_m, mIx_v, mIx_p, mIx_nil, putM_none, putM_some, putO_o, call1_at, rD_at, rtD_d, rtD_o, rO_at, rtO_o, sExprR_at, sRetR_at, sSetR_at, setS_d, setS_o, runF_at, outF_nx, outF_rt, mOut_some, muOf_nil, muOf_m, muOf_v, muOf_p, chk_some, sSub_at, subS0, subS1, mutS_some, mutP_some, dMut_at, mixR_at, dChain_at, dRep_at, intD_i, rg1_at, rg2_at, dLstRg_go, rgL_ok, dTupRg_go, rgT_ok, dTupRg3_go, rgT3_ok, rgO1_ok, rgO2_ok, rgO3_ok, sm0, sm1, dIndexT_at, seqS_d, seqS_a, seqS_o, seqD_l, seqD_t, itR_d, itR_s, iV_at, iO_at, iR1_go, iR2_go, iR3_go, iEnV_at, iEnO_at, iZip_at, zipR_at, dcL_at, sSwap_at, c2L_at, sUnp_at, unpR_2, sUnpL_at, unpRL_2, sMove_at, moveV_o, moveV_d, mvR_some, swapR_at, sFor_at, compL_at, fAdd_i, fSub_i, fLt_i, fLe_i, fGt_i, fGe_i, fDiv_33, fPow_64, fPow_33, fPow_18, fNeg_i, fLen_l, fLen_t, fInt_i, fTuple_l, fList_l, fMax_2, fMin_2, fIx_l0, fIx_l1, fIx_l2, fEq_i, start0, svs, svK, svA, List.length_cons, List.length_nil, List.replicate, List.append_nil, List.cons_append, List.nil_append, List.getElem?_cons_zero, List.getElem?_cons_succ, List.set_cons_zero, List.set_cons_succ, Bool.not_true, Bool.not_false, decide_true, decide_false, ne_eq, not_false_eq_true, Nat.reduceAdd, Nat.reduceSub, fMul_take, fMul_7919, fMul_31, Nat.reduceLT, Int.reduceLT, Int.reduceEq, fMod_i, fDiv_i, bdz_ok, setT_nm, fgt_nil, fgt_cons, wipG_nil, wipG_cons, sz1, sz2, sz3, sz4, sz5, Nat.zero_le, fIs_ii, fIs_ib, fIs_is, fIs_itl, fIs_tt, fIs_tl, fIs_ttl, fIs_lt, fIs_ll, fIs_ltl, fAll_b, fSum_i, fBack_t, fBackL_l, e8, e9, e10, List.length_map, hsi, s1, s2, hc, hext, List.map_append]
theorem pl_loop (p q : List Int) (a : Nat) (ha : a < q.length) (hp : p.length ≤ 900) (hq : q.length ≤ 900) (f : SV) (hB : ∀ b, b ≤ q.length → (Ls p q b).length ≤ 100000) :
    ∃ g', forG (.nm 7) [7, 8, 9, 10, 11] plIn ((Ls p q a).map ti) [.d (ti p), .d (ti q), f, .d (.int (a : Int)), .d (belD q a), .d (abvD q a), .own false [], .u, .u, .u, .u, .u, .u] = .ok .nx (fgt [7, 8, 9, 10, 11] g') ∧
      g' = [.d (ti p), .d (ti q), f, .d (.int (a : Int)), .d (belD q a), .d (abvD q a), .own false ((Ls p q (a + 1)).map ti), .u, .u, .u, .u, .u, .u] := by
  obtain ⟨g', e1, dn, rest, h1, h2, h3⟩ := forG_inv (t := .nm 7) (ms := [7, 8, 9, 10, 11]) (b := plIn) ((Ls p q a).map ti)
    (fun r g => ∃ (dn rest : List (List Int)), Ls p q a = dn ++ rest ∧ r = rest.map ti ∧ g = [.d (ti p), .d (ti q), f, .d (.int (a : Int)), .d (belD q a), .d (abvD q a), .own false ((dn.flatMap (extT p q a)).map ti), .u, .u, .u, .u, .u, .u])
    _ ⟨[], Ls p q a, rfl, rfl, rfl⟩ (by
      rintro x r g ⟨dn, rest, h1, h2, rfl⟩ _
      cases rest with
      | nil => cases h2
      | cons t rest =>
        injection h2 with hx hr
        subst hx
        have ht : t ∈ Ls p q a := by
          rw [h1]
          exact List.mem_append_right _ List.mem_cons_self
        have hpl := pl_Ls (show a ≤ q.length by omega) t ht
        have hL : (dn.flatMap (extT p q a)).length + p.length ≤ sizeLine := by
          have h5 : (dn.flatMap (extT p q a)).length ≤ (Ls p q (a + 1)).length := by
            show _ ≤ ((Ls p q a).flatMap (extT p q a)).length
            rw [h1, List.flatMap_append, List.length_append]
            exact Nat.le_add_right _ _
          have h6 := hB (a + 1) (by omega)
          rw [sizeLine_big]
          omega
        have hst := pl_in p q a t ha hp hq hpl f (dn.flatMap (extT p q a)) hL
        refine ⟨[.d (ti p), .d (ti q), f, .d (.int (a : Int)), .d (belD q a), .d (abvD q a), .own false ((dn.flatMap (extT p q a)).map ti), .d (ti t), .u, .u, .u, .u, .u], _, by simp! only [], .inl hst, dn ++ [t], rest, by rw [h1, List.append_assoc]; rfl, hr, ?_⟩
        rw [List.flatMap_append, List.flatMap_singleton]
        simp! only [])
  refine ⟨g', e1, ?_⟩
  have hr : rest = [] := List.map_eq_nil_iff.mp h2.symm
  subst hr
  rw [List.append_nil] at h1
  rw [h3, ← h1]
  rfl
/-- what found holds ahead of a turn -/
def foundS (L : List (List Int)) (_ : Nat) : SV := .own false (L.map ti)
abbrev plOut : M Fl := (dSeq (sSetO 6 (dLst dNil)) (dSeq (sFor (.nm 7) [7, 8, 9, 10, 11] (iV (dName 2)) plIn) (sMove 2 6)))
theorem placed_loop (p q : List Int) (hp : p.length ≤ 900) (hq : q.length ≤ 900) (hB : ∀ b, b ≤ q.length → (Ls p q b).length ≤ 100000) :
    ∃ g', forG (.tup [.nm 3, .tup [.nm 4, .nm 5]]) [3, 4, 5, 6, 7, 8, 9, 10, 11] plOut (enumD 0 (nbs q q.length)) [.d (ti p), .d (ti q), .own false [ti []], .u, .u, .u, .u, .u, .u, .u, .u, .u, .u] = .ok .nx (fgt [3, 4, 5, 6, 7, 8, 9, 10, 11] g') ∧
      g' = [.d (ti p), .d (ti q), foundS (Ls p q q.length) q.length, .u, .u, .u, .u, .u, .u, .u, .u, .u, .u] := by
  obtain ⟨g', e1, i, h1, h2, h3⟩ := forG_inv (t := .tup [.nm 3, .tup [.nm 4, .nm 5]]) (ms := [3, 4, 5, 6, 7, 8, 9, 10, 11]) (b := plOut) (enumD 0 (nbs q q.length))
    (fun r g => ∃ (i : Nat), r = enumD i ((nbs q q.length).drop i) ∧ i ≤ q.length ∧ g = [.d (ti p), .d (ti q), foundS (Ls p q i) i, .u, .u, .u, .u, .u, .u, .u, .u, .u, .u])
    _ ⟨0, rfl, Nat.zero_le _, rfl⟩ (by
      rintro x r g ⟨i, h1, h2, rfl⟩ _
      have hlt : i < q.length := by
        have := congrArg List.length h1
        rw [enumD_len, List.length_drop, nbs_len, List.length_cons] at this
        omega
      have hd : (nbs q q.length).drop i = nbD q i :: (nbs q q.length).drop (i + 1) := by
        rw [List.drop_eq_getElem_cons (by rw [nbs_len]; exact hlt)]
        simp [nbs]
      rw [hd, enumD_cons] at h1
      injection h1 with hx hr
      subst hx
      obtain ⟨f', hf'⟩ : ∃ f' : SV, ∀ tl : En, iV (dName 2) (SV.d (ti p) :: .d (ti q) :: foundS (Ls p q i) i :: tl) = .ok ((Ls p q i).map ti) (SV.d (ti p) :: .d (ti q) :: f' :: tl) := by
        cases i with
        | zero => exact ⟨.d (.list ((Ls p q 0).map ti)), fun tl => by simp! only [foundS]⟩
        | succ i => exact ⟨.d (.list ((Ls p q (i + 1)).map ti)), fun tl => by simp! only [foundS]⟩
      obtain ⟨g2, e2, e3⟩ := pl_loop p q i hlt hp hq f' hB
      refine ⟨[.d (ti p), .d (ti q), foundS (Ls p q i) i, .d (.int (i : Int)), .d (belD q i), .d (abvD q i), .u, .u, .u, .u, .u, .u, .u], [.d (ti p), .d (ti q), .own false ((Ls p q (i + 1)).map ti), .d (.int (i : Int)), .d (belD q i), .d (abvD q i), .u, .u, .u, .u, .u, .u, .u], ?_, .inl ?_, i + 1, hr, by omega, by simp! only [foundS]⟩
      · rw [setT_tup, setTs_cons _ _ _ _ _ _ (setT_nm _ _ _), setTs_cons (.tup [.nm 4, .nm 5]) [] (nbD q i) [] _ [.d (ti p), .d (ti q), foundS (Ls p q i) i, .d (.int (i : Int)), .d (belD q i), .d (abvD q i), .u, .u, .u, .u, .u, .u, .u] (by
          rw [nbD, setT_tup, setTs_cons _ _ _ _ _ _ (setT_nm _ _ _), setTs_cons _ _ _ _ _ _ (setT_nm _ _ _), setTs_nil]
          simp! only []), setTs_nil]
      · unfold plOut
        have hi : ∀ x, iV (dName 2) [SV.d (ti p), .d (ti q), foundS (Ls p q i) i, .d (.int (i : Int)), .d (belD q i), .d (abvD q i), .own false [], .u, .u, .u, .u, .u, x] = _ := fun x => hf' _
        rw [dSeq_at, show sSetO 6 (dLst dNil) [SV.d (ti p), .d (ti q), foundS (Ls p q i) i, .d (.int (i : Int)), .d (belD q i), .d (abvD q i), .u, .u, .u, .u, .u, .u, .u] = .ok .nx [SV.d (ti p), .d (ti q), foundS (Ls p q i) i, .d (.int (i : Int)), .d (belD q i), .d (abvD q i), .own false [], .u, .u, .u, .u, .u, .u] by simp! only [], dsq_nx, dSeq_at, sFor_at, hi, thn_ok, e2, e3]
        simp! only [])
  refine ⟨g', e1, ?_⟩
  have hi : i = q.length := by
    have := congrArg List.length h1
    rw [enumD_len, List.length_drop, nbs_len] at this
    simp at this
    omega
  subst hi
  exact h3

theorem pick10 (r s : Rs) : pick [1, 0] [r, s] = [s, r] := Eq.trans rfl rfl
theorem pick0 (r : Rs) : pick [0] [r] = [r] := Eq.trans rfl rfl
theorem gd_tis (n : Nat) (L : List (List Int)) : Gd (n + 2) (.list (L.map ti)) := gd_list fun x hx => by
  obtain ⟨c, _, rfl⟩ := List.mem_map.mp hx
  exact gd_ti n c
theorem fNe_tis (L : List (List Int)) : fNe (.list (L.map ti)) (.list []) = some (.bool (!decide (L = []))) := by
  rw [fNe_gd (n := 2) (m := 1) (gd_tis 0 L) (gd_list (xs := []) fun x hx => absurd hx List.not_mem_nil) (by decide) (by decide)]
  cases L with
  | nil => rfl
  | cons x L => rfl
theorem hB16 (p q : List Int) (hp : p.length ≤ 16) : ∀ b, b ≤ q.length → (Ls p q b).length ≤ 100000 := fun b hb => Nat.le_trans (Ls_two hb) (Nat.le_trans (Nat.pow_le_pow_right (by omega) hp) (by decide))
/-! ### lists -/
structure PatL (F : List (List Int)) : Prop where
  few : F.length ≤ 20
  pat : ∀ q ∈ F, IsOrd q ∧ q ≠ [] ∧ q.length ≤ 5
abbrev tiF (F : List (List Int)) : D := .tuple (F.map ti)
theorem fAny_b (bs : List Bool) : fAny [.list (bs.map .bool)] = some (.bool (bs.any id)) := by
  unfold fAny
  dsimp only
  rw [toBools_map]
  rfl

/-- what is drawn from: a budget of `k` draws is left -/
def Well (k : Nat) (l : List D) : Prop := ∃ a b c : Int, l = [.int a, .int b, .int c] ∧ 0 ≤ a ∧ 0 ≤ b ∧ b < 1000000000000000000000007 ∧ 0 ≤ c ∧ c + (k : Int) ≤ 1000000000
theorem Well.mono {j k : Nat} {l : List D} (h : Well k l) (hj : j ≤ k) : Well j l := by
  obtain ⟨a, b, c, e, h1, h2, h3, h4, h5⟩ := h
  exact ⟨a, b, c, e, h1, h2, h3, h4, by omega⟩
theorem pw_fact {i : Int} {j : Nat} {z : Int} (h : okPowW i (j : Int) = true) (e : i ^ j = z) : fPowW (.int i) (.int (j : Int)) = some (.int z) := by
  subst e
  exact if_pos h
theorem pw25 : fPowW (.int 10) (.int 25) = some (.int 10000000000000000000000000) := pw_fact (j := 25) (by decide +kernel) (by decide +kernel)
theorem pw24 : fPowW (.int 10) (.int 24) = some (.int 1000000000000000000000000) := pw_fact (j := 24) (by decide +kernel) (by decide +kernel)
theorem log_40 {i : Int} (h0 : 0 ≤ i) (h : i < 10000000000000000000000000000000000000000) : i.natAbs.log2 < 10000 :=
  Nat.lt_trans (log_lt (k := 140) (Nat.lt_of_lt_of_le (m := 10000000000000000000000000000000000000000) (by omega) (by decide +kernel)) (by decide)) (by decide)
theorem fPowW_2 {i : Int} (h : i.natAbs.log2 < 10000) : fPowW (.int i) (.int 2) = some (.int (i ^ 2)) := by
  have ok : okPowW i 2 = true := by
    unfold okPowW
    rw [decide_eq_true (show (0 : Int) ≤ 2 by decide), decide_eq_true (show (2 : Int) ≤ 1000 by decide), decide_eq_true h]
    rfl
  exact if_pos ok
theorem sub2 (i : Nat) (y : D) (b : Bool) (x z u : D) (g : En) : subS i y (some (b, [x, z, u])) (some (.int 2)) g = .ok .nx (g.set i (.own b [x, z, y])) := subS_at i y b [x, z, u] 2 g 2 (ixN_nat (i := 2) (show 2 < 3 by decide))
theorem dip_ok {k : Nat} {l : List D} (hl : Well (k + 1) l) (many : Int) (hm : 0 < many) (hs : many ≤ 1000000) : ∃ (v : Int) (l' : List D), φ__law_dip [.list l, .int many] = .ret (.d (.int v)) l' ∧ Well k l' ∧ 0 ≤ v ∧ v < many := by
  obtain ⟨a, b, c, rfl, ha, hb, hb2, hc, hk⟩ := hl
  have dm := fun i => fDiv_i i many hm (by omega)
  by_cases h0 : 0 < a
  · have hd0 : decide (0 < a) = true := decide_eq_true h0
    refine ⟨a % many, _, ?_, ⟨a / many, b, c, rfl, Int.ediv_nonneg ha (by omega), hb, hb2, hc, by omega⟩, Int.emod_nonneg _ (by omega), Int.emod_lt_of_pos _ hm⟩
    unfold φ__law_dip m__law_dip
    simp! only [hd0, hm, dm]
  · have hd0 : decide (0 < a) = false := decide_eq_false h0
    have m1 := fMul_l 1000003 (c + 1) (by decide)
    have m2 := fMul_l 77347 (c + 1) (by decide)
    have p1 := fPowW_3 (i := b + 1000003 * (c + 1)) (log_40 (by omega) (by omega))
    generalize (b + 1000003 * (c + 1)) ^ 3 = x1 at p1
    have hp : (0 : Int) < 10000000000000000000000000 + 13 := by decide
    have hp2 : (0 : Int) < 1000000000000000000000000 + 7 := by decide
    have m0 := fMod_i x1 _ hp
    have q1 := Int.emod_nonneg x1 (show (10000000000000000000000000 + 13 : Int) ≠ 0 by decide)
    have q2 := Int.emod_lt_of_pos x1 hp
    generalize x1 % (10000000000000000000000000 + 13) = x2 at *
    have p2 := fPowW_2 (i := x2 + 77347 * (c + 1)) (log_40 (by omega) (by omega))
    generalize (x2 + 77347 * (c + 1)) ^ 2 = x3 at p2
    have m3 := fMod_i x3 _ hp2
    generalize x3 % (1000000000000000000000000 + 7) = x4 at *
    refine ⟨x4 / 4096 % many, _, ?_, ⟨a, b, c + 1, rfl, ha, hb, hb2, by omega, by omega⟩, Int.emod_nonneg _ (by omega), Int.emod_lt_of_pos _ hm⟩
    have d6 := fDiv_i x4 4096 (by decide) (by decide)
    unfold φ__law_dip m__law_dip
    simp! only [hd0, hm, sub2, m1, m2, p1, p2, pw25, pw24, m0, m3, d6]
theorem erase_map : ∀ (xs : List Int) (j : Nat), (xs.map PyData.int).eraseIdx j = (xs.eraseIdx j).map .int
  | [], _ => rfl
  | _ :: _, 0 => rfl
  | x :: xs, j + 1 => congrArg (PyData.int x :: ·) (erase_map xs j)
theorem erase_perm : ∀ (xs : List Int) (j : Nat) (h : j < xs.length), (xs[j] :: xs.eraseIdx j).Perm xs
  | [], _, h => absurd h (Nat.not_lt_zero _)
  | _ :: _, 0, _ => .refl _
  | x :: xs, j + 1, h => (List.Perm.swap _ _ _).trans ((erase_perm xs j (Nat.lt_of_succ_lt_succ h)).cons x)
abbrev orT : M Bool := (dB (op2 fNe (dName 2) (dv (dFz (dLst dNil)))))
abbrev orB : M Fl := (sExpr (dMut 3 mAppend (dCons (dMut 2 mPopAt (dCons (rD (callP [.m, .v] φ__law_dip (vCons (dName 0) (vCons (dv (opN fLen (vCons (dName 2) vNil))) vNil)))) dNil)) dNil)))
theorem wh_step {ms : List Nat} {t : M Bool} {b : M Fl} {n : Nat} {g g1 g2 : En} (h1 : t g = .ok true g1) (h2 : b g1 = .ok .nx g2) : whG ms t b (n + 1) g = whG ms t b n (Z.fgt ms g2) := by
  rw [whG, bnd, h1]
  dsimp only
  rw [if_pos rfl, h2]
theorem wh_end {ms : List Nat} {t : M Bool} {b : M Fl} {n : Nat} {g g1 : En} (h1 : t g = .ok false g1) : whG ms t b (n + 1) g = .ok .nx (Z.fgt ms g1) := by
  rw [whG, bnd, h1]
  dsimp only
  rw [if_neg (by decide)]
theorem or_t (b0 b1 b3 : SV) (left : List Int) : orT [b0, b1, .own false (left.map .int), b3] = .ok (decide (left ≠ [])) [b0, b1, .own false (left.map .int), b3] := by
  have e := fNe_li left []
  have e : fNe (.list (left.map .int)) (.list []) = some (.bool (!decide (left = []))) := e
  unfold orT
  simp! only [e]
  simp
theorem or_b {k : Nat} {l : List D} (hl : Well (k + 1) l) (b1 : SV) (left found : List Int) (h0 : 0 < left.length) (h1 : left.length ≤ 100) (h2 : found.length ≤ 100) :
    ∃ (l' : List D) (left' found' : List Int), Well k l' ∧ left'.length + 1 = left.length ∧ found'.length = found.length + 1 ∧ (found' ++ left').Perm (found ++ left) ∧
      orB [.own true l, b1, .own false (left.map .int), .own false (found.map .int)] = .ok .nx [.own true l', b1, .own false (left'.map .int), .own false (found'.map .int)] := by
  obtain ⟨v, l1, e1, w1, v0, v1⟩ := dip_ok hl (left.length : Int) (by omega) (by omega)
  have hv : v.toNat < left.length := by omega
  refine ⟨l1, left.eraseIdx v.toNat, found ++ [left[v.toNat]], w1, ?_, by simp, ?_, ?_⟩
  · rw [List.length_eraseIdx_of_lt hv]
    omega
  · rw [List.append_assoc]
    exact (erase_perm left v.toNat hv).append_left found
  · have pp : mPopAt (left.map PyData.int) [.int v] = some ((left.eraseIdx v.toNat).map .int, .int left[v.toNat]) := by
      rw [mPopAt_ok (y := .int left[v.toNat]) v0 (by omega) (by rw [List.getElem?_map, List.getElem?_eq_getElem hv]; rfl)]
      congr 2
      exact erase_map _ _
    have ap := mAppend_ok (found.map PyData.int) (.int left[v.toNat]) (by rw [List.length_map]; exact sz_lt (by omega))
    have em : found.map PyData.int ++ [.int left[v.toNat]] = (found ++ [left[v.toNat]]).map .int := by rw [List.map_append]; rfl
    rw [em] at ap
    unfold orB
    simp! only [List.length_map, e1, pp, ap]
theorem or_run (b1 : SV) : ∀ (m n k : Nat) (l : List D) (left found : List Int), left.length = m → m ≤ 100 → found.length + m ≤ 100 → m + 1 ≤ n → Well (k + m) l → ∃ (l' : List D) (found' : List Int), Well k l' ∧ found'.Perm (found ++ left) ∧
    whG [] orT orB n [.own true l, b1, .own false (left.map .int), .own false (found.map .int)] = .ok .nx [.own true l', b1, .own false [], .own false (found'.map .int)] := by
  intro m
  induction m with
  | zero =>
    intro n k l left found hl _ _ hn w
    have : left = [] := List.length_eq_zero_iff.mp hl
    subst this
    obtain ⟨j, rfl⟩ : ∃ j, n = j + 1 := ⟨n - 1, by omega⟩
    have t := or_t (.own true l) b1 (.own false (found.map .int)) []
    rw [decide_eq_false (by simp)] at t
    exact ⟨l, found, w, by rw [List.append_nil], by rw [wh_end t, fgt_nil]; rfl⟩
  | succ m ih =>
    intro n k l left found hl h1 h2 hn w
    obtain ⟨j, rfl⟩ : ∃ j, n = j + 1 := ⟨n - 1, by omega⟩
    have hne : left ≠ [] := fun z => by rw [z] at hl; cases hl
    have t := or_t (.own true l) b1 (.own false (found.map .int)) left
    rw [decide_eq_true hne] at t
    obtain ⟨l1, left1, found1, w1, e1, e2, pm, eb⟩ := or_b (k := k + m) w b1 left found (by omega) (by omega) (by omega)
    obtain ⟨l2, found2, w2, pm2, e3⟩ := ih j k l1 left1 found1 (by omega) (by omega) (by omega) (by omega) w1
    exact ⟨l2, found2, w2, pm2.trans pm, by rw [wh_step t eb, fgt_nil, e3]⟩

/-! ### the stack; its uppermost thing first -/
def popS (n : Int) : List Int → List Int → List Int × List Int
  | left, [] => (left, [])
  | left, x :: sk => if x < n then popS n (left ++ [x]) sk else (left, x :: sk)
def stS (s : List Int × List Int) (n : Int) : List Int × List Int := ((popS n s.1 s.2).1, n :: (popS n s.1 s.2).2)
def stackL (o : List Int) : List Int := (o.foldl stS ([], [])).1 ++ (o.foldl stS ([], [])).2
theorem popS_app (n : Int) : ∀ (sk left : List Int), (popS n left sk).1 ++ (popS n left sk).2 = left ++ sk
  | [], left => rfl
  | x :: sk, left => by
    unfold popS
    split
    · rw [popS_app n sk (left ++ [x]), List.append_assoc]
      rfl
    · rfl
theorem stS_perm (s : List Int × List Int) (n : Int) : ((stS s n).1 ++ (stS s n).2).Perm (s.1 ++ s.2 ++ [n]) := by
  unfold stS
  refine List.perm_middle.trans ?_
  rw [popS_app]
  exact (List.perm_append_comm (l₁ := [n])).trans (.refl _)
theorem foldS_perm : ∀ (o : List Int) (s : List Int × List Int), ((o.foldl stS s).1 ++ (o.foldl stS s).2).Perm (s.1 ++ s.2 ++ o)
  | [], s => by rw [List.append_nil]; exact .refl _
  | n :: o, s => by
    rw [List.foldl_cons]
    refine (foldS_perm o (stS s n)).trans ?_
    have := (stS_perm s n).append_right o
    rw [List.append_assoc (s.1 ++ s.2)] at this
    exact this
theorem stackL_perm (o : List Int) : (stackL o).Perm o := foldS_perm o ([], [])
/-! the program's -/
abbrev psT : M Bool := (dAnd (dB (op2 fNe (dName 2) (dv (dFz (dLst dNil))))) (dB (op2 fLt (dv (op2 fIx (dName 2) (dv (op1 fNeg (dv (dC (.int 1))))))) (dName 3))))
abbrev psB : M Fl := (sExpr (dMut 1 mAppend (dCons (dMut 2 mPop (rt [])) dNil)))
theorem fNe_lnil (sk : List Int) : fNe (.list (sk.map .int)) (.list []) = some (.bool (!decide (sk = []))) := fNe_li sk []
theorem fNeg_1 : fNeg (.int 1) = some (.int (-1)) := Eq.trans rfl rfl
theorem last_rev (x : Int) (sk : List Int) : fIx (.list (((x :: sk).reverse).map PyData.int)) (.int (-1)) = some (.int x) := by
  rw [List.reverse_cons, List.map_append]
  exact fIx_lastL
theorem ps_t0 (b0 b1 : SV) (n : Int) : psT [b0, b1, .own false [], .d (.int n)] = .ok false [b0, b1, .own false [], .d (.int n)] := by
  have e : fNe (.list []) (.list []) = some (.bool false) := fNe_lnil []
  unfold psT
  simp! only [e]
theorem ps_t1 (b0 b1 : SV) (n x : Int) (sk : List Int) : psT [b0, b1, .own false (((x :: sk).reverse).map .int), .d (.int n)] = .ok (decide (x < n)) [b0, b1, .own false (((x :: sk).reverse).map .int), .d (.int n)] := by
  have e := fNe_lnil (x :: sk).reverse
  rw [decide_eq_false (show (x :: sk).reverse ≠ [] by simp)] at e
  have e2 := last_rev x sk
  have g1 := fNeg_1
  unfold psT
  generalize ((x :: sk).reverse).map PyData.int = z at *
  simp! only [e, e2, g1]
theorem pop_rev (x : Int) (sk : List Int) : mPop (((x :: sk).reverse).map PyData.int) [] = some ((sk.reverse).map .int, .int x) := by
  have e : ((x :: sk).reverse).map PyData.int = (sk.reverse).map .int ++ [.int x] := by rw [List.reverse_cons, List.map_append]; rfl
  rw [e]
  unfold mPop
  dsimp only
  have hl : ((sk.reverse).map PyData.int ++ [PyData.int x]).length - 1 = ((sk.reverse).map PyData.int).length := by simp
  rw [hl, List.getElem?_append_right (Nat.le_refl _), Nat.sub_self]
  dsimp only [List.getElem?_cons_zero]
  rw [List.dropLast_concat]
theorem ps_b (b0 : SV) (n x : Int) (sk left : List Int) (hl : left.length ≤ 100) : psB [b0, .own false (left.map .int), .own false (((x :: sk).reverse).map .int), .d (.int n)] = .ok .nx [b0, .own false ((left ++ [x]).map .int), .own false ((sk.reverse).map .int), .d (.int n)] := by
  have e := pop_rev x sk
  have ap := mAppend_ok (left.map PyData.int) (.int x) (by rw [List.length_map]; exact sz_lt (by omega))
  have em : left.map PyData.int ++ [.int x] = (left ++ [x]).map .int := by rw [List.map_append]; rfl
  rw [em] at ap
  unfold psB
  generalize ((x :: sk).reverse).map PyData.int = z at *
  simp! only [e, ap]
theorem ps_run (b0 : SV) (n : Int) : ∀ (sk left : List Int) (k : Nat), left.length + sk.length ≤ 100 → sk.length + 1 ≤ k →
    whG [] psT psB k [b0, .own false (left.map .int), .own false ((sk.reverse).map .int), .d (.int n)] = .ok .nx [b0, .own false ((popS n left sk).1.map .int), .own false (((popS n left sk).2.reverse).map .int), .d (.int n)]
  | [], left, k, h1, h2 => by
    obtain ⟨j, rfl⟩ : ∃ j, k = j + 1 := ⟨k - 1, by omega⟩
    exact (wh_end (ps_t0 b0 (.own false (left.map .int)) n)).trans (by rw [fgt_nil]; rfl)
  | x :: sk, left, k, h1, h2 => by
    obtain ⟨j, rfl⟩ : ∃ j, k = j + 1 := ⟨k - 1, by omega⟩
    rw [List.length_cons] at h1 h2
    have t := ps_t1 b0 (.own false (left.map .int)) n x sk
    unfold popS
    by_cases c : x < n
    · rw [decide_eq_true c] at t
      rw [if_pos c, wh_step t (ps_b b0 n x sk left (by omega)), fgt_nil, ps_run b0 n sk (left ++ [x]) j (by rw [List.length_append, List.length_singleton]; omega) (by omega)]
    · rw [decide_eq_false c] at t
      rw [if_neg c, wh_end t, fgt_nil]
theorem popS_len (n : Int) (left sk : List Int) : (popS n left sk).1.length + (popS n left sk).2.length = left.length + sk.length := by
  have := congrArg List.length (popS_app n sk left)
  rw [List.length_append, List.length_append] at this
  exact this
theorem foldS_len (o : List Int) (i : Nat) (h : i ≤ o.length) : ((o.take i).foldl stS ([], [])).1.length + ((o.take i).foldl stS ([], [])).2.length = i := by
  have := (foldS_perm (o.take i) ([], [])).length_eq
  rw [List.length_append] at this
  simp at this
  omega
theorem foldS_step {f : List Int × List Int → Int → List Int × List Int} (o : List Int) (i : Nat) (h : i < o.length) : (o.take (i + 1)).foldl f ([], []) = f ((o.take i).foldl f ([], [])) o[i] := by
  rw [List.take_succ, List.getElem?_eq_getElem h]
  show List.foldl f ([], []) (o.take i ++ [o[i]]) = _
  rw [List.foldl_append]
  rfl
/-- a loop over an order that keeps two rows -/
theorem for_two {t : Nat} {ms : List Nat} {b : M Fl} (f : List Int × List Int → Int → List Int × List Int) (E : List Int × List Int → En) (o : List Int)
    (hs : ∀ i (h : i < o.length), ∃ g2, b ((E ((o.take i).foldl f ([], []))).set t (.d (.int o[i]))) = .ok .nx g2 ∧ Z.fgt ms g2 = E (f ((o.take i).foldl f ([], [])) o[i])) (h0 : Z.fgt ms (E (o.foldl f ([], []))) = E (o.foldl f ([], []))) :
    forG (.nm t) ms b (o.map .int) (E ([], [])) = .ok .nx (E (o.foldl f ([], []))) := by
  obtain ⟨g', e1, i, h1, h2, h3⟩ := forG_inv (t := .nm t) (ms := ms) (b := b) (o.map .int)
    (fun r g => ∃ i, i ≤ o.length ∧ r = (o.drop i).map .int ∧ g = E ((o.take i).foldl f ([], []))) (E ([], [])) ⟨0, Nat.zero_le _, rfl, rfl⟩ (by
      rintro x r g ⟨i, h1, h2, rfl⟩ _
      have hlt : i < o.length := by
        have := congrArg List.length h2
        rw [List.length_map, List.length_drop, List.length_cons] at this
        omega
      rw [List.drop_eq_getElem_cons hlt, List.map_cons] at h2
      injection h2 with hx hr
      subst hx
      obtain ⟨g2, e1, e2⟩ := hs i hlt
      exact ⟨_, g2, setT_nm _ _ _, .inl e1, i + 1, hlt, hr, by rw [e2, foldS_step o i hlt]⟩)
  have hi : i = o.length := by
    have := congrArg List.length h2
    rw [List.length_map, List.length_drop, List.length_nil] at this
    omega
  subst hi
  rw [e1, h3, List.take_length, h0]
abbrev psL : M Fl := (dSeq (sWh [] psT psB) (sExpr (dMut 2 mAppend (dCons (dEsc (dName 3)) dNil))))
theorem by_stack_ok (o : List Int) (h : o.length ≤ 90) : φ_by_stack [ti o] = .ret (.d (ti (stackL o))) [] := by
  have e1 := for_two (t := 3) (ms := [3]) (b := psL) stS (fun s => [.d (ti o), .own false (s.1.map .int), .own false ((s.2.reverse).map .int), .u]) o (fun i hi => by
    have hl := foldS_len o i (by omega)
    generalize (o.take i).foldl stS ([], []) = s at *
    have r := ps_run (.d (ti o)) o[i] s.2 s.1 1000000 (by omega) (by omega)
    have pl := popS_len o[i] s.1 s.2
    have ap := mAppend_ok (((popS o[i] s.1 s.2).2.reverse).map PyData.int) (.int o[i]) (by rw [List.length_map, List.length_reverse]; exact sz_lt (by omega))
    have em : ((popS o[i] s.1 s.2).2.reverse).map PyData.int ++ [.int o[i]] = ((stS s o[i]).2.reverse).map .int := by
      unfold stS
      rw [List.reverse_cons, List.map_append]
      rfl
    rw [em] at ap
    refine ⟨[.d (ti o), .own false ((stS s o[i]).1.map .int), .own false (((stS s o[i]).2.reverse).map .int), .d (.int o[i])], ?_, rfl⟩
    unfold psL sWh
    rw [show (stS s o[i]).1 = (popS o[i] s.1 s.2).1 from rfl]
    generalize psT = pt at *
    generalize psB = pb at *
    simp! only [r, ap]) rfl
  have hl := foldS_len o o.length (Nat.le_refl _)
  rw [List.take_length] at hl
  have hs : stackL o = (o.foldl stS ([], [])).1 ++ (o.foldl stS ([], [])).2 := rfl
  generalize o.foldl stS ([], []) = s at *
  have hf : fBack (.list ((s.2.reverse).map PyData.int)) = none := Eq.trans rfl rfl
  have ho : ∀ g : En, oRo (none : Option D) g = .bad := fun g => Eq.trans rfl rfl
  have hr : ((s.2.reverse).map PyData.int).reverse = s.2.map .int := by rw [← List.map_reverse, List.reverse_reverse]
  have ha : fAdd (.list (s.1.map PyData.int)) (.list (s.2.map .int)) = none := Eq.trans rfl rfl
  have hc : fCat (.list (s.1.map PyData.int)) (.list (s.2.map .int)) = some ((stackL o).map .int) := by
    rw [hs, List.map_append]
    exact if_pos (sz_le (by rw [List.length_map, List.length_map]; omega))
  unfold φ_by_stack m_by_stack
  generalize hb : psL = pl at *
  unfold psL psT psB at hb
  rw [hb]
  unfold ti at *
  simp only [List.map_nil, List.reverse_nil] at e1
  simp! only [e1, hf, ho, hr, ha, hc]

/-! ### the law's stack -/
theorem fNe_tnil (p : List Int) : fNe (.tuple (p.map .int)) (.tuple []) = some (.bool (!decide (p = []))) := fNe_ti p []
theorem fEq_ti (p q : List Int) : fEq (ti p) (ti q) = some (.bool (decide (p = q))) := by
  rw [fEq_gd (gd_ti 0 p) (gd_ti 0 q) (by decide) (by decide)]
  show some (PyData.bool (PyData.eqvAll (p.map .int) (q.map .int))) = _
  rw [eqvAll_ints]
theorem fEq_tnil (p : List Int) : fEq (.tuple (p.map .int)) (.tuple []) = some (.bool (decide (p = []))) := fEq_ti p []
theorem head_t (x : Int) (sk : List Int) : fIx (.tuple ((x :: sk).map PyData.int)) (.int 0) = some (.int x) := fIx_t (i := 0) rfl
theorem cut_1 (x : Int) (sk : List Int) : fCutT (.tuple ((x :: sk).map PyData.int)) none (some 1) = some (.tuple [.int x]) := fCutT_take ((x :: sk).map PyData.int) 1
theorem cut_r (x : Int) (sk : List Int) : fCutT (.tuple ((x :: sk).map PyData.int)) (some 1) none = some (.tuple (sk.map .int)) := fCutT_from ((x :: sk).map PyData.int) 1 (by simp)
theorem add_ti (p q : List Int) (h : p.length + q.length ≤ 1000) : fAdd (.tuple (p.map PyData.int)) (.tuple (q.map .int)) = some (.tuple ((p ++ q).map .int)) := by
  rw [List.map_append]
  exact fAdd_tt _ _ (by rw [List.length_map, List.length_map]; omega)
theorem add_t1 (p : List Int) (x : Int) (h : p.length ≤ 900) : fAdd (.tuple (p.map PyData.int)) (.tuple [.int x]) = some (.tuple ((p ++ [x]).map .int)) := add_ti p [x] (by rw [List.length_singleton]; omega)
theorem add_1t (p : List Int) (x : Int) (h : p.length ≤ 900) : fAdd (.tuple [.int x]) (.tuple (p.map PyData.int)) = some (.tuple ((x :: p).map .int)) := add_ti [x] p (by rw [List.length_singleton]; omega)
abbrev lsT : M Bool := (dAnd (dB (op2 fNe (dName 2) (dv (dTup dNil)))) (dB (op2 fLt (dv (op2 fIx (dName 2) (dv (dC (.int 0))))) (dName 3))))
abbrev lsB : M Fl := (sPar [1, 2] (msR (op2r fAdd fCat (dName 1) (dv (rD (cutR (dName 2) oNone (oSome (dC (.int 1))))))) (msR (cutR (dName 2) (oSome (dC (.int 1))) oNone) msNil)))
theorem ls_t0 (b0 b1 : SV) (n : Int) : lsT [b0, b1, .d (.tuple []), .d (.int n)] = .ok false [b0, b1, .d (.tuple []), .d (.int n)] := by
  have e : fNe (.tuple []) (.tuple []) = some (.bool false) := fNe_tnil []
  unfold lsT
  simp! only [e]
theorem ls_t1 (b0 b1 : SV) (n x : Int) (sk : List Int) : lsT [b0, b1, .d (.tuple ((x :: sk).map .int)), .d (.int n)] = .ok (decide (x < n)) [b0, b1, .d (.tuple ((x :: sk).map .int)), .d (.int n)] := by
  have e := fNe_tnil (x :: sk)
  rw [decide_eq_false (show x :: sk ≠ [] by simp)] at e
  have e2 := head_t x sk
  unfold lsT
  generalize (x :: sk).map PyData.int = z at *
  simp! only [e, e2]
theorem ls_b (b0 : SV) (n x : Int) (sk left : List Int) (hl : left.length ≤ 100) : lsB [b0, .d (.tuple (left.map .int)), .d (.tuple ((x :: sk).map .int)), .d (.int n)] = .ok .nx [b0, .d (.tuple ((left ++ [x]).map .int)), .d (.tuple (sk.map .int)), .d (.int n)] := by
  have e1 := cut_1 x sk
  have e2 := cut_r x sk
  have e3 := add_t1 left x (by omega)
  unfold lsB
  generalize (x :: sk).map PyData.int = z at *
  simp! only [e1, e2, e3]
theorem ls_run (b0 : SV) (n : Int) : ∀ (sk left : List Int) (k : Nat), left.length + sk.length ≤ 100 → sk.length + 1 ≤ k →
    whG [] lsT lsB k [b0, .d (.tuple (left.map .int)), .d (.tuple (sk.map .int)), .d (.int n)] = .ok .nx [b0, .d (.tuple ((popS n left sk).1.map .int)), .d (.tuple ((popS n left sk).2.map .int)), .d (.int n)]
  | [], left, k, h1, h2 => by
    obtain ⟨j, rfl⟩ : ∃ j, k = j + 1 := ⟨k - 1, by omega⟩
    exact (wh_end (ls_t0 b0 (.d (.tuple (left.map .int))) n)).trans (by rw [fgt_nil]; rfl)
  | x :: sk, left, k, h1, h2 => by
    obtain ⟨j, rfl⟩ : ∃ j, k = j + 1 := ⟨k - 1, by omega⟩
    rw [List.length_cons] at h1 h2
    have t := ls_t1 b0 (.d (.tuple (left.map .int))) n x sk
    unfold popS
    by_cases c : x < n
    · rw [decide_eq_true c] at t
      rw [if_pos c, wh_step t (ls_b b0 n x sk left (by omega)), fgt_nil, ls_run b0 n sk (left ++ [x]) j (by rw [List.length_append, List.length_singleton]; omega) (by omega)]
    · rw [decide_eq_false c] at t
      rw [if_neg c, wh_end t, fgt_nil]
abbrev lsL : M Fl := (dSeq (sWh [] lsT lsB) (sSetR 2 (op2r fAdd fCat (dv (dTup (dCons (dEsc (dName 3)) dNil))) (dName 2))))
/-! ### the popper -/
def ppS (s : List Int × List Int) (n : Int) : List Int × List Int := match s.2 with
  | [] => (s.1, [n])
  | x :: r => if x < n then (s.1 ++ (x :: r), [n]) else (s.1, n :: x :: r)
def popperL (o : List Int) : List Int := (o.foldl ppS ([], [])).1 ++ (o.foldl ppS ([], [])).2
theorem ppS_perm (s : List Int × List Int) (n : Int) : ((ppS s n).1 ++ (ppS s n).2).Perm (s.1 ++ s.2 ++ [n]) := by
  obtain ⟨a, b⟩ := s
  unfold ppS
  cases b with
  | nil => simp
  | cons x r =>
    dsimp only
    split
    · exact .refl _
    · exact List.perm_middle.trans (List.perm_append_comm (l₁ := [n]))
theorem foldP_perm : ∀ (o : List Int) (s : List Int × List Int), ((o.foldl ppS s).1 ++ (o.foldl ppS s).2).Perm (s.1 ++ s.2 ++ o)
  | [], s => by rw [List.append_nil]; exact .refl _
  | n :: o, s => by
    rw [List.foldl_cons]
    refine (foldP_perm o (ppS s n)).trans ?_
    have := (ppS_perm s n).append_right o
    rw [List.append_assoc (s.1 ++ s.2)] at this
    exact this
theorem popperL_perm (o : List Int) : (popperL o).Perm o := foldP_perm o ([], [])
theorem foldP_len (o : List Int) (i : Nat) (h : i ≤ o.length) : ((o.take i).foldl ppS ([], [])).1.length + ((o.take i).foldl ppS ([], [])).2.length = i := by
  have := (foldP_perm (o.take i) ([], [])).length_eq
  rw [List.length_append] at this
  simp at this
  omega
abbrev lpB : M Fl := (dSeq (sIf (dAnd (dB (op2 fNe (dName 2) (dv (dTup dNil)))) (dB (op2 fGt (dName 3) (dv (op2 fIx (dName 2) (dv (dC (.int 0)))))))) (sPar [1, 2] (msR (op2r fAdd fCat (dName 1) (dName 2)) (msD (dTup dNil) msNil))) sNx)
    (sSetR 2 (op2r fAdd fCat (dv (dTup (dCons (dEsc (dName 3)) dNil))) (dName 2))))
theorem lp_b (b0 : SV) (n : Int) (s : List Int × List Int) (hl : s.1.length + s.2.length ≤ 100) : lpB [b0, .d (.tuple (s.1.map .int)), .d (.tuple (s.2.map .int)), .d (.int n)] = .ok .nx [b0, .d (.tuple ((ppS s n).1.map .int)), .d (.tuple ((ppS s n).2.map .int)), .d (.int n)] := by
  obtain ⟨a, b⟩ := s
  unfold lpB ppS
  cases b with
  | nil =>
    have e : fNe (.tuple []) (.tuple []) = some (.bool false) := fNe_tnil []
    have e2 : fAdd (.tuple [PyData.int n]) (.tuple []) = some (.tuple [.int n]) := add_1t [] n (by simp)
    simp! only [List.map_nil, List.map_cons, e, e2]
  | cons x r =>
    have e := fNe_tnil (x :: r)
    rw [decide_eq_false (show x :: r ≠ [] by simp)] at e
    have e2 := head_t x r
    have e3 := add_ti a (x :: r) (by simp at hl ⊢; omega)
    have e4 : fAdd (.tuple [PyData.int n]) (.tuple []) = some (.tuple [.int n]) := add_1t [] n (by simp)
    have e5 := add_1t (x :: r) n (by simp at hl ⊢; omega)
    dsimp only
    by_cases c : x < n
    · rw [if_pos c]
      have d : decide (x < n) = true := decide_eq_true c
      generalize (x :: r).map PyData.int = z at *
      generalize (a ++ x :: r).map PyData.int = z2 at *
      simp! only [List.map_nil, List.map_cons, e, e2, e3, e4, d]
    · rw [if_neg c]
      have d : decide (x < n) = false := decide_eq_false c
      generalize hz : (n :: x :: r).map PyData.int = z2 at *
      generalize (x :: r).map PyData.int = z at *
      simp! only [e, e2, e5, d]
abbrev ppB : M Fl := (dSeq (sIf (dAnd (dB (op2 fNe (dName 2) (dv (dFz (dLst dNil))))) (dB (op2 fLt (dv (op2 fIx (dName 2) (dv (op1 fNeg (dv (dC (.int 1))))))) (dName 3)))) (dSeq (sExpr (dMut 1 mExtend (rO (mixR (op1 fBack (dName 2)) (op1o fBackL (dName 2))))))
    (sSetO 2 (dLst dNil))) sNx)
    (sExpr (dMut 2 mAppend (dCons (dEsc (dName 3)) dNil))))
theorem fBack_l (xs : List D) : fBack (.list xs) = none := Eq.trans rfl rfl
theorem oRo_no {α : Type} (g : En) : oRo (none : Option α) g = .bad := Eq.trans rfl rfl
theorem rev_map (xs : List Int) : ((xs.reverse).map PyData.int).reverse = xs.map .int := by rw [← List.map_reverse, List.reverse_reverse]
theorem pp_b (b0 : SV) (n : Int) (s : List Int × List Int) (hl : s.1.length + s.2.length ≤ 100) : ppB [b0, .own false (s.1.map .int), .own false ((s.2.reverse).map .int), .d (.int n)] = .ok .nx [b0, .own false ((ppS s n).1.map .int), .own false (((ppS s n).2.reverse).map .int), .d (.int n)] := by
  obtain ⟨a, b⟩ := s
  unfold ppB ppS
  have ap0 : mAppend ([] : List D) [.int n] = some ([.int n], .none) := mAppend_ok [] (.int n) (sz_lt (by decide))
  cases b with
  | nil =>
    have e : fNe (.list []) (.list []) = some (.bool false) := fNe_lnil []
    simp! only [List.reverse_nil, List.reverse_cons, List.map_nil, List.map_cons, e, ap0]
  | cons x r =>
    have e := fNe_lnil (x :: r).reverse
    rw [decide_eq_false (show (x :: r).reverse ≠ [] by simp)] at e
    have e2 := last_rev x r
    have g1 := fNeg_1
    have hr := rev_map (x :: r)
    have ex : mExtend (a.map PyData.int) ((x :: r).map .int) = some ((a ++ x :: r).map .int, .none) := by
      rw [List.map_append]
      exact if_pos (sz_le (by rw [List.length_map, List.length_map]; simp at hl ⊢; omega))
    have ap := mAppend_ok (((x :: r).reverse).map PyData.int) (.int n) (sz_lt (by simp at hl ⊢; omega))
    have em : ((x :: r).reverse).map PyData.int ++ [.int n] = ((n :: x :: r).reverse).map .int := by rw [List.reverse_cons (a := n), List.map_append]; rfl
    rw [em] at ap
    dsimp only
    by_cases c : x < n
    · rw [if_pos c]
      have d : decide (x < n) = true := decide_eq_true c
      rw [show ([n] : List Int).reverse = [n] from rfl]
      generalize ((x :: r).reverse).map PyData.int = z at *
      generalize (a ++ x :: r).map PyData.int = z2 at *
      generalize (x :: r).map PyData.int = z3 at *
      simp! only [List.map_nil, List.map_cons, e, e2, g1, fBack_l, oRo_no, hr, ex, ap0, d]
    · rw [if_neg c]
      have d : decide (x < n) = false := decide_eq_false c
      generalize ((n :: x :: r).reverse).map PyData.int = z2 at *
      generalize ((x :: r).reverse).map PyData.int = z at *
      simp! only [e, e2, g1, ap, d]
theorem by_popper_ok (o : List Int) (h : o.length ≤ 90) : φ_by_popper [ti o] = .ret (.d (ti (popperL o))) [] := by
  have e1 := for_two (t := 3) (ms := [3]) (b := ppB) ppS (fun s => [.d (ti o), .own false (s.1.map .int), .own false ((s.2.reverse).map .int), .u]) o (fun i hi => by
    have hl := foldP_len o i (by omega)
    generalize (o.take i).foldl ppS ([], []) = s at *
    exact ⟨_, pp_b (.d (ti o)) o[i] s (by omega), rfl⟩) rfl
  have hl := foldP_len o o.length (Nat.le_refl _)
  rw [List.take_length] at hl
  have hs : popperL o = (o.foldl ppS ([], [])).1 ++ (o.foldl ppS ([], [])).2 := rfl
  generalize o.foldl ppS ([], []) = s at *
  have hr := rev_map s.2
  have ha : fAdd (.list (s.1.map PyData.int)) (.list (s.2.map .int)) = none := Eq.trans rfl rfl
  have hc : fCat (.list (s.1.map PyData.int)) (.list (s.2.map .int)) = some ((popperL o).map .int) := by
    rw [hs, List.map_append]
    exact if_pos (sz_le (by rw [List.length_map, List.length_map]; omega))
  unfold φ_by_popper m_by_popper
  generalize hb : ppB = pl at *
  unfold ppB at hb
  rw [hb]
  unfold ti at *
  simp only [List.map_nil, List.reverse_nil] at e1
  simp! only [e1, fBack_l, oRo_no, hr, ha, hc]

theorem fold_step {S : Type} {f : S → Int → S} (s0 : S) (o : List Int) (i : Nat) (h : i < o.length) : (o.take (i + 1)).foldl f s0 = f ((o.take i).foldl f s0) o[i] := by
  rw [List.take_succ, List.getElem?_eq_getElem h]
  show List.foldl f s0 (o.take i ++ [o[i]]) = _
  rw [List.foldl_append]
  rfl
theorem for_st {S : Type} {t : Nat} {ms : List Nat} {b : M Fl} (f : S → Int → S) (E : S → En) (s0 : S) (o : List Int)
    (hs : ∀ i (h : i < o.length), ∃ g2, b ((E ((o.take i).foldl f s0)).set t (.d (.int o[i]))) = .ok .nx g2 ∧ Z.fgt ms g2 = E (f ((o.take i).foldl f s0) o[i])) (h0 : Z.fgt ms (E (o.foldl f s0)) = E (o.foldl f s0)) :
    forG (.nm t) ms b (o.map .int) (E s0) = .ok .nx (E (o.foldl f s0)) := by
  obtain ⟨g', e1, i, h1, h2, h3⟩ := forG_inv (t := .nm t) (ms := ms) (b := b) (o.map .int)
    (fun r g => ∃ i, i ≤ o.length ∧ r = (o.drop i).map .int ∧ g = E ((o.take i).foldl f s0)) (E s0) ⟨0, Nat.zero_le _, rfl, rfl⟩ (by
      rintro x r g ⟨i, h1, h2, rfl⟩ _
      have hlt : i < o.length := by
        have := congrArg List.length h2
        rw [List.length_map, List.length_drop, List.length_cons] at this
        omega
      rw [List.drop_eq_getElem_cons hlt, List.map_cons] at h2
      injection h2 with hx hr
      subst hx
      obtain ⟨g2, e1, e2⟩ := hs i hlt
      exact ⟨_, g2, setT_nm _ _ _, .inl e1, i + 1, hlt, hr, by rw [e2, fold_step s0 o i hlt]⟩)
  have hi : i = o.length := by
    have := congrArg List.length h2
    rw [List.length_map, List.length_drop, List.length_nil] at this
    omega
  subst hi
  rw [e1, h3, List.take_length, h0]
/-! ### the bubble -/
def insS (L : List Int) (n : Int) : List Int := if L = [] then [n] else if n < L.getLastD 0 then L.dropLast ++ [n] ++ [L.getLastD 0] else L ++ [n]
def bubbleL (o : List Int) : List Int := o.foldl insS []
theorem insS_nil (n : Int) : insS [] n = [n] := if_pos rfl
theorem insS_c (f : List Int) (h n : Int) : insS (f ++ [h]) n = if n < h then f ++ [n] ++ [h] else f ++ [h] ++ [n] := by
  unfold insS
  rw [if_neg (by simp), List.dropLast_concat, show (f ++ [h]).getLastD 0 = h by simp]
theorem insS_perm (L : List Int) (n : Int) : (insS L n).Perm (L ++ [n]) := by
  rcases List.eq_nil_or_concat L with rfl | ⟨f, h, rfl⟩
  · rw [insS_nil]
    exact .refl _
  · rw [List.concat_eq_append, insS_c]
    split
    · rw [List.append_assoc, List.append_assoc]
      exact (List.Perm.swap _ _ _).append_left f
    · exact .refl _
theorem foldI_perm : ∀ (o L : List Int), (o.foldl insS L).Perm (L ++ o)
  | [], L => by rw [List.append_nil]; exact .refl _
  | n :: o, L => by
    rw [List.foldl_cons]
    refine (foldI_perm o (insS L n)).trans ?_
    have := (insS_perm L n).append_right o
    rw [List.append_assoc] at this
    exact this
theorem bubbleL_perm (o : List Int) : (bubbleL o).Perm o := foldI_perm o []
theorem foldI_len (o : List Int) (i : Nat) (h : i ≤ o.length) : ((o.take i).foldl insS []).length = i := by
  have := (foldI_perm (o.take i) []).length_eq
  simp at this
  omega
abbrev buB : M Fl := (sIf (dAnd (dB (op2 fNe (dName 1) (dv (dFz (dLst dNil))))) (dB (op2 fLt (dName 2) (dv (op2 fIx (dName 1) (dv (op1 fNeg (dv (dC (.int 1)))))))))) (sExpr (dMut 1 mInsert (dCons (op2 fSub (dv (opN fLen (vCons (dName 1) vNil))) (dv (dC (.int 1)))) (dCons (dEsc (dName 2)) dNil)))) (sExpr (dMut 1 mAppend (dCons (dEsc (dName 2)) dNil))))
theorem bu_b (b0 : SV) (n : Int) (L : List Int) (hl : L.length ≤ 100) : buB [b0, .own false (L.map .int), .d (.int n)] = .ok .nx [b0, .own false ((insS L n).map .int), .d (.int n)] := by
  have ap := mAppend_ok (L.map PyData.int) (.int n) (by rw [List.length_map]; exact sz_lt (by omega))
  have em : L.map PyData.int ++ [.int n] = (L ++ [n]).map .int := by rw [List.map_append]; rfl
  rw [em] at ap
  have e := fNe_lnil L
  have g1 := fNeg_1
  unfold buB
  rcases List.eq_nil_or_concat L with rfl | ⟨f, h, rfl⟩
  · rw [insS_nil]
    rw [List.map_nil] at *
    have e : fNe (.list []) (.list []) = some (.bool false) := e
    rw [List.nil_append] at ap
    simp! only [e, ap]
  · rw [List.concat_eq_append] at *
    rw [insS_c]
    rw [decide_eq_false (show f ++ [h] ≠ [] by simp)] at e
    have e2 : fIx (.list ((f ++ [h]).map PyData.int)) (.int (-1)) = some (.int h) := by
      rw [List.map_append]
      exact fIx_lastL
    have el : ((f ++ [h]).map PyData.int).length = f.length + 1 := by simp
    have es : ((f.length + 1 : Nat) : Int) - 1 = (f.length : Int) := by omega
    have ins : mInsert ((f ++ [h]).map PyData.int) [.int (f.length : Int), .int n] = some ((f ++ [n] ++ [h]).map .int, .none) := by
      unfold mInsert
      dsimp only
      rw [if_pos ⟨by rw [el]; exact sz_lt (by simp at hl; omega), by omega, by simp at hl; omega⟩]
      rw [Int.toNat_natCast, List.map_append, show f.length = (f.map PyData.int).length by rw [List.length_map], List.take_left, List.drop_left, List.map_append, List.map_append]
      rfl
    by_cases c : n < h
    · rw [if_pos c]
      have d : decide (n < h) = true := decide_eq_true c
      generalize (f ++ [h]).map PyData.int = z at *
      generalize (f ++ [n] ++ [h]).map PyData.int = z2 at *
      simp! only [e, g1, e2, d, el, es, ins]
    · rw [if_neg c]
      have d : decide (n < h) = false := decide_eq_false c
      generalize (f ++ [h]).map PyData.int = z at *
      generalize (f ++ [h] ++ [n]).map PyData.int = z2 at *
      simp! only [e, g1, e2, d, ap]
theorem by_bubble_ok (o : List Int) (h : o.length ≤ 90) : φ_by_bubble [ti o] = .ret (.d (ti (bubbleL o))) [] := by
  have e1 := for_st (t := 2) (ms := [2]) (b := buB) insS (fun L => [.d (ti o), .own false (L.map .int), .u]) [] o (fun i hi => by
    have hl := foldI_len o i (by omega)
    generalize (o.take i).foldl insS [] = L at *
    exact ⟨_, bu_b (.d (ti o)) o[i] L (by omega), rfl⟩) rfl
  rw [show o.foldl insS [] = bubbleL o from rfl] at e1
  unfold φ_by_bubble m_by_bubble
  generalize hb : buB = pl at *
  unfold buB at hb
  rw [hb]
  unfold ti at *
  simp only [List.map_nil] at e1
  simp! only [e1]
def bS (s : List Int × Int) (n : Int) : List Int × Int := (s.1 ++ [if n < s.2 then n else s.2], if n > s.2 then n else s.2)
theorem bS_ins : ∀ (o : List Int) (s : List Int × Int), o.foldl insS (s.1 ++ [s.2]) = (o.foldl bS s).1 ++ [(o.foldl bS s).2]
  | [], s => rfl
  | n :: o, s => by
    rw [List.foldl_cons, List.foldl_cons, ← bS_ins o (bS s n), insS_c]
    unfold bS
    dsimp only
    by_cases c : n < s.2
    · rw [if_pos c, if_pos c, if_neg (by omega)]
    · rw [if_neg c, if_neg c]
      by_cases c2 : n > s.2
      · rw [if_pos c2]
      · rw [if_neg c2, show n = s.2 by omega]
theorem bS_len : ∀ (o : List Int) (s : List Int × Int), (o.foldl bS s).1.length = s.1.length + o.length
  | [], s => rfl
  | n :: o, s => by
    rw [List.foldl_cons, bS_len o]
    unfold bS
    simp
    omega
abbrev lbB : M Fl := (sPar [2, 1] (msR (op2r fAdd fCat (dName 2) (dv (dTup (dCons (opN fMin (vCons (dName 1) (vCons (dName 3) vNil))) dNil)))) (msD (opN fMax (vCons (dName 1) (vCons (dName 3) vNil))) msNil)))

/-! ### both rows -/
def mrg : List Int → List Int → List Int
  | [], ys => ys
  | x :: xs, [] => x :: xs
  | x :: xs, y :: ys => if x < y then x :: mrg xs (y :: ys) else y :: mrg (x :: xs) ys
termination_by xs ys => xs.length + ys.length
theorem mrg_nil (xs : List Int) : mrg xs [] = xs := by
  cases xs <;> unfold mrg <;> rfl
theorem mrg_nl (ys : List Int) : mrg [] ys = ys := by unfold mrg; rfl
theorem mrg_cc (x y : Int) (xs ys : List Int) : mrg (x :: xs) (y :: ys) = if x < y then x :: mrg xs (y :: ys) else y :: mrg (x :: xs) ys := by rw [mrg]
theorem mrg_perm : ∀ (n : Nat) (xs ys : List Int), xs.length + ys.length ≤ n → (mrg xs ys).Perm (xs ++ ys) := by
  intro n
  induction n with
  | zero =>
    intro xs ys h
    have h1 : xs = [] := List.length_eq_zero_iff.mp (by omega)
    subst h1
    rw [mrg_nl]
    exact .refl _
  | succ n ih =>
    intro xs ys h
    cases xs with
    | nil => rw [mrg_nl]; exact .refl _
    | cons x xs =>
      cases ys with
      | nil => rw [mrg_nil, List.append_nil]
      | cons y ys =>
        rw [List.length_cons, List.length_cons] at h
        rw [mrg_cc]
        split
        · exact (ih xs (y :: ys) (by rw [List.length_cons]; omega)).cons x
        · exact ((ih (x :: xs) ys (by rw [List.length_cons]; omega)).cons y).trans List.perm_middle.symm
theorem mrg_len (xs ys : List Int) : (mrg xs ys).length = xs.length + ys.length := by
  rw [(mrg_perm _ xs ys (Nat.le_refl _)).length_eq, List.length_append]
def queuesL (o : List Int) : List Int := mrg (queues o).1 (queues o).2
theorem stQ_perm (s : List Int × List Int) (n : Int) : ((stQ s n).1 ++ (stQ s n).2).Perm (s.1 ++ s.2 ++ [n]) := by
  unfold stQ
  have h1 : (s.1 ++ [n] ++ s.2).Perm (s.1 ++ s.2 ++ [n]) := by
    rw [List.append_assoc, List.append_assoc]
    exact List.perm_append_comm.append_left s.1
  split
  · exact h1
  · split
    · rw [← List.append_assoc]
    · exact h1
theorem foldQ_perm : ∀ (o : List Int) (s : List Int × List Int), ((o.foldl stQ s).1 ++ (o.foldl stQ s).2).Perm (s.1 ++ s.2 ++ o)
  | [], s => by rw [List.append_nil]; exact .refl _
  | n :: o, s => by
    rw [List.foldl_cons]
    refine (foldQ_perm o (stQ s n)).trans ?_
    have := (stQ_perm s n).append_right o
    rw [List.append_assoc (s.1 ++ s.2)] at this
    exact this
theorem queuesL_perm (o : List Int) : (queuesL o).Perm o := (mrg_perm _ _ _ (Nat.le_refl _)).trans (foldQ_perm o ([], []))
/-! the program's: rows put together -/
abbrev mgT : M Bool := (dAnd (dB (op2 fLt (dName 3) (dv (opN fLen (vCons (dName 0) vNil))))) (dB (op2 fLt (dName 4) (dv (opN fLen (vCons (dName 1) vNil))))))
abbrev mgB : M Fl := (sIf (dB (op2 fLt (dv (op2 fIx (dName 0) (dName 3))) (dv (op2 fIx (dName 1) (dName 4))))) (dSeq (sExpr (dMut 2 mAppend (dCons (op2 fIx (dName 0) (dName 3)) dNil)))
    (sAug 3 fAddI (dv (dC (.int 1))))) (dSeq (sExpr (dMut 2 mAppend (dCons (op2 fIx (dName 1) (dName 4)) dNil)))
    (sAug 4 fAddI (dv (dC (.int 1))))))
theorem fAddI_i (i j : Int) : fAddI (.int i) (.int j) = some (.int (i + j)) := Eq.trans rfl rfl
theorem mg_t (xs ys L : List Int) (i j : Nat) : mgT [.a (xs.map .int), .a (ys.map .int), .own false (L.map .int), .d (.int (i : Int)), .d (.int (j : Int))] = .ok (decide (i < xs.length) && decide (j < ys.length)) [.a (xs.map .int), .a (ys.map .int), .own false (L.map .int), .d (.int (i : Int)), .d (.int (j : Int))] := by
  have d1 : decide ((i : Int) < ((xs.map PyData.int).length : Int)) = decide (i < xs.length) := by
    rw [List.length_map]
    exact decide_eq_decide.mpr (by omega)
  have d2 : decide ((j : Int) < ((ys.map PyData.int).length : Int)) = decide (j < ys.length) := by
    rw [List.length_map]
    exact decide_eq_decide.mpr (by omega)
  unfold mgT
  by_cases c : i < xs.length
  · rw [decide_eq_true c] at d1 ⊢
    simp! only [d1, d2, Bool.true_and]
  · rw [decide_eq_false c] at d1 ⊢
    simp! only [d1, d2, Bool.false_and]
theorem mg_b (xs ys L : List Int) (i j : Nat) (hi : i < xs.length) (hj : j < ys.length) (hL : L.length ≤ 300) : ∃ L' i' j', (if xs[i] < ys[j] then L' = L ++ [xs[i]] ∧ i' = i + 1 ∧ j' = j else L' = L ++ [ys[j]] ∧ i' = i ∧ j' = j + 1) ∧
    mgB [.a (xs.map .int), .a (ys.map .int), .own false (L.map .int), .d (.int (i : Int)), .d (.int (j : Int))] = .ok .nx [.a (xs.map .int), .a (ys.map .int), .own false (L'.map .int), .d (.int (i' : Int)), .d (.int (j' : Int))] := by
  have x1 : fIx (.list (xs.map PyData.int)) (.int (i : Int)) = some (.int xs[i]) := fIx_l (by rw [List.getElem?_map, List.getElem?_eq_getElem hi]; rfl)
  have x2 : fIx (.list (ys.map PyData.int)) (.int (j : Int)) = some (.int ys[j]) := fIx_l (by rw [List.getElem?_map, List.getElem?_eq_getElem hj]; rfl)
  have ap1 := mAppend_ok (L.map PyData.int) (.int xs[i]) (by rw [List.length_map]; exact sz_lt (by omega))
  have em1 : L.map PyData.int ++ [.int xs[i]] = (L ++ [xs[i]]).map .int := by rw [List.map_append]; rfl
  have ap2 := mAppend_ok (L.map PyData.int) (.int ys[j]) (by rw [List.length_map]; exact sz_lt (by omega))
  have em2 : L.map PyData.int ++ [.int ys[j]] = (L ++ [ys[j]]).map .int := by rw [List.map_append]; rfl
  rw [em1] at ap1
  rw [em2] at ap2
  have c1 : ((i : Int) + 1) = ((i + 1 : Nat) : Int) := by omega
  have c2 : ((j : Int) + 1) = ((j + 1 : Nat) : Int) := by omega
  unfold mgB
  by_cases c : xs[i] < ys[j]
  · refine ⟨L ++ [xs[i]], i + 1, j, by rw [if_pos c]; exact ⟨rfl, rfl, rfl⟩, ?_⟩
    have d : decide (xs[i] < ys[j]) = true := decide_eq_true c
    have au := augS_at 3 fAddI (dv (dC (.int 1))) [.a (xs.map .int), .a (ys.map .int), .own false ((L ++ [xs[i]]).map .int), .d (.int (i : Int)), .d (.int (j : Int))] (.int (i : Int)) rfl
    generalize (L ++ [xs[i]]).map PyData.int = z2 at *
    simp! only [x1, x2, d, ap1, au, fAddI_i, c1]
  · refine ⟨L ++ [ys[j]], i, j + 1, by rw [if_neg c]; exact ⟨rfl, rfl, rfl⟩, ?_⟩
    have d : decide (xs[i] < ys[j]) = false := decide_eq_false c
    have au := augS_at 4 fAddI (dv (dC (.int 1))) [.a (xs.map .int), .a (ys.map .int), .own false ((L ++ [ys[j]]).map .int), .d (.int (i : Int)), .d (.int (j : Int))] (.int (j : Int)) rfl
    generalize (L ++ [ys[j]]).map PyData.int = z2 at *
    simp! only [x1, x2, d, ap2, au, fAddI_i, c2]

theorem mg_run (xs ys : List Int) : ∀ (m i j k : Nat) (L : List Int), i ≤ xs.length → j ≤ ys.length → (xs.length - i) + (ys.length - j) ≤ m → L.length + m ≤ 200 → m + 1 ≤ k → ∃ (L' : List Int) (i' j' : Nat), i' ≤ xs.length ∧ j' ≤ ys.length ∧
    L' ++ xs.drop i' ++ ys.drop j' = L ++ mrg (xs.drop i) (ys.drop j) ∧
    whG [] mgT mgB k [.a (xs.map .int), .a (ys.map .int), .own false (L.map .int), .d (.int (i : Int)), .d (.int (j : Int))] = .ok .nx [.a (xs.map .int), .a (ys.map .int), .own false (L'.map .int), .d (.int (i' : Int)), .d (.int (j' : Int))] := by
  intro m
  induction m with
  | zero =>
    intro i j k L h1 h2 h3 h4 h5
    obtain ⟨q, rfl⟩ : ∃ q, k = q + 1 := ⟨k - 1, by omega⟩
    have t := mg_t xs ys L i j
    rw [decide_eq_false (show ¬ i < xs.length by omega), Bool.false_and] at t
    refine ⟨L, i, j, h1, h2, ?_, by rw [wh_end t, fgt_nil]⟩
    rw [List.drop_eq_nil_of_le (show xs.length ≤ i by omega), List.drop_eq_nil_of_le (show ys.length ≤ j by omega), mrg_nl, List.append_nil]
  | succ m ih =>
    intro i j k L h1 h2 h3 h4 h5
    obtain ⟨q, rfl⟩ : ∃ q, k = q + 1 := ⟨k - 1, by omega⟩
    have t := mg_t xs ys L i j
    by_cases c1 : i < xs.length
    · by_cases c2 : j < ys.length
      · rw [decide_eq_true c1, decide_eq_true c2, Bool.and_self] at t
        obtain ⟨L1, i1, j1, hc, eb⟩ := mg_b xs ys L i j c1 c2 (by omega)
        rw [wh_step t eb, fgt_nil]
        rw [List.drop_eq_getElem_cons c1, List.drop_eq_getElem_cons c2, mrg_cc]
        by_cases c : xs[i] < ys[j]
        · rw [if_pos c] at hc ⊢
          obtain ⟨y1, y2, y3⟩ := hc
          have y1 := y1.symm
          have y2 := y2.symm
          have y3 := y3.symm
          subst y1 y2 y3
          obtain ⟨L2, i2, j2, a1, a2, a3, a4⟩ := ih (i + 1) j q (L ++ [xs[i]]) (by omega) (by omega) (by omega) (by rw [List.length_append, List.length_singleton]; omega) (by omega)
          refine ⟨L2, i2, j2, a1, a2, ?_, a4⟩
          rw [a3, List.append_assoc, List.drop_eq_getElem_cons c2]
          rfl
        · rw [if_neg c] at hc ⊢
          obtain ⟨y1, y2, y3⟩ := hc
          have y1 := y1.symm
          have y2 := y2.symm
          have y3 := y3.symm
          subst y1 y2 y3
          obtain ⟨L2, i2, j2, a1, a2, a3, a4⟩ := ih i (j + 1) q (L ++ [ys[j]]) (by omega) (by omega) (by omega) (by rw [List.length_append, List.length_singleton]; omega) (by omega)
          refine ⟨L2, i2, j2, a1, a2, ?_, a4⟩
          rw [a3, List.append_assoc, List.drop_eq_getElem_cons c1]
          rfl
      · rw [decide_eq_true c1, decide_eq_false c2, Bool.true_and] at t
        refine ⟨L, i, j, h1, h2, ?_, by rw [wh_end t, fgt_nil]⟩
        rw [List.drop_eq_nil_of_le (show ys.length ≤ j by omega), mrg_nil, List.append_nil]
    · rw [decide_eq_false c1, Bool.false_and] at t
      refine ⟨L, i, j, h1, h2, ?_, by rw [wh_end t, fgt_nil]⟩
      rw [List.drop_eq_nil_of_le (show xs.length ≤ i by omega), mrg_nl, List.append_nil]
theorem merged_ok (xs ys : List Int) (h : xs.length + ys.length ≤ 100) : φ_merged [.list (xs.map .int), .list (ys.map .int)] = .ret (.own ((mrg xs ys).map .int)) [] := by
  obtain ⟨L, i, j, h1, h2, h3, e⟩ := mg_run xs ys (xs.length + ys.length) 0 0 1000000 [] (Nat.zero_le _) (Nat.zero_le _) (by omega) (by rw [List.length_nil]; omega) (by omega)
  rw [List.drop_zero, List.drop_zero, List.nil_append] at h3
  have hlen := congrArg List.length h3
  rw [List.length_append, List.length_append, mrg_len] at hlen
  have k1 : fCutT (.list (xs.map PyData.int)) (some (i : Int)) none = none := Eq.trans rfl rfl
  have k2 : fCutT (.list (ys.map PyData.int)) (some (j : Int)) none = none := Eq.trans rfl rfl
  have cf : ∀ (zs : List Int) (a : Nat), a ≤ zs.length → fCutL (.list (zs.map PyData.int)) (some (a : Int)) none = some ((zs.drop a).map .int) := fun zs a ha => by
    have q : some (PyData.tuple (cutD (zs.map PyData.int) (some (a : Int)) none)) = some (.tuple ((zs.map PyData.int).drop a)) := fCutT_from (zs.map PyData.int) a (by rw [List.length_map]; exact ha)
    injection q with q
    injection q with q
    rw [List.map_drop]
    exact congrArg some q
  have k3 := cf xs i h1
  have k4 := cf ys j h2
  have a1 : fAdd (.list (L.map PyData.int)) (.list ((xs.drop i).map .int)) = none := Eq.trans rfl rfl
  have a2 : fCat (.list (L.map PyData.int)) (.list ((xs.drop i).map .int)) = some ((L ++ xs.drop i).map .int) := by
    rw [List.map_append]
    exact if_pos (sz_le (by rw [List.length_map, List.length_map]; omega))
  have a3 : fAdd (.list ((L ++ xs.drop i).map PyData.int)) (.list ((ys.drop j).map .int)) = none := Eq.trans rfl rfl
  have a4 : fCat (.list ((L ++ xs.drop i).map PyData.int)) (.list ((ys.drop j).map .int)) = some ((mrg xs ys).map .int) := by
    rw [← h3, List.map_append (l₁ := L ++ xs.drop i)]
    exact if_pos (sz_le (by rw [List.length_map, List.length_map, List.length_append]; omega))
  unfold φ_merged m_merged sWh
  generalize hT : mgT = gt at *
  unfold mgT at hT
  rw [hT]
  generalize hB : mgB = gb at *
  unfold mgB at hB
  rw [hB]
  rw [List.map_nil] at e
  have e : whG [] gt gb 1000000 [.a (xs.map .int), .a (ys.map .int), .own false [], .d (.int 0), .d (.int 0)] = _ := e
  generalize (mrg xs ys).map PyData.int = z at *
  generalize (L ++ xs.drop i).map PyData.int = z1 at *
  simp! only [e, k1, k2, k3, k4, a1, a2, a3, a4]
theorem by_queues_ok (o : List Int) (h : o.length ≤ 90) : φ_by_queues [ti o] = .ret (.d (ti (queuesL o))) [] := by
  have ql := queues_len o
  have e1 := merged_ok (queues o).1 (queues o).2 (by omega)
  rw [show mrg (queues o).1 (queues o).2 = queuesL o from rfl] at e1
  have i0 : fIx (.tuple [.list ((queues o).1.map PyData.int), .list ((queues o).2.map .int)]) (.int 0) = some (.list ((queues o).1.map .int)) := fIx_t (i := 0) rfl
  have i1 : fIx (.tuple [.list ((queues o).1.map PyData.int), .list ((queues o).2.map .int)]) (.int 1) = some (.list ((queues o).2.map .int)) := fIx_t (i := 1) rfl
  have eq : ∀ m3 : M Fl, mQueues m3 [.d (.tuple (o.map .int)), .u, .u, .u, .u] = m3 [.u, .d (.tuple [.list ((queues o).1.map .int), .list ((queues o).2.map .int)]), .u, .u, .u] := fun m3 => by
    unfold mQueues
    dsimp only
    rw [intsQ_ok]
    exact if_pos (by omega)
  unfold φ_by_queues m_by_queues
  generalize (queues o).1.map PyData.int = z1 at *
  generalize (queues o).2.map PyData.int = z2 at *
  generalize queuesL o = z3 at *
  unfold ti
  simp! only [eq, i0, i1, e1]

theorem last_t (f : List Int) (h : Int) : fIx (.tuple ((f ++ [h]).map PyData.int)) (.int (-1)) = some (.int h) := by
  rw [List.map_append]
  exact fIx_last
abbrev lqC : M Bool := (dOr (dB (op2 fEq (dName 1) (dv (dTup dNil)))) (dOr (dB (op2 fLt (dv (op2 fIx (dName 1) (dv (op1 fNeg (dv (dC (.int 1))))))) (dName 4))) (dAnd (dB (op2 fNe (dName 2) (dv (dTup dNil)))) (dB (op2 fGt (dv (op2 fIx (dName 2) (dv (op1 fNeg (dv (dC (.int 1))))))) (dName 4))))))
def lqP (s : List Int × List Int) (n : Int) : Bool := okQ s.1 n || (decide (s.2 ≠ []) && decide (n < s.2.getLastD 0))
theorem lq_c (b0 b3 : SV) (s : List Int × List Int) (n : Int) : lqC [b0, .d (.tuple (s.1.map .int)), .d (.tuple (s.2.map .int)), b3, .d (.int n)] = .ok (lqP s n) [b0, .d (.tuple (s.1.map .int)), .d (.tuple (s.2.map .int)), b3, .d (.int n)] := by
  obtain ⟨a, b⟩ := s
  have g1 := fNeg_1
  have e1 := fEq_tnil a
  have e2 := fNe_tnil b
  unfold lqC lqP okQ
  dsimp only at *
  rcases List.eq_nil_or_concat a with rfl | ⟨f, h, rfl⟩
  · rw [decide_eq_true (show ([] : List Int) = [] from rfl)] at *
    have e1 : fEq (.tuple []) (.tuple []) = some (.bool true) := e1
    simp! only [List.map_nil, e1, Bool.true_or]
  · rw [List.concat_eq_append] at *
    rw [decide_eq_false (show f ++ [h] ≠ [] by simp)] at e1 ⊢
    have e3 := last_t f h
    have l1 : (f ++ [h]).getLastD 0 = h := by simp
    rw [l1]
    generalize (f ++ [h]).map PyData.int = z at *
    by_cases c : h < n
    · rw [decide_eq_true c]
      have d : decide (h < n) = true := decide_eq_true c
      simp! only [e1, g1, e3, d, Bool.true_or, Bool.or_true]
    · rw [decide_eq_false c]
      have d : decide (h < n) = false := decide_eq_false c
      rcases List.eq_nil_or_concat b with rfl | ⟨f2, h2, rfl⟩
      · have e2 : fNe (.tuple (([] : List Int).map PyData.int)) (.tuple []) = some (.bool false) := e2
        generalize ([] : List Int).map PyData.int = z2 at *
        simp! only [e1, g1, e3, d, e2, Bool.or_false]
        simp
      · rw [List.concat_eq_append] at *
        rw [decide_eq_false (show f2 ++ [h2] ≠ [] by simp)] at e2
        have e4 := last_t f2 h2
        have l2 : (f2 ++ [h2]).getLastD 0 = h2 := by simp
        rw [l2, decide_eq_true (show f2 ++ [h2] ≠ [] by simp)]
        generalize (f2 ++ [h2]).map PyData.int = z2 at *
        simp! only [e1, g1, e3, d, e2, e4, Bool.true_and, Bool.or_false, Bool.false_or]
theorem lqP_st (s : List Int × List Int) (n : Int) (h : n ∉ s.2) : stQ s n = if lqP s n = true then (s.1 ++ [n], s.2) else (s.1, s.2 ++ [n]) := by
  unfold stQ lqP
  by_cases c : okQ s.1 n = true
  · rw [if_pos c, c, Bool.true_or, if_pos rfl]
  · rw [if_neg c, Bool.eq_false_iff.mpr c, Bool.false_or]
    unfold okQ
    rcases List.eq_nil_or_concat s.2 with e | ⟨f, l, e⟩
    · rw [e]
      simp
    · rw [List.concat_eq_append] at e
      rw [e] at h ⊢
      have hne : n ≠ l := fun z => h (by rw [z]; simp)
      rw [show (f ++ [l]).getLastD 0 = l by simp]
      by_cases c2 : l < n
      · rw [decide_eq_true c2, Bool.or_true, if_pos rfl, decide_eq_false (show ¬ n < l by omega), Bool.and_false, if_neg (by decide)]
      · rw [decide_eq_false c2, decide_eq_false (show ¬ f ++ [l] = [] by simp), Bool.or_self, if_neg (by decide), decide_eq_true (show n < l by omega), decide_eq_true (show f ++ [l] ≠ [] by simp), Bool.and_self, if_pos rfl]
abbrev lqF : M Fl := (sIf lqC (sSetR 1 (op2r fAdd fCat (dName 1) (dv (dTup (dCons (dEsc (dName 4)) dNil))))) (sSetR 2 (op2r fAdd fCat (dName 2) (dv (dTup (dCons (dEsc (dName 4)) dNil))))))
theorem lq_f (b0 b3 : SV) (s : List Int × List Int) (n : Int) (h : n ∉ s.2) (hl : s.1.length + s.2.length ≤ 100) : lqF [b0, .d (.tuple (s.1.map .int)), .d (.tuple (s.2.map .int)), b3, .d (.int n)] = .ok .nx [b0, .d (.tuple ((stQ s n).1.map .int)), .d (.tuple ((stQ s n).2.map .int)), b3, .d (.int n)] := by
  have e := lq_c b0 b3 s n
  have a1 := add_t1 s.1 n (by omega)
  have a2 := add_t1 s.2 n (by omega)
  rw [lqP_st s n h]
  unfold lqF
  generalize lqC = c at *
  by_cases k : lqP s n = true
  · rw [if_pos k]
    rw [k] at e
    dsimp only
    generalize (s.1 ++ [n]).map PyData.int = z at *
    simp! only [e, a1]
  · rw [if_neg k]
    rw [Bool.eq_false_iff.mpr k] at e
    dsimp only
    generalize (s.2 ++ [n]).map PyData.int = z at *
    simp! only [e, a2]
abbrev lwT : M Bool := (dAnd (dB (op2 fNe (dName 1) (dv (dTup dNil)))) (dB (op2 fNe (dName 2) (dv (dTup dNil)))))
abbrev lwB : M Fl := (sIf (dB (op2 fLt (dv (op2 fIx (dName 1) (dv (dC (.int 0))))) (dv (op2 fIx (dName 2) (dv (dC (.int 0))))))) (sPar [3, 1] (msR (op2r fAdd fCat (dName 3) (dv (rD (cutR (dName 1) oNone (oSome (dC (.int 1))))))) (msR (cutR (dName 1) (oSome (dC (.int 1))) oNone) msNil))) (sPar [3, 2] (msR (op2r fAdd fCat (dName 3) (dv (rD (cutR (dName 2) oNone (oSome (dC (.int 1))))))) (msR (cutR (dName 2) (oSome (dC (.int 1))) oNone) msNil))))
theorem lw_t (b0 b3 b4 : SV) (xs ys : List Int) : lwT [b0, .d (.tuple (xs.map .int)), .d (.tuple (ys.map .int)), b3, b4] = .ok (decide (xs ≠ []) && decide (ys ≠ [])) [b0, .d (.tuple (xs.map .int)), .d (.tuple (ys.map .int)), b3, b4] := by
  have e1 := fNe_tnil xs
  have e2 := fNe_tnil ys
  unfold lwT
  by_cases c : xs = []
  · rw [decide_eq_true c] at e1
    rw [decide_eq_false (show ¬ xs ≠ [] from fun h => h c)]
    simp! only [e1, Bool.false_and]
  · rw [decide_eq_false c] at e1
    rw [decide_eq_true c]
    simp! only [e1, e2, Bool.true_and]
    simp
theorem lw_b (b0 b4 : SV) (x y : Int) (xs ys L : List Int) (hL : L.length ≤ 200) : lwB [b0, .d (.tuple ((x :: xs).map .int)), .d (.tuple ((y :: ys).map .int)), .d (.tuple (L.map .int)), b4] =
    .ok .nx (if x < y then [b0, .d (.tuple (xs.map .int)), .d (.tuple ((y :: ys).map .int)), .d (.tuple ((L ++ [x]).map .int)), b4] else [b0, .d (.tuple ((x :: xs).map .int)), .d (.tuple (ys.map .int)), .d (.tuple ((L ++ [y]).map .int)), b4]) := by
  have h1 := head_t x xs
  have h2 := head_t y ys
  have c1 := cut_1 x xs
  have c2 := cut_1 y ys
  have r1 := cut_r x xs
  have r2 := cut_r y ys
  have a1 := add_t1 L x (by omega)
  have a2 := add_t1 L y (by omega)
  unfold lwB
  generalize (x :: xs).map PyData.int = z1 at *
  generalize (y :: ys).map PyData.int = z2 at *
  generalize (L ++ [x]).map PyData.int = z3 at *
  generalize (L ++ [y]).map PyData.int = z4 at *
  by_cases c : x < y
  · have d : decide (x < y) = true := decide_eq_true c
    rw [if_pos c]
    simp! only [h1, h2, d, c1, r1, a1]
  · have d : decide (x < y) = false := decide_eq_false c
    rw [if_neg c]
    simp! only [h1, h2, d, c2, r2, a2]
theorem lw_run (b0 b4 : SV) : ∀ (m k : Nat) (xs ys L : List Int), xs.length + ys.length ≤ m → L.length + m ≤ 200 → m + 1 ≤ k → ∃ L' xs' ys' : List Int, L' ++ xs' ++ ys' = L ++ mrg xs ys ∧
    whG [] lwT lwB k [b0, .d (.tuple (xs.map .int)), .d (.tuple (ys.map .int)), .d (.tuple (L.map .int)), b4] = .ok .nx [b0, .d (.tuple (xs'.map .int)), .d (.tuple (ys'.map .int)), .d (.tuple (L'.map .int)), b4] := by
  intro m
  induction m with
  | zero =>
    intro k xs ys L h1 h2 h3
    obtain ⟨q, rfl⟩ : ∃ q, k = q + 1 := ⟨k - 1, by omega⟩
    have hx : xs = [] := List.length_eq_zero_iff.mp (by omega)
    subst hx
    have t := lw_t b0 (.d (.tuple (L.map .int))) b4 [] ys
    rw [decide_eq_false (show ¬ ([] : List Int) ≠ [] from fun h => h rfl), Bool.false_and] at t
    exact ⟨L, [], ys, by rw [mrg_nl, List.append_nil], by rw [wh_end t, fgt_nil]⟩
  | succ m ih =>
    intro k xs ys L h1 h2 h3
    obtain ⟨q, rfl⟩ : ∃ q, k = q + 1 := ⟨k - 1, by omega⟩
    have t := lw_t b0 (.d (.tuple (L.map .int))) b4 xs ys
    cases xs with
    | nil =>
      rw [decide_eq_false (show ¬ ([] : List Int) ≠ [] from fun h => h rfl), Bool.false_and] at t
      exact ⟨L, [], ys, by rw [mrg_nl, List.append_nil], by rw [wh_end t, fgt_nil]⟩
    | cons x xs =>
      cases ys with
      | nil =>
        rw [decide_eq_false (show ¬ ([] : List Int) ≠ [] from fun h => h rfl), Bool.and_false] at t
        exact ⟨L, x :: xs, [], by rw [mrg_nil, List.append_nil], by rw [wh_end t, fgt_nil]⟩
      | cons y ys =>
        rw [decide_eq_true (show x :: xs ≠ [] by simp), decide_eq_true (show y :: ys ≠ [] by simp), Bool.and_self] at t
        rw [List.length_cons, List.length_cons] at h1
        rw [wh_step t (lw_b b0 b4 x y xs ys L (by omega)), mrg_cc]
        by_cases c : x < y
        · rw [if_pos c, if_pos c, fgt_nil]
          obtain ⟨L2, a, b, e1, e2⟩ := ih q xs (y :: ys) (L ++ [x]) (by rw [List.length_cons]; omega) (by rw [List.length_append, List.length_singleton]; omega) (by omega)
          exact ⟨L2, a, b, by rw [e1, List.append_assoc]; rfl, e2⟩
        · rw [if_neg c, if_neg c, fgt_nil]
          obtain ⟨L2, a, b, e1, e2⟩ := ih q (x :: xs) ys (L ++ [y]) (by rw [List.length_cons]; omega) (by rw [List.length_append, List.length_singleton]; omega) (by omega)
          exact ⟨L2, a, b, by rw [e1, List.append_assoc]; rfl, e2⟩

theorem ok_of (s : String) : PyData.strOk (Str.ofString s) = true := by
  rw [Str.ofString_eq_toList]
  unfold PyData.strOk
  dsimp only
  rw [List.all_toArray, List.all_map]
  refine List.all_eq_true.mpr fun c _ => decide_eq_true ?_
  have := c.valid
  rcases this with h | h
  · exact Nat.lt_trans h (by decide)
  · exact h.2
theorem fEq_str {a b : Str} (h : PyData.strOk a = true) (k : PyData.strOk b = true) : fEq (.str a) (.str b) = some (.bool (a == b)) := fEq_gd (n := 0) (m := 0) ⟨h, Nat.zero_le _⟩ ⟨k, Nat.zero_le _⟩ (by decide) (by decide)
inductive Srt where
  | a
  | b
  | c
  | d
def Srt.s : Srt → Str
  | .a => Str.ofString "stack"
  | .b => Str.ofString "popper"
  | .c => Str.ofString "queues"
  | .d => Str.ofString "bubble"
def Srt.f : Srt → List Int → List Int
  | .a => stackL
  | .b => popperL
  | .c => queuesL
  | .d => bubbleL
theorem Srt.perm (k : Srt) (o : List Int) : (k.f o).Perm o := by
  cases k
  · exact stackL_perm o
  · exact popperL_perm o
  · exact queuesL_perm o
  · exact bubbleL_perm o
theorem Srt.len (k : Srt) (o : List Int) : (k.f o).length = o.length := (k.perm o).length_eq
theorem isOrd_perm {p q : List Int} (h : p.Perm q) (hq : IsOrd q) : IsOrd p := IsOrd.of_perm (by rw [h.length_eq]; exact h.trans hq.perm)
theorem eq_t (x y : String) (h : (Str.ofString x == Str.ofString y) = true) : fEq (.str (Str.ofString x)) (.str (Str.ofString y)) = some (.bool true) := by rw [fEq_str (ok_of _) (ok_of _), h]
theorem eq_f (x y : String) (h : (Str.ofString x == Str.ofString y) = false) : fEq (.str (Str.ofString x)) (.str (Str.ofString y)) = some (.bool false) := by rw [fEq_str (ok_of _) (ok_of _), h]
theorem q11 : fEq (.str (Str.ofString "stack")) (.str (Str.ofString "stack")) = some (.bool true) := eq_t "stack" "stack" (by decide +kernel)
theorem q21 : fEq (.str (Str.ofString "popper")) (.str (Str.ofString "stack")) = some (.bool false) := eq_f "popper" "stack" (by decide +kernel)
theorem q31 : fEq (.str (Str.ofString "queues")) (.str (Str.ofString "stack")) = some (.bool false) := eq_f "queues" "stack" (by decide +kernel)
theorem q41 : fEq (.str (Str.ofString "bubble")) (.str (Str.ofString "stack")) = some (.bool false) := eq_f "bubble" "stack" (by decide +kernel)
theorem q22 : fEq (.str (Str.ofString "popper")) (.str (Str.ofString "popper")) = some (.bool true) := eq_t "popper" "popper" (by decide +kernel)
theorem q32 : fEq (.str (Str.ofString "queues")) (.str (Str.ofString "popper")) = some (.bool false) := eq_f "queues" "popper" (by decide +kernel)
theorem q42 : fEq (.str (Str.ofString "bubble")) (.str (Str.ofString "popper")) = some (.bool false) := eq_f "bubble" "popper" (by decide +kernel)
theorem q33 : fEq (.str (Str.ofString "queues")) (.str (Str.ofString "queues")) = some (.bool true) := eq_t "queues" "queues" (by decide +kernel)
theorem q43 : fEq (.str (Str.ofString "bubble")) (.str (Str.ofString "queues")) = some (.bool false) := eq_f "bubble" "queues" (by decide +kernel)
theorem made_by_ok (k : Srt) (o : List Int) (h : o.length ≤ 90) : φ_made_by [.str k.s, ti o] = .ret (.d (ti (k.f o))) [] := by
  have e1 := by_stack_ok o h
  have e2 := by_popper_ok o h
  have e3 := by_queues_ok o h
  have e4 := by_bubble_ok o h
  unfold φ_made_by m_made_by
  cases k
  · rw [show Srt.a.s = Str.ofString "stack" from rfl, show Srt.a.f o = stackL o from rfl]
    generalize ti (stackL o) = z at *
    unfold ti at *
    simp! only [q11, e1]
  · rw [show Srt.b.s = Str.ofString "popper" from rfl, show Srt.b.f o = popperL o from rfl]
    generalize ti (popperL o) = z at *
    unfold ti at *
    simp! only [q21, q22, e2]
  · rw [show Srt.c.s = Str.ofString "queues" from rfl, show Srt.c.f o = queuesL o from rfl]
    generalize ti (queuesL o) = z at *
    unfold ti at *
    simp! only [q31, q32, q33, e3]
  · rw [show Srt.d.s = Str.ofString "bubble" from rfl, show Srt.d.f o = bubbleL o from rfl]
    generalize ti (bubbleL o) = z at *
    unfold ti at *
    simp! only [q41, q42, q43, e4]
theorem is_sorter_ok (k : Srt) : φ_is_sorter [.str k.s] = .ret (.d (.bool true)) [] := by
  have e1 : fInK [Str.ofString "stack", Str.ofString "popper", Str.ofString "queues", Str.ofString "bubble"] (.str k.s) = some (.bool true) := by
    refine if_pos ?_
    cases k
    · exact .head _
    · exact .tail _ (.head _)
    · exact .tail _ (.tail _ (.head _))
    · exact .tail _ (.tail _ (.tail _ (.head _)))
  have e2 : fIs [.str] (.str k.s) = some (.bool true) := Eq.trans rfl rfl
  unfold φ_is_sorter m_is_sorter
  generalize k.s = ks at *
  simp! only [e1, e2]
theorem check_sorter_ok (k : Srt) : φ_check_sorter [.str k.s] = .ret (.d .none) [] := by
  have e1 := is_sorter_ok k
  unfold φ_check_sorter m_check_sorter
  simp! only [e1]
theorem risen_ok (n : Nat) (h : n ≤ 900) : φ_risen [.int (n : Int)] = .ret (.d (ti (irange 1 n))) [] := by
  have s1 : Sm 1 := ⟨by omega, by omega⟩
  have s2 : Sm ((n : Int) + 1) := sm_of (by omega) (by omega)
  have hr : ((n : Int) + 1 - 1).toNat = n := by omega
  unfold φ_risen m_risen
  simp! only [s1, s2, hr, ti]
theorem is_order_ok (p : List Int) (ip : IsOrd p) (h : p.length ≤ 900) : φ_is_order [ti p] = .ret (.d (.bool true)) [] := by
  have a1 := is_order_of_ok p ip h
  unfold φ_is_order m_is_order
  simp! only [a1]
theorem check_order_ok (p : List Int) (ip : IsOrd p) (h : p.length ≤ 900) : φ_check_order [ti p] = .ret (.d .none) [] := by
  have a2 := is_order_ok p ip h
  unfold φ_check_order m_check_order
  simp! only [a2]
def srtB (k : Srt) (o : List Int) : Bool := decide (k.f o = irange 1 o.length)
theorem does_sort_ok (k : Srt) (o : List Int) (h : o.length ≤ 90) : φ_does_sort [.str k.s, ti o] = .ret (.d (.bool (srtB k o))) [] := by
  have a3 := made_by_ok k o h
  have a4 := risen_ok o.length (by omega)
  have a5 := fEq_ti (k.f o) (irange 1 o.length)
  unfold φ_does_sort m_does_sort srtB
  generalize k.s = ks at *
  generalize k.f o = kf at *
  generalize irange 1 o.length = ri at *
  unfold ti at *
  simp! only [List.length_map, a3, a4, a5]

/-! ### all orders -/
theorem dLstPrm_at (m : M (Int × Int)) (g : En) : dLstPrm m g = (m g).thn (c := ⟨fun ij g1 => bdn (okRg ij.1 ij.2 = true ∧ (ij.2 - ij.1).toNat ≤ 6) (.ok (prmD ij.1 (ij.2 - ij.1).toNat) g1)⟩) := by
  unfold dLstPrm bnd Ro.thn bdn
  cases m g with
  | ok x g1 =>
    dsimp only
    by_cases h : okRg x.1 x.2 = true ∧ (x.2 - x.1).toNat ≤ 6
    · rw [if_pos h, if_pos h]; rfl
    · rw [if_neg h, if_neg h]
  | _ => rfl
def extR (n : Nat) (row : List Int) : List (List Int) := ((irange 1 n).filter fun x => decide (x ∉ row)).map fun x => row ++ [x]
def rowsN (n : Nat) : Nat → List (List Int)
  | 0 => [[]]
  | t + 1 => (rowsN n t).flatMap (extR n)
theorem mem_rows (n : Nat) : ∀ (t : Nat) (q : List Int), q ∈ rowsN n t ↔ q.length = t ∧ q.Nodup ∧ ∀ x ∈ q, 1 ≤ x ∧ x ≤ n
  | 0, q => by
    unfold rowsN
    rw [List.mem_singleton]
    constructor
    · rintro rfl
      exact ⟨rfl, List.nodup_nil, fun _ h => (nomatch h)⟩
    · rintro ⟨h, _⟩
      exact List.length_eq_zero_iff.mp h
  | t + 1, q => by
    unfold rowsN
    rw [List.mem_flatMap]
    constructor
    · rintro ⟨row, hr, hq⟩
      obtain ⟨h1, h2, h3⟩ := (mem_rows n t row).mp hr
      unfold extR at hq
      obtain ⟨x, hx, rfl⟩ := List.mem_map.mp hq
      rw [List.mem_filter, irange_mem] at hx
      have hx2 : x ∉ row := of_decide_eq_true hx.2
      refine ⟨by rw [List.length_append, h1]; rfl, List.nodup_append.mpr ⟨h2, by simp, fun a ha b hb => ?_⟩, fun y hy => ?_⟩
      · rw [List.mem_singleton.mp hb]
        exact fun z => hx2 (z ▸ ha)
      · rcases List.mem_append.mp hy with hy | hy
        · exact h3 y hy
        · rw [List.mem_singleton.mp hy]
          omega
    · rintro ⟨h1, h2, h3⟩
      rcases List.eq_nil_or_concat q with rfl | ⟨row, x, rfl⟩
      · cases h1
      · rw [List.concat_eq_append] at *
        rw [List.length_append, List.length_singleton] at h1
        have h2' := List.nodup_append.mp h2
        refine ⟨row, (mem_rows n t row).mpr ⟨by omega, h2'.1, fun y hy => h3 y (List.mem_append_left _ hy)⟩, ?_⟩
        unfold extR
        refine List.mem_map.mpr ⟨x, List.mem_filter.mpr ⟨irange_mem.mpr ?_, decide_eq_true fun hx => h2'.2.2 x hx x (by simp) rfl⟩, rfl⟩
        have := h3 x (by simp)
        omega
theorem asc_rows (n : Nat) : ∀ t : Nat, (rowsN n t).Pairwise (· < ·)
  | 0 => List.pairwise_singleton _ _
  | t + 1 => by
    unfold rowsN
    rw [List.pairwise_flatMap]
    refine ⟨fun row _ => ?_, ?_⟩
    · unfold extR
      exact List.pairwise_map.mpr (((irange_sorted _ _).filter _).imp fun {x y} h => lt_snoc h)
    · refine List.Pairwise.imp_of_mem (fun {a b} ha hb h => ?_) (asc_rows n t)
      intro u hu v hv
      unfold extR at hu hv
      obtain ⟨x, _, rfl⟩ := List.mem_map.mp hu
      obtain ⟨y, _, rfl⟩ := List.mem_map.mp hv
      exact lt_app (by rw [((mem_rows n t a).mp ha).1, ((mem_rows n t b).mp hb).1]) h
theorem rows_all (n : Nat) : rowsN n n = allO n := by
  obtain ⟨⟨a, m⟩, _, _⟩ := allO_ok n
  refine asc_eq (asc_rows n n) a fun t => ?_
  rw [mem_rows, m]
  constructor
  · rintro ⟨h1, h2, h3⟩
    exact ⟨⟨h2, fun x hx => (h3 x hx).1, fun x hx => by rw [h1]; exact (h3 x hx).2⟩, h1⟩
  · rintro ⟨io, h1⟩
    exact ⟨h1, io.nd, fun x hx => ⟨io.lo x hx, by have := io.hi x hx; omega⟩⟩

theorem fNotIn_t (i : Int) (p : List Int) : fNotIn (.int i) (ti p) = some (.bool (decide (i ∉ p))) := by
  have h := fIn_t i p
  unfold fIn ti at h
  dsimp only at h
  unfold fNotIn ti
  dsimp only
  rw [if_pos (okIn_ints i p)] at h ⊢
  injection h with h
  injection h with h
  rw [h]
  simp
theorem len_flat {α β : Type} {c : Nat} (f : α → List β) : ∀ L : List α, (∀ x ∈ L, (f x).length ≤ c) → (L.flatMap f).length ≤ L.length * c
  | [], _ => Nat.zero_le _
  | x :: L, h => by
    rw [List.flatMap_cons, List.length_append, List.length_cons, Nat.succ_mul]
    have h1 := h x List.mem_cons_self
    have h2 := len_flat f L fun y hy => h y (List.mem_cons_of_mem _ hy)
    omega
theorem ext_len (n : Nat) (row : List Int) : (extR n row).length ≤ n := by
  unfold extR
  rw [List.length_map]
  exact Nat.le_trans (List.length_filter_le _ _) (by rw [irange_len]; exact Nat.le_refl _)
theorem rows_len (n : Nat) : ∀ t : Nat, (rowsN n t).length ≤ n ^ t
  | 0 => Nat.le_refl _
  | t + 1 => by
    unfold rowsN
    refine Nat.le_trans (len_flat (extR n) _ fun row _ => ext_len n row) ?_
    rw [Nat.pow_succ]
    exact Nat.mul_le_mul_right _ (rows_len n t)
theorem rows_few {n t : Nat} (hn : n ≤ 6) (ht : t ≤ n) : (rowsN n t).length ≤ 46656 := by
  refine Nat.le_trans (rows_len n t) (Nat.le_trans (Nat.pow_le_pow_left hn t) ?_)
  exact Nat.pow_le_pow_right (by decide) (Nat.le_trans ht hn)
abbrev loC : M (List D) := (compL [5] (.nm 5) (iR2 (vCons (dv (dC (.int 1))) (vCons (dv (rD (op2r fAdd fCat (dName 0) (dv (dC (.int 1)))))) vNil))) (dB (op2 fNotIn (dName 5) (dName 4))) (rD (op2r fAdd fCat (dName 4) (dv (dTup (dCons (dEsc (dName 5)) dNil))))))
abbrev loB : M Fl := (sSetR 3 (op2r fAdd fCat (dName 3) (dv (dFz (compL [5] (.nm 5) (iR2 (vCons (dv (dC (.int 1))) (vCons (dv (rD (op2r fAdd fCat (dName 0) (dv (dC (.int 1)))))) vNil))) (dB (op2 fNotIn (dName 5) (dName 4))) (rD (op2r fAdd fCat (dName 4) (dv (dTup (dCons (dEsc (dName 5)) dNil))))))))))
theorem lo_b {n : Nat} (hn : n ≤ 6) (b1 b2 : SV) (row : List Int) (hr : row.length ≤ 100) (acc : List D) (ha : acc.length ≤ 90000) : loB [.d (.int (n : Int)), b1, b2, .own false acc, .d (ti row), .u] = .ok .nx [.d (.int (n : Int)), b1, b2, .own false (acc ++ (extR n row).map ti), .d (ti row), .u] := by
  have s1 : Sm 1 := ⟨by omega, by omega⟩
  have s3 : Sm ((n : Int) + 1) := sm_of (by omega) (by omega)
  have hr2 : ((n : Int) + 1 - 1).toNat = n := by omega
  have hc := compB_fil (i := 5) (enc := PyData.int) (f := fun x => ti (row ++ [x])) (p := fun x => decide (x ∉ row)) (mt := (dB (op2 fNotIn (dName 5) (dName 4)))) (me := (rD (op2r fAdd fCat (dName 4) (dv (dTup (dCons (dEsc (dName 5)) dNil)))))) (g := [.d (.int (n : Int)), b1, b2, .own false acc, .d (ti row), .u]) (irange 1 n) (by rw [irange_len]; omega) rfl (fun x _ => by
    have e1 := fNotIn_t x row
    have e2 := add_t1 row x (by omega)
    refine ⟨?_, fun _ => ?_⟩
    · simp! only [e1]
    · unfold ti
      generalize (row ++ [x]).map PyData.int = z at *
      simp! only [e2])
  have el : ((irange 1 n).filter fun x => decide (x ∉ row)).map (fun x => ti (row ++ [x])) = (extR n row).map ti := by
    unfold extR
    rw [List.map_map]
    rfl
  rw [el] at hc
  have a1 : fAdd (.list acc) (.list ((extR n row).map ti)) = none := Eq.trans rfl rfl
  have a2 : fCat (.list acc) (.list ((extR n row).map ti)) = some (acc ++ (extR n row).map ti) := if_pos (sz_le (by have := ext_len n row; rw [List.length_map]; omega))
  unfold loB
  generalize hm : (dB (op2 fNotIn (dName 5) (dName 4))) = mt at *
  generalize he : (rD (op2r fAdd fCat (dName 4) (dv (dTup (dCons (dEsc (dName 5)) dNil))))) = me at *
  generalize (extR n row).map ti = z at *
  generalize ti row = tr at *
  simp! only [s1, s3, hr2, hc, a1, a2]
abbrev loO : M Fl := (dSeq (sSetO 3 (dLst dNil)) (dSeq (sFor (.nm 4) [4] (iV (dName 1)) loB) (sMove 1 3)))
theorem lo_step {n t : Nat} (hn : n ≤ 6) (ht : t < n) (b2 : SV) : loO [.d (.int (n : Int)), .own false ((rowsN n t).map ti), b2, .u, .u, .u] = .ok .nx [.d (.int (n : Int)), .own false ((rowsN n (t + 1)).map ti), b2, .u, .u, .u] := by
  have h1 := rows_few hn (show t + 1 ≤ n by omega)
  have e := forG_gather (t := .nm 4) (ms := [4]) (b := loB) (enc := ti) (fun row => (extR n row).map ti) (fun a => [.d (.int (n : Int)), .d (.list ((rowsN n t).map ti)), b2, .own false a, .u, .u]) (fun _ => rfl) 46656 (rowsN n t) [] (by
    rw [List.length_nil, Nat.zero_add]
    have : ((rowsN n t).flatMap fun row => (extR n row).map ti) = (rowsN n (t + 1)).map ti := by
      rw [rowsN, List.map_flatMap]
    rw [this, List.length_map]
    exact h1) (fun row hrow a ha => by
      have := ((mem_rows n t row).mp hrow).1
      have hx := ext_len n row
      rw [List.length_map] at ha
      exact ⟨_, _, setT_nm _ _ _, lo_b hn _ b2 row (by omega) a (by omega), rfl⟩)
  have e2 : ((rowsN n t).flatMap fun row => (extR n row).map ti) = (rowsN n (t + 1)).map ti := by
    rw [rowsN, List.map_flatMap]
  rw [e2, List.nil_append] at e
  unfold loO
  generalize loB = lb at *
  generalize (rowsN n t).map ti = z1 at *
  generalize (rowsN n (t + 1)).map ti = z2 at *
  simp! only [e, sMove_at, moveV_o, mvR_some]
theorem law_orders_ok {n : Nat} (hn : n ≤ 6) : φ__law_orders [.int (n : Int)] = .ret (.own ((allO n).map ti)) [] := by
  have s3 : Sm (n : Int) := ⟨by omega, by omega⟩
  have hr2 : ((n : Int)).toNat = n := by omega
  obtain ⟨g', e1, t, k1, k5⟩ := forG_inv (t := .nm 2) (ms := [2, 3, 4]) (b := loO) ((irange 0 n).map .int)
    (fun r g => ∃ t : Nat, t + r.length = n ∧ g = [.d (.int (n : Int)), .own false ((rowsN n t).map ti), .u, .u, .u, .u])
    [.d (.int (n : Int)), .own false [ti []], .u, .u, .u, .u] ⟨0, by rw [List.length_map, irange_len]; exact Nat.zero_add n, rfl⟩ (by
      rintro x r g ⟨t, k1, rfl⟩ _
      rw [List.length_cons] at k1
      exact ⟨_, _, setT_nm _ _ _, .inl (lo_step hn (by omega) (.d x)), t + 1, by omega, rfl⟩)
  subst k5
  rw [List.length_nil, Nat.add_zero] at k1
  subst k1
  rw [rows_all] at e1
  unfold φ__law_orders m__law_orders
  generalize hb : loO = lb at *
  unfold loO loB at hb
  rw [hb]
  rw [show ti [] = .tuple [] from rfl] at e1
  generalize (allO t).map ti = z at *
  simp! only [s3, hr2, e1]

/-! ### the law's own showing: rows of places of a pattern's first things -/
def hiX (p q : List Int) (t : List Int) : Int := (p.length : Int) - (q.length : Int) + (t.length : Int) + 1
def exs (p q : List Int) (t : List Int) : List (List Int) := ((irange (startI t) (hiX p q t - startI t).toNat).filter (okP p q t.length t)).map fun x => t ++ [x]
theorem exs_ext {p q t u : List Int} (ht : t.length < q.length) (h : u ∈ exs p q t) : u ∈ extP p q t.length t := by
  obtain ⟨x, hx, rfl⟩ := List.mem_map.mp h
  obtain ⟨h1, h2⟩ := List.mem_filter.mp hx
  have h1 := irange_mem.mp h1
  refine List.mem_map.mpr ⟨x, List.mem_filter.mpr ⟨irange_mem.mpr ?_, h2⟩, rfl⟩
  unfold hiX at h1
  omega
theorem geo1 (n : Nat) : ∀ (k s : Nat), s + k ≤ n → ((irange (s : Int) k).map fun x => 2 ^ (n - (x + 1).toNat)).sum + 1 ≤ 2 ^ (n - s)
  | 0, s, _ => by
    show 0 + 1 ≤ 2 ^ (n - s)
    exact Nat.pow_pos (by decide)
  | k + 1, s, h => by
    have ih := geo1 n k (s + 1) (by omega)
    rw [irange_succ, List.map_cons, List.sum_cons]
    rw [show ((s : Int) + 1) = ((s + 1 : Nat) : Int) by omega]
    rw [show (((s + 1 : Nat) : Int)).toNat = s + 1 by omega]
    have e : 2 ^ (n - s) = 2 ^ (n - (s + 1)) + 2 ^ (n - (s + 1)) := by
      rw [show n - s = (n - (s + 1)) + 1 by omega, Nat.pow_succ]
      omega
    omega
theorem exs_wt {p q t : List Int} (h : Pl p t.length t) (ht : t.length < q.length) : ((exs p q t).map (wt p.length)).sum + 1 ≤ wt p.length t := by
  obtain ⟨b1, b2⟩ := startI_bd h
  unfold exs
  rw [List.map_map]
  have e : (wt p.length ∘ fun x => t ++ [x]) = fun x => 2 ^ (p.length - (x + 1).toNat) := funext fun x => by
    show wt p.length (t ++ [x]) = _
    unfold wt
    rw [startI_snoc]
  rw [e]
  have h1 := sum_filter (fun x : Int => 2 ^ (p.length - (x + 1).toNat)) (okP p q t.length t) (irange (startI t) (hiX p q t - startI t).toNat)
  have h2 := geo1 p.length (hiX p q t - startI t).toNat (startI t).toNat (by unfold hiX; omega)
  rw [Int.toNat_of_nonneg b1] at h2
  have h3 : wt p.length t = 2 ^ (p.length - (startI t).toNat) := rfl
  omega
theorem wsum_app (n : Nat) (a b : List (List Int)) : ((a ++ b).map (wt n)).sum = (a.map (wt n)).sum + (b.map (wt n)).sum := by rw [List.map_append, List.sum_append]
theorem mt_take {p q : List Int} {a b : Nat} {u : List Int} (m : Mt p q b u) (h : a ≤ b) : Mt p q a (u.take a) := by
  have hl := m.pl.len
  have e : ∀ i, i < a → at0 (u.take a) i = at0 u i := fun i hi => by
    show (u.take a).getD i 0 = u.getD i 0
    rw [List.getD_eq_getElem?_getD, List.getD_eq_getElem?_getD, List.getElem?_take, if_pos hi]
  refine ⟨⟨by rw [List.length_take]; omega, fun x hx => m.pl.lo x (List.mem_of_mem_take hx), fun x hx => m.pl.hi x (List.mem_of_mem_take hx)⟩, fun i j hi hj => ?_, fun i j hi hj => ?_⟩
  · rw [e i (by omega), e j hj]
    exact m.asc i j hi (by omega)
  · rw [e i hi, e j hj]
    exact m.ord i j (by omega) (by omega)
theorem mt_top {p q : List Int} {b : Nat} {u : List Int} (m : Mt p q b u) : ∀ (k j : Nat), j + k + 1 = b → at0 u j + (k : Int) + 1 ≤ p.length
  | 0, j, h => by
    have hl := m.pl.len
    have := m.pl.hi (at0 u j) (at0_mem (by omega))
    omega
  | k + 1, j, h => by
    have ih := mt_top m k (j + 1) (by omega)
    have := m.asc j (j + 1) (by omega) (by omega)
    omega
/-- a match goes on behind each of its beginnings -/
theorem exs_next {p q u : List Int} {a : Nat} (ip : p.Nodup) (iq : q.Nodup) (m : Mt p q q.length u) (h : a < q.length) : u.take (a + 1) ∈ exs p q (u.take a) := by
  have m1 := mt_take m (a := a + 1) (by omega)
  have hl := m.pl.len
  have e : u.take (a + 1) = u.take a ++ [at0 u a] := by
    rw [List.take_succ]
    have : u[a]? = some (at0 u a) := by
      show _ = some (u.getD a 0)
      rw [List.getD_eq_getElem?_getD, List.getElem?_eq_getElem (by omega)]
      rfl
    rw [this]
    rfl
  have hta : (u.take a).length = a := by rw [List.length_take]; omega
  rw [e] at m1
  obtain ⟨m', hs, h0, h1, hk⟩ := (mtP_snoc ip iq (by omega) hta).mp m1
  have ht := mt_top m (q.length - 1 - a) a (by omega)
  rw [e]
  refine List.mem_map.mpr ⟨at0 u a, List.mem_filter.mpr ⟨irange_mem.mpr ⟨hs, ?_⟩, by rw [hta]; exact hk⟩, rfl⟩
  unfold hiX
  rw [hta]
  omega
abbrev shT : M Bool := (dB (op2 fNe (dName 2) (dv (dFz (dLst dNil)))))
abbrev shC : M (List D) := (compL [6] (.nm 6) (iR1 (vCons (dName 4) vNil)) (dB (op2 fNe (dv (op2 fLt (dv (op2 fIx (dName 0) (dv (op2 fIx (dName 3) (dName 6))))) (dv (op2 fIx (dName 0) (dName 5))))) (dv (op2 fLt (dv (op2 fIx (dName 1) (dName 6))) (dv (op2 fIx (dName 1) (dName 4))))))) (dEsc (dName 6)))
abbrev shI : M Fl := (sIf (dB (op2 fEq (dv (dFz shC)) (dv (dFz (dLst dNil))))) (sExpr (dMut 2 mAppend (dCons (rD (op2r fAdd fCat (dName 3) (dv (dTup (dCons (dEsc (dName 5)) dNil))))) dNil))) sNx)
abbrev shS : M D := (dIfE (dB (op2 fNe (dName 3) (dv (dTup dNil)))) (rD (op2r fAdd fCat (dv (op2 fIx (dName 3) (dv (op1 fNeg (dv (dC (.int 1))))))) (dv (dC (.int 1))))) (dC (.int 0)))
abbrev shF : M Fl := (sFor (.nm 5) [5] (iR2 (vCons (dv shS) (vCons (dv (rD (op2r fAdd fCat (dv (rD (op2r fAdd fCat (dv (op2 fSub (dv (opN fLen (vCons (dName 0) vNil))) (dv (opN fLen (vCons (dName 1) vNil))))) (dName 4)))) (dv (dC (.int 1)))))) vNil))) shI)
abbrev shB' : M Fl := (dSeq (sSet 3 (dMut 2 mPop (rt [])))
    (dSeq (sSet 4 (opN fLen (vCons (dName 3) vNil)))
    (dSeq (sIf (dB (op2 fEq (dName 4) (dv (opN fLen (vCons (dName 1) vNil))))) (sRet (dC (.bool true))) sNx)
    shF)))
theorem ne_bools (x y : Bool) : fNe (.bool x) (.bool y) = some (.bool (x != y)) := by cases x <;> cases y <;> exact Eq.trans rfl rfl
theorem fEq_lnil (xs : List Int) : fEq (.list (xs.map .int)) (.list []) = some (.bool (decide (xs = []))) := fEq_li xs []
def badX (p q t : List Int) (x j : Int) : Bool := decide (pAt p (at0 t j.toNat) < pAt p x) != decide (at0 q j.toNat < at0 q t.length)
theorem badX_nil (p q t : List Int) (x : Int) : decide ((irange 0 t.length).filter (badX p q t x) = []) = okP p q t.length t x := by
  have h : (irange 0 t.length).filter (badX p q t x) = [] ↔ okP p q t.length t x = true := by
    rw [List.filter_eq_nil_iff, okP, List.all_eq_true]
    constructor
    · intro h j hj
      have := h (j : Int) (irange_mem.mpr (by have := List.mem_range.mp hj; omega))
      unfold badX at this
      rw [Int.toNat_natCast] at this
      simpa using this
    · intro h j hj
      have hj := irange_mem.mp hj
      have := h j.toNat (List.mem_range.mpr (by omega))
      unfold badX
      simpa using this
  by_cases c : okP p q t.length t x = true
  · rw [c, decide_eq_true (h.mpr c)]
  · rw [Bool.eq_false_iff.mpr c, decide_eq_false (fun z => c (h.mp z))]
theorem sh_c (p q t : List Int) (hq : q.length ≤ 900) (ht : t.length < q.length) (h : Pl p t.length t) (x : Int) (h0 : 0 ≤ x) (h1 : x < p.length) (b2 : SV) (hb : noOwn [.d (ti p), .d (ti q), b2, .d (ti t), .d (.int (t.length : Int)), .d (.int x), .u] [6] = true) :
    compB [6] (.nm 6) (dB (op2 fNe (dv (op2 fLt (dv (op2 fIx (dName 0) (dv (op2 fIx (dName 3) (dName 6))))) (dv (op2 fIx (dName 0) (dName 5))))) (dv (op2 fLt (dv (op2 fIx (dName 1) (dName 6))) (dv (op2 fIx (dName 1) (dName 4))))))) (dEsc (dName 6)) ((irange 0 t.length).map .int) [.d (ti p), .d (ti q), b2, .d (ti t), .d (.int (t.length : Int)), .d (.int x), .u] =
    .ok (((irange 0 t.length).filter (badX p q t x)).map .int) [.d (ti p), .d (ti q), b2, .d (ti t), .d (.int (t.length : Int)), .d (.int x), .u] :=
  compB_fil (i := 6) (enc := PyData.int) (f := fun j => .int j) (p := badX p q t x) (g := [.d (ti p), .d (ti q), b2, .d (ti t), .d (.int (t.length : Int)), .d (.int x), .u]) (irange 0 t.length) (by rw [irange_len]; omega) hb fun j hj => by
    have hj' := irange_mem.mp hj
    have t1 := fIx_tiz (p := t) (j := j) (by omega) (by omega)
    have m1 := at0_mem (t := t) (i := j.toNat) (by omega)
    have b0 := h.lo _ m1
    have b1 := h.hi _ m1
    have p1 := fIx_tiz (p := p) (j := at0 t j.toNat) b0 b1
    have p2 := fIx_tiz (p := p) (j := x) h0 h1
    have q1 := fIx_tiz (p := q) (j := j) (by omega) (by omega)
    have q2 := fIx_tiz (p := q) (j := (t.length : Int)) (by omega) (by omega)
    rw [Int.toNat_natCast] at q2
    have e1 : fIx (.tuple (t.map .int)) (.int j) = some (.int (at0 t j.toNat)) := t1
    refine ⟨?_, fun _ => by simp! only []⟩
    simp! only [e1, p1, p2, q1, q2, ne_bools]
    rfl
theorem sh_i (p q t : List Int) (hq : q.length ≤ 900) (ht : t.length < q.length) (h : Pl p t.length t) (x : Int) (h0 : 0 ≤ x) (h1 : x < p.length) (ac : List D) (ha : ac.length ≤ 60000) :
    shI [.d (ti p), .d (ti q), .own false ac, .d (ti t), .d (.int (t.length : Int)), .d (.int x), .u] = .ok .nx [.d (ti p), .d (ti q), .own false (ac ++ if okP p q t.length t x then [ti (t ++ [x])] else []), .d (ti t), .d (.int (t.length : Int)), .d (.int x), .u] := by
  have e1 := sh_c p q t hq ht h x h0 h1 (.own false ac) rfl
  have e2 := fEq_lnil ((irange 0 t.length).filter (badX p q t x))
  rw [badX_nil] at e2
  have s1 : Sm (t.length : Int) := sm_of (by omega) (by omega)
  have x1 : fAdd (.tuple (t.map .int)) (.tuple [.int x]) = some (ti (t ++ [x])) := add_t1 t x (by omega)
  have ap := mAppend_ok ac (ti (t ++ [x])) (sz_lt (by omega))
  unfold shI shC
  generalize ((irange 0 t.length).filter (badX p q t x)).map PyData.int = z at *
  generalize ti (t ++ [x]) = y at *
  cases ho : okP p q t.length t x with
  | true =>
    rw [ho] at e2
    rw [if_pos rfl]
    simp! only [s1, Int.toNat_natCast, Int.sub_zero, e1, e2, x1, ap]
  | false =>
    rw [ho] at e2
    rw [if_neg (by decide), List.append_nil]
    simp! only [s1, Int.toNat_natCast, Int.sub_zero, e1, e2]

theorem sh_f (p q t : List Int) (hp : p.length ≤ 900) (hq : q.length ≤ 900) (ht : t.length < q.length) (h : Pl p t.length t) (ac : List (List Int)) (ha : ac.length ≤ 50000) :
    forG (.nm 5) [5] shI ((irange (startI t) (hiX p q t - startI t).toNat).map .int) [.d (ti p), .d (ti q), .own false (ac.map ti), .d (ti t), .d (.int (t.length : Int)), .u, .u] = .ok .nx [.d (ti p), .d (ti q), .own false ((ac ++ exs p q t).map ti), .d (ti t), .d (.int (t.length : Int)), .u, .u] := by
  obtain ⟨b0, b1⟩ := startI_bd h
  have e2 : ((irange (startI t) (hiX p q t - startI t).toNat).flatMap fun x => if okP p q t.length t x then [ti (t ++ [x])] else []) = (exs p q t).map ti := by
    rw [flatMap_if]
    unfold exs
    rw [List.map_map]
    rfl
  have hN : (exs p q t).length ≤ 2000 := by
    unfold exs
    rw [List.length_map]
    have := List.length_filter_le (okP p q t.length t) (irange (startI t) (hiX p q t - startI t).toNat)
    rw [irange_len] at this
    unfold hiX at this
    unfold hiX
    omega
  have := forG_gather (t := .nm 5) (ms := [5]) (b := shI) PyData.int (fun x => if okP p q t.length t x then [ti (t ++ [x])] else []) (fun acc => [.d (ti p), .d (ti q), .own false acc, .d (ti t), .d (.int (t.length : Int)), .u, .u]) (fun a => by simp! only []) 60000 (irange (startI t) (hiX p q t - startI t).toNat) (ac.map ti) (by rw [e2, List.length_map, List.length_map]; omega) fun x hx ac hac => by
    have hx' := irange_mem.mp hx
    have st := sh_i p q t hq ht h x (by omega) (by unfold hiX at hx'; omega) ac (by omega)
    exact ⟨_, _, setT_nm _ _ _, st, by simp! only []⟩
  rw [e2, ← List.map_append] at this
  exact this
theorem fNe_tnil' (p : List Int) : fNe (ti p) (.tuple []) = some (.bool (!decide (p = []))) := fNe_ti p []
theorem sh_s (t : List Int) (a b c d e g : SV) : shS [a, b, c, .d (ti t), d, e, g] = .ok (.int (startI t)) [a, b, c, .d (ti t), d, e, g] := by
  have hn := fNe_tnil' t
  unfold shS
  rcases List.eq_nil_or_concat t with rfl | ⟨s, x, rfl⟩
  · rw [show (!decide (([] : List Int) = [])) = false from rfl] at hn
    simp! only [hn]
    rfl
  · rw [List.concat_eq_append] at *
    have e0 : (!decide (s ++ [x] = [])) = true := by simp
    rw [e0] at hn
    have l1 : fIx (ti (s ++ [x])) (.int (-1)) = some (.int x) := last_t s x
    simp! only [hn, l1, startI_snoc]
theorem pop_ti (r : List (List Int)) (t : List Int) : mPop ((r ++ [t]).map ti) [] = some (r.map ti, ti t) := by
  rw [List.map_append, List.map_singleton]
  unfold mPop
  dsimp only
  have hl : (r.map ti ++ [ti t]).length - 1 = (r.map ti).length := by simp
  rw [hl, List.getElem?_append_right (Nat.le_refl _), Nat.sub_self]
  dsimp only [List.getElem?_cons_zero]
  rw [List.dropLast_concat]
theorem sh_t (b0 b1 b3 b4 b5 b6 : SV) (r : List (List Int)) : shT [b0, b1, .own false (r.map ti), b3, b4, b5, b6] = .ok (!decide (r = [])) [b0, b1, .own false (r.map ti), b3, b4, b5, b6] := by
  have e := fNe_tis r
  unfold shT
  simp! only [e]
theorem sh_b (p q t : List Int) (hp : p.length ≤ 900) (hq : q.length ≤ 900) (ht : t.length < q.length) (h : Pl p t.length t) (r : List (List Int)) (hr : r.length ≤ 50000) :
    shB' [.d (ti p), .d (ti q), .own false ((r ++ [t]).map ti), .u, .u, .u, .u] = .ok .nx [.d (ti p), .d (ti q), .own false ((r ++ exs p q t).map ti), .d (ti t), .d (.int (t.length : Int)), .u, .u] := by
  have e1 := pop_ti r t
  have e2 := sh_f p q t hp hq ht h r hr
  have e3 := sh_s t (.d (ti p)) (.d (ti q)) (.own false (r.map ti)) (.d (.int (t.length : Int))) .u .u
  have e4 : fEq (.int (t.length : Int)) (.int (q.length : Int)) = some (.bool false) := by
    rw [fEq_i, decide_eq_false (by omega)]
  obtain ⟨b0, b1⟩ := startI_bd h
  have s1 : Sm (startI t) := sm_of b0 (by omega)
  have s2 : Sm (hiX p q t) := by
    unfold hiX
    exact ⟨by omega, by omega⟩
  have lt : fLen [ti t] = some (.int (t.length : Int)) := by rw [ti, fLen_t, List.length_map]
  have lp : fLen [ti p] = some (.int (p.length : Int)) := by rw [ti, fLen_t, List.length_map]
  have lq : fLen [ti q] = some (.int (q.length : Int)) := by rw [ti, fLen_t, List.length_map]
  have hh : (p.length : Int) - (q.length : Int) + (t.length : Int) + 1 = hiX p q t := rfl
  unfold shB' shF
  generalize shI = si at *
  generalize shS = ss at *
  generalize (r ++ [t]).map ti = z1 at *
  generalize (r ++ exs p q t).map ti = z2 at *
  generalize hiX p q t = hx at *
  generalize startI t = sx at *
  generalize ti p = zp at *
  generalize ti q = zq at *
  generalize ti t = zt at *
  simp only [bnd_at, rt_at, thn_ok, thn_ex, oRo_some, oMap_some, brn_t, brn_f, dName_at, slR_d, slR_a, slR_o, vl_d, vl_s, slV_d, slV_a, slV_o, dv_at, dEsc_at, esc_d, esc_s, escS_d, escS_o, dFz_at, dC_at, dNil_at, dCons_at, vNil_at, vCons_at, op2_at, op2r_at, op1_at, op1o_at, opN_at, opNo_at, vls_nil, vls_cons, cutR_at, oNone_at, oSome_at, dTup_at, dLst_at, dB_at, boolD_b, dNot_at, dAnd_at, dOr_at, dAndV_at, dOrV_at, dNotV_at, dSeq_at, dsq_nx, dsq_rt, dsq_bk, dsq_ct, dsq_ex, sNx_at, sBk_at, sCt_at, sExpr_at, sRet_at, sRetO_at, sRetN_at, sRetV_at, retS_d, retS_o, sSet_at, sSetO_at, sIf_at, ownV_o, msNil_at, msD_at, msO_at, msR_at, gRo_some, sPar_at, setRs_nil, setRs_d, setRs_o, callP_at, callK_at, argO_some, callM_at, outR_ret, outR_ex, argD_nil, argD_v, argD_p, argD_m, argD_vn, argD_vs, Option.some.injEq, Nat.reduceEqDiff, mIx_m, mIx_v, mIx_p, mIx_nil, putM_none, putM_some, putO_o, call1_at, rD_at, rtD_d, rtD_o, rO_at, rtO_o, sExprR_at, sRetR_at, sSetR_at, setS_d, setS_o, runF_at, outF_nx, outF_rt, mOut_some, muOf_nil, muOf_m, muOf_v, muOf_p, chk_some, sSub_at, subS0, subS1, mutS_some, mutP_some, dMut_at, mixR_at, dChain_at, dRep_at, intD_i, rg1_at, rg2_at, dLstRg_go, rgL_ok, dTupRg_go, rgT_ok, dTupRg3_go, rgT3_ok, rgO1_ok, rgO2_ok, rgO3_ok, sm0, sm1, dIndexT_at, seqS_d, seqS_a, seqS_o, seqD_l, seqD_t, itR_d, itR_s, iV_at, iO_at, iR1_go, iR2_go, iR3_go, iEnV_at, iEnO_at, iZip_at, zipR_at, dcL_at, sSwap_at, c2L_at, sUnp_at, unpR_2, sUnpL_at, unpRL_2, sMove_at, moveV_o, moveV_d, mvR_some, swapR_at, sFor_at, compL_at, fAdd_i, fSub_i, fLt_i, fLe_i, fGt_i, fGe_i, fDiv_33, fPow_64, fPow_33, fPow_18, fNeg_i, fLen_l, fLen_t, fInt_i, fTuple_l, fList_l, fMax_2, fMin_2, fIx_l0, fIx_l1, fIx_l2, fEq_i, start0, svs, svK, svA, List.length_cons, List.length_nil, List.replicate, List.append_nil, List.cons_append, List.nil_append, List.getElem?_cons_zero, List.getElem?_cons_succ, List.set_cons_zero, List.set_cons_succ, Bool.not_true, Bool.not_false, decide_true, decide_false, ne_eq, not_false_eq_true, Nat.reduceAdd, Nat.reduceSub, fMul_take, fMul_7919, fMul_31, Nat.reduceLT, Int.reduceLT, Int.reduceEq, fMod_i, fDiv_i, bdz_ok, setT_nm, fgt_nil, fgt_cons, wipG_nil, wipG_cons, sz1, sz2, sz3, sz4, sz5, Nat.zero_le, fIs_ii, fIs_ib, fIs_is, fIs_itl, fIs_tt, fIs_tl, fIs_ttl, fIs_lt, fIs_ll, fIs_ltl, fAll_b, fSum_i, fBack_t, fBackL_l, e1, e2, e3, e4, s1, s2, lt, lp, lq, hh]
theorem sh_hit (p q t : List Int) (ht : t.length = q.length) (r : List (List Int)) :
    shB' [.d (ti p), .d (ti q), .own false ((r ++ [t]).map ti), .u, .u, .u, .u] = .ok (.rt (.d (.bool true))) [.d (ti p), .d (ti q), .own false (r.map ti), .d (ti t), .d (.int (t.length : Int)), .u, .u] := by
  have e1 := pop_ti r t
  have e4 : fEq (.int (t.length : Int)) (.int (q.length : Int)) = some (.bool true) := by
    rw [fEq_i, decide_eq_true (by omega)]
  have lt : fLen [ti t] = some (.int (t.length : Int)) := by rw [ti, fLen_t, List.length_map]
  have lq : fLen [ti q] = some (.int (q.length : Int)) := by rw [ti, fLen_t, List.length_map]
  unfold shB'
  generalize shF = sf at *
  generalize (r ++ [t]).map ti = z1 at *
  generalize ti p = zp at *
  generalize ti q = zq at *
  generalize ti t = zt at *
  simp only [bnd_at, rt_at, thn_ok, thn_ex, oRo_some, oMap_some, brn_t, brn_f, dName_at, slR_d, slR_a, slR_o, vl_d, vl_s, slV_d, slV_a, slV_o, dv_at, dEsc_at, esc_d, esc_s, escS_d, escS_o, dFz_at, dC_at, dNil_at, dCons_at, vNil_at, vCons_at, op2_at, op2r_at, op1_at, op1o_at, opN_at, opNo_at, vls_nil, vls_cons, cutR_at, oNone_at, oSome_at, dTup_at, dLst_at, dB_at, boolD_b, dNot_at, dAnd_at, dOr_at, dAndV_at, dOrV_at, dNotV_at, dSeq_at, dsq_nx, dsq_rt, dsq_bk, dsq_ct, dsq_ex, sNx_at, sBk_at, sCt_at, sExpr_at, sRet_at, sRetO_at, sRetN_at, sRetV_at, retS_d, retS_o, sSet_at, sSetO_at, sIf_at, ownV_o, msNil_at, msD_at, msO_at, msR_at, gRo_some, sPar_at, setRs_nil, setRs_d, setRs_o, callP_at, callK_at, argO_some, callM_at, outR_ret, outR_ex, argD_nil, argD_v, argD_p, argD_m, argD_vn, argD_vs, Option.some.injEq, Nat.reduceEqDiff, mIx_m, mIx_v, mIx_p, mIx_nil, putM_none, putM_some, putO_o, call1_at, rD_at, rtD_d, rtD_o, rO_at, rtO_o, sExprR_at, sRetR_at, sSetR_at, setS_d, setS_o, runF_at, outF_nx, outF_rt, mOut_some, muOf_nil, muOf_m, muOf_v, muOf_p, chk_some, sSub_at, subS0, subS1, mutS_some, mutP_some, dMut_at, mixR_at, dChain_at, dRep_at, intD_i, rg1_at, rg2_at, dLstRg_go, rgL_ok, dTupRg_go, rgT_ok, dTupRg3_go, rgT3_ok, rgO1_ok, rgO2_ok, rgO3_ok, sm0, sm1, dIndexT_at, seqS_d, seqS_a, seqS_o, seqD_l, seqD_t, itR_d, itR_s, iV_at, iO_at, iR1_go, iR2_go, iR3_go, iEnV_at, iEnO_at, iZip_at, zipR_at, dcL_at, sSwap_at, c2L_at, sUnp_at, unpR_2, sUnpL_at, unpRL_2, sMove_at, moveV_o, moveV_d, mvR_some, swapR_at, sFor_at, compL_at, fAdd_i, fSub_i, fLt_i, fLe_i, fGt_i, fGe_i, fDiv_33, fPow_64, fPow_33, fPow_18, fNeg_i, fLen_l, fLen_t, fInt_i, fTuple_l, fList_l, fMax_2, fMin_2, fIx_l0, fIx_l1, fIx_l2, fEq_i, start0, svs, svK, svA, List.length_cons, List.length_nil, List.replicate, List.append_nil, List.cons_append, List.nil_append, List.getElem?_cons_zero, List.getElem?_cons_succ, List.set_cons_zero, List.set_cons_succ, Bool.not_true, Bool.not_false, decide_true, decide_false, ne_eq, not_false_eq_true, Nat.reduceAdd, Nat.reduceSub, fMul_take, fMul_7919, fMul_31, Nat.reduceLT, Int.reduceLT, Int.reduceEq, fMod_i, fDiv_i, bdz_ok, setT_nm, fgt_nil, fgt_cons, wipG_nil, wipG_cons, sz1, sz2, sz3, sz4, sz5, Nat.zero_le, fIs_ii, fIs_ib, fIs_is, fIs_itl, fIs_tt, fIs_tl, fIs_ttl, fIs_lt, fIs_ll, fIs_ltl, fAll_b, fSum_i, fBack_t, fBackL_l, e1, e4, lt, lq]
theorem wh_stop {ms : List Nat} {t : M Bool} {b : M Fl} {n : Nat} {g g1 g2 : En} {r : Rt} (h1 : t g = .ok true g1) (h2 : b g1 = .ok (.rt r) g2) : whG ms t b (n + 1) g = .ok (.rt r) g2 := by
  rw [whG, bnd, h1]
  dsimp only
  rw [if_pos rfl, h2]
theorem sh_run (p q : List Int) (ip : p.Nodup) (iq : q.Nodup) (hp : p.length ≤ 15) (hq : q.length ≤ 900) : ∀ (k : Nat) (rows : List (List Int)), (∀ t ∈ rows, t ∈ Lp p q t.length ∧ t.length ≤ q.length) → (rows.map (wt p.length)).sum < k → (rows.map (wt p.length)).sum ≤ 32768 →
    ((∃ b2 b3 b4 b5 b6 : SV, whG [3, 4, 5] shT shB' k [.d (ti p), .d (ti q), .own false (rows.map ti), .u, .u, .u, .u] = .ok (.rt (.d (.bool true))) [.d (ti p), .d (ti q), b2, b3, b4, b5, b6]) ∧ Lp p q q.length ≠ []) ∨
    (whG [3, 4, 5] shT shB' k [.d (ti p), .d (ti q), .own false (rows.map ti), .u, .u, .u, .u] = .ok .nx [.d (ti p), .d (ti q), .own false [], .u, .u, .u, .u] ∧ ∀ t ∈ rows, ∀ u, Mt p q q.length u → t ≠ u.take t.length)
  | 0, _, _, h, _ => absurd h (Nat.not_lt_zero _)
  | k + 1, rows, hr, h, hw => by
    have et := sh_t (.d (ti p)) (.d (ti q)) .u .u .u .u rows
    rcases List.eq_nil_or_concat rows with rfl | ⟨r, t, rfl⟩
    · right
      refine ⟨wh_end et, fun t ht => absurd ht List.not_mem_nil⟩
    · rw [List.concat_eq_append] at *
      obtain ⟨htl, htq⟩ := hr t (by simp)
      have hpl := pl_Lp t htl
      rw [show (!decide (r ++ [t] = [])) = true by simp] at et
      have hrl : r.length ≤ 32768 := Nat.le_trans (Nat.le_trans (len_sum (wt p.length) (fun _ => Nat.pow_pos (by omega)) r) (by rw [wsum_app] at hw; omega)) (Nat.le_refl _)
      by_cases c : t.length = q.length
      · left
        exact ⟨⟨_, _, _, _, _, wh_stop et (sh_hit p q t c r)⟩, fun z => by rw [c, z] at htl; exact absurd htl List.not_mem_nil⟩
      · have hlt : t.length < q.length := by omega
        have eb := sh_b p q t (by omega) hq hlt hpl r (by omega)
        have ew := exs_wt hpl hlt
        rw [wsum_app] at h hw
        have e1 : (([t] : List (List Int)).map (wt p.length)).sum = wt p.length t := by simp
        rw [e1] at h hw
        have ih := sh_run p q ip iq hp hq k (r ++ exs p q t) (fun u hu => by
          rcases List.mem_append.mp hu with hu | hu
          · exact hr u (List.mem_append_left _ hu)
          · have := exs_ext hlt hu
            have hl := (plP_ext hpl this).len
            rw [hl]
            exact ⟨List.mem_flatMap.mpr ⟨t, htl, this⟩, hlt⟩) (by rw [wsum_app]; omega) (by rw [wsum_app]; omega)
        have es := wh_step (ms := [3, 4, 5]) (n := k) et eb
        have ef : Z.fgt [3, 4, 5] [SV.d (ti p), .d (ti q), .own false ((r ++ exs p q t).map ti), .d (ti t), .d (.int (t.length : Int)), .u, .u] = [.d (ti p), .d (ti q), .own false ((r ++ exs p q t).map ti), .u, .u, .u, .u] := rfl
        rw [ef] at es
        rw [es]
        rcases ih with ⟨a, c⟩ | ⟨a, b⟩
        · exact .inl ⟨a, c⟩
        · refine .inr ⟨a, fun s hs u mu e => ?_⟩
          rcases List.mem_append.mp hs with hs | hs
          · exact b s (List.mem_append_left _ hs) u mu e
          · have e0 := List.mem_singleton.mp hs
            subst e0
            have nx := exs_next ip iq mu hlt
            rw [← e] at nx
            refine b _ (List.mem_append_right _ nx) u mu ?_
            rw [List.length_take, mu.pl.len, Nat.min_eq_left (by omega)]
theorem fEq_tis (L : List (List Int)) : fEq (.list (L.map ti)) (.list []) = some (.bool (decide (L = []))) := by
  rw [fEq_gd (n := 2) (m := 1) (gd_tis 0 L) (gd_list (xs := []) fun x hx => absurd hx List.not_mem_nil) (by decide) (by decide)]
  cases L with
  | nil => rfl
  | cons x L => rfl
theorem lp_sh {p q : List Int} (ip : IsOrd p) (iq : IsOrd q) : decide (Lp p q q.length = []) = !shB p q := by
  have h1 := Lp_shows (p := p) (q := q) ip.nd iq.nd
  have h2 := shB_iff ip iq
  by_cases h : Shows p q
  · rw [h2.mpr h, decide_eq_false (h1.mpr h)]
    rfl
  · have e : shB p q = false := Bool.eq_false_iff.mpr fun z => h (h2.mp z)
    rw [e, decide_eq_true (Classical.byContradiction fun z => h (h1.mp z))]
    rfl
theorem law_shows_ok (p q : List Int) (ip : IsOrd p) (iq : IsOrd q) (hp : p.length ≤ 15) (hq : q.length ≤ 900) : φ__law_shows [ti p, ti q] = .ret (.d (.bool (shB p q))) [] := by
  have hl := lp_sh ip iq
  have r := sh_run p q ip.nd iq.nd hp hq 1000000 [[]] (fun t ht => by rw [List.mem_singleton.mp ht]; exact ⟨List.mem_singleton.mpr rfl, Nat.zero_le _⟩) (by
    have : 2 ^ p.length ≤ 2 ^ 15 := Nat.pow_le_pow_right (by decide) hp
    show wt p.length [] + 0 < 1000000
    have e : wt p.length [] = 2 ^ p.length := by unfold wt; rfl
    omega) (by
    have : 2 ^ p.length ≤ 2 ^ 15 := Nat.pow_le_pow_right (by decide) hp
    show wt p.length [] + 0 ≤ 32768
    have e : wt p.length [] = 2 ^ p.length := by unfold wt; rfl
    omega)
  have e0 : ([[]] : List (List Int)).map ti = [.tuple []] := rfl
  rw [e0] at r
  unfold φ__law_shows m__law_shows sWh
  generalize hT : shT = tt at *
  generalize hB : shB' = bb at *
  unfold shT at hT
  unfold shB' shF shI shS shC at hB
  rw [hT, hB]
  rcases r with ⟨⟨b2, b3, b4, b5, b6, a⟩, c⟩ | ⟨a, b⟩
  · have e : shB p q = true := by
      rw [decide_eq_false c] at hl
      cases hs : shB p q with
      | true => rfl
      | false =>
        rw [hs] at hl
        cases hl
    rw [e]
    simp! only [a]
  · have e : shB p q = false := by
      cases hs : shB p q with
      | false => rfl
      | true =>
        obtain ⟨u, mu⟩ := (shB_iff ip iq).mp hs
        exact absurd rfl (b [] (List.mem_singleton.mpr rfl) u mu)
    rw [e]
    simp! only [a]
theorem law_lets_ok {P : List (List Int)} (hP : PatL P) (p : List Int) (ip : IsOrd p) (hp : p.length ≤ 15) : φ__law_lets [tiF P, ti p] = .ret (.d (.bool (letB P p))) [] := by
  have hf := hP.few
  have h1 := compB_fil (i := 2) (enc := ti) (f := fun q => ti q) (p := fun q => shB p q) (mt := dB (rD (callP [.v, .v] φ__law_shows (vCons (dName 1) (vCons (dName 2) vNil))))) (me := dEsc (dName 2)) (g := [.d (tiF P), .d (ti p), .u]) P (by omega) rfl fun q hq => by
    obtain ⟨a, b, c⟩ := hP.pat q hq
    have hl := law_shows_ok p q ip a hp (by omega)
    exact ⟨by simp! only [hl], fun _ => by simp! only []⟩
  have he := fEq_tis (P.filter fun q => shB p q)
  have e : decide ((P.filter fun q => shB p q) = []) = letB P p := by
    have h : (P.filter fun q => shB p q) = [] ↔ letB P p = true := by
      rw [List.filter_eq_nil_iff, letB, List.all_eq_true]
      exact ⟨fun h q hq => by have := h q hq; simpa using this, fun h q hq => by have := h q hq; simpa using this⟩
    by_cases c : letB P p = true
    · rw [c, decide_eq_true (h.mpr c)]
    · rw [Bool.eq_false_iff.mpr c, decide_eq_false (fun z => c (h.mp z))]
  rw [e] at he
  unfold φ__law_lets m__law_lets
  generalize letB P p = lb at *
  simp! only [h1, he]

/-! ### three things of a row -/
def nt (R : Int → Int → Int → Prop) : List Int → Prop
  | [] => True
  | a :: r => r.Pairwise (fun b c => ¬ R a b c) ∧ nt R r
theorem nt_iff (R : Int → Int → Int → Prop) : ∀ o : List Int, nt R o ↔ ∀ i j k, i < j → j < k → k < o.length → ¬ R (at0 o i) (at0 o j) (at0 o k)
  | [] => ⟨fun _ i j k _ _ h => absurd h (Nat.not_lt_zero _), fun _ => True.intro⟩
  | a :: r => by
    have ih := nt_iff R r
    have hc : ∀ i, at0 (a :: r) (i + 1) = at0 r i := fun i => rfl
    have h0 : at0 (a :: r) 0 = a := rfl
    have hg : ∀ i (h : i < r.length), at0 r i = r[i] := fun i h => by
      show r.getD i 0 = r[i]
      rw [List.getD_eq_getElem?_getD, List.getElem?_eq_getElem h]
      rfl
    rw [nt, ih, List.pairwise_iff_getElem]
    constructor
    · rintro ⟨h1, h2⟩ i j k hij hjk hk
      obtain ⟨j, rfl⟩ : ∃ j', j = j' + 1 := ⟨j - 1, by omega⟩
      obtain ⟨k, rfl⟩ : ∃ k', k = k' + 1 := ⟨k - 1, by omega⟩
      rw [List.length_cons] at hk
      cases i with
      | zero =>
        rw [h0, hc, hc, hg j (by omega), hg k (by omega)]
        exact h1 j k (by omega) (by omega) (by omega)
      | succ i =>
        rw [hc, hc, hc]
        exact h2 i j k (by omega) (by omega) (by omega)
    · intro h
      refine ⟨fun j k hj hk hjk => ?_, fun i j k hij hjk hk => ?_⟩
      · have := h 0 (j + 1) (k + 1) (by omega) (by omega) (by rw [List.length_cons]; omega)
        rw [h0, hc, hc, hg j hj, hg k hk] at this
        exact this
      · have := h (i + 1) (j + 1) (k + 1) (by omega) (by omega) (by rw [List.length_cons]; omega)
        rw [hc, hc, hc] at this
        exact this
theorem sh3 {o : List Int} (x y z : Int) : Shows o [x, y, z] ↔ ∃ i j k, i < j ∧ j < k ∧ k < o.length ∧
    ((at0 o i < at0 o j ↔ x < y) ∧ (at0 o j < at0 o i ↔ y < x) ∧ (at0 o i < at0 o k ↔ x < z) ∧ (at0 o k < at0 o i ↔ z < x) ∧ (at0 o j < at0 o k ↔ y < z) ∧ (at0 o k < at0 o j ↔ z < y)) := by
  constructor
  · rintro ⟨t, m⟩
    have hl : t.length = 3 := m.pl.len
    match t, hl with
    | [a, b, c], _ =>
      have a1 : (0 : Int) ≤ a := m.pl.lo a (by simp)
      have b1 : (0 : Int) ≤ b := m.pl.lo b (by simp)
      have c1 : (0 : Int) ≤ c := m.pl.lo c (by simp)
      have c2 : c < (o.length : Int) := m.pl.hi c (by simp)
      have ab : a < b := m.asc 0 1 (by decide) (by show 1 < 3; decide)
      have bc : b < c := m.asc 1 2 (by decide) (by show 2 < 3; decide)
      have o01 := m.ord 0 1 (by show 0 < 3; decide) (by show 1 < 3; decide)
      have o10 := m.ord 1 0 (by show 1 < 3; decide) (by show 0 < 3; decide)
      have o02 := m.ord 0 2 (by show 0 < 3; decide) (by show 2 < 3; decide)
      have o20 := m.ord 2 0 (by show 2 < 3; decide) (by show 0 < 3; decide)
      have o12 := m.ord 1 2 (by show 1 < 3; decide) (by show 2 < 3; decide)
      have o21 := m.ord 2 1 (by show 2 < 3; decide) (by show 1 < 3; decide)
      exact ⟨a.toNat, b.toNat, c.toNat, by omega, by omega, by omega, o01, o10, o02, o20, o12, o21⟩
  · rintro ⟨i, j, k, ij, jk, hk, h1, h2, h3, h4, h5, h6⟩
    refine ⟨[(i : Int), (j : Int), (k : Int)], ⟨⟨rfl, fun v hv => ?_, fun v hv => ?_⟩, fun a b ab hb => ?_, fun a b ha hb => ?_⟩⟩
    · rcases List.mem_cons.mp hv with rfl | hv
      · omega
      · rcases List.mem_cons.mp hv with rfl | hv
        · omega
        · rw [List.mem_singleton.mp hv]
          omega
    · rcases List.mem_cons.mp hv with rfl | hv
      · omega
      · rcases List.mem_cons.mp hv with rfl | hv
        · omega
        · rw [List.mem_singleton.mp hv]
          omega
    · have hb : b < 3 := hb
      have h01 : (i : Int) < (j : Int) := by omega
      have h12 : (j : Int) < (k : Int) := by omega
      have h02 : (i : Int) < (k : Int) := by omega
      rcases (show (a = 0 ∧ b = 1) ∨ (a = 0 ∧ b = 2) ∨ (a = 1 ∧ b = 2) by omega) with ⟨rfl, rfl⟩ | ⟨rfl, rfl⟩ | ⟨rfl, rfl⟩
      · exact h01
      · exact h02
      · exact h12
    · have ha : a < 3 := ha
      have hb : b < 3 := hb
      have p : ∀ n : Nat, pAt o (n : Int) = at0 o n := fun n => by
        show o.getD ((n : Int)).toNat 0 = o.getD n 0
        rw [Int.toNat_natCast]
      have z0 : ∀ v : Int, (v < v) ↔ (v < v) := fun _ => Iff.rfl
      have irr : ∀ u v : Int, (u < u ↔ v < v) := fun u v => ⟨fun h => by omega, fun h => by omega⟩
      rcases (show a = 0 ∨ a = 1 ∨ a = 2 by omega) with rfl | rfl | rfl <;> rcases (show b = 0 ∨ b = 1 ∨ b = 2 by omega) with rfl | rfl | rfl
      · exact irr _ _
      · exact (p i) ▸ (p j) ▸ h1
      · exact (p i) ▸ (p k) ▸ h3
      · exact (p i) ▸ (p j) ▸ h2
      · exact irr _ _
      · exact (p j) ▸ (p k) ▸ h5
      · exact (p i) ▸ (p k) ▸ h4
      · exact (p j) ▸ (p k) ▸ h6
      · exact irr _ _

abbrev Sd (l : List Int) : Prop := l.Pairwise (· < ·)
abbrev Q231 (x : Int) : Int → Int → Prop := fun b c => ¬ (c < x ∧ x < b)
abbrev Q312 (x : Int) : Int → Int → Prop := fun b c => ¬ (b < c ∧ c < x)
abbrev Q321 (x : Int) : Int → Int → Prop := fun b c => ¬ (c < b ∧ b < x)
abbrev Qbub (x : Int) : Int → Int → Prop := fun b c => ¬ (c < x ∧ c < b)
theorem sd_app {l m : List Int} : Sd (l ++ m) ↔ Sd l ∧ Sd m ∧ ∀ x ∈ l, ∀ y ∈ m, x < y := List.pairwise_append
theorem nd_app {l m : List Int} : (l ++ m).Nodup ↔ l.Nodup ∧ m.Nodup ∧ ∀ x ∈ l, ∀ y ∈ m, x ≠ y := List.nodup_append
/-! ### the stack -/
theorem popS_split (n : Int) : ∀ (sk left : List Int), Sd sk → n ∉ sk → ∃ p q, sk = p ++ q ∧ popS n left sk = (left ++ p, q) ∧ (∀ x ∈ p, x < n) ∧ ∀ x ∈ q, n < x
  | [], left, _, _ => ⟨[], [], rfl, by rw [popS, List.append_nil], fun _ h => absurd h List.not_mem_nil, fun _ h => absurd h List.not_mem_nil⟩
  | x :: sk, left, hs, hn => by
    obtain ⟨h1, h2⟩ := List.pairwise_cons.mp hs
    have hx : n ≠ x := fun e => hn (by rw [e]; exact List.mem_cons_self)
    rw [popS]
    by_cases c : x < n
    · rw [if_pos c]
      obtain ⟨p, q, e1, e2, e3, e4⟩ := popS_split n sk (left ++ [x]) h2 fun z => hn (List.mem_cons_of_mem _ z)
      refine ⟨x :: p, q, by rw [e1]; rfl, by rw [e2, List.append_assoc]; rfl, fun y hy => ?_, e4⟩
      rcases List.mem_cons.mp hy with rfl | hy
      · exact c
      · exact e3 y hy
    · rw [if_neg c]
      refine ⟨[], x :: sk, rfl, by rw [List.append_nil], fun _ h => absurd h List.not_mem_nil, fun y hy => ?_⟩
      rcases List.mem_cons.mp hy with rfl | hy
      · omega
      · have := h1 y hy
        omega
theorem stk : ∀ (r left sk : List Int), (left ++ sk ++ r).Nodup → Sd sk → (Sd ((r.foldl stS (left, sk)).1 ++ (r.foldl stS (left, sk)).2) ↔
    (Sd left ∧ (∀ x ∈ left, ∀ y ∈ sk ++ r, x < y) ∧ (∀ x ∈ sk, r.Pairwise (Q231 x)) ∧ nt (fun a b c => c < a ∧ a < b) r))
  | [], left, sk, nd, hs => by
    show Sd (left ++ sk) ↔ _
    rw [sd_app, List.append_nil]
    exact ⟨fun h => ⟨h.1, h.2.2, fun _ _ => List.Pairwise.nil, True.intro⟩, fun h => ⟨h.1, hs, h.2.1⟩⟩
  | n :: r, left, sk, nd, hs => by
    obtain ⟨nd1, nd2, nd3⟩ := nd_app.mp nd
    obtain ⟨nd4, nd5⟩ := List.nodup_cons.mp nd2
    have hn : n ∉ sk := fun z => nd3 n (List.mem_append_right _ z) n List.mem_cons_self rfl
    obtain ⟨p, q, rfl, e2, e3, e4⟩ := popS_split n sk left hs hn
    obtain ⟨s1, s2, s3⟩ := sd_app.mp hs
    have es : stS (left, p ++ q) n = (left ++ p, n :: q) := by unfold stS; rw [e2]
    have nd' : ((left ++ p) ++ (n :: q) ++ r).Nodup := by
      refine List.Perm.nodup ?_ nd
      have : ((left ++ p) ++ (n :: q) ++ r).Perm (left ++ (p ++ q) ++ n :: r) := by
        rw [List.append_assoc, List.append_assoc, List.append_assoc, List.append_assoc]
        refine List.Perm.append_left _ (List.Perm.append_left _ ?_)
        exact List.perm_middle.symm
      exact this.symm
    have hs' : Sd (n :: q) := List.pairwise_cons.mpr ⟨e4, s2⟩
    have ih := stk r (left ++ p) (n :: q) nd' hs'
    rw [List.foldl_cons, es, ih]
    have ne : ∀ x ∈ p, ∀ y ∈ r, x ≠ y := fun x hx y hy => nd3 x (List.mem_append_right _ (List.mem_append_left _ hx)) y (List.mem_cons_of_mem _ hy)
    constructor
    · rintro ⟨a, b, c, d⟩
      obtain ⟨a1, a2, a3⟩ := sd_app.mp a
      have pr : ∀ x ∈ p, ∀ y ∈ r, x < y := fun x hx y hy => b x (List.mem_append_right _ hx) y (List.mem_append_right _ hy)
      refine ⟨a1, fun x hx y hy => ?_, fun x hx => List.pairwise_cons.mpr ⟨fun b' hb => ?_, ?_⟩, ⟨c n List.mem_cons_self, d⟩⟩
      · rcases List.mem_append.mp hy with hy | hy
        · rcases List.mem_append.mp hy with hy | hy
          · exact a3 x hx y hy
          · exact b x (List.mem_append_left _ hx) y (List.mem_append_left _ (List.mem_cons_of_mem _ hy))
        · rcases List.mem_cons.mp hy with rfl | hy
          · exact b x (List.mem_append_left _ hx) _ (List.mem_append_left _ List.mem_cons_self)
          · exact b x (List.mem_append_left _ hx) y (List.mem_append_right _ hy)
      · rintro ⟨z1, z2⟩
        rcases List.mem_append.mp hx with hx | hx
        · have := pr x hx b' hb
          omega
        · have := e4 x hx
          omega
      · rcases List.mem_append.mp hx with hx | hx
        · refine List.Pairwise.imp_of_mem ?_ (List.pairwise_of_forall (R := fun _ _ => True) fun _ _ => True.intro)
          rintro u v hu hv _ ⟨z1, z2⟩
          have := pr x hx v hv
          omega
        · exact c x (List.mem_cons_of_mem _ hx)
    · rintro ⟨a, b, c, d1, d2⟩
      have pr : ∀ x ∈ p, ∀ y ∈ r, x < y := fun x hx y hy => by
        have h1 := (List.pairwise_cons.mp (c x (List.mem_append_left _ hx))).1 y hy
        have h2 := e3 x hx
        have h3 := ne x hx y hy
        have h4 : ¬ (y < x ∧ x < n) := h1
        omega
      refine ⟨sd_app.mpr ⟨a, s1, fun x hx y hy => b x hx y (List.mem_append_left _ (List.mem_append_left _ hy))⟩, fun x hx y hy => ?_, fun x hx => ?_, d2⟩
      · rcases List.mem_append.mp hx with hx | hx
        · refine b x hx y ?_
          rcases List.mem_append.mp hy with hy | hy
          · rcases List.mem_cons.mp hy with rfl | hy
            · exact List.mem_append_right _ List.mem_cons_self
            · exact List.mem_append_left _ (List.mem_append_right _ hy)
          · exact List.mem_append_right _ (List.mem_cons_of_mem _ hy)
        · rcases List.mem_append.mp hy with hy | hy
          · rcases List.mem_cons.mp hy with rfl | hy
            · exact e3 x hx
            · exact s3 x hx y hy
          · exact pr x hx y hy
      · rcases List.mem_cons.mp hx with rfl | hx
        · exact d1
        · exact (List.pairwise_cons.mp (c x (List.mem_append_right _ hx))).2
theorem all_pw {R : Int → Int → Prop} {r : List Int} (h : ∀ u ∈ r, ∀ v ∈ r, R u v) : r.Pairwise R :=
  List.Pairwise.imp_of_mem (fun {u v} hu hv _ => h u hu v hv) (List.pairwise_of_forall (R := fun _ _ => True) fun _ _ => True.intro)
theorem stack_iff (o : List Int) (nd : o.Nodup) : Sd (stackL o) ↔ nt (fun a b c => c < a ∧ a < b) o := by
  have h := stk o [] [] (by simpa using nd) List.Pairwise.nil
  refine h.trans ⟨fun h => h.2.2.2, fun h => ⟨List.Pairwise.nil, fun _ h => absurd h List.not_mem_nil, fun _ h => absurd h List.not_mem_nil, h⟩⟩
/-! ### the popper -/
theorem pop_iff : ∀ (r left sk : List Int), (left ++ sk ++ r).Nodup → Sd sk → (Sd ((r.foldl ppS (left, sk)).1 ++ (r.foldl ppS (left, sk)).2) ↔
    (Sd left ∧ (∀ x ∈ left, ∀ y ∈ sk ++ r, x < y) ∧ (∀ x ∈ sk, r.Pairwise (Q231 x)) ∧ (∀ x ∈ sk, r.Pairwise (Q312 x)) ∧ (sk.Pairwise fun y x => ∀ c ∈ r, ¬ (y < c ∧ c < x)) ∧ nt (fun a b c => c < a ∧ a < b) r ∧ nt (fun a b c => b < c ∧ c < a) r))
  | [], left, sk, nd, hs => by
    show Sd (left ++ sk) ↔ _
    rw [sd_app, List.append_nil]
    exact ⟨fun h => ⟨h.1, h.2.2, fun _ _ => List.Pairwise.nil, fun _ _ => List.Pairwise.nil, all_pw fun _ _ _ _ _ h => absurd h List.not_mem_nil, True.intro, True.intro⟩, fun h => ⟨h.1, hs, h.2.1⟩⟩
  | n :: r, left, sk, nd, hs => by
    obtain ⟨nd1, nd2, nd3⟩ := nd_app.mp nd
    obtain ⟨nd4, nd5⟩ := List.nodup_cons.mp nd2
    have hn : ∀ x ∈ sk, x ≠ n := fun x z => nd3 x (List.mem_append_right _ z) n List.mem_cons_self
    have nr : ∀ x ∈ sk, ∀ y ∈ r, x ≠ y := fun x z y hy => nd3 x (List.mem_append_right _ z) y (List.mem_cons_of_mem _ hy)
    by_cases hc : ∃ t sk', sk = t :: sk' ∧ t < n
    · obtain ⟨t, sk', rfl, ht⟩ := hc
      have es : ppS (left, t :: sk') n = (left ++ (t :: sk'), [n]) := by
        unfold ppS
        exact if_pos ht
      have nd' : ((left ++ (t :: sk')) ++ [n] ++ r).Nodup := by
        rw [List.append_assoc]
        exact nd
      have ih := pop_iff r (left ++ (t :: sk')) [n] nd' (List.pairwise_singleton _ _)
      rw [List.foldl_cons, es, ih]
      constructor
      · rintro ⟨a, b, c, d, e, f, g⟩
        obtain ⟨a1, a2, a3⟩ := sd_app.mp a
        have sn : ∀ x ∈ t :: sk', x < n := fun x hx => b x (List.mem_append_right _ hx) n (by simp)
        have sr : ∀ x ∈ t :: sk', ∀ y ∈ r, x < y := fun x hx y hy => b x (List.mem_append_right _ hx) y (List.mem_append_right _ hy)
        refine ⟨a1, fun x hx y hy => ?_, fun x hx => List.pairwise_cons.mpr ⟨fun y hy => ?_, all_pw fun u hu v hv => ?_⟩, fun x hx => List.pairwise_cons.mpr ⟨fun y hy => ?_, all_pw fun u hu v hv => ?_⟩, List.Pairwise.imp_of_mem (R := fun _ _ => True) (fun {y x} hy hx _ c' hc' => ?_) (List.pairwise_of_forall fun _ _ => True.intro), ⟨c n (by simp), f⟩, ⟨d n (by simp), g⟩⟩
        · rcases List.mem_append.mp hy with hy | hy
          · exact a3 x hx y hy
          · rcases List.mem_cons.mp hy with rfl | hy
            · exact b x (List.mem_append_left _ hx) _ (by simp)
            · exact b x (List.mem_append_left _ hx) y (List.mem_append_right _ hy)
        · have := sr x hx y hy
          rintro ⟨z1, z2⟩
          omega
        · have := sr x hx v hv
          rintro ⟨z1, z2⟩
          omega
        · have := sr x hx y hy
          rintro ⟨z1, z2⟩
          omega
        · have := sr x hx v hv
          rintro ⟨z1, z2⟩
          omega
        · rintro ⟨z1, z2⟩
          rcases List.mem_cons.mp hc' with rfl | hc'
          · have := sn x hx
            omega
          · have := sr x hx c' hc'
            omega
      · rintro ⟨a, b, c, d, e, ⟨f1, f2⟩, g1, g2⟩
        have sn : ∀ x ∈ t :: sk', x < n := fun x hx => by
          rcases List.mem_cons.mp hx with rfl | hx'
          · exact ht
          · have h1 := (List.pairwise_cons.mp e).1 x hx' n List.mem_cons_self
            have h2 := hn x hx
            omega
        have sr : ∀ x ∈ t :: sk', ∀ y ∈ r, x < y := fun x hx y hy => by
          have h1 : ¬ (y < x ∧ x < n) := (List.pairwise_cons.mp (c x hx)).1 y hy
          have h2 := sn x hx
          have h3 := nr x hx y hy
          omega
        refine ⟨sd_app.mpr ⟨a, hs, fun x hx y hy => b x hx y (List.mem_append_left _ hy)⟩, fun x hx y hy => ?_, fun x hx => ?_, fun x hx => ?_, List.pairwise_singleton _ _, f2, g2⟩
        · rcases List.mem_append.mp hx with hx | hx
          · refine b x hx y (List.mem_append_right _ ?_)
            rcases List.mem_append.mp hy with hy | hy
            · rw [List.mem_singleton.mp hy]
              exact List.mem_cons_self
            · exact List.mem_cons_of_mem _ hy
          · rcases List.mem_append.mp hy with hy | hy
            · rw [List.mem_singleton.mp hy]
              exact sn x hx
            · exact sr x hx y hy
        · rw [List.mem_singleton.mp hx]
          exact f1
        · rw [List.mem_singleton.mp hx]
          exact g1
    · have lt : ∀ x ∈ sk, n < x := by
        cases sk with
        | nil => exact fun _ h => absurd h List.not_mem_nil
        | cons t sk' =>
          intro x hx
          have h0 : ¬ t < n := fun z => hc ⟨t, sk', rfl, z⟩
          have h1 := hn x hx
          rcases List.mem_cons.mp hx with rfl | hx'
          · omega
          · have := (List.pairwise_cons.mp hs).1 x hx'
            omega
      have es : ppS (left, sk) n = (left, n :: sk) := by
        unfold ppS
        cases sk with
        | nil => rfl
        | cons t sk' => exact if_neg (by have := lt t List.mem_cons_self; omega)
      have nd' : (left ++ (n :: sk) ++ r).Nodup := by
        refine List.Perm.nodup ?_ nd
        rw [List.append_assoc, List.append_assoc]
        exact List.Perm.append_left _ List.perm_middle
      have ih := pop_iff r left (n :: sk) nd' (List.pairwise_cons.mpr ⟨lt, hs⟩)
      rw [List.foldl_cons, es, ih]
      constructor
      · rintro ⟨a, b, c, d, e, f, g⟩
        obtain ⟨e1, e2⟩ := List.pairwise_cons.mp e
        refine ⟨a, fun x hx y hy => b x hx y ?_, fun x hx => List.pairwise_cons.mpr ⟨fun y hy => ?_, c x (List.mem_cons_of_mem _ hx)⟩, fun x hx => List.pairwise_cons.mpr ⟨fun y hy => e1 x hx y hy, d x (List.mem_cons_of_mem _ hx)⟩, List.Pairwise.imp_of_mem (fun {y x} hy hx h c' hc' => ?_) e2, ⟨c n List.mem_cons_self, f⟩, ⟨d n List.mem_cons_self, g⟩⟩
        · rcases List.mem_append.mp hy with hy | hy
          · exact List.mem_append_left _ (List.mem_cons_of_mem _ hy)
          · rcases List.mem_cons.mp hy with rfl | hy
            · exact List.mem_append_left _ List.mem_cons_self
            · exact List.mem_append_right _ hy
        · rintro ⟨z1, z2⟩
          have := lt x hx
          omega
        · rcases List.mem_cons.mp hc' with rfl | hc'
          · rintro ⟨z1, z2⟩
            have := lt y hy
            omega
          · exact h c' hc'
      · rintro ⟨a, b, c, d, e, ⟨f1, f2⟩, g1, g2⟩
        refine ⟨a, fun x hx y hy => b x hx y ?_, fun x hx => ?_, fun x hx => ?_, List.pairwise_cons.mpr ⟨fun x hx c' hc' => (List.pairwise_cons.mp (d x hx)).1 c' hc', e.imp fun {y x} h c' hc' => h c' (List.mem_cons_of_mem _ hc')⟩, f2, g2⟩
        · rcases List.mem_append.mp hy with hy | hy
          · rcases List.mem_cons.mp hy with rfl | hy
            · exact List.mem_append_right _ List.mem_cons_self
            · exact List.mem_append_left _ hy
          · exact List.mem_append_right _ (List.mem_cons_of_mem _ hy)
        · rcases List.mem_cons.mp hx with rfl | hx
          · exact f1
          · exact (List.pairwise_cons.mp (c x hx)).2
        · rcases List.mem_cons.mp hx with rfl | hx
          · exact g1
          · exact (List.pairwise_cons.mp (d x hx)).2
theorem popper_iff (o : List Int) (nd : o.Nodup) : Sd (popperL o) ↔ (nt (fun a b c => c < a ∧ a < b) o ∧ nt (fun a b c => b < c ∧ c < a) o) := by
  have h := pop_iff o [] [] (by simpa using nd) List.Pairwise.nil
  refine h.trans ⟨fun h => h.2.2.2.2.2, fun h => ⟨List.Pairwise.nil, fun _ h => absurd h List.not_mem_nil, fun _ h => absurd h List.not_mem_nil, fun _ h => absurd h List.not_mem_nil, List.Pairwise.nil, h⟩⟩

/-! ### the rows -/
theorem mrg_sub : ∀ (n : Nat) (xs ys : List Int), xs.length + ys.length ≤ n → xs.Sublist (mrg xs ys) ∧ ys.Sublist (mrg xs ys)
  | _, [], ys, _ => by
    rw [mrg_nl]
    exact ⟨List.nil_sublist _, List.Sublist.refl _⟩
  | _, x :: xs, [], _ => by
    rw [mrg_nil]
    exact ⟨List.Sublist.refl _, List.nil_sublist _⟩
  | 0, x :: xs, y :: ys, h => by
    rw [List.length_cons] at h
    omega
  | n + 1, x :: xs, y :: ys, h => by
    rw [List.length_cons, List.length_cons] at h
    rw [mrg_cc]
    split
    · obtain ⟨a, b⟩ := mrg_sub n xs (y :: ys) (by rw [List.length_cons]; omega)
      exact ⟨a.cons₂ x, b.cons x⟩
    · obtain ⟨a, b⟩ := mrg_sub n (x :: xs) ys (by rw [List.length_cons]; omega)
      exact ⟨a.cons y, b.cons₂ y⟩
theorem mrg_sd : ∀ (n : Nat) (xs ys : List Int), xs.length + ys.length ≤ n → (∀ x ∈ xs, x ∉ ys) → Sd xs → Sd ys → Sd (mrg xs ys)
  | _, [], ys, _, _, _, h => by
    rw [mrg_nl]
    exact h
  | _, x :: xs, [], _, _, h, _ => by
    rw [mrg_nil]
    exact h
  | 0, x :: xs, y :: ys, h, _, _, _ => by
    rw [List.length_cons] at h
    omega
  | n + 1, x :: xs, y :: ys, h, nd, h1, h2 => by
    rw [List.length_cons, List.length_cons] at h
    rw [mrg_cc]
    obtain ⟨a1, a2⟩ := List.pairwise_cons.mp h1
    obtain ⟨b1, b2⟩ := List.pairwise_cons.mp h2
    have nxy : x ≠ y := fun e => nd x List.mem_cons_self (by rw [e]; exact List.mem_cons_self)
    by_cases c : x < y
    · rw [if_pos c]
      refine List.pairwise_cons.mpr ⟨fun z hz => ?_, mrg_sd n xs (y :: ys) (by rw [List.length_cons]; omega) (fun w hw => nd w (List.mem_cons_of_mem _ hw)) a2 h2⟩
      rcases List.mem_append.mp ((mrg_perm _ _ _ (Nat.le_refl _)).mem_iff.mp hz) with hz | hz
      · exact a1 z hz
      · rcases List.mem_cons.mp hz with rfl | hz
        · exact c
        · have := b1 z hz
          omega
    · rw [if_neg c]
      refine List.pairwise_cons.mpr ⟨fun z hz => ?_, mrg_sd n (x :: xs) ys (by rw [List.length_cons]; omega) (fun w hw z => nd w hw (List.mem_cons_of_mem _ z)) h1 b2⟩
      rcases List.mem_append.mp ((mrg_perm _ _ _ (Nat.le_refl _)).mem_iff.mp hz) with hz | hz
      · rcases List.mem_cons.mp hz with rfl | hz
        · omega
        · have := a1 z hz
          omega
      · exact b1 z hz
theorem stQ_pre : ∀ (r : List Int) (s : List Int × List Int), ∃ u, (r.foldl stQ s).1 = s.1 ++ u
  | [], s => ⟨[], by rw [List.append_nil]; rfl⟩
  | n :: r, s => by
    rw [List.foldl_cons]
    obtain ⟨u, e⟩ := stQ_pre r (stQ s n)
    rw [e]
    unfold stQ
    split
    · exact ⟨[n] ++ u, by rw [List.append_assoc]⟩
    · split
      · exact ⟨u, rfl⟩
      · exact ⟨[n] ++ u, by rw [List.append_assoc]⟩
theorem lastD_mem {l : List Int} (h : l ≠ []) : l.getLastD 0 ∈ l := by
  rcases List.eq_nil_or_concat l with rfl | ⟨s, x, rfl⟩
  · exact absurd rfl h
  · rw [List.concat_eq_append]
    simp
theorem sd_last {l : List Int} (hs : Sd l) {x : Int} (hx : x ∈ l) : x ≤ l.getLastD 0 := by
  rcases List.eq_nil_or_concat l with rfl | ⟨s, y, rfl⟩
  · exact absurd hx List.not_mem_nil
  · rw [List.concat_eq_append] at *
    rw [show (s ++ [y]).getLastD 0 = y by simp]
    rcases List.mem_append.mp hx with hx | hx
    · exact Int.le_of_lt ((sd_app.mp hs).2.2 x hx y (by simp))
    · rw [List.mem_singleton.mp hx]
      exact Int.le_refl _
theorem que : ∀ (r s1 s2 : List Int), (s1 ++ s2 ++ r).Nodup → Sd s1 → Sd s2 → (∀ x ∈ s2, x < s1.getLastD 0) → (s2 ≠ [] → s1 ≠ []) → ((Sd (r.foldl stQ (s1, s2)).1 ∧ Sd (r.foldl stQ (s1, s2)).2) ↔
    ((∀ x ∈ s2, ∀ c ∈ r, ¬ c < x) ∧ (∀ a ∈ s1, r.Pairwise (Q321 a)) ∧ nt (fun a b c => c < b ∧ b < a) r))
  | [], s1, s2, nd, h1, h2, h3, h4 => ⟨fun _ => ⟨fun _ _ _ h => absurd h List.not_mem_nil, fun _ _ => List.Pairwise.nil, True.intro⟩, fun _ => ⟨h1, h2⟩⟩
  | n :: r, s1, s2, nd, h1, h2, h3, h4 => by
    obtain ⟨nd1, nd2, nd3⟩ := nd_app.mp nd
    obtain ⟨nd4, nd5⟩ := List.nodup_cons.mp nd2
    have hn1 : ∀ x ∈ s1, x ≠ n := fun x z => nd3 x (List.mem_append_left _ z) n List.mem_cons_self
    have hn2 : ∀ x ∈ s2, x ≠ n := fun x z => nd3 x (List.mem_append_right _ z) n List.mem_cons_self
    rw [List.foldl_cons]
    by_cases c1 : okQ s1 n = true
    · have lt1 : ∀ x ∈ s1, x < n := fun x hx => by
        unfold okQ at c1
        rw [Bool.or_eq_true, decide_eq_true_eq, decide_eq_true_eq] at c1
        rcases c1 with rfl | c1
        · exact absurd hx List.not_mem_nil
        · have := sd_last h1 hx
          omega
      have lt2 : ∀ x ∈ s2, x < n := fun x hx => by
        have h5 : s1 ≠ [] := h4 (List.ne_nil_of_mem hx)
        have := h3 x hx
        have := lt1 _ (lastD_mem h5)
        omega
      have es : stQ (s1, s2) n = (s1 ++ [n], s2) := if_pos c1
      have nd' : ((s1 ++ [n]) ++ s2 ++ r).Nodup := by
        refine List.Perm.nodup ?_ nd
        rw [List.append_assoc, List.append_assoc, List.append_assoc]
        exact List.Perm.append_left _ List.perm_middle
      rw [es, que r (s1 ++ [n]) s2 nd' (sd_app.mpr ⟨h1, List.pairwise_singleton _ _, fun x hx y hy => by rw [List.mem_singleton.mp hy]; exact lt1 x hx⟩) h2 (fun x hx => by rw [show (s1 ++ [n]).getLastD 0 = n by simp]; exact lt2 x hx) (fun _ => by simp)]
      constructor
      · rintro ⟨a, b, c⟩
        refine ⟨fun x hx c' hc' => ?_, fun a' ha => List.pairwise_cons.mpr ⟨fun y hy => ?_, b a' (List.mem_append_left _ ha)⟩, b n (by simp), c⟩
        · rcases List.mem_cons.mp hc' with rfl | hc'
          · have := lt2 x hx
            omega
          · exact a x hx c' hc'
        · rintro ⟨z1, z2⟩
          have := lt1 a' ha
          omega
      · rintro ⟨a, b, c, d⟩
        refine ⟨fun x hx c' hc' => a x hx c' (List.mem_cons_of_mem _ hc'), fun a' ha => ?_, d⟩
        rcases List.mem_append.mp ha with ha | ha
        · exact (List.pairwise_cons.mp (b a' ha)).2
        · rw [List.mem_singleton.mp ha]
          exact c
    · have hne : s1 ≠ [] := fun z => c1 (by unfold okQ; rw [z]; rfl)
      have hl : n < s1.getLastD 0 := by
        have h6 : ¬ s1.getLastD 0 < n := fun z => c1 (by unfold okQ; rw [Bool.or_eq_true]; exact .inr (decide_eq_true z))
        have h7 := hn1 _ (lastD_mem hne)
        omega
      by_cases c2 : okQ s2 n = true
      · have lt2 : ∀ x ∈ s2, x < n := fun x hx => by
          unfold okQ at c2
          rw [Bool.or_eq_true, decide_eq_true_eq, decide_eq_true_eq] at c2
          rcases c2 with rfl | c2
          · exact absurd hx List.not_mem_nil
          · have := sd_last h2 hx
            omega
        have es : stQ (s1, s2) n = (s1, s2 ++ [n]) := by
          unfold stQ
          rw [if_neg c1, if_pos c2]
        have nd' : (s1 ++ (s2 ++ [n]) ++ r).Nodup := by
          rw [List.append_assoc, List.append_assoc]
          rw [List.append_assoc] at nd
          exact nd
        rw [es, que r s1 (s2 ++ [n]) nd' h1 (sd_app.mpr ⟨h2, List.pairwise_singleton _ _, fun x hx y hy => by rw [List.mem_singleton.mp hy]; exact lt2 x hx⟩) (fun x hx => by
          rcases List.mem_append.mp hx with hx | hx
          · exact h3 x hx
          · rw [List.mem_singleton.mp hx]
            exact hl) (fun _ => hne)]
        constructor
        · rintro ⟨a, b, c⟩
          have an : ∀ c' ∈ r, ¬ c' < n := fun c' hc' => a n (by simp) c' hc'
          refine ⟨fun x hx c' hc' => ?_, fun a' ha => List.pairwise_cons.mpr ⟨fun y hy => ?_, b a' ha⟩, all_pw fun u hu v hv => ?_, c⟩
          · rcases List.mem_cons.mp hc' with rfl | hc'
            · have := lt2 x hx
              omega
            · exact a x (List.mem_append_left _ hx) c' hc'
          · rintro ⟨z1, z2⟩
            exact an y hy z1
          · rintro ⟨z1, z2⟩
            have := an v hv
            omega
        · rintro ⟨a, b, c, d⟩
          have an : ∀ c' ∈ r, ¬ c' < n := fun c' hc' z => (List.pairwise_cons.mp (b _ (lastD_mem hne))).1 c' hc' ⟨z, hl⟩
          refine ⟨fun x hx c' hc' => ?_, fun a' ha => (List.pairwise_cons.mp (b a' ha)).2, d⟩
          rcases List.mem_append.mp hx with hx | hx
          · exact a x hx c' (List.mem_cons_of_mem _ hc')
          · rw [List.mem_singleton.mp hx]
            exact an c' hc'
      · have hne2 : s2 ≠ [] := fun z => c2 (by unfold okQ; rw [z]; rfl)
        have hl2 : n < s2.getLastD 0 := by
          have h6 : ¬ s2.getLastD 0 < n := fun z => c2 (by unfold okQ; rw [Bool.or_eq_true]; exact .inr (decide_eq_true z))
          have h7 := hn2 _ (lastD_mem hne2)
          omega
        have es : stQ (s1, s2) n = (s1 ++ [n], s2) := by
          unfold stQ
          rw [if_neg c1, if_neg c2]
        obtain ⟨u, eu⟩ := stQ_pre r (stQ (s1, s2) n)
        constructor
        · rintro ⟨a, _⟩
          rw [eu, es] at a
          have := (sd_app.mp (sd_app.mp a).1).2.2 _ (lastD_mem hne) n (by simp)
          omega
        · rintro ⟨a, _⟩
          exact absurd hl2 (a _ (lastD_mem hne2) n List.mem_cons_self)
theorem queues_iff (o : List Int) (nd : o.Nodup) : Sd (queuesL o) ↔ nt (fun a b c => c < b ∧ b < a) o := by
  have h := que o [] [] (by simpa using nd) List.Pairwise.nil List.Pairwise.nil (fun _ h => absurd h List.not_mem_nil) (fun h => absurd rfl h)
  have ndq : ((queues o).1 ++ (queues o).2).Nodup := by
    have := foldQ_perm o ([], [])
    rw [List.nil_append, List.nil_append] at this
    exact this.symm.nodup nd
  have hq : Sd (queuesL o) ↔ Sd (queues o).1 ∧ Sd (queues o).2 := by
    unfold queuesL
    obtain ⟨a, b⟩ := mrg_sub _ (queues o).1 (queues o).2 (Nat.le_refl _)
    exact ⟨fun h => ⟨h.sublist a, h.sublist b⟩, fun h => mrg_sd _ _ _ (Nat.le_refl _) (fun x hx hy => (nd_app.mp ndq).2.2 x hx x hy rfl) h.1 h.2⟩
  rw [hq]
  refine h.trans ⟨fun h => h.2.2, fun h => ⟨fun _ h => absurd h List.not_mem_nil, fun _ h => absurd h List.not_mem_nil, h⟩⟩
/-! ### the bubble -/
theorem bub : ∀ (r f : List Int) (h : Int), (f ++ [h] ++ r).Nodup → (Sd ((r.foldl bS (f, h)).1 ++ [(r.foldl bS (f, h)).2]) ↔
    (Sd f ∧ (∀ x ∈ f, ∀ y ∈ h :: r, x < y) ∧ r.Pairwise (Qbub h) ∧ nt (fun a b c => c < a ∧ c < b) r))
  | [], f, h, nd => by
    show Sd (f ++ [h]) ↔ _
    rw [sd_app]
    exact ⟨fun z => ⟨z.1, z.2.2, List.Pairwise.nil, True.intro⟩, fun z => ⟨z.1, List.pairwise_singleton _ _, z.2.1⟩⟩
  | n :: r, f, h, nd => by
    obtain ⟨nd1, nd2, nd3⟩ := nd_app.mp nd
    obtain ⟨nd4, nd5⟩ := List.nodup_cons.mp nd2
    have hn : h ≠ n := nd3 h (by simp) n List.mem_cons_self
    have hr : ∀ y ∈ r, h ≠ y := fun y hy => nd3 h (by simp) y (List.mem_cons_of_mem _ hy)
    have nr : ∀ y ∈ r, n ≠ y := fun y hy e => nd4 (by rw [e]; exact hy)
    rw [List.foldl_cons]
    by_cases c : n < h
    · have es : bS (f, h) n = (f ++ [n], h) := by
        unfold bS
        rw [if_pos c, if_neg (by show ¬ n > h; omega)]
      have nd' : (f ++ [n] ++ [h] ++ r).Nodup := by
        refine List.Perm.nodup ?_ nd
        rw [List.append_assoc, List.append_assoc, List.append_assoc]
        exact List.Perm.append_left _ (List.Perm.swap _ _ _)
      rw [es, bub r (f ++ [n]) h nd']
      constructor
      · rintro ⟨a, b, d, e⟩
        obtain ⟨a1, a2, a3⟩ := sd_app.mp a
        have an : ∀ y ∈ r, n < y := fun y hy => b n (by simp) y (List.mem_cons_of_mem _ hy)
        refine ⟨a1, fun x hx y hy => ?_, List.pairwise_cons.mpr ⟨fun y hy => ?_, d⟩, all_pw fun u hu v hv => ?_, e⟩
        · rcases List.mem_cons.mp hy with rfl | hy
          · exact b x (List.mem_append_left _ hx) _ List.mem_cons_self
          · rcases List.mem_cons.mp hy with rfl | hy
            · exact a3 x hx _ (by simp)
            · exact b x (List.mem_append_left _ hx) y (List.mem_cons_of_mem _ hy)
        · have := an y hy
          rintro ⟨z1, z2⟩
          omega
        · have := an v hv
          rintro ⟨z1, z2⟩
          omega
      · rintro ⟨a, b, d, e1, e2⟩
        obtain ⟨d1, d2⟩ := List.pairwise_cons.mp d
        have an : ∀ y ∈ r, n < y := fun y hy => by
          have h1 : ¬ (y < h ∧ y < n) := d1 y hy
          have := nr y hy
          omega
        refine ⟨sd_app.mpr ⟨a, List.pairwise_singleton _ _, fun x hx y hy => by rw [List.mem_singleton.mp hy]; exact b x hx n (by simp)⟩, fun x hx y hy => ?_, d2, e2⟩
        rcases List.mem_append.mp hx with hx | hx
        · rcases List.mem_cons.mp hy with rfl | hy
          · exact b x hx _ List.mem_cons_self
          · exact b x hx y (List.mem_cons_of_mem _ (List.mem_cons_of_mem _ hy))
        · rw [List.mem_singleton.mp hx]
          rcases List.mem_cons.mp hy with rfl | hy
          · exact c
          · exact an y hy
    · have c : h < n := by omega
      have es : bS (f, h) n = (f ++ [h], n) := by
        unfold bS
        rw [if_neg (by show ¬ n < h; omega), if_pos (by show n > h; omega)]
      have nd' : (f ++ [h] ++ [n] ++ r).Nodup := by
        rw [List.append_assoc]
        exact nd
      rw [es, bub r (f ++ [h]) n nd']
      constructor
      · rintro ⟨a, b, d, e⟩
        obtain ⟨a1, a2, a3⟩ := sd_app.mp a
        have ah : ∀ y ∈ r, h < y := fun y hy => b h (by simp) y (List.mem_cons_of_mem _ hy)
        refine ⟨a1, fun x hx y hy => ?_, List.pairwise_cons.mpr ⟨fun y hy => ?_, all_pw fun u hu v hv => ?_⟩, d, e⟩
        · rcases List.mem_cons.mp hy with rfl | hy
          · exact a3 x hx _ (by simp)
          · rcases List.mem_cons.mp hy with rfl | hy
            · exact b x (List.mem_append_left _ hx) _ List.mem_cons_self
            · exact b x (List.mem_append_left _ hx) y (List.mem_cons_of_mem _ hy)
        · have := ah y hy
          rintro ⟨z1, z2⟩
          omega
        · have := ah v hv
          rintro ⟨z1, z2⟩
          omega
      · rintro ⟨a, b, d, e1, e2⟩
        obtain ⟨d1, d2⟩ := List.pairwise_cons.mp d
        have ah : ∀ y ∈ r, h < y := fun y hy => by
          have h1 : ¬ (y < h ∧ y < n) := d1 y hy
          have := hr y hy
          omega
        refine ⟨sd_app.mpr ⟨a, List.pairwise_singleton _ _, fun x hx y hy => by rw [List.mem_singleton.mp hy]; exact b x hx h (by simp)⟩, fun x hx y hy => ?_, e1, e2⟩
        rcases List.mem_append.mp hx with hx | hx
        · rcases List.mem_cons.mp hy with rfl | hy
          · exact b x hx _ (by simp)
          · exact b x hx y (List.mem_cons_of_mem _ (List.mem_cons_of_mem _ hy))
        · rw [List.mem_singleton.mp hx]
          rcases List.mem_cons.mp hy with rfl | hy
          · exact c
          · exact ah y hy
theorem bubble_iff (o : List Int) (nd : o.Nodup) : Sd (bubbleL o) ↔ nt (fun a b c => c < a ∧ c < b) o := by
  cases o with
  | nil => exact ⟨fun _ => True.intro, fun _ => List.Pairwise.nil⟩
  | cons h r =>
    have e : bubbleL (h :: r) = (r.foldl bS ([], h)).1 ++ [(r.foldl bS ([], h)).2] := by
      unfold bubbleL
      rw [List.foldl_cons, insS_nil, ← bS_ins r ([], h)]
      rfl
    rw [e, bub r [] h (by simpa using nd)]
    exact ⟨fun z => ⟨z.2.2.1, z.2.2.2⟩, fun z => ⟨List.Pairwise.nil, fun _ h => absurd h List.not_mem_nil, z.1, z.2⟩⟩
/-! ### sorted just what the list lets -/
def Srt.l : Srt → List (List Int)
  | .a => [[2, 3, 1]]
  | .b => [[2, 3, 1], [3, 1, 2]]
  | .c => [[3, 2, 1]]
  | .d => [[2, 3, 1], [3, 2, 1]]
theorem isOrd_of3 {q : List Int} (h : q.Perm (irange 1 q.length)) : IsOrd q := IsOrd.of_perm h
theorem o231 : IsOrd [2, 3, 1] := IsOrd.of_perm (by decide)
theorem o312 : IsOrd [3, 1, 2] := IsOrd.of_perm (by decide)
theorem o321 : IsOrd [3, 2, 1] := IsOrd.of_perm (by decide)
theorem at0_ne {o : List Int} (nd : o.Nodup) {i j : Nat} (h : i < j) (hj : j < o.length) : at0 o i ≠ at0 o j := by
  have e1 : at0 o i = o[i] := by
    show o.getD i 0 = _
    rw [List.getD_eq_getElem?_getD, List.getElem?_eq_getElem (by omega)]
    rfl
  have e2 : at0 o j = o[j] := by
    show o.getD j 0 = _
    rw [List.getD_eq_getElem?_getD, List.getElem?_eq_getElem hj]
    rfl
  rw [e1, e2]
  exact fun e => by
    have := (List.pairwise_iff_getElem.mp nd) i j (by omega) hj h
    exact this e
theorem shB_not {o q : List Int} (io : IsOrd o) (iq : IsOrd q) : (!shB o q) = true ↔ ¬ Shows o q := by
  rw [Bool.not_eq_true', ← Bool.not_eq_true, shB_iff io iq]
theorem n231 {o : List Int} (io : IsOrd o) : (!shB o [2, 3, 1]) = true ↔ nt (fun a b c => c < a ∧ a < b) o := by
  rw [shB_not io o231, sh3, nt_iff]
  constructor
  · intro h i j k ij jk hk z
    exact h ⟨i, j, k, ij, jk, hk, by omega, by omega, by omega, by omega, by omega, by omega⟩
  · rintro h ⟨i, j, k, ij, jk, hk, h1, h2, h3, h4, h5, h6⟩
    exact h i j k ij jk hk ⟨h4.mpr (by decide), h1.mpr (by decide)⟩
theorem n312 {o : List Int} (io : IsOrd o) : (!shB o [3, 1, 2]) = true ↔ nt (fun a b c => b < c ∧ c < a) o := by
  rw [shB_not io o312, sh3, nt_iff]
  constructor
  · intro h i j k ij jk hk z
    exact h ⟨i, j, k, ij, jk, hk, by omega, by omega, by omega, by omega, by omega, by omega⟩
  · rintro h ⟨i, j, k, ij, jk, hk, h1, h2, h3, h4, h5, h6⟩
    exact h i j k ij jk hk ⟨h5.mpr (by decide), h4.mpr (by decide)⟩
theorem n321 {o : List Int} (io : IsOrd o) : (!shB o [3, 2, 1]) = true ↔ nt (fun a b c => c < b ∧ b < a) o := by
  rw [shB_not io o321, sh3, nt_iff]
  constructor
  · intro h i j k ij jk hk z
    exact h ⟨i, j, k, ij, jk, hk, by omega, by omega, by omega, by omega, by omega, by omega⟩
  · rintro h ⟨i, j, k, ij, jk, hk, h1, h2, h3, h4, h5, h6⟩
    exact h i j k ij jk hk ⟨h6.mpr (by decide), h2.mpr (by decide)⟩
theorem nbub {o : List Int} (io : IsOrd o) : (nt (fun a b c => c < a ∧ a < b) o ∧ nt (fun a b c => c < b ∧ b < a) o) ↔ nt (fun a b c => c < a ∧ c < b) o := by
  rw [nt_iff, nt_iff, nt_iff]
  constructor
  · rintro ⟨h1, h2⟩ i j k ij jk hk z
    have a := h1 i j k ij jk hk
    have b := h2 i j k ij jk hk
    have c := at0_ne io.nd ij (by omega)
    omega
  · intro h
    exact ⟨fun i j k ij jk hk z => h i j k ij jk hk (by omega), fun i j k ij jk hk z => h i j k ij jk hk (by omega)⟩
theorem sd_irange (a : Int) (n : Nat) : Sd (irange a n) := by
  unfold irange
  refine List.pairwise_map.mpr ((List.pairwise_lt_range).imp fun {u v} h => ?_)
  omega
theorem sd_perm_eq : ∀ {l m : List Int}, l.Perm m → Sd l → Sd m → l = m := fun h a b => List.Perm.eq_of_pairwise (le := (· < ·)) (fun x y _ _ h1 h2 => by omega) a b h
theorem srt_sd (k : Srt) {o : List Int} (io : IsOrd o) : srtB k o = true ↔ Sd (k.f o) := by
  unfold srtB
  rw [decide_eq_true_eq]
  constructor
  · intro h
    rw [h]
    exact sd_irange 1 _
  · intro h
    exact sd_perm_eq ((k.perm o).trans io.perm) h (sd_irange 1 _)
theorem srt_lets (k : Srt) {o : List Int} (io : IsOrd o) : srtB k o = letB k.l o := by
  have nd := io.nd
  have h : srtB k o = true ↔ letB k.l o = true := by
    rw [srt_sd k io]
    cases k with
    | a =>
      show Sd (stackL o) ↔ ((!shB o [2, 3, 1]) && true) = true
      rw [stack_iff o nd, Bool.and_true, n231 io]
    | b =>
      show Sd (popperL o) ↔ ((!shB o [2, 3, 1]) && ((!shB o [3, 1, 2]) && true)) = true
      rw [popper_iff o nd, Bool.and_true, Bool.and_eq_true, n231 io, n312 io]
    | c =>
      show Sd (queuesL o) ↔ ((!shB o [3, 2, 1]) && true) = true
      rw [queues_iff o nd, Bool.and_true, n321 io]
    | d =>
      show Sd (bubbleL o) ↔ ((!shB o [2, 3, 1]) && ((!shB o [3, 2, 1]) && true)) = true
      rw [bubble_iff o nd, Bool.and_true, Bool.and_eq_true, n231 io, n321 io, nbub io]
  cases h1 : srtB k o with
  | true => exact (h.mp h1).symm
  | false =>
    cases h2 : letB k.l o with
    | false => rfl
    | true =>
      rw [h.mpr h2] at h1
      cases h1

theorem isN_i (i : Int) : fIsN (.int i) .none = some (.bool false) := Eq.trans rfl rfl
theorem isN_b (b : Bool) : fIsN (.bool b) .none = some (.bool false) := Eq.trans rfl rfl
theorem isN_t (xs : List D) : fIsN (.tuple xs) .none = some (.bool false) := Eq.trans rfl rfl
theorem isN_l (xs : List D) : fIsN (.list xs) .none = some (.bool false) := Eq.trans rfl rfl
theorem is_it (i : Int) : fIs [.tuple] (.int i) = some (.bool false) := Eq.trans rfl rfl
theorem is_il (i : Int) : fIs [.list] (.int i) = some (.bool false) := Eq.trans rfl rfl
theorem is_bb (b : Bool) : fIs [.bool] (.bool b) = some (.bool true) := Eq.trans rfl rfl
theorem is_tb (xs : List D) : fIs [.bool] (.tuple xs) = some (.bool false) := Eq.trans rfl rfl
theorem is_lb (xs : List D) : fIs [.bool] (.list xs) = some (.bool false) := Eq.trans rfl rfl
theorem same_int (n : Nat) (i : Int) : φ__law_same (n + 1) [.int i, .int i] = .ret (.d (.bool true)) [] := by
  have e := fEq_i i i
  rw [decide_eq_true rfl] at e
  unfold φ__law_same m__law_same
  simp! only [isN_i, is_it, is_il, e]
theorem same_bool (n : Nat) (b : Bool) : φ__law_same (n + 1) [.bool b, .bool b] = .ret (.d (.bool true)) [] := by
  have e : fEq (.bool b) (.bool b) = some (.bool true) := by
    rw [fEq_gd (gd_bool 0 b) (gd_bool 0 b) (by decide) (by decide)]
    cases b <;> rfl
  unfold φ__law_same m__law_same
  simp! only [isN_b, is_bb, e]
abbrev smB (rec : List D → Out) : M Fl := (sIf (dNot (dB (rD (callP [.v, .v] rec (vCons (dv (op2 fIx (dName 0) (dName 3))) (vCons (dv (op2 fIx (dName 1) (dName 3))) vNil)))))) (sRet (dC (.bool false))) sNx)
theorem fNe_ii (i : Int) : fNe (.int i) (.int i) = some (.bool false) := by
  rw [fNe_gd (gd_int 0 i) (gd_int 0 i) (by decide) (by decide)]
  show some (PyData.bool (!(i == i))) = _
  rw [beq_self_eq_true]
  rfl
theorem same_ti (n : Nat) (p : List Int) (h : p.length ≤ 900) : φ__law_same (n + 2) [ti p, ti p] = .ret (.d (.bool true)) [] := by
  have s3 : Sm (p.length : Int) := ⟨by omega, by omega⟩
  have hr2 : ((p.length : Int)).toNat = p.length := by omega
  have e1 := forG_each (t := .nm 3) (ms := [3]) (b := smB (φ__law_same (n + 1))) (g := [.d (.tuple (p.map .int)), .d (.tuple (p.map .int)), .d (.bool true), .u]) rfl ((irange 0 p.length).map .int) (fun x hx => by
    obtain ⟨i, hi, rfl⟩ := List.mem_map.mp hx
    have hi := irange_mem.mp hi
    obtain ⟨j, rfl⟩ : ∃ j : Nat, (j : Int) = i := ⟨i.toNat, by omega⟩
    have hj : j < p.length := by omega
    have ix : fIx (.tuple (p.map PyData.int)) (.int (j : Int)) = some (.int p[j]) := fIx_t (by rw [List.getElem?_map, List.getElem?_eq_getElem hj]; rfl)
    have sm := same_int n p[j]
    refine ⟨_, [.d (.tuple (p.map .int)), .d (.tuple (p.map .int)), .d (.bool true), .d (.int (j : Int))], setT_nm _ _ _, ?_, rfl⟩
    unfold smB
    simp! only [ix, sm])
  unfold φ__law_same m__law_same
  generalize hb : smB (φ__law_same (n + 1)) = b at *
  unfold smB at hb
  rw [hb]
  unfold ti
  simp! only [isN_t, is_tb, List.length_map, fNe_ii, s3, hr2, e1]
theorem same_lst (n : Nat) (xs : List D) (h : xs.length ≤ 9000) (hx : ∀ x ∈ xs, φ__law_same (n + 1) [x, x] = .ret (.d (.bool true)) []) : φ__law_same (n + 2) [.list xs, .list xs] = .ret (.d (.bool true)) [] := by
  have s3 : Sm (xs.length : Int) := ⟨by omega, by omega⟩
  have hr2 : ((xs.length : Int)).toNat = xs.length := by omega
  have e1 := forG_each (t := .nm 3) (ms := [3]) (b := smB (φ__law_same (n + 1))) (g := [.a xs, .a xs, .d (.bool true), .u]) rfl ((irange 0 xs.length).map .int) (fun x hx2 => by
    obtain ⟨i, hi, rfl⟩ := List.mem_map.mp hx2
    have hi := irange_mem.mp hi
    obtain ⟨j, rfl⟩ : ∃ j : Nat, (j : Int) = i := ⟨i.toNat, by omega⟩
    have hj : j < xs.length := by omega
    have ix : fIx (.list xs) (.int (j : Int)) = some xs[j] := fIx_l (List.getElem?_eq_getElem hj)
    have sm := hx _ (List.getElem_mem hj)
    refine ⟨_, [.a xs, .a xs, .d (.bool true), .d (.int (j : Int))], setT_nm _ _ _, ?_, rfl⟩
    unfold smB
    simp! only [ix, sm])
  unfold φ__law_same m__law_same
  generalize hb : smB (φ__law_same (n + 1)) = b at *
  unfold smB at hb
  rw [hb]
  simp! only [isN_l, is_lb, fNe_ii, s3, hr2, e1]
theorem same_tup (n : Nat) (xs : List D) (h : xs.length ≤ 9000) (hx : ∀ x ∈ xs, φ__law_same (n + 1) [x, x] = .ret (.d (.bool true)) []) : φ__law_same (n + 2) [.tuple xs, .tuple xs] = .ret (.d (.bool true)) [] := by
  have s3 : Sm (xs.length : Int) := ⟨by omega, by omega⟩
  have hr2 : ((xs.length : Int)).toNat = xs.length := by omega
  have e1 := forG_each (t := .nm 3) (ms := [3]) (b := smB (φ__law_same (n + 1))) (g := [.d (.tuple xs), .d (.tuple xs), .d (.bool true), .u]) rfl ((irange 0 xs.length).map .int) (fun x hx2 => by
    obtain ⟨i, hi, rfl⟩ := List.mem_map.mp hx2
    have hi := irange_mem.mp hi
    obtain ⟨j, rfl⟩ : ∃ j : Nat, (j : Int) = i := ⟨i.toNat, by omega⟩
    have hj : j < xs.length := by omega
    have ix : fIx (.tuple xs) (.int (j : Int)) = some xs[j] := fIx_t (List.getElem?_eq_getElem hj)
    have sm := hx _ (List.getElem_mem hj)
    refine ⟨_, [.d (.tuple xs), .d (.tuple xs), .d (.bool true), .d (.int (j : Int))], setT_nm _ _ _, ?_, rfl⟩
    unfold smB
    simp! only [ix, sm])
  unfold φ__law_same m__law_same
  generalize hb : smB (φ__law_same (n + 1)) = b at *
  unfold smB at hb
  rw [hb]
  simp! only [isN_t, is_tb, fNe_ii, s3, hr2, e1]
theorem sorts_ok (k : Srt) (o : List Int) (io : IsOrd o) (h : o.length ≤ 90) : φ_sorts [.str k.s, ti o] = .ret (.d (.bool (letB k.l o))) [] := by
  have a := check_sorter_ok k
  have b := check_order_ok o io (by omega)
  have c := does_sort_ok k o h
  rw [srt_lets k io] at c
  unfold φ_sorts m_sorts
  generalize k.s = z at *
  simp! only [a, b, c]
theorem made_ok (k : Srt) (o : List Int) (io : IsOrd o) (h : o.length ≤ 90) : φ_made [.str k.s, ti o] = .ret (.d (ti (k.f o))) [] := by
  have a := check_sorter_ok k
  have b := check_order_ok o io (by omega)
  have c := made_by_ok k o h
  unfold φ_made m_made
  generalize ti (k.f o) = y at *
  generalize k.s = z at *
  simp! only [a, b, c]
abbrev LST : List (Str × D) := [(Str.ofString "stack", (.tuple [(.tuple [(.int 2), (.int 3), (.int 1)])])), (Str.ofString "popper", (.tuple [(.tuple [(.int 2), (.int 3), (.int 1)]), (.tuple [(.int 3), (.int 1), (.int 2)])])), (Str.ofString "queues", (.tuple [(.tuple [(.int 3), (.int 2), (.int 1)])])), (Str.ofString "bubble", (.tuple [(.tuple [(.int 2), (.int 3), (.int 1)]), (.tuple [(.int 3), (.int 2), (.int 1)])]))]
theorem fd_hit {k z : Str} {d : D} {r : List (Str × D)} (h : decide (k = z) = true) : fItK ((k, d) :: r) (.str z) = some d := by
  unfold fItK
  dsimp only
  rw [List.find?_cons, show decide ((k, d).1 = z) = true from h]
  rfl
theorem fd_no {k z : Str} {d : D} {r : List (Str × D)} (h : decide (k = z) = false) : fItK ((k, d) :: r) (.str z) = fItK r (.str z) := by
  unfold fItK
  dsimp only
  rw [List.find?_cons, show decide ((k, d).1 = z) = false from h]
theorem find_k (k : Srt) : fItK LST (.str k.s) = some (tiF k.l) := by
  have d12 : decide (Str.ofString "stack" = Str.ofString "popper") = false := by decide +kernel
  have d13 : decide (Str.ofString "stack" = Str.ofString "queues") = false := by decide +kernel
  have d14 : decide (Str.ofString "stack" = Str.ofString "bubble") = false := by decide +kernel
  have d23 : decide (Str.ofString "popper" = Str.ofString "queues") = false := by decide +kernel
  have d24 : decide (Str.ofString "popper" = Str.ofString "bubble") = false := by decide +kernel
  have d34 : decide (Str.ofString "queues" = Str.ofString "bubble") = false := by decide +kernel
  cases k
  · exact fd_hit (decide_eq_true rfl)
  · exact (fd_no d12).trans (fd_hit (decide_eq_true rfl))
  · exact (fd_no d13).trans ((fd_no d23).trans (fd_hit (decide_eq_true rfl)))
  · exact (fd_no d14).trans ((fd_no d24).trans ((fd_no d34).trans (fd_hit (decide_eq_true rfl))))
theorem list_of_ok (k : Srt) : φ_list_of [.str k.s] = .ret (.d (tiF k.l)) [] := by
  have a := check_sorter_ok k
  have b := find_k k
  unfold LST at b
  unfold φ_list_of m_list_of
  generalize tiF k.l = y at *
  generalize k.s = z at *
  simp! only [a, b]
theorem srt_pat (k : Srt) : PatL k.l := by
  cases k
  · exact ⟨by decide, fun q hq => by rw [List.mem_singleton.mp hq]; exact ⟨o231, by decide, by decide⟩⟩
  · exact ⟨by decide, fun q hq => by
      rcases List.mem_cons.mp hq with rfl | hq
      · exact ⟨o231, by decide, by decide⟩
      · rw [List.mem_singleton.mp hq]; exact ⟨o312, by decide, by decide⟩⟩
  · exact ⟨by decide, fun q hq => by rw [List.mem_singleton.mp hq]; exact ⟨o321, by decide, by decide⟩⟩
  · exact ⟨by decide, fun q hq => by
      rcases List.mem_cons.mp hq with rfl | hq
      · exact ⟨o231, by decide, by decide⟩
      · rw [List.mem_singleton.mp hq]; exact ⟨o321, by decide, by decide⟩⟩
theorem right_ok (k : Srt) (o : List Int) (io : IsOrd o) (h : o.length ≤ 15) : φ__law_right [.str k.s, tiF k.l, ti o] = .ret (.d (.bool true)) [] := by
  have a := law_lets_ok (srt_pat k) o io h
  have b := sorts_ok k o io (by omega)
  have c := same_lst 2 [.bool (letB k.l o), .bool (letB k.l o)] (by simp) (fun x hx => by
    have e : x = .bool (letB k.l o) := by
      rcases List.mem_cons.mp hx with e | hx
      · exact e
      · exact List.mem_singleton.mp hx
    rw [e]
    exact same_bool 2 _)
  have d := made_ok k o io (by omega)
  have s1 : Sm 1 := ⟨by omega, by omega⟩
  have s2 : Sm ((o.length : Int) + 1) := sm_of (by omega) (by omega)
  have hr : ((o.length : Int) + 1 - 1).toNat = o.length := by omega
  have lt : fLen [ti o] = some (.int (o.length : Int)) := by rw [ti, fLen_t, List.length_map]
  have e0 : PyData.tuple ((irange 1 o.length).map .int) = ti (irange 1 o.length) := rfl
  unfold φ__law_right m__law_right
  cases hl : letB k.l o with
  | true =>
    rw [hl] at a b c
    have es : k.f o = irange 1 o.length := by
      have := srt_lets k io
      rw [hl] at this
      exact of_decide_eq_true this
    rw [es] at d
    have f := same_ti 2 (irange 1 o.length) (by rw [irange_len]; omega)
    generalize φ__law_same 4 = sm at *
    generalize ti (irange 1 o.length) = y at *
    generalize k.s = ks at *
    simp! only [pick10, a, b, c, d, s1, s2, hr, lt, e0, f, List.length_map]
  | false =>
    rw [hl] at a b c
    generalize φ__law_same 4 = sm at *
    generalize k.s = ks at *
    simp! only [pick10, a, b, c]

theorem fInt_b (b : Bool) : fInt [.bool b] = some (.int (if b then 1 else 0)) := by cases b <;> exact Eq.trans rfl rfl
theorem isOrd_more {q : List Int} (h : IsOrd q) : IsOrd (q ++ [((q.length : Nat) : Int) + 1]) := by
  have := isOrd_insert h q.length
  rw [List.take_length, List.drop_length, List.append_nil] at this
  rw [show ((q.length : Nat) : Int) + 1 = ((q.length + 1 : Nat) : Int) by omega]
  exact this
abbrev ltH : M Fl := (dSeq (sSet 11 (opN fTuple (vCons (dv (dFz (compL [12] (.nm 12) (iV (dName 3)) (rt true) (rD (op2r fAdd fCat (dName 12) (dv (opN fInt (vCons (dv (op2 fGe (dName 12) (dName 10))) vNil)))))))) vNil)))
    (dSeq (sSetR 11 (op2r fAdd fCat (dv (rD (op2r fAdd fCat (dv (rD (cutR (dName 11) oNone (oSome (dEsc (dName 9)))))) (dv (dTup (dCons (dEsc (dName 10)) dNil)))))) (dv (rD (cutR (dName 11) (oSome (dEsc (dName 9))) oNone)))))
    (sIf (dAnd (dB (op2 fEq (dName 7) (dv (dFz (dLst dNil))))) (dB (rD (callP [.v, .v] φ__law_lets (vCons (dName 1) (vCons (dName 11) vNil)))))) (sSetO 7 (dLst (dCons (dEsc (dName 11)) dNil))) sNx)))
abbrev ltT : M Fl := (dSeq (sSet 9 (op2 fIx (dName 5) (dv (op2 fMod (dv (opN fInt (vCons (dv (rD (op2r fAdd fCat (dName 6) (dName 8)))) vNil))) (dName 4)))))
    (sFor (.nm 10) [10, 11] (iO (dLst (dCons (dEsc (dName 4)) (dCons (dC (.int 1)) (dCons (rD (op2r fAdd fCat (dv (dC (.int 1))) (dv (rD (callP [.m, .v] φ__law_dip (vCons (dName 0) (vCons (dName 4) vNil))))))) dNil))))) ltH))
abbrev ltS : M Fl := (dSeq (sPar [5, 6] (msO (dLstRg (rg1 (dName 4))) (msR (callP [.m, .v] φ__law_dip (vCons (dName 0) (vCons (dName 4) vNil))) msNil)))
    (dSeq (sSetO 7 (dLst dNil))
    (dSeq (sFor (.nm 8) [8, 9, 10, 11] (iR1 (vCons (dName 4) vNil)) ltT)
    (sSet 3 (dIfE (dB (op2 fNe (dName 7) (dv (dFz (dLst dNil))))) (op2 fIx (dName 7) (dv (dC (.int 0)))) (rD (op2r fAdd fCat (dName 3) (dv (dTup (dCons (dEsc (dName 4)) dNil))))))))))
def upH (h : Int) (o : List Int) : List Int := o.map fun x => x + (if decide (h ≤ x) = true then 1 else 0)
theorem upH_len (h : Int) (o : List Int) : (upH h o).length = o.length := List.length_map ..
theorem isOrd_up {o : List Int} (io : IsOrd o) {h : Int} (h1 : 1 ≤ h) (h2 : h ≤ o.length + 1) : IsOrd (h :: upH h o) := by
  have key : ∀ x ∈ o, x + (if decide (h ≤ x) = true then 1 else 0) ≠ h ∧ 1 ≤ x + (if decide (h ≤ x) = true then 1 else 0) ∧ x + (if decide (h ≤ x) = true then 1 else 0) ≤ o.length + 1 := fun x hx => by
    have a := io.lo x hx
    have b := io.hi x hx
    by_cases c : h ≤ x
    · rw [if_pos (decide_eq_true c)]
      omega
    · rw [if_neg (by rw [decide_eq_false c]; decide)]
      omega
  refine ⟨List.nodup_cons.mpr ⟨fun z => ?_, ?_⟩, fun x hx => ?_, fun x hx => ?_⟩
  · obtain ⟨x, hx, e⟩ := List.mem_map.mp z
    exact (key x hx).1 e
  · refine List.pairwise_map.mpr (io.nd.imp fun {x y} ne e => ne ?_)
    by_cases c : h ≤ x
    · rw [if_pos (decide_eq_true c)] at e
      by_cases d : h ≤ y
      · rw [if_pos (decide_eq_true d)] at e
        omega
      · rw [if_neg (by rw [decide_eq_false d]; decide)] at e
        omega
    · rw [if_neg (by rw [decide_eq_false c]; decide)] at e
      by_cases d : h ≤ y
      · rw [if_pos (decide_eq_true d)] at e
        omega
      · rw [if_neg (by rw [decide_eq_false d]; decide)] at e
        omega
  · rcases List.mem_cons.mp hx with rfl | hx
    · exact h1
    · obtain ⟨y, hy, rfl⟩ := List.mem_map.mp hx
      exact (key y hy).2.1
  · rw [List.length_cons, upH_len]
    rcases List.mem_cons.mp hx with rfl | hx
    · omega
    · obtain ⟨y, hy, rfl⟩ := List.mem_map.mp hx
      have := (key y hy).2.2
      omega
def rowH (h : Int) (a : Nat) (o : List Int) : List Int := (upH h o).take a ++ [h] ++ (upH h o).drop a
theorem ins_perm (xs : List Int) (j : Nat) (x : Int) : (xs.take j ++ [x] ++ xs.drop j).Perm (x :: xs) := by
  have h : (xs.take j ++ [x] ++ xs.drop j).Perm ([x] ++ xs.take j ++ xs.drop j) := List.Perm.append_right _ List.perm_append_comm
  have e : [x] ++ xs.take j ++ xs.drop j = x :: xs := by rw [List.append_assoc, List.take_append_drop]; rfl
  rw [e] at h
  exact h
theorem rowH_ord {o : List Int} (io : IsOrd o) {h : Int} (h1 : 1 ≤ h) (h2 : h ≤ o.length + 1) (a : Nat) : IsOrd (rowH h a o) := isOrd_perm (ins_perm _ _ _) (isOrd_up io h1 h2)
theorem rowH_len (h : Int) (a : Nat) (o : List Int) : (rowH h a o).length = o.length + 1 := by
  have := (ins_perm (upH h o) a h).length_eq
  rw [List.length_cons, upH_len] at this
  exact this
/-- what was found -/
def FG (size : Nat) (fo : List (List Int)) : Prop := fo.length ≤ 1 ∧ ∀ r ∈ fo, IsOrd r ∧ r.length = size
theorem fEq_tis' (fo : List (List Int)) : fEq (.list (fo.map ti)) (.list []) = some (.bool (decide (fo = []))) := fEq_tis fo
theorem lt_h (k : Srt) (o : List Int) (io : IsOrd o) (h : Int) (h1 : 1 ≤ h) (h2 : h ≤ o.length + 1) (ho : o.length ≤ 12) (a : Nat) (ha : a ≤ o.length) (fo : List (List Int)) (fg : FG (o.length + 1) fo) (b0 b2 b4 b5 b6 b8 : SV) :
    ∃ (fo' : List (List Int)) (b11 : SV), FG (o.length + 1) fo' ∧ ltH [b0, .d (tiF k.l), b2, .d (ti o), b4, b5, b6, .own false (fo.map ti), b8, .d (.int (a : Int)), .d (.int h), .u, .u] = .ok .nx [b0, .d (tiF k.l), b2, .d (ti o), b4, b5, b6, .own false (fo'.map ti), b8, .d (.int (a : Int)), .d (.int h), b11, .u] := by
  have hc := compB_one (i := 12) (enc := PyData.int) (f := fun x => .int (x + (if decide (h ≤ x) = true then 1 else 0))) (me := (rD (op2r fAdd fCat (dName 12) (dv (opN fInt (vCons (dv (op2 fGe (dName 12) (dName 10))) vNil)))))) (g := [b0, .d (tiF k.l), b2, .d (ti o), b4, b5, b6, .own false (fo.map ti), b8, .d (.int (a : Int)), .d (.int h), .u, .u]) o (by omega) rfl fun x hx => by
    simp! only [fInt_b]
  have e : o.map (fun x => PyData.int (x + (if decide (h ≤ x) = true then 1 else 0))) = (upH h o).map .int := by
    unfold upH
    rw [List.map_map]
    rfl
  rw [e] at hc
  have lu := upH_len h o
  have c1 : fCutT (.tuple ((upH h o).map .int)) none (some (a : Int)) = some (.tuple (((upH h o).take a).map .int)) := by rw [fCutT_take, List.map_take]
  have c2 : fCutT (.tuple ((upH h o).map .int)) (some (a : Int)) none = some (.tuple (((upH h o).drop a).map .int)) := by rw [fCutT_from _ _ (by rw [List.length_map]; omega), List.map_drop]
  have a1 := add_t1 ((upH h o).take a) h (by rw [List.length_take]; omega)
  have a2 := add_ti ((upH h o).take a ++ [h]) ((upH h o).drop a) (by rw [List.length_append, List.length_take, List.length_drop, List.length_singleton]; omega)
  have er : (.tuple (((upH h o).take a ++ [h] ++ (upH h o).drop a).map .int) : D) = ti (rowH h a o) := rfl
  rw [er] at a2
  have fe := fEq_tis' fo
  have lw := law_lets_ok (srt_pat k) (rowH h a o) (rowH_ord io h1 h2 a) (by rw [rowH_len]; omega)
  have go := rowH_ord io h1 h2 a
  have gl := rowH_len h a o
  by_cases hf : fo = [] ∧ letB k.l (rowH h a o) = true
  · obtain ⟨hf1, hf2⟩ := hf
    rw [hf2] at lw
    rw [decide_eq_true hf1] at fe
    refine ⟨[rowH h a o], .d (ti (rowH h a o)), ⟨(by decide : 1 ≤ 1), fun r hr => by rw [List.mem_singleton.mp hr]; exact ⟨go, gl⟩⟩, ?_⟩
    rw [show [rowH h a o].map ti = [ti (rowH h a o)] from rfl]
    unfold ltH
    generalize ti (rowH h a o) = y at *
    generalize fo.map ti = z at *
    generalize tiF k.l = f at *
    generalize (upH h o).map PyData.int = u0 at *
    generalize ((upH h o).take a ++ [h]).map PyData.int = u2 at *
    generalize ((upH h o).take a).map PyData.int = u1 at *
    generalize ((upH h o).drop a).map PyData.int = u3 at *
    simp! only [hc, c1, c2, a1, a2, fe, lw]
  · refine ⟨fo, .d (ti (rowH h a o)), fg, ?_⟩
    by_cases hf1 : fo = []
    · have hf2 : letB k.l (rowH h a o) = false := by
        cases hl : letB k.l (rowH h a o) with
        | false => rfl
        | true => exact absurd ⟨hf1, hl⟩ hf
      rw [hf2] at lw
      rw [decide_eq_true hf1] at fe
      unfold ltH
      generalize ti (rowH h a o) = y at *
      generalize fo.map ti = z at *
      generalize tiF k.l = f at *
      generalize (upH h o).map PyData.int = u0 at *
      generalize ((upH h o).take a ++ [h]).map PyData.int = u2 at *
      generalize ((upH h o).take a).map PyData.int = u1 at *
      generalize ((upH h o).drop a).map PyData.int = u3 at *
      simp! only [hc, c1, c2, a1, a2, fe, lw]
    · rw [decide_eq_false hf1] at fe
      unfold ltH
      generalize ti (rowH h a o) = y at *
      generalize fo.map ti = z at *
      generalize tiF k.l = f at *
      generalize (upH h o).map PyData.int = u0 at *
      generalize ((upH h o).take a ++ [h]).map PyData.int = u2 at *
      generalize ((upH h o).take a).map PyData.int = u1 at *
      generalize ((upH h o).drop a).map PyData.int = u3 at *
      simp! only [hc, c1, c2, a1, a2, fe]

theorem forG_cons {t : Tg} {ms : List Nat} {b : M Fl} {x : D} {xs : List D} {g g1 g2 : En} (h1 : setT t x g = some g1) (h2 : b g1 = .ok .nx g2) : forG t ms b (x :: xs) g = forG t ms b xs (Z.fgt ms g2) := by
  rw [forG, h1]
  dsimp only
  rw [h2]
theorem pq24 : fPow (.int 10) (.int 24) = some (.int 1000000000000000000000000) := by
  have e : (10 : Int) ^ (24 : Int).toNat = 1000000000000000000000000 := by decide +kernel
  have c : 0 ≤ (24 : Int) ∧ (24 : Int) ≤ 1000000 ∧ (10 : Int).natAbs < 18446744073709551616 := by decide
  unfold fPow
  dsimp only
  rw [if_pos c, e]
abbrev wlE : M D := (dIfE (dB (op2 fLt (dName 1) (dv (opN fLen (vCons (dName 0) vNil))))) (op2 fIx (dName 0) (dName 1)) (rD (op2r fAdd fCat (dv (op2 fMul (dName 1) (dv (dC (.int 7919))))) (dv (op2 fMul (dv (opN fLen (vCons (dName 0) vNil))) (dv (dC (.int 104729))))))))
theorem well_ok (ns : List Int) (p : Nat) : ∃ l : List D, φ__law_well [.list (ns.map .int), .int (p : Int)] = .ret (.own l) [] ∧ Well 900000000 l := by
  have h : ∃ c : Int, wlE [.a (ns.map .int), .d (.int (p : Int)), .u] = .ok (.int c) [.a (ns.map .int), .d (.int (p : Int)), .u] := by
    by_cases c : p < ns.length
    · have hd : decide ((p : Int) < ((ns.map PyData.int).length : Int)) = true := decide_eq_true (by rw [List.length_map]; omega)
      have ix : fIx (.list (ns.map PyData.int)) (.int (p : Int)) = some (.int (ns.getD p 0)) := fIx_l (by rw [List.getElem?_map, List.getD_eq_getElem?_getD, List.getElem?_eq_getElem c]; rfl)
      exact ⟨ns.getD p 0, by unfold wlE; simp! only [hd, ix]⟩
    · have hd : decide ((p : Int) < ((ns.map PyData.int).length : Int)) = false := decide_eq_false (by rw [List.length_map]; omega)
      have m1 := fMul_r (p : Int) 7919 (by decide)
      have m2 := fMul_r ((ns.map PyData.int).length : Int) 104729 (by decide)
      exact ⟨_, by unfold wlE; simp! only [hd, m1, m2]; rfl⟩
  obtain ⟨c, hc⟩ := h
  have m1 := fMul_r c 48611 (by decide)
  have m2 := fMul_r (p : Int) 6700417 (by decide)
  have ab := fAbs_i c
  have hpos : (0 : Int) < 1000000000000000000000000 + 7 := by decide
  have md := fMod_i (c * 48611 + (p : Int) * 6700417 + 31337) _ hpos
  have q1 := Int.emod_nonneg (c * 48611 + (p : Int) * 6700417 + 31337) (show (1000000000000000000000000 + 7 : Int) ≠ 0 by decide)
  have q2 := Int.emod_lt_of_pos (c * 48611 + (p : Int) * 6700417 + 31337) hpos
  generalize (c * 48611 + (p : Int) * 6700417 + 31337) % (1000000000000000000000000 + 7) = b at *
  generalize (if c < 0 then -c else c) = a at *
  refine ⟨[.int (if a - 1000000000000000000 > 0 then a - 1000000000000000000 else 0), .int b, .int 0], ?_, _, _, _, rfl, ?_, q1, by omega, by omega, by omega⟩
  · unfold φ__law_well m__law_well
    generalize hq : wlE = we at *
    unfold wlE at hq
    rw [hq]
    simp! only [hc, m1, m2, ab, md, pq24, fPow_18]
  · split <;> omega
theorem fIx_ir {n : Nat} {v : Int} (h0 : 0 ≤ v) (h1 : v < n) : fIx (.list ((irange 0 n).map PyData.int)) (.int v) = some (.int v) := by
  obtain ⟨j, rfl⟩ : ∃ j : Nat, (j : Int) = v := ⟨v.toNat, by omega⟩
  refine fIx_l ?_
  rw [List.getElem?_map, List.getElem?_eq_getElem (by rw [irange_len]; omega)]
  unfold irange
  rw [List.getElem_map, List.getElem_range, Int.zero_add]
  rfl
theorem lt_t {m : Nat} {l : List D} (hl : Well (m + 1) l) (k : Srt) (o : List Int) (io : IsOrd o) (ho : o.length ≤ 11) (first turn : Int) (fo : List (List Int)) (fg : FG (o.length + 1) fo) (b2 : SV) :
    ∃ (fo' : List (List Int)) (l' : List D) (b9 : SV), Well m l' ∧ FG (o.length + 1) fo' ∧ ltT [.own true l, .d (tiF k.l), b2, .d (ti o), .d (.int ((o.length + 1 : Nat) : Int)), .own false ((irange 0 (o.length + 1)).map .int), .d (.int first), .own false (fo.map ti), .d (.int turn), .u, .u, .u, .u] =
      .ok .nx [.own true l', .d (tiF k.l), b2, .d (ti o), .d (.int ((o.length + 1 : Nat) : Int)), .own false ((irange 0 (o.length + 1)).map .int), .d (.int first), .own false (fo'.map ti), .d (.int turn), b9, .u, .u, .u] := by
  have hm := fMod_i (first + turn) ((o.length + 1 : Nat) : Int) (by omega)
  have q1 := Int.emod_nonneg (first + turn) (show (((o.length + 1 : Nat) : Int)) ≠ 0 by omega)
  have q2 := Int.emod_lt_of_pos (first + turn) (show 0 < ((o.length + 1 : Nat) : Int) by omega)
  obtain ⟨a, ha⟩ : ∃ a : Nat, (a : Int) = (first + turn) % ((o.length + 1 : Nat) : Int) := ⟨((first + turn) % ((o.length + 1 : Nat) : Int)).toNat, by omega⟩
  rw [← ha] at hm q1 q2
  have hx := fIx_ir (n := o.length + 1) q1 q2
  obtain ⟨u, l1, e1, w1, u0, u1⟩ := dip_ok (k := m) hl ((o.length + 1 : Nat) : Int) (by omega) (by omega)
  obtain ⟨f1, c1, g1, h1⟩ := lt_h k o io ((o.length + 1 : Nat) : Int) (by omega) (by omega) (by omega) a (by omega) fo fg (.own true l1) b2 (.d (.int ((o.length + 1 : Nat) : Int))) (.own false ((irange 0 (o.length + 1)).map .int)) (.d (.int first)) (.d (.int turn))
  obtain ⟨f2, c2, g2, h2⟩ := lt_h k o io 1 (by omega) (by omega) (by omega) a (by omega) f1 g1 (.own true l1) b2 (.d (.int ((o.length + 1 : Nat) : Int))) (.own false ((irange 0 (o.length + 1)).map .int)) (.d (.int first)) (.d (.int turn))
  obtain ⟨f3, c3, g3, h3⟩ := lt_h k o io (1 + u) (by omega) (by omega) (by omega) a (by omega) f2 g2 (.own true l1) b2 (.d (.int ((o.length + 1 : Nat) : Int))) (.own false ((irange 0 (o.length + 1)).map .int)) (.d (.int first)) (.d (.int turn))
  refine ⟨f3, l1, .d (.int (a : Int)), w1, g3, ?_⟩
  generalize ((o.length + 1 : Nat) : Int) = sz at *
  generalize (irange 0 (o.length + 1)).map PyData.int = ir at *
  have e : forG (.nm 10) [10, 11] ltH [.int sz, .int 1, .int (1 + u)] [.own true l1, .d (tiF k.l), b2, .d (ti o), .d (.int sz), .own false ir, .d (.int first), .own false (fo.map ti), .d (.int turn), .d (.int (a : Int)), .u, .u, .u] = .ok .nx [.own true l1, .d (tiF k.l), b2, .d (ti o), .d (.int sz), .own false ir, .d (.int first), .own false (f3.map ti), .d (.int turn), .d (.int (a : Int)), .u, .u, .u] := by
    rw [forG_cons (g1 := [.own true l1, .d (tiF k.l), b2, .d (ti o), .d (.int sz), .own false ir, .d (.int first), .own false (fo.map ti), .d (.int turn), .d (.int (a : Int)), .d (.int sz), .u, .u]) (setT_nm _ _ _) h1]
    rw [show Z.fgt [10, 11] [SV.own true l1, .d (tiF k.l), b2, .d (ti o), .d (.int sz), .own false ir, .d (.int first), .own false (f1.map ti), .d (.int turn), .d (.int (a : Int)), .d (.int sz), c1, .u] = [SV.own true l1, .d (tiF k.l), b2, .d (ti o), .d (.int sz), .own false ir, .d (.int first), .own false (f1.map ti), .d (.int turn), .d (.int (a : Int)), .u, .u, .u] from rfl]
    rw [forG_cons (g1 := [.own true l1, .d (tiF k.l), b2, .d (ti o), .d (.int sz), .own false ir, .d (.int first), .own false (f1.map ti), .d (.int turn), .d (.int (a : Int)), .d (.int 1), .u, .u]) (setT_nm _ _ _) h2]
    rw [show Z.fgt [10, 11] [SV.own true l1, .d (tiF k.l), b2, .d (ti o), .d (.int sz), .own false ir, .d (.int first), .own false (f2.map ti), .d (.int turn), .d (.int (a : Int)), .d (.int 1), c2, .u] = [SV.own true l1, .d (tiF k.l), b2, .d (ti o), .d (.int sz), .own false ir, .d (.int first), .own false (f2.map ti), .d (.int turn), .d (.int (a : Int)), .u, .u, .u] from rfl]
    rw [forG_cons (g1 := [.own true l1, .d (tiF k.l), b2, .d (ti o), .d (.int sz), .own false ir, .d (.int first), .own false (f2.map ti), .d (.int turn), .d (.int (a : Int)), .d (.int (1 + u)), .u, .u]) (setT_nm _ _ _) h3]
    rfl
  unfold ltT
  generalize ltH = hh at *
  generalize f3.map ti = z3 at *
  generalize fo.map ti = z0 at *
  simp! only [hm, hx, e1, e]
theorem nNe_tis (L : List (List Int)) : fNe (.list (L.map ti)) (.list []) = some (.bool (!decide (L = []))) := fNe_tis L
theorem lt_s {m : Nat} {l : List D} (hl : Well (m + 20) l) (k : Srt) (o : List Int) (io : IsOrd o) (ho : o.length ≤ 11) (b2 : SV) :
    ∃ (o' : List Int) (l' : List D) (b5 b6 b7 : SV), Well m l' ∧ IsOrd o' ∧ o'.length = o.length + 1 ∧ ltS [.own true l, .d (tiF k.l), b2, .d (ti o), .d (.int ((o.length + 1 : Nat) : Int)), .u, .u, .u, .u, .u, .u, .u, .u] =
      .ok .nx [.own true l', .d (tiF k.l), b2, .d (ti o'), .d (.int ((o.length + 1 : Nat) : Int)), b5, b6, b7, .u, .u, .u, .u, .u] := by
  obtain ⟨v, l1, e1, w1, v0, v1⟩ := dip_ok (k := m + 19) hl ((o.length + 1 : Nat) : Int) (by omega) (by omega)
  have s1 : Sm ((o.length + 1 : Nat) : Int) := ⟨by omega, by omega⟩
  have hr : (((o.length + 1 : Nat) : Int)).toNat = o.length + 1 := by omega
  have hr0 : (((o.length + 1 : Nat) : Int) - 0).toNat = o.length + 1 := by omega
  obtain ⟨g', e2, l2, fo, w2, fg, rfl⟩ := forG_inv (t := .nm 8) (ms := [8, 9, 10, 11]) (b := ltT) ((irange 0 (o.length + 1)).map .int)
    (fun r g => ∃ (l' : List D) (fo : List (List Int)), Well (m + r.length) l' ∧ FG (o.length + 1) fo ∧ g = [.own true l', .d (tiF k.l), b2, .d (ti o), .d (.int ((o.length + 1 : Nat) : Int)), .own false ((irange 0 (o.length + 1)).map .int), .d (.int v), .own false (fo.map ti), .u, .u, .u, .u, .u])
    [.own true l1, .d (tiF k.l), b2, .d (ti o), .d (.int ((o.length + 1 : Nat) : Int)), .own false ((irange 0 (o.length + 1)).map .int), .d (.int v), .own false [], .u, .u, .u, .u, .u] ⟨l1, [], w1.mono (by rw [List.length_map, irange_len]; omega), ⟨Nat.zero_le _, fun _ h => absurd h List.not_mem_nil⟩, rfl⟩ (by
      rintro x r g ⟨l', fo, w, fg, rfl⟩ hx
      obtain ⟨t, ht, rfl⟩ := List.mem_map.mp (hx.subset List.mem_cons_self)
      rw [List.length_cons] at w
      obtain ⟨fo', l'', b9, w', fg', e⟩ := lt_t (m := m + r.length) (w.mono (by omega)) k o io ho v t fo fg b2
      exact ⟨_, _, setT_nm _ _ _, .inl e, l'', fo', w', fg', rfl⟩)
  have ef : Z.fgt [8, 9, 10, 11] [SV.own true l2, .d (tiF k.l), b2, .d (ti o), .d (.int ((o.length + 1 : Nat) : Int)), .own false ((irange 0 (o.length + 1)).map .int), .d (.int v), .own false (fo.map ti), .u, .u, .u, .u, .u] = [SV.own true l2, .d (tiF k.l), b2, .d (ti o), .d (.int ((o.length + 1 : Nat) : Int)), .own false ((irange 0 (o.length + 1)).map .int), .d (.int v), .own false (fo.map ti), .u, .u, .u, .u, .u] := rfl
  rw [ef] at e2
  have fn := nNe_tis fo
  have sl : Z.rgO1 = Z.rgO1 := rfl
  cases fo with
  | nil =>
    rw [show (!decide (([] : List (List Int)) = [])) = false from rfl] at fn
    have a1 : fAdd (ti o) (.tuple [.int ((o.length + 1 : Nat) : Int)]) = some (ti (o ++ [((o.length : Nat) : Int) + 1])) := add_t1 o _ (by omega)
    refine ⟨o ++ [((o.length : Nat) : Int) + 1], l2, .own false ((irange 0 (o.length + 1)).map .int), .d (.int v), .own false [], w2.mono (by rw [List.length_nil]; omega), isOrd_more io, by rw [List.length_append, List.length_singleton], ?_⟩
    unfold ltS
    generalize ltT = tt at *
    generalize ti (o ++ [((o.length : Nat) : Int) + 1]) = y at *
    generalize ((o.length + 1 : Nat) : Int) = sz at *
    rw [List.map_nil] at *
    generalize hir : (irange 0 (o.length + 1)).map PyData.int = ir at *
    simp! only [e1, s1, hr, hr0, hir, e2, fn, a1]
  | cons r fo =>
    rw [show (!decide (r :: fo = [])) = true from rfl] at fn
    obtain ⟨g1, g2⟩ := fg.2 r List.mem_cons_self
    have x0 : fIx (.list ((r :: fo).map ti)) (.int 0) = some (ti r) := fIx_l (i := 0) rfl
    refine ⟨r, l2, .own false ((irange 0 (o.length + 1)).map .int), .d (.int v), .own false ((r :: fo).map ti), w2.mono (by rw [List.length_nil]; omega), g1, g2, ?_⟩
    unfold ltS
    generalize ltT = tt at *
    generalize (r :: fo).map ti = z at *
    generalize ti r = y at *
    generalize ((o.length + 1 : Nat) : Int) = sz at *
    generalize hir : (irange 0 (o.length + 1)).map PyData.int = ir at *
    simp! only [e1, s1, hr, hr0, hir, e2, fn, x0]
theorem let_ok {m : Nat} {l : List D} (hl : Well (m + 300) l) (k : Srt) (n : Nat) (hn : n ≤ 12) : ∃ (o : List Int) (l' : List D), φ__law_let [.list l, tiF k.l, .int (n : Int)] = .ret (.d (ti o)) l' ∧ Well m l' ∧ IsOrd o ∧ o.length = n := by
  obtain ⟨g', e1, l2, o, w2, io, i, hi, hio, rfl⟩ := forG_inv (t := .nm 4) (ms := [4, 5, 6, 7, 8, 9, 10, 11]) (b := ltS) ((irange 1 n).map .int)
    (fun r g => ∃ (l' : List D) (o : List Int), Well (m + 20 * r.length) l' ∧ IsOrd o ∧ ∃ i : Nat, r = (irange ((i : Int) + 1) (n - i)).map .int ∧ (o.length = i ∧ i ≤ n) ∧ g = [.own true l', .d (tiF k.l), .d (.int (n : Int)), .d (ti o), .u, .u, .u, .u, .u, .u, .u, .u, .u])
    [.own true l, .d (tiF k.l), .d (.int (n : Int)), .d (.tuple []), .u, .u, .u, .u, .u, .u, .u, .u, .u] ⟨l, [], hl.mono (by rw [List.length_map, irange_len]; omega), isOrd_nil, 0, rfl, ⟨rfl, Nat.zero_le _⟩, rfl⟩ (by
      rintro x r g ⟨l', o, w, io, i, h1, ⟨h2, h3⟩, rfl⟩ _
      have hlt : i < n := by
        have := congrArg List.length h1
        rw [List.length_map, irange_len, List.length_cons] at this
        omega
      rw [show n - i = (n - i - 1) + 1 by omega, irange_succ, List.map_cons] at h1
      injection h1 with hx hr
      subst hx
      rw [List.length_cons] at w
      obtain ⟨o', l'', b5, b6, b7, w', io', ol, e⟩ := lt_s (m := m + 20 * r.length) (w.mono (by omega)) k o io (by omega) (.d (.int (n : Int)))
      rw [show ((o.length + 1 : Nat) : Int) = (i : Int) + 1 by omega] at e
      refine ⟨_, _, setT_nm _ _ _, .inl e, l'', o', w', io', i + 1, ?_, ⟨by omega, hlt⟩, rfl⟩
      rw [hr]
      congr 2)
  have hk : i = n := by
    have := congrArg List.length hi
    rw [List.length_map, irange_len, List.length_nil] at this
    omega
  refine ⟨o, l2, ?_, w2.mono (by omega), io, by omega⟩
  have s1 : Sm 1 := ⟨by omega, by omega⟩
  have s2 : Sm ((n : Int) + 1) := ⟨by omega, by omega⟩
  have hr : ((n : Int) + 1 - 1).toNat = n := by omega
  have ef : Z.fgt [4, 5, 6, 7, 8, 9, 10, 11] [SV.own true l2, .d (tiF k.l), .d (.int (n : Int)), .d (ti o), .u, .u, .u, .u, .u, .u, .u, .u, .u] = [SV.own true l2, .d (tiF k.l), .d (.int (n : Int)), .d (ti o), .u, .u, .u, .u, .u, .u, .u, .u, .u] := rfl
  rw [ef] at e1
  unfold φ__law_let m__law_let
  generalize hb : ltS = bb at *
  unfold ltS ltT ltH at hb
  rw [hb]
  simp! only [s1, s2, hr, e1]

abbrev lwR : M Fl := (sIf (dNot (dB (rD (callP [.v, .v, .v] φ__law_right (vCons (dName 1) (vCons (dName 2) (vCons (dName 4) vNil))))))) (sRet (dC (.bool false))) sNx)
abbrev lwF4 : M Fl := (sFor (.nm 4) [] (iV (dv (rD (callP [.v] φ__law_orders (vCons (dName 3) vNil))))) lwR)
abbrev lwF3 : M Fl := (sFor (.nm 3) [3] (iR1 (vCons (dv (dC (.int 6))) vNil)) lwF4)
abbrev lwB1 : M Fl := (dSeq (sIf (dNot (dB (rD (callP [.v, .v] (φ__law_same 4) (vCons (dv (dFz (dLst (dCons (rD (callP [.v] φ_list_of (vCons (dName 1) vNil))) (dCons (rD (callK [.v] φ_list_of [0] vNil (vCons (dName 1) vNil))) dNil))))) (vCons (dv (dFz (dLst (dCons (dEsc (dName 2)) (dCons (dEsc (dName 2)) dNil))))) vNil)))))) (sRet (dC (.bool false))) sNx)
    lwF3)
abbrev lwD : M Fl := (dSeq (sSetR 4 (callP [.m, .v, .v] φ__law_let (vCons (dName 6) (vCons (dName 2) (vCons (dv (rD (op2r fAdd fCat (dv (dC (.int 6))) (dv (rD (callP [.m, .v] φ__law_dip (vCons (dName 6) (vCons (dv (dC (.int 7))) vNil)))))))) vNil)))))
    (dSeq (sIf (dNot (dB (rD (callP [.v, .v, .v] φ__law_right (vCons (dName 1) (vCons (dName 2) (vCons (dName 4) vNil))))))) (sRet (dC (.bool false))) sNx)
    (dSeq (sUnpL [(.nm 7), (.nm 8)] (dFz (opNo fSorted (vCons (dv (dFz (dLst (dCons (rD (callP [.m, .v] φ__law_dip (vCons (dName 6) (vCons (dv (opN fLen (vCons (dName 4) vNil))) vNil)))) (dCons (rD (callP [.m, .v] φ__law_dip (vCons (dName 6) (vCons (dv (opN fLen (vCons (dName 4) vNil))) vNil)))) dNil))))) vNil))))
    (sIf (dNot (dB (rD (callP [.v, .v, .v] φ__law_right (vCons (dName 1) (vCons (dName 2) (vCons (dv (rD (callP [.v, .v, .v] φ__law_exchanged (vCons (dName 4) (vCons (dName 7) (vCons (dName 8) vNil)))))) vNil))))))) (sRet (dC (.bool false))) sNx))))
abbrev lwF12 : M Fl := (sFor (.tup [(.nm 1), (.nm 2)]) [1, 2, 7, 8] (iV (dv (rD (callP [] φ__law_lists vNil)))) lwD)
abbrev lwB5 : M Fl := (dSeq (sSetR 6 (callP [.v, .v] φ__law_well (vCons (dName 0) (vCons (dName 5) vNil))))
    lwF12)
theorem fList_t' (xs : List D) : fList [.tuple xs] = some xs := Eq.trans rfl rfl
theorem subI (i : Nat) (x : Int) (o : List Int) (a : Nat) (g : En) (h : a < o.length) : subS i (.int x) (some (false, o.map PyData.int)) (some (.int (a : Int))) g = .ok .nx (g.set i (.own false ((o.set a x).map .int))) := by
  rw [subS_at i (.int x) false (o.map PyData.int) (a : Int) g a (ixN_nat (by rw [List.length_map]; exact h)), List.map_set]
theorem exch_ok (o : List Int) (io : IsOrd o) (a b : Nat) (ha : a < o.length) (hb : b < o.length) : ∃ p : List Int, φ__law_exchanged [ti o, .int (a : Int), .int (b : Int)] = .ret (.d (ti p)) [] ∧ IsOrd p ∧ p.length = o.length := by
  have xa : fIx (ti o) (.int (a : Int)) = some (.int o[a]) := fIx_t (by rw [List.getElem?_map, List.getElem?_eq_getElem ha]; rfl)
  have xb : fIx (ti o) (.int (b : Int)) = some (.int o[b]) := fIx_t (by rw [List.getElem?_map, List.getElem?_eq_getElem hb]; rfl)
  have s1 := fun g : En => subI 3 o[b] o a g ha
  have s2 := fun g : En => subI 3 o[a] (o.set a o[b]) b g (by rw [List.length_set]; exact hb)
  have pm : ((o.set a o[b]).set b o[a]).Perm o := List.set_set_perm ha hb
  refine ⟨(o.set a o[b]).set b o[a], ?_, isOrd_perm pm io, pm.length_eq⟩
  have fl : fList [ti o] = some (o.map .int) := fList_t' _
  unfold φ__law_exchanged m__law_exchanged
  show _ = Out.ret (.d (.tuple (((o.set a o[b]).set b o[a]).map .int))) []
  generalize ((o.set a o[b]).set b o[a]).map PyData.int = z3 at *
  generalize (o.set a o[b]).map PyData.int = z2 at *
  simp! only [fl, xa, xb, s1, s2]
theorem sort2 (u v : Nat) : ∃ p q : Nat, fSorted [.list [.int (u : Int), .int (v : Int)]] = some [.int (p : Int), .int (q : Int)] ∧ (p = u ∨ p = v) ∧ (q = u ∨ q = v) := by
  have h := fSorted_l ([(u : Int), (v : Int)].map .int) (okSort_ints _ (by simp))
  rw [srt_ints] at h
  have pm := srt_perm [(u : Int), (v : Int)]
  have hl := srt_len [(u : Int), (v : Int)]
  match hs : srt [(u : Int), (v : Int)], hl with
  | [x, y], _ =>
    rw [hs] at h pm
    have hx : x ∈ [(u : Int), (v : Int)] := pm.mem_iff.mp (by simp)
    have hy : y ∈ [(u : Int), (v : Int)] := pm.mem_iff.mp (by simp)
    have hx' : x = (u : Int) ∨ x = (v : Int) := by simpa using hx
    have hy' : y = (u : Int) ∨ y = (v : Int) := by simpa using hy
    refine ⟨x.toNat, y.toNat, ?_, by omega, by omega⟩
    rw [Int.toNat_of_nonneg (by omega), Int.toNat_of_nonneg (by omega)]
    exact h
theorem lw_d {m : Nat} {l : List D} (hl : Well (m + 310) l) (k : Srt) (b0 b3 b4 b5 : SV) : ∃ (l' : List D) (b4' b7 b8 : SV), Well m l' ∧
    lwD [b0, .d (.str k.s), .d (tiF k.l), b3, b4, b5, .own false l, .u, .u] = .ok .nx [b0, .d (.str k.s), .d (tiF k.l), b3, b4', b5, .own false l', b7, b8] := by
  obtain ⟨v, l1, e1, w1, v0, v1⟩ := dip_ok (k := m + 309) hl 7 (by omega) (by omega)
  obtain ⟨n, hn⟩ : ∃ n : Nat, (n : Int) = 6 + v := ⟨(6 + v).toNat, by omega⟩
  have hn' : 6 + v = (n : Int) := hn.symm
  obtain ⟨o, l2, e2, w2, io, ol⟩ := let_ok (m := m + 9) w1 k n (by omega)
  have e3 := right_ok k o io (by omega)
  have lt : fLen [ti o] = some (.int (o.length : Int)) := by rw [ti, fLen_t, List.length_map]
  obtain ⟨u, l3, e4, w3, u0, u1⟩ := dip_ok (k := m + 8) w2 (o.length : Int) (by omega) (by omega)
  obtain ⟨w, l4, e5, w4, z0, z1⟩ := dip_ok (k := m + 7) w3 (o.length : Int) (by omega) (by omega)
  obtain ⟨u, rfl⟩ : ∃ j : Nat, (j : Int) = u := ⟨u.toNat, by omega⟩
  obtain ⟨w, rfl⟩ : ∃ j : Nat, (j : Int) = w := ⟨w.toNat, by omega⟩
  obtain ⟨p, q, e6, hp, hq⟩ := sort2 u w
  obtain ⟨x, e7, ix, xl⟩ := exch_ok o io p q (by omega) (by omega)
  have e8 := right_ok k x ix (by omega)
  refine ⟨l4, .d (ti o), .d (.int (p : Int)), .d (.int (q : Int)), w4.mono (by omega), ?_⟩
  unfold lwD
  generalize ti x = y at *
  generalize ti o = z at *
  generalize (o.length : Int) = n' at *
  generalize tiF k.l = f at *
  generalize k.s = ks at *
  simp! only [e1, hn', e2, e3, lt, e4, e5, e6, e7, e8]
def LD (k : Srt) : D := .tuple [.str k.s, tiF k.l]
theorem lists_ok : φ__law_lists [] = .ret (.own ([Srt.a, .b, .c, .d].map LD)) [] := by
  have c1 : ∀ a b c d : D, fCat (.list [a, b]) (.list [c, d]) = some [a, b, c, d] := fun a b c d => fCat_ok [a, b] [c, d] (show 4 ≤ 100000 by omega)
  unfold φ__law_lists m__law_lists
  simp! only [fAdd_ll, c1]
  rfl
theorem set_12 (x y : D) (g : En) : setT (.tup [.nm 1, .nm 2]) (.tuple [x, y]) g = some ((g.set 1 (.d x)).set 2 (.d y)) := by
  rw [setT_tup, setTs_cons _ _ _ _ _ _ (setT_nm _ _ _), setTs_cons _ _ _ _ _ _ (setT_nm _ _ _), setTs_nil]
theorem lw_f12 {m : Nat} {l : List D} (hl : Well (m + 1300) l) (b0 b3 b4 b5 : SV) : ∃ (l' : List D) (b4' : SV), Well m l' ∧
    lwF12 [b0, .u, .u, b3, b4, b5, .own false l, .u, .u] = .ok .nx [b0, .u, .u, b3, b4', b5, .own false l', .u, .u] := by
  obtain ⟨g', e1, l', x4, w, rfl⟩ := forG_inv (t := .tup [.nm 1, .nm 2]) (ms := [1, 2, 7, 8]) (b := lwD) ([Srt.a, .b, .c, .d].map LD)
    (fun r g => ∃ (l' : List D) (x4 : SV), Well (m + 310 * r.length) l' ∧ g = [b0, .u, .u, b3, x4, b5, .own false l', .u, .u])
    [b0, .u, .u, b3, b4, b5, .own false l, .u, .u] ⟨l, b4, hl.mono (by show m + 310 * 4 ≤ m + 1300; omega), rfl⟩ (by
      rintro x r g ⟨l', x4, w, rfl⟩ hx
      obtain ⟨k, hk, rfl⟩ := List.mem_map.mp (hx.subset List.mem_cons_self)
      rw [List.length_cons] at w
      obtain ⟨l'', y4, y7, y8, w', e⟩ := lw_d (m := m + 310 * r.length) (w.mono (by omega)) k b0 b3 x4 b5
      exact ⟨_, _, set_12 _ _ _, .inl e, l'', y4, w', rfl⟩)
  have e0 := lists_ok
  refine ⟨l', x4, w, ?_⟩
  unfold lwF12
  generalize lwD = dd at *
  generalize [Srt.a, .b, .c, .d].map LD = zz at *
  simp! only [e0, e1]
theorem lw_r (k : Srt) (o : List Int) (io : IsOrd o) (h : o.length ≤ 15) (b0 b3 b5 b6 b7 b8 : SV) : lwR [b0, .d (.str k.s), .d (tiF k.l), b3, .d (ti o), b5, b6, b7, b8] = .ok .nx [b0, .d (.str k.s), .d (tiF k.l), b3, .d (ti o), b5, b6, b7, b8] := by
  have e := right_ok k o io h
  unfold lwR
  generalize ti o = z at *
  generalize tiF k.l = f at *
  generalize k.s = ks at *
  simp! only [e]
theorem lw_f4 (k : Srt) (n : Nat) (hn : n ≤ 6) (b0 b4 b5 b6 b7 b8 : SV) : ∃ b4' : SV, lwF4 [b0, .d (.str k.s), .d (tiF k.l), .d (.int (n : Int)), b4, b5, b6, b7, b8] = .ok .nx [b0, .d (.str k.s), .d (tiF k.l), .d (.int (n : Int)), b4', b5, b6, b7, b8] := by
  obtain ⟨g', e1, x4, rfl⟩ := forG_inv (t := .nm 4) (ms := []) (b := lwR) ((allO n).map ti)
    (fun r g => ∃ x4 : SV, g = [b0, .d (.str k.s), .d (tiF k.l), .d (.int (n : Int)), x4, b5, b6, b7, b8])
    [b0, .d (.str k.s), .d (tiF k.l), .d (.int (n : Int)), b4, b5, b6, b7, b8] ⟨b4, rfl⟩ (by
      rintro x r g ⟨x4, rfl⟩ hx
      obtain ⟨o, ho, rfl⟩ := List.mem_map.mp (hx.subset List.mem_cons_self)
      obtain ⟨io, ol⟩ := ((allO_ok n).1.mem o).mp ho
      exact ⟨_, _, setT_nm _ _ _, .inl (lw_r k o io (by omega) _ _ _ _ _ _), _, rfl⟩)
  have e0 := law_orders_ok hn
  refine ⟨x4, ?_⟩
  unfold lwF4
  generalize lwR = rr at *
  generalize (allO n).map ti = zz at *
  generalize tiF k.l = f at *
  simp! only [e0, e1]
theorem lw_f3 (k : Srt) (b0 b4 b5 b6 b7 b8 : SV) : ∃ b4' : SV, lwF3 [b0, .d (.str k.s), .d (tiF k.l), .u, b4, b5, b6, b7, b8] = .ok .nx [b0, .d (.str k.s), .d (tiF k.l), .u, b4', b5, b6, b7, b8] := by
  obtain ⟨g', e1, x4, rfl⟩ := forG_inv (t := .nm 3) (ms := [3]) (b := lwF4) ((irange 0 6).map .int)
    (fun r g => ∃ x4 : SV, g = [b0, .d (.str k.s), .d (tiF k.l), .u, x4, b5, b6, b7, b8])
    [b0, .d (.str k.s), .d (tiF k.l), .u, b4, b5, b6, b7, b8] ⟨b4, rfl⟩ (by
      rintro x r g ⟨x4, rfl⟩ hx
      obtain ⟨i, hi, rfl⟩ := List.mem_map.mp (hx.subset List.mem_cons_self)
      have hi := irange_mem.mp hi
      obtain ⟨p, rfl⟩ : ∃ p : Nat, (p : Int) = i := ⟨i.toNat, by omega⟩
      obtain ⟨y4, e⟩ := lw_f4 k p (by omega) b0 x4 b5 b6 b7 b8
      exact ⟨_, _, setT_nm _ _ _, .inl e, _, rfl⟩)
  have s6 : Sm 6 := ⟨by omega, by omega⟩
  have hr : ((6 : Int)).toNat = 6 := rfl
  refine ⟨x4, ?_⟩
  unfold lwF3
  generalize lwF4 = rr at *
  generalize tiF k.l = f at *
  simp! only [s6, hr, e1]
theorem same_tiF (k : Srt) : φ__law_same 4 [.list [tiF k.l, tiF k.l], .list [tiF k.l, tiF k.l]] = .ret (.d (.bool true)) [] := by
  have hf := (srt_pat k).few
  have h1 : φ__law_same 3 [tiF k.l, tiF k.l] = .ret (.d (.bool true)) [] := same_tup 1 _ (by rw [List.length_map]; omega) fun x hx => by
    obtain ⟨q, hq, rfl⟩ := List.mem_map.mp hx
    exact same_ti 0 q (by have := ((srt_pat k).pat q hq).2.2; omega)
  refine same_lst 2 _ (by simp) fun x hx => ?_
  have e : x = tiF k.l := by
    rcases List.mem_cons.mp hx with e | hx
    · exact e
    · exact List.mem_singleton.mp hx
  rw [e]
  exact h1
theorem lw_b1 (k : Srt) (b0 b4 b5 b6 b7 b8 : SV) : ∃ b4' : SV, lwB1 [b0, .d (.str k.s), .d (tiF k.l), .u, b4, b5, b6, b7, b8] = .ok .nx [b0, .d (.str k.s), .d (tiF k.l), .u, b4', b5, b6, b7, b8] := by
  obtain ⟨y4, e⟩ := lw_f3 k b0 b4 b5 b6 b7 b8
  have a := list_of_ok k
  have c := same_tiF k
  have pk : ∀ r : Rs, pick [0] [r] = [r] := pick0
  refine ⟨y4, ?_⟩
  unfold lwB1
  generalize lwF3 = f3 at *
  generalize φ__law_same 4 = sm at *
  generalize tiF k.l = f at *
  generalize k.s = ks at *
  simp! only [pk, a, c, e]
theorem lw_b5 (ns : List Int) (p : Nat) (b3 b4 b6 : SV) : ∃ (b4' : SV) (b6' : SV), lwB5 [.a (ns.map .int), .u, .u, b3, b4, .d (.int (p : Int)), b6, .u, .u] = .ok .nx [.a (ns.map .int), .u, .u, b3, b4', .d (.int (p : Int)), b6', .u, .u] := by
  obtain ⟨l, e1, w1⟩ := well_ok ns p
  obtain ⟨l', y4, w2, e2⟩ := lw_f12 (m := 0) (w1.mono (by decide)) (.a (ns.map .int)) b3 b4 (.d (.int (p : Int)))
  refine ⟨y4, .own false l', ?_⟩
  unfold lwB5
  generalize lwF12 = f at *
  simp! only [e1, e2]
theorem main (ns : List Int) (h : ns.length ≤ 63) : φ_law [.list (ns.map PyData.int)] = .ret (.d (.bool true)) [] := by
  obtain ⟨n, hn, hn6⟩ : ∃ n : Nat, (if (if ((ns.map PyData.int).length : Int) < 6 then ((ns.map PyData.int).length : Int) else 6) > 1 then (if ((ns.map PyData.int).length : Int) < 6 then ((ns.map PyData.int).length : Int) else 6) else 1) = (n : Int) ∧ n ≤ 6 := by
    by_cases c : ((ns.map PyData.int).length : Int) < 6
    · rw [if_pos c]
      by_cases c2 : ((ns.map PyData.int).length : Int) > 1
      · rw [if_pos c2]
        exact ⟨_, rfl, by omega⟩
      · rw [if_neg c2]
        exact ⟨1, rfl, by decide⟩
    · rw [if_neg c]
      exact ⟨6, rfl, Nat.le_refl _⟩
  have s3 : Sm (n : Int) := ⟨by omega, by omega⟩
  have hr2 : ((n : Int)).toNat = n := by omega
  obtain ⟨g1, e1, x4, rfl⟩ := forG_inv (t := .tup [.nm 1, .nm 2]) (ms := [1, 2, 3]) (b := lwB1) ([Srt.a, .b, .c, .d].map LD)
    (fun r g => ∃ (x4 : SV), g = [.a (ns.map .int), .u, .u, .u, x4, .u, .u, .u, .u])
    [.a (ns.map .int), .u, .u, .u, .u, .u, .u, .u, .u] ⟨.u, rfl⟩ (by
      rintro x r g ⟨x4, rfl⟩ hx
      obtain ⟨k, hk, rfl⟩ := List.mem_map.mp (hx.subset List.mem_cons_self)
      obtain ⟨y4, e⟩ := lw_b1 k (.a (ns.map .int)) x4 .u .u .u .u
      exact ⟨_, _, set_12 _ _ _, .inl e, y4, rfl⟩)
  obtain ⟨g2, e2, y4, y6, rfl⟩ := forG_inv (t := .nm 5) (ms := [5, 6, 7, 8]) (b := lwB5) ((irange 0 n).map .int)
    (fun r g => ∃ (x4 x6 : SV), g = [.a (ns.map .int), .u, .u, .u, x4, .u, .u, .u, .u])
    [.a (ns.map .int), .u, .u, .u, x4, .u, .u, .u, .u] ⟨x4, .u, rfl⟩ (by
      rintro x r g ⟨x4, x6, rfl⟩ hx
      obtain ⟨i, hi, rfl⟩ := List.mem_map.mp (hx.subset List.mem_cons_self)
      have hi := irange_mem.mp hi
      obtain ⟨p, rfl⟩ : ∃ p : Nat, (p : Int) = i := ⟨i.toNat, by omega⟩
      obtain ⟨z4, z6, e⟩ := lw_b5 ns p .u x4 .u
      exact ⟨_, _, setT_nm _ _ _, .inl e, z4, z6, rfl⟩)
  have f1 : Z.fgt [1, 2, 3] [SV.a (ns.map .int), .u, .u, .u, x4, .u, .u, .u, .u] = [SV.a (ns.map .int), .u, .u, .u, x4, .u, .u, .u, .u] := rfl
  have f2 : Z.fgt [5, 6, 7, 8] [SV.a (ns.map .int), .u, .u, .u, y4, .u, .u, .u, .u] = [SV.a (ns.map .int), .u, .u, .u, y4, .u, .u, .u, .u] := rfl
  rw [f1] at e1
  rw [f2] at e2
  have e0 := lists_ok
  unfold φ_law m_law
  generalize h1 : lwB1 = b1 at *
  generalize h5 : lwB5 = b5 at *
  unfold lwB1 lwF3 lwF4 lwR at h1
  unfold lwB5 lwF12 lwD at h5
  rw [h1, h5]
  generalize [Srt.a, .b, .c, .d].map LD = zz at *
  simp! only [e0, e1, hn, s3, hr2, e2]
end Ck38

set_option maxRecDepth 100000
open PySem PySem.W PyProof.Rows
set_option maxHeartbeats 0 in
theorem PySem.Challenge.cw_wholeorders_k38_whole_sorted_exactly_by_holds : PySem.Challenge.rw_wholeorders_k38_whole_sorted_exactly_by.Holds := by
  w_on; o_law; k_head; (case hw => w_witness2)
  k_fill
  refine L2.walk_of (l := PySem.Challenge.rw_wholeorders_k38_whole_sorted_exactly_by) (n := 63) (k := 8) (x := "script") (CX := fun w => L2.CX PySem.Challenge.pw_wholeorders_k38_whole_sorted_exactly_by w) (sp := fun w => Z.spLaw _) rfl (by decide) rfl ⟨rfl, by decide, by decide⟩ (fun w h Y => PySem.W.kIn_of Y) ?F (fun _ _ a ns hl _ hS => ⟨a, ns, rfl, hS, hl, fun _ _ e => e⟩) (fun _ _ _ _ _ h => Z.cx_none h)
  case F =>
    intro w mg fa h KX G hmg
    refine' Ck38.all_mk KX G hmg Ck38.main ?a0 ?l0 ?c0 ?k0 ?a1 ?l1 ?c1 ?k1 ?a2 ?l2 ?c2 ?k2 ?a3 ?l3 ?c3 ?k3 ?a4 ?l4 ?c4 ?k4 ?a5 ?l5 ?c5 ?k5 ?a6 ?l6 ?c6 ?k6 ?a7 ?l7 ?c7 ?k7 ?a8 ?l8 ?c8 ?k8 ?a9 ?l9 ?c9 ?k9 ?a10 ?l10 ?c10 ?k10 ?a11 ?l11 ?c11 ?k11 ?a12 ?l12 ?c12 ?k12 ?a13 ?l13 ?c13 ?k13 ?a14 ?l14 ?c14 ?k14 ?a15 ?l15 ?c15 ?k15 ?a16 ?l16 ?c16 ?k16 ?a17 ?l17 ?c17 ?k17 ?a18 ?l18 ?c18 ?k18 ?a19 ?l19 ?c19 ?k19 ?a20 ?l20 ?c20 ?k20 ?a21 ?l21 ?c21 ?k21 ?a22 ?l22 ?c22 ?k22 ?a23 ?l23 ?c23 ?k23 ?a24 ?l24 ?c24 ?k24 ?a25 ?l25 ?c25 ?k25 ?a26 ?l26 ?c26 ?k26 ?a27 ?l27 ?c27 ?k27 ?a28 ?l28 ?c28 ?k28 ?z0 ?z1 ?z2 ?z3 ?z4 ?z5 ?z6 ?z7 ?z8 ?z9 ?z10 ?z11 ?z12 ?kn0 ?kd0 ?kl0 ?kz0 ?kv0_0 ?dhK0_0 ?dhK0_0_0 ?kv0_1 ?dhK0_1 ?dhK0_1_1 ?dhK0_1_0 ?kv0_2 ?dhK0_2 ?dhK0_2_0 ?kv0_3 ?dhK0_3 ?dhK0_3_1 ?dhK0_3_0
    (case a0 => k_is)
    (case l0 => k_is)
    (case c0 => k_is)
    (case k0 => k_is)
    (case a1 => k_is)
    (case l1 => k_is)
    (case c1 => k_is)
    (case k1 => k_is)
    (case a2 => k_is)
    (case l2 => k_is)
    (case c2 => k_is)
    (case k2 => k_is)
    (case a3 => k_is)
    (case l3 => k_is)
    (case c3 => k_is)
    (case k3 => k_is)
    (case a4 => k_is)
    (case l4 => k_is)
    (case c4 => k_is)
    (case k4 => k_is)
    (case a5 => k_is)
    (case l5 => k_is)
    (case c5 => k_is)
    (case k5 => k_is)
    (case a6 => k_is)
    (case l6 => k_is)
    (case c6 => k_is)
    (case k6 => k_is)
    (case a7 => k_is)
    (case l7 => k_is)
    (case c7 => k_is)
    (case k7 => k_is)
    (case a8 => k_is)
    (case l8 => k_is)
    (case c8 => k_is)
    (case k8 => k_is)
    (case a9 => k_is)
    (case l9 => k_is)
    (case c9 => k_is)
    (case k9 => k_is)
    (case a10 => k_is)
    (case l10 => k_is)
    (case c10 => k_is)
    (case k10 => k_is)
    (case a11 => k_is)
    (case l11 => k_is)
    (case c11 => k_is)
    (case k11 => k_is)
    (case a12 => k_is)
    (case l12 => k_is)
    (case c12 => k_is)
    (case k12 => k_is)
    (case a13 => k_is)
    (case l13 => k_is)
    (case c13 => k_is)
    (case k13 => k_is)
    (case a14 => k_is)
    (case l14 => k_is)
    (case c14 => k_is)
    (case k14 => k_is)
    (case a15 => k_is)
    (case l15 => k_is)
    (case c15 => k_is)
    (case k15 => k_is)
    (case a16 => k_is)
    (case l16 => k_is)
    (case c16 => k_is)
    (case k16 => k_is)
    (case a17 => k_is)
    (case l17 => k_is)
    (case c17 => k_is)
    (case k17 => k_is)
    (case a18 => k_is)
    (case l18 => k_is)
    (case c18 => k_is)
    (case k18 => k_is)
    (case a19 => k_is)
    (case l19 => k_is)
    (case c19 => k_is)
    (case k19 => k_is)
    (case a20 => k_is)
    (case l20 => k_is)
    (case c20 => k_is)
    (case k20 => k_is)
    (case a21 => k_is)
    (case l21 => k_is)
    (case c21 => k_is)
    (case k21 => k_is)
    (case a22 => k_is)
    (case l22 => k_is)
    (case c22 => k_is)
    (case k22 => k_is)
    (case a23 => k_is)
    (case l23 => k_is)
    (case c23 => k_is)
    (case k23 => k_is)
    (case a24 => k_is)
    (case l24 => k_is)
    (case c24 => k_is)
    (case k24 => k_is)
    (case a25 => k_is)
    (case l25 => k_is)
    (case c25 => k_is)
    (case k25 => k_is)
    (case a26 => k_is)
    (case l26 => k_is)
    (case c26 => k_is)
    (case k26 => k_is)
    (case a27 => k_is)
    (case l27 => k_is)
    (case c27 => k_is)
    (case k27 => k_is)
    (case a28 => k_is)
    (case l28 => k_is)
    (case c28 => k_is)
    (case k28 => k_is)
    (case z0 => k_is)
    (case z1 => k_is)
    (case z2 => k_is)
    (case z3 => k_is)
    (case z4 => k_is)
    (case z5 => k_is)
    (case z6 => k_is)
    (case z7 => k_is)
    (case z8 => k_is)
    (case z9 => k_is)
    (case z10 => k_is)
    (case z11 => k_is)
    (case z12 => k_is)
    (case kn0 => k_is)
    (case kd0 => k_is)
    (case kl0 => first | rfl | with_unfolding_all rfl | decide)
    (case kz0 => first | rfl | with_unfolding_all rfl | decide)
    (case kv0_0 => k_is)
    (case dhK0_0 => k_is)
    (case dhK0_0_0 => k_is)
    (case kv0_1 => k_is)
    (case dhK0_1 => k_is)
    (case dhK0_1_1 => k_is)
    (case dhK0_1_0 => k_is)
    (case kv0_2 => k_is)
    (case dhK0_2 => k_is)
    (case dhK0_2_0 => k_is)
    (case kv0_3 => k_is)
    (case dhK0_3 => k_is)
    (case dhK0_3_1 => k_is)
    (case dhK0_3_0 => k_is)
